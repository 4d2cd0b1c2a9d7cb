import PyProof.Rows.All
import Wide.All
import OpenK.AllK
import Wide.FinOn
import HandS.ForMost
import HandS.Wide
import HandS.Dict
import KE.KDictKeyed
import HandS.Lambda
import HandS.TupAny
import HandS.IsInst
import HandS.Flow
import KE.DataEq
import HandS.NoneIn
import PyProof.ReprLen
import PyProof.ReprRoads
import HandS.Conv
import HandS.SortInts
import HandS.Style
import HandS.Star
import HandS.Strs
import KE.DatumIndex
import KE.DatumOrd
import HandS.SetBool
import HandS.ExcOwn
import HandS.TryMany
import HandS.ExcField
import KE.KExcLine
import HandS.EndTab
import HandS.ExcIs
import KE.KDictDisplayH
import PyProof.InstStoreFacts
import PyProof.Rows.FactsExc_KeyError
import PyProof.ExcBaseAll.LookupError
import KE.KExcSuper
import PySem.Challenge.RW_loggedalike_k25_whole_leads_moved
import KE.KNestM
import KE.KLam
set_option Elab.async false
set_option linter.all false
set_option autoImplicit false
set_option maxRecDepth 100000
set_option maxHeartbeats 40000000
namespace DL
open PySem PySem.Spec PyProof.Rows L2

/-- the world that the run stands in (texts are hashed by it) -/
class WW where
  w : World
  /-- the tables of code objects that are written when a lambda is made, and the name of what they hold -/
  T : List (Addr × Str)
  /-- defs of the module that are handled as values -/
  fns : List Addr
variable [WW]
abbrev D := PyData
abbrev Fg := PySem.W.Frag

/-- between -b and b -/
def inB (b : Nat) : Int → Bool
  | .ofNat k => Nat.blt k b
  | .negSucc k => Nat.blt k b
theorem inB_iff {b : Nat} {n : Int} : inB b n = true ↔ -(b : Int) ≤ n ∧ n < b := by
  cases n with
  | ofNat k =>
    show Nat.blt k b = true ↔ _
    have : Nat.blt k b = true ↔ k < b := by rw [Nat.blt_eq]
    rw [this]
    show _ ↔ -(b : Int) ≤ (k : Int) ∧ (k : Int) < b
    omega
  | negSucc k =>
    show Nat.blt k b = true ↔ _
    have : Nat.blt k b = true ↔ k < b := by rw [Nat.blt_eq]
    rw [this]
    omega
theorem inB62 {n : Int} (h : inB 4611686018427387904 n = true) : -(2 ^ 62) ≤ n ∧ n < 2 ^ 62 := by
  have := inB_iff.mp h
  omega
theorem inB63 {n : Int} (h : inB 9223372036854775808 n = true) : -(2 ^ 63) ≤ n ∧ n < 2 ^ 63 := by
  have := inB_iff.mp h
  omega

theorem sqt_same {K : Fg} {G G' : Hp} {a : Addr} {xs : List V} (e : Same G G') (h : SqT K G a xs) : SqT K G' a xs := by
  rcases h with (h | ⟨o, h⟩) | h
  · exact Or.inl (Or.inl (e _ _ h))
  · exact Or.inl (Or.inr ⟨o, e _ _ h⟩)
  · exact Or.inr h

theorem rd_same {G G' : Hp} {a : Addr} {u : HO} (e : Same G G') (h : Rd G a u) : Rd G' a u := by
  rcases h with h | ⟨o, h⟩
  · exact Or.inl (e _ _ h)
  · exact Or.inr ⟨o, e _ _ h⟩

/-- a list that is read: tracked, locked, or a plain one of the module's -/
def SqX (K : Fg) (G : Hp) (a : Addr) (xs : List V) : Prop := Rd G a (.lst xs) ∨ ∃ (its : Array Value) (n : Nat), K.lookup a = some { cls := .type "list", data := .seq its n } ∧ its.size ≤ sizeLine ∧ Vals xs its.toList
theorem SqX.of {K : Fg} {G : Hp} {a : Addr} {xs : List V} (h : G a = some (.lst xs)) : SqX K G a xs := Or.inl (Or.inl h)
theorem SqX.seq {K : Fg} {G : Hp} {a : Addr} {xs : List V} (h : SqX K G a xs) : SqL K G a xs := by
  rcases h with h | ⟨its, n, h1, h2, h3⟩
  · exact Or.inl h
  · exact Or.inr ⟨_, its, n, h1, rfl, rfl, rfl, h2, h3⟩
theorem sqx_same {K : Fg} {G G' : Hp} {a : Addr} {xs : List V} (e : Same G G') (h : SqX K G a xs) : SqX K G' a xs := by
  rcases h with h | h
  · exact Or.inl (rd_same e h)
  · exact Or.inr h

/-- a step that lays new things: G is the quiet part of the heap H -/
structure Step (G H G' H' : Hp) : Prop where
  sg : Same G G'
  sh : Same H H'
  sub : Same G' H'
  quiet : ∀ b, H b ≠ none → G b = none → G' b = none

theorem Step.refl {G H : Hp} (s : Same G H) : Step G H G H := ⟨Same.refl _, Same.refl _, s, fun _ _ h => h⟩
theorem Step.trans {G H G1 H1 G2 H2 : Hp} (a : Step G H G1 H1) (b : Step G1 H1 G2 H2) : Step G H G2 H2 :=
  ⟨a.sg.trans b.sg, a.sh.trans b.sh, b.sub, fun c hc hn => b.quiet c (fun z => by
    cases q : H c with
    | none => exact hc q
    | some o => rw [a.sh c o q] at z; cases z) (a.quiet c hc hn)⟩
/-- one new object, quiet from the start -/
theorem Step.new {G H : Hp} (s : Same G H) {p : Addr} (hp : H p = none) (o : HO) : Step G H (upd G p o) (upd H p o) := by
  have gp : G p = none := s.free hp
  refine ⟨fun b u e => ?_, fun b u e => ?_, fun b u e => ?_, fun b hb hn => ?_⟩
  · rw [upd_ne (ne_of_none e gp)]; exact e
  · rw [upd_ne (ne_of_none e hp)]; exact e
  · by_cases h : b = p
    · subst h; rw [upd_same] at e ⊢; exact e
    · rw [upd_ne h] at e ⊢; exact s b u e
  · have h : b ≠ p := fun z => hb (by rw [z]; exact hp)
    rw [upd_ne h]; exact hn
/-- one new object that is nobody's yet -/
theorem Step.own {G H : Hp} (s : Same G H) {p : Addr} (hp : H p = none) (o : HO) : Step G H G (upd H p o) := by
  refine ⟨Same.refl _, fun b u e => ?_, fun b u e => ?_, fun b _ hn => hn⟩
  · rw [upd_ne (ne_of_none e hp)]; exact e
  · rw [upd_ne (ne_of_none e (s.free hp))]; exact s b u e

/-- a tuple whose object is known to have no dict of its own -/
def SqD (K : Fg) (G : Hp) (a : Addr) (xs : List V) : Prop := (∃ o, G a = some (.frz o (.tup xs)) ∧ o.dict = none) ∨
  ∃ (o : Obj) (its : Array Value) (n : Nat), K.lookup a = some o ∧ o.cls = .type "tuple" ∧ o.dict = none ∧ o.data = .seq its n ∧ its.size ≤ sizeLine ∧ Vals xs its.toList
theorem SqD.of {K : Fg} {G : Hp} {a : Addr} {xs : List V} {o : Obj} (h : G a = some (.frz o (.tup xs))) (d : o.dict = none) : SqD K G a xs := Or.inl ⟨o, h, d⟩
theorem SqD.sqt {K : Fg} {G : Hp} {a : Addr} {xs : List V} (h : SqD K G a xs) : SqT K G a xs := by
  rcases h with ⟨o, h, _⟩ | ⟨o, its, n, h1, h2, _, h3, h4, h5⟩
  · exact Or.inl (Or.inr ⟨o, h⟩)
  · exact Or.inr ⟨o, its, n, h1, h2, h3, h4, h5⟩
theorem sqd_same {K : Fg} {G G' : Hp} {a : Addr} {xs : List V} (e : Same G G') (h : SqD K G a xs) : SqD K G' a xs := by
  rcases h with ⟨o, h, d⟩ | h
  · exact Or.inl ⟨o, e _ _ h, d⟩
  · exact Or.inr h

mutual
/-- the key that a value is -/
def nk : D → NestedKey
  | .none => .none
  | .bool b => .num (if b = true then 1 else 0)
  | .int i => .num i
  | .str x => .text x
  | .tuple xs => .tup (nks xs)
  | .list _ => .none
  | .dict _ => .none
def nks : List D → List NestedKey
  | [] => []
  | d :: ds => nk d :: nks ds
end
mutual
/-- whether it may be a key -/
def keyD : D → Bool
  | .list _ => false
  | .dict _ => false
  | .tuple xs => keyDs xs
  | _ => true
def keyDs : List D → Bool
  | [] => true
  | d :: ds => keyD d && keyDs ds
end
/-- an int or a text -/
def leafK : D → Bool
  | .int _ => true
  | .str _ => true
  | _ => false
/-- a tuple of keys -/
def tupK : D → Bool
  | .tuple xs => keyDs xs && decide ((NestedKey.tup (nks xs)).depth ≤ 8)
  | _ => false
structure KeysOk (kvs : List (D × D)) : Prop where
  z : kvs.length ≤ sizeLine
  nd : (kvs.map fun p => nk p.1).Nodup
  kd : (∀ p ∈ kvs, leafK p.1 = true) ∨ ∀ p ∈ kvs, tupK p.1 = true
/-- the thing at a is o -/
def xO (a : Addr) (o : Obj) : HO := .ext fun h => h.get? a = some o

/-- a def of the module, as a value (no program has such a dict) -/
abbrev fnD (n : Nat) : D := .dict [(.dict [], .int n)]
def fnB : D → Bool
  | .dict [(.dict [], .int _)] => true
  | _ => false
def kD : Key → D
  | .inl i => .int i
  | .inr x => .str x
mutual
inductive Rep (K : Fg) (G : Hp) : V → D → Prop
  | non : Rep K G .non .none
  | bl (b : Bool) : Rep K G (.bl b) (.bool b)
  | int (i : Int) : Rep K G (.int i) (.int i)
  | str (x : Str) : Rep K G (.str x) (.str x)
  | lst {a : Addr} {xs : List V} {ds : List D} : SqX K G a xs → Reps K G xs ds → Rep K G (.ref a) (.list ds)
  | tup {a : Addr} {xs : List V} {ds : List D} : SqD K G a xs → Reps K G xs ds → Rep K G (.ref a) (.tuple ds)
  | dict {a : Addr} {o : Obj} {es : Array DictEntry} {ep : Nat} {kvs : List (D × D)} : G a = some (xO a o) → o.ExactDict → o.data = .dict es ep → (a == sysModules) = false → KeysOk kvs → Ents K G es.toList kvs → Rep K G (.ref a) (.dict kvs)
  | fn {a : Addr} {n : Nat} : WW.fns[n]? = some a → Rep K G (.ref a) (fnD n)
inductive Reps (K : Fg) (G : Hp) : List V → List D → Prop
  | nil : Reps K G [] []
  | cons {v : V} {vs : List V} {d : D} {ds : List D} : Rep K G v d → Reps K G vs ds → Reps K G (v :: vs) (d :: ds)
/-- a dict's entries -/
inductive Ents (K : Fg) (G : Hp) : List DictEntry → List (D × D) → Prop
  | nil : Ents K G [] []
  | cons {e : DictEntry} {es : List DictEntry} {k d : D} {kvs : List (D × D)} {x v : V} : e.hash = (nk k).hash WW.w → RelV x e.key → Rep K G x k → RelV v e.val → Rep K G v d → Ents K G es kvs → Ents K G (e :: es) ((k, d) :: kvs)
end

section
variable {K : Fg} {G G' : Hp}
mutual
theorem Rep.mono (e : Same G G') : ∀ {v : V} {d : D}, Rep K G v d → Rep K G' v d
  | _, _, .non => .non
  | _, _, .bl b => .bl b
  | _, _, .int i => .int i
  | _, _, .str x => .str x
  | _, _, .lst h r => .lst (sqx_same e h) (Reps.mono e r)
  | _, _, .tup h r => .tup (sqd_same e h) (Reps.mono e r)
  | _, _, .dict h c d m k r => .dict (e _ _ h) c d m k (Ents.mono e r)
  | _, _, .fn h => .fn h
theorem Reps.mono (e : Same G G') : ∀ {vs : List V} {ds : List D}, Reps K G vs ds → Reps K G' vs ds
  | _, _, .nil => .nil
  | _, _, .cons a b => .cons (Rep.mono e a) (Reps.mono e b)
theorem Ents.mono (e : Same G G') : ∀ {es : List DictEntry} {kvs : List (D × D)}, Ents K G es kvs → Ents K G' es kvs
  | _, _, .nil => .nil
  | _, _, .cons h r k v d t => .cons h r (Rep.mono e k) v (Rep.mono e d) (Ents.mono e t)
end
theorem Reps.length : ∀ {vs : List V} {ds : List D}, Reps K G vs ds → vs.length = ds.length
  | _, _, .nil => rfl
  | _, _, .cons _ b => by simp only [List.length_cons, Reps.length b]
theorem Reps.get : ∀ {vs : List V} {ds : List D} {i : Nat} {d : D}, Reps K G vs ds → ds[i]? = some d → ∃ v, vs[i]? = some v ∧ Rep K G v d
  | _, _, _, _, .nil, h => by simp at h
  | _, _, 0, _, .cons a _, h => by simp at h; subst h; exact ⟨_, rfl, a⟩
  | _, _, i + 1, _, .cons _ b, h => by simpa using Reps.get b (by simpa using h)
theorem Reps.get' : ∀ {vs : List V} {ds : List D} {i : Nat} {v : V}, Reps K G vs ds → vs[i]? = some v → ∃ d, ds[i]? = some d ∧ Rep K G v d
  | _, _, _, _, .nil, h => by simp at h
  | _, _, 0, _, .cons a _, h => by simp at h; subst h; exact ⟨_, rfl, a⟩
  | _, _, i + 1, _, .cons _ b, h => by simpa using Reps.get' b (by simpa using h)
theorem Reps.append : ∀ {vs ws : List V} {ds es : List D}, Reps K G vs ds → Reps K G ws es → Reps K G (vs ++ ws) (ds ++ es)
  | _, _, _, _, .nil, h => h
  | _, _, _, _, .cons a b, h => .cons a (Reps.append b h)
theorem Reps.set : ∀ {vs : List V} {ds : List D} {v : V} {d : D}, Reps K G vs ds → Rep K G v d → ∀ i, Reps K G (vs.set i v) (ds.set i d)
  | _, _, _, _, .nil, _, _ => .nil
  | _, _, _, _, .cons _ b, h, 0 => .cons h b
  | _, _, _, _, .cons a b, h, i + 1 => .cons a (Reps.set b h i)
theorem Reps.take : ∀ {vs : List V} {ds : List D} (n : Nat), Reps K G vs ds → Reps K G (vs.take n) (ds.take n)
  | _, _, 0, _ => .nil
  | _, _, _ + 1, .nil => .nil
  | _, _, n + 1, .cons a b => .cons a (Reps.take n b)
theorem Reps.drop : ∀ {vs : List V} {ds : List D} (n : Nat), Reps K G vs ds → Reps K G (vs.drop n) (ds.drop n)
  | _, _, 0, h => h
  | _, _, _ + 1, .nil => .nil
  | _, _, n + 1, .cons _ b => Reps.drop n b
theorem Reps.erase : ∀ {vs : List V} {ds : List D} (n : Nat), Reps K G vs ds → Reps K G (vs.eraseIdx n) (ds.eraseIdx n)
  | _, _, _, .nil => .nil
  | _, _, 0, .cons _ b => b
  | _, _, n + 1, .cons a b => .cons a (Reps.erase n b)
theorem Reps.dropLast {vs : List V} {ds : List D} (h : Reps K G vs ds) : Reps K G vs.dropLast ds.dropLast := by
  rw [List.dropLast_eq_take, List.dropLast_eq_take, h.length]; exact h.take _
theorem Reps.ints : ∀ (ns : List Int), Reps K G (ns.map V.int) (ns.map PyData.int)
  | [] => .nil
  | n :: r => .cons (.int n) (Reps.ints r)
theorem Rep.int_inv {v : V} {i : Int} (h : Rep K G v (.int i)) : v = .int i := by cases h; rfl
theorem Rep.str_inv {v : V} {x : Str} (h : Rep K G v (.str x)) : v = .str x := by cases h; rfl
theorem Rep.bl_inv {v : V} {b : Bool} (h : Rep K G v (.bool b)) : v = .bl b := by cases h; rfl
theorem Rep.non_inv {v : V} (h : Rep K G v .none) : v = .non := by cases h; rfl
theorem Rep.lst_rd {v : V} {ds : List D} (h : Rep K G v (.list ds)) : ∃ a xs, v = .ref a ∧ SqX K G a xs ∧ Reps K G xs ds := by
  cases h with | lst h r => exact ⟨_, _, rfl, h, r⟩
theorem Rep.lst_inv {v : V} {ds : List D} (h : Rep K G v (.list ds)) : ∃ a xs, v = .ref a ∧ SqL K G a xs ∧ Reps K G xs ds := by
  cases h with | lst h r => exact ⟨_, _, rfl, h.seq, r⟩
theorem Rep.tup_inv {v : V} {ds : List D} (h : Rep K G v (.tuple ds)) : ∃ a xs, v = .ref a ∧ SqT K G a xs ∧ Reps K G xs ds := by
  cases h with | tup h r => exact ⟨_, _, rfl, h.sqt, r⟩
theorem Rep.tup_d {v : V} {ds : List D} (h : Rep K G v (.tuple ds)) : ∃ a xs, v = .ref a ∧ SqD K G a xs ∧ Reps K G xs ds := by
  cases h with | tup h r => exact ⟨_, _, rfl, h, r⟩
theorem Reps.ints_inv : ∀ {vs : List V} {ns : List Int}, Reps K G vs (ns.map PyData.int) → vs = ns.map V.int
  | _, [], h => by cases h; rfl
  | _, n :: r, h => by
    cases h with
    | cons a b => rw [List.map_cons, a.int_inv, Reps.ints_inv b]
end

/-- what an own thing holds: a list, a dict -/
inductive OC where
  | l (xs : List D) | m (kvs : List (D × D))
/-- a slot: nothing known, data, a box that is lent (by number), an own list or dict -/
inductive Sl where
  | un | d (x : D) | bx (n : Nat) | ow (c : OC)
abbrev Sl.ol (xs : List D) : Sl := .ow (.l xs)
abbrev Sl.od (kvs : List (D × D)) : Sl := .ow (.m kvs)
/-- the own thing at a -/
def OwnOk (K : Fg) (G H : Hp) (a : Addr) : OC → Prop
  | .l xs => ∃ vs, H a = some (.lst vs) ∧ Reps K G vs xs
  | .m kvs => ∃ o es ep, H a = some (xO a o) ∧ o.ExactDict ∧ o.data = .dict es ep ∧ (a == sysModules) = false ∧ KeysOk kvs ∧ Ents K G es.toList kvs
theorem OwnOk.there {K : Fg} {G H : Hp} {a : Addr} : ∀ {c : OC}, OwnOk K G H a c → ∃ u, H a = some u
  | .l _, ⟨_, h, _⟩ => ⟨_, h⟩
  | .m _, ⟨_, _, _, h, _⟩ => ⟨_, h⟩
theorem OwnOk.live {K : Fg} {G H : Hp} {a : Addr} {c : OC} (h : OwnOk K G H a c) : H a ≠ none := by
  obtain ⟨u, e⟩ := h.there
  rw [e]; intro z; cases z
theorem OwnOk.at {K : Fg} {G G' H H' : Hp} {a : Addr} (s : Same G G') (e : ∀ u, H a = some u → H' a = some u) : ∀ {c : OC}, OwnOk K G H a c → OwnOk K G' H' a c
  | .l _, ⟨vs, h, r⟩ => ⟨vs, e _ h, r.mono s⟩
  | .m _, ⟨o, es, ep, h, c, d, m, k, r⟩ => ⟨o, es, ep, e _ h, c, d, m, k, r.mono s⟩
abbrev Row := List Sl
abbrev Bxs := List (List D)

/-- a thing kept, but that a table may grow -/
def Kpt (o : HO) (r : Option HO) : Prop := r = some o ∨ ∃ ps qs, o = .tbl ps ∧ r = some (.tbl qs)
theorem Kpt.live {o : HO} {r : Option HO} (h : Kpt o r) : r ≠ none := by
  rcases h with h | ⟨_, _, _, h⟩ <;> rw [h] <;> intro z <;> cases z
theorem Kpt.eq {o : HO} {r : Option HO} (h : Kpt o r) (n : ∀ ps, o ≠ .tbl ps) : r = some o := by
  rcases h with h | ⟨ps, _, e, _⟩
  · exact h
  · exact absurd e (n ps)
theorem Kpt.trans {o : HO} {r r' : Option HO} (h : Kpt o r) (k : ∀ u, r = some u → Kpt u r') : Kpt o r' := by
  rcases h with h | ⟨ps, qs, rfl, h⟩
  · exact k _ h
  · rcases k _ h with z | ⟨_, rs, _, z⟩
    · exact .inr ⟨ps, qs, rfl, z⟩
    · exact .inr ⟨ps, rs, rfl, z⟩
theorem Kpt.sh {o : HO} {r r' : Option HO} (h : Kpt o r) (k : ∀ u, r = some u → r' = some u) : Kpt o r' := h.trans fun u e => .inl (k u e)
/-- the tables stand, none of them is quiet -/
def TbOk (G H : Hp) : Prop := ∀ p ∈ WW.T, LamX.TabS H p.1 p.2 ∧ G p.1 = none
theorem TbOk.tbl {G H : Hp} (t : TbOk G H) {p : Addr × Str} (hp : p ∈ WW.T) : ∃ ps, H p.1 = some (.tbl ps) := by
  obtain ⟨⟨ps, h, _⟩, _⟩ := t p hp
  exact ⟨ps, h⟩
theorem TbOk.live {G H : Hp} (t : TbOk G H) {p : Addr × Str} (hp : p ∈ WW.T) : H p.1 ≠ none := by
  obtain ⟨ps, h⟩ := t.tbl hp
  rw [h]; intro z; cases z
theorem TbOk.step {G H G' H' : Hp} (t : TbOk G H) (s : Step G H G' H') : TbOk G' H' := fun p hp => ⟨(t p hp).1.ext s.sh, s.quiet _ (t.live hp) (t p hp).2⟩
/-- at p stands no table and no code object -/
def NT (H : Hp) (p : Addr) : Prop := (∀ ps, H p ≠ some (.tbl ps)) ∧ ∀ q, H p ≠ some (LamX.CodeO p q)
theorem NT.none {H : Hp} {p : Addr} (h : H p = .none) : NT H p := ⟨fun ps z => (by rw [h] at z; cases z), fun q z => (by rw [h] at z; cases z)⟩
theorem NT.lst {H : Hp} {p : Addr} {vs : List V} (h : H p = some (.lst vs)) : NT H p := ⟨fun ps z => (by rw [h] at z; cases z), fun q z => by
    rw [h] at z
    unfold LamX.CodeO at z
    cases z⟩
/-- something else is written -/
theorem TbOk.wr {G H : Hp} (t : TbOk G H) {a : Addr} {u : HO} (hn : NT H a) : TbOk G (upd H a u) := fun p hp => by
  obtain ⟨⟨ps, h1, h2, h3⟩, hg⟩ := t p hp
  refine ⟨⟨ps, ?_, h2, fun pos cv hcv => ?_⟩, hg⟩
  · rw [upd_ne fun z => hn.1 ps (by rw [← z]; exact h1)]; exact h1
  · obtain ⟨c, e1, e2⟩ := h3 pos cv hcv
    exact ⟨c, e1, by rw [upd_ne fun z => hn.2 p.2 (by rw [← z]; exact e2)]; exact e2⟩
/-- more is quiet -/
theorem TbOk.calm {G H : Hp} (t : TbOk G H) {a : Addr} {u : HO} (hl : ∀ ps, H a ≠ some (.tbl ps)) : TbOk (upd G a u) H := fun p hp => by
  obtain ⟨ps, h1⟩ := t.tbl hp
  exact ⟨(t p hp).1, by rw [upd_ne fun z => hl ps (by rw [← z]; exact h1)]; exact (t p hp).2⟩
/-- what is told of an object that is no record is not told of a code object -/
theorem code_ext {a : Addr} {q : Str} {φ : Heap → Prop} (hφ : ∀ h, φ h → ∃ o, h.get? a = some o ∧ ∀ vs, o.data ≠ .fields vs) : HO.ext φ ≠ LamX.CodeO a q := fun z => by
  unfold LamX.CodeO at z
  have z1 : φ = fun h => ∃ (oc : Obj) (vs : Array Value) (t : Tok), h.get? a = some oc ∧ oc.data = .fields vs ∧ vs[1]? = some (.str q t) := by
    injection z
  have full : ∀ n : Nat, ∃ h : Heap, h.objs.size = n := fun n => by
    induction n with
    | zero => exact ⟨{}, rfl⟩
    | succ n ih =>
      obtain ⟨h, e⟩ := ih
      exact ⟨h.push { cls := .none, data := .plain }, by rw [Heap.size_push, e]⟩
  obtain ⟨h, e⟩ := full a
  have at_a : (h.push { cls := .none, data := .fields #[.none, .str q default] }).get? a = some { cls := .none, data := .fields #[.none, .str q default] } := by
    have := Heap.get?_push_size h (o := { cls := .none, data := .fields #[.none, .str q default] }) rfl
    rw [e] at this; exact this
  have z2 := congrFun z1 (h.push { cls := .none, data := .fields #[.none, .str q default] })
  obtain ⟨o, e1, e2⟩ := hφ _ (z2.mpr ⟨_, _, default, at_a, rfl, rfl⟩)
  rw [at_a] at e1
  cases e1
  exact e2 _ rfl
theorem code_xO {a : Addr} {o : Obj} {es : Array DictEntry} {ep : Nat} {q : Str} (d : o.data = .dict es ep) : xO a o ≠ LamX.CodeO a q :=
  code_ext fun h e => ⟨o, e, fun vs z => by rw [d] at z; cases z⟩
theorem OwnOk.not {K : Fg} {G H : Hp} {a : Addr} : ∀ {c : OC}, OwnOk K G H a c → NT H a
  | .l _, ⟨vs, h, _⟩ => NT.lst h
  | .m _, ⟨o, es, ep, h, _, d, _⟩ => by
    refine ⟨fun ps z => ?_, fun q z => ?_⟩
    · rw [h] at z
      have z' : xO a o = .tbl ps := Option.some.inj z
      unfold xO at z'
      cases z'
    · rw [h] at z
      exact code_xO d (Option.some.inj z)
theorem OwnOk.kpt {K : Fg} {G H : Hp} {a : Addr} {c : OC} (h : OwnOk K G H a c) {u : HO} (e : H a = some u) : ∀ ps, u ≠ .tbl ps := fun ps z => h.not.1 ps (by rw [e, z])
theorem TbOk.own {K : Fg} {G G1 H : Hp} {a : Addr} {c : OC} {u : HO} (t : TbOk G H) (h : OwnOk K G1 H a c) : TbOk G (upd H a u) := t.wr h.not
/-- the quiet part and the boxes -/
structure Wd (K : Fg) (δ : List Addr) (γ : Bxs) (G H : Hp) : Prop where
  sub : Same G H
  len : δ.length = γ.length
  nd : δ.Nodup
  out : ∀ a ∈ δ, G a = none
  cell : ∀ (n : Nat) (c : List D), γ[n]? = some c → ∃ a vs, δ[n]? = some a ∧ H a = some (.lst vs) ∧ Reps K G vs c
  tb : TbOk G H

theorem Wd.live {K : Fg} {δ : List Addr} {γ : Bxs} {G H : Hp} (w : Wd K δ γ G H) {a : Addr} (h : a ∈ δ) : H a ≠ none := by
  obtain ⟨n, hn⟩ := List.getElem?_of_mem h
  have hl : n < γ.length := by
    have := (List.getElem?_eq_some_iff.mp hn).1
    rw [← w.len]; exact this
  obtain ⟨b, vs, h1, h2, _⟩ := w.cell n γ[n] (by simp [hl])
  rw [hn] at h1; cases h1
  rw [h2]; intro z; cases z
theorem Wd.step {K : Fg} {δ : List Addr} {γ : Bxs} {G H G' H' : Hp} (w : Wd K δ γ G H) (s : Step G H G' H') : Wd K δ γ G' H' := by
  refine ⟨s.sub, w.len, w.nd, fun a ha => s.quiet a (w.live ha) (w.out a ha), fun n c hc => ?_, w.tb.step s⟩
  obtain ⟨a, vs, h1, h2, h3⟩ := w.cell n c hc
  exact ⟨a, vs, h1, s.sh _ _ h2, h3.mono s.sg⟩

/-- the def's entry -/
structure Fm where
  G : Hp
  H : Hp

def SlOk (K : Fg) (δ : List Addr) (a : Addr) (G H : Hp) (o : Option (Option V)) : Sl → Prop
  | .un => True
  | .d x => ∃ v, o = some (some v) ∧ Rep K G v x
  | .bx n => ∃ b, δ[n]? = some b ∧ o = some (some (.ref b))
  | .ow c => o = some (some (.ref a)) ∧ OwnOk K G H a c

/-- the state: own i is the address of the own list in slot i -/
structure Rel (K : Fg) (δ : List Addr) (F : Fm) (own : Nat → Addr) (G H : Hp) (ρ : Row) (γ : Bxs) (σ : L2.St) : Prop where
  wd : Wd K δ γ G H
  g0 : Same F.G G
  q0 : ∀ b, F.H b ≠ none → F.G b = none → G b = none
  h0 : ∀ b o, F.H b = some o → F.G b = none → b ∉ δ → Kpt o (H b)
  len : ρ.length = σ.length
  slot : ∀ (i : Nat) (s : Sl), ρ[i]? = some s → SlOk K δ (own i) G H σ[i]? s
  ownd : ∀ (i : Nat) (c : OC), ρ[i]? = some (.ow c) → G (own i) = none ∧ own i ∉ δ ∧ F.H (own i) = none
  inj : ∀ (i j : Nat) (c d : OC), ρ[i]? = some (.ow c) → ρ[j]? = some (.ow d) → own i = own j → i = j

theorem SlOk.step {K : Fg} {δ : List Addr} {a : Addr} {G H G' H' : Hp} {o : Option (Option V)} (s : Step G H G' H') : ∀ {x : Sl}, SlOk K δ a G H o x → SlOk K δ a G' H' o x
  | .un, _ => trivial
  | .d _, ⟨v, h1, h2⟩ => ⟨v, h1, h2.mono s.sg⟩
  | .bx _, h => h
  | .ow _, ⟨h1, h2⟩ => ⟨h1, h2.at s.sg (s.sh _)⟩
theorem Rel.step {K : Fg} {δ : List Addr} {F : Fm} {own : Nat → Addr} {G H G' H' : Hp} {ρ : Row} {γ : Bxs} {σ : L2.St} (r : Rel K δ F own G H ρ γ σ) (s : Step G H G' H') : Rel K δ F own G' H' ρ γ σ := by
  refine ⟨r.wd.step s, r.g0.trans s.sg, fun b h1 h2 => ?_, fun b o h1 h2 h3 => (r.h0 b o h1 h2 h3).sh (s.sh _), r.len, fun i x h => (r.slot i x h).step s, fun i xs h => ?_, r.inj⟩
  · by_cases hd : b ∈ δ
    · exact s.quiet b (r.wd.live hd) (r.wd.out b hd)
    · cases q : F.H b with
      | none => exact absurd q h1
      | some o => exact s.quiet b ((r.h0 b o q h2 hd).live) (r.q0 b h1 h2)
  · obtain ⟨h1, h2, h3⟩ := r.ownd i xs h
    exact ⟨s.quiet _ (r.slot i _ h).2.live h1, h2, h3⟩
/-- less is known -/
theorem Rel.sub {K : Fg} {δ : List Addr} {F : Fm} {own : Nat → Addr} {G H : Hp} {ρ : Row} {γ : Bxs} {σ : L2.St} (r : Rel K δ F own G H ρ γ σ) : Same G H := r.wd.sub
end DL

namespace DL
open PySem PySem.Spec PyProof.Rows L2
variable [WW]

/-- what a context must have: room, no repr under way, nothing handled -/
structure Okc (X : Cx) : Prop where
  hr : Room 1 X.A
  hg : X.A.guards = some []
  calm : X.calm = true
  nd : X.N.Nodup
  pas : PassesOwn (model X.prog X.w) X.A X.env X.xe
  ww : WW.w = X.w

section
variable {X : Cx} {pins : List (Addr × Obj)} {σ : L2.St} {H G : Hp} {s : Shared}
theorem ints_keys : ∀ {kvs : List (Key × V)} {vs : List (Key × Value)}, KV kvs vs → kvs.map (·.1) = vs.map (·.1)
  | _, _, .nil => rfl
  | _, _, .cons r t => by rw [List.map_cons, List.map_cons, r.1, ints_keys t]
theorem mono_h {K : Fg} {v : V} {d : D} (e : Same G H) (h : Rep K G v d) : Rep K H v d := h.mono e

mutual
theorem Rep.reads (I : Inv X pins σ H s) (e : Same G H) : ∀ (d : D) (v : V) (u : Value), d.plain = true → Rep X.K G v d → RelV v u → ∃ as, Reads s.heap u d as
  | .none, v, u, _, h, r => by
    rw [h.non_inv] at r
    cases r
    exact ⟨_, .none⟩
  | .bool b, v, u, _, h, r => by
    rw [h.bl_inv] at r
    cases r
    exact ⟨_, .bool b⟩
  | .int i, v, u, _, h, r => by
    rw [h.int_inv] at r
    obtain ⟨t, rfl⟩ := r
    exact ⟨_, .int i t⟩
  | .str x, v, u, _, h, r => by
    rw [h.str_inv] at r
    obtain ⟨t, rfl⟩ := r
    exact ⟨_, .str x t⟩
  | .list ds, v, u, p, h, r => by
    obtain ⟨a, xs, rfl, hq, hs⟩ := h.lst_inv
    cases r
    obtain ⟨its, rv, pl, _⟩ := I.list (e.seq hq)
    obtain ⟨o, n, h1, h2, h3, h4⟩ := pl
    obtain ⟨as, q⟩ := Reps.reads I e ds xs its (by simpa only [PyData.plain] using p) hs rv
    exact ⟨_, .list h1 h2 h4 q⟩
  | .tuple ds, v, u, p, h, r => by
    obtain ⟨a, xs, rfl, hq, hs⟩ := h.tup_inv
    cases r
    obtain ⟨its, rv, pl, _⟩ := I.tuple (sqt_same e hq)
    obtain ⟨o, h1, h2, n, h4⟩ := pl
    obtain ⟨as, q⟩ := Reps.reads I e ds xs its (by simpa only [PyData.plain] using p) hs rv
    exact ⟨_, .tuple h1 h2 h4 q⟩
  | .dict kvs, _, _, p, _, _ => by simp [PyData.plain] at p
theorem Reps.reads (I : Inv X pins σ H s) (e : Same G H) : ∀ (ds : List D) (vs : List V) (us : List Value), PyData.plainAll ds = true → Reps X.K G vs ds → Vals vs us → ∃ as, ReadsAll s.heap us ds as
  | [], vs, us, _, h, r => by
    cases h
    cases r
    exact ⟨_, .nil⟩
  | d :: ds, vs, us, p, h, r => by
    cases h with
    | cons ha hb =>
      cases r with
      | cons ra rb =>
        simp only [PyData.plainAll, Bool.and_eq_true] at p
        obtain ⟨as, q1⟩ := Rep.reads I e d _ _ p.1 ha ra
        obtain ⟨bs, q2⟩ := Reps.reads I e ds _ _ p.2 hb rb
        exact ⟨_, .cons q1 q2⟩
end
end

/-- a two-place operation is g on data -/
def rD (K : Fg) (g : D → D → Option D) : R2 := fun x y H Q => ∃ G a b d, Same G H ∧ Rep K G x a ∧ Rep K G y b ∧ g a b = some d ∧ ∀ v G' H', Step G H G' H' → Rep K G' v d → Q v H'
/-- a one-place one -/
def r1D (K : Fg) (g : D → Option D) : V → Hp → VK → Prop := fun x H Q => ∃ G a d, Same G H ∧ Rep K G x a ∧ g a = some d ∧ ∀ v G' H', Step G H G' H' → Rep K G' v d → Q v H'
/-- one of many arguments -/
def rsD (K : Fg) (g : List D → Option D) : List V → Hp → VK → Prop := fun xs H Q => ∃ G as d, Same G H ∧ Reps K G xs as ∧ g as = some d ∧ ∀ v G' H', Step G H G' H' → Rep K G' v d → Q v H'
/-- a method -/
def rmD (K : Fg) (g : D → List D → Option D) : V → List V → Hp → VK → Prop := fun x xs H Q => ∃ G a as d, Same G H ∧ Rep K G x a ∧ Reps K G xs as ∧ g a as = some d ∧ ∀ v G' H', Step G H G' H' → Rep K G' v d → Q v H'

/-- S l: the text of these codes -/
abbrev S (l : List Nat) : Str := ⟨l.toArray⟩
theorem S_of (x : Str) : x = S x.cps.toList := by cases x; simp [S]

/-- a tuple newly laid -/
abbrev tupO (its : List Value) : Obj := { cls := .type "tuple", data := .seq its.toArray }
theorem lay_tup {X : Cx} {pins : List (Addr × Obj)} {σ : L2.St} {H : Hp} {s : Shared} {xs : List V} {us : List Value} {tk : Nat} {h' : Heap} (I : Inv X pins σ H s) (kp : ∀ b o, s.heap.get? b = some o → h'.get? b = some o) (big : s.heap.objs.size ≤ h'.objs.size) (r : Vals xs us) (z : xs.length ≤ sizeLine) :
    Inv X pins σ (upd H h'.objs.size (.frz (tupO us) (.tup xs))) { s with heap := h'.push (tupO us), toks := tk } :=
  I.laid (t' := tk) (fun b u e => Heap.get?_push_of_some _ (kp b u e)) big ⟨Heap.get?_push_size _ rfl, z, us, r, IsTup.new _ _⟩
def addD : D → D → Option D
  | .int i, .int j => some (.int (i + j))
  | .str x, .str y => if x.length + y.length ≤ sizeLine then some (.str (x ++ y)) else none
  | .list xs, .list ys => if xs.length + ys.length ≤ sizeLine then some (.list (xs ++ ys)) else none
  | .tuple xs, .tuple ys => if xs.length + ys.length ≤ sizeLine then some (.tuple (xs ++ ys)) else none
  | _, _ => none
def subD : D → D → Option D
  | .int i, .int j => some (.int (i - j))
  | _, _ => none
def repS (x : Str) (n : Nat) : Str := S (List.replicate n x.cps.toList).flatten
def mulD : D → D → Option D
  | .int i, .int j => if i.natAbs.log2 + j.natAbs.log2 < 1000000 then some (.int (i * j)) else none
  | .str x, .int k => if inB 9223372036854775808 k = true ∧ x.length * k.toNat ≤ sizeLine then some (.str (repS x k.toNat)) else none
  | .list xs, .int k => if inB 9223372036854775808 k = true ∧ xs.length * k.toNat ≤ sizeLine then some (.list (List.replicate k.toNat xs).flatten) else none
  | _, _ => none
def fdivD : D → D → Option D
  | .int i, .int j => if 0 < j ∧ j.natAbs.log2 < 9000 then some (.int (i / j)) else none
  | _, _ => none
def modD : D → D → Option D
  | .int i, .int j => if 0 < j then some (.int (i % j)) else none
  | _, _ => none
def powD : D → D → Option D
  | .int i, .int j => if 0 ≤ j ∧ j ≤ 1000000 ∧ i.natAbs < 2 ^ 64 then some (.int (i ^ j.toNat)) else none
  | _, _ => none
def negD : D → Option D
  | .int i => some (.int (-i))
  | _ => none
def cmpD (p : Int → Int → Bool) : D → D → Option D
  | .int i, .int j => some (.bool (p i j))
  | _, _ => none
def eqD (a b : D) : Option D := if a.plain ∧ b.plain ∧ a.depth ≤ 60 then some (.bool (PyData.eqv a b)) else none
def neD (a b : D) : Option D := if a.plain ∧ b.plain ∧ a.depth ≤ 60 then some (.bool (!PyData.eqv a b)) else none

section
variable {X : Cx}
theorem quiet_end {K : Fg} {G H : Hp} {Q : VK} {v : V} {d : D} (e : Same G H) (h : ∀ v G' H', Step G H G' H' → Rep K G' v d → Q v H') (r : Rep K G v d) : Q v H := h v G H (.refl e) r

theorem od_add : OpR X (binaryOp .Add) (rD X.K addD) := by
  intro pins s σ H x y v u Q I rx ry ⟨G, a, b, d, e, ra, rb, hd, h⟩
  cases a with
  | int i =>
    cases b with
    | int j =>
      cases ra.int_inv; cases rb.int_inv
      cases hd
      exact op_add pins s σ H _ _ v u Q I rx ry ⟨i, j, rfl, rfl, quiet_end e h (.int _)⟩
    | _ => simp [addD] at hd
  | str p =>
    cases b with
    | str q =>
      cases ra.str_inv; cases rb.str_inv
      simp only [addD] at hd
      split at hd
      · rename_i hz
        cases hd
        exact op_add_str pins s σ H _ _ v u Q I rx ry ⟨p, q, rfl, rfl, hz, quiet_end e h (.str _)⟩
      · cases hd
    | _ => simp [addD] at hd
  | list xs =>
    cases b with
    | list ys =>
      simp only [addD] at hd
      split at hd
      · rename_i hz
        cases hd
        obtain ⟨p, vs, rfl, hp, hvs⟩ := ra.lst_inv
        obtain ⟨q, ws, rfl, hq, hws⟩ := rb.lst_inv
        cases rx
        cases ry
        obtain ⟨its, r1, ⟨o1, n1, h1, c1, d1, e1⟩, z1⟩ := I.list (e.seq hp)
        obtain ⟨its2, r2, ⟨o2, n2, h2, c2, d2, e2⟩, z2⟩ := I.list (e.seq hq)
        obtain ⟨k1, l1, m1, s1⟩ := o1
        obtain ⟨k2, l2, m2, s2⟩ := o2
        simp only at c1 d1 e1 c2 d2 e2
        subst c1 d1 e1 c2 d2 e2
        have hzz : its.length + its2.length ≤ sizeLine := by
          rw [← r1.length, ← r2.length, hvs.length, hws.length]; exact hz
        refine concat_meets ⟨_, h1, rfl⟩ ⟨_, h2, rfl⟩ noFill_list_add seq_list_add PySem.F.slot_list_add PySem.F.entry_list_add (PySem.F.args_list_add_2 _ _) (list_addW p q its.toArray its2.toArray n1 n2 _ _ _ _ (by rw [List.size_toArray, List.size_toArray]; exact hzz)) ⟨h1, h2, ?_⟩
        have ea : its.toArray ++ its2.toArray = (its ++ its2).toArray := by simp
        rw [ea]
        have hzv : (vs ++ ws).length ≤ sizeLine := by rw [List.length_append, hvs.length, hws.length]; exact hz
        exact ⟨.ref _, _, I.lnew (t' := s.toks) (r1.append r2) hzv, rfl, h _ _ _ (Step.new e I.fresh _) (.lst (SqX.of upd_same) ((hvs.append hws).mono (Step.new e I.fresh (.lst (vs ++ ws))).sg))⟩
      · cases hd
    | _ => simp [addD] at hd
  | tuple xs =>
    cases b with
    | tuple ys =>
      simp only [addD] at hd
      split at hd
      · rename_i hz
        cases hd
        obtain ⟨p, vs, rfl, hp, hvs⟩ := ra.tup_d
        obtain ⟨q, ws, rfl, hq, hws⟩ := rb.tup_d
        have hz' : vs.length + ws.length ≤ sizeLine := by rw [hvs.length, hws.length]; exact hz
        cases rx
        cases ry
        obtain ⟨its, r1, p1, _⟩ := I.tuple (sqt_same e hp.sqt)
        obtain ⟨its2, r2, p2, _⟩ := I.tuple (sqt_same e hq.sqt)
        by_cases h0 : vs = []
        · subst h0
          cases r1
          cases hvs
          exact cat_tup0 p1 p2 ⟨.ref q, H, I, rfl, quiet_end e h (.tup hq hws)⟩
        · refine HT.cat_tup p1 p2 (fun z => h0 (r1.nil_iff.mp z)) (fun z => ?_) (fun z => ?_) (by rw [← r1.length, ← r2.length]; exact hz')
          · have h1 := r2.nil_iff.mp z
            subst h1
            cases hws
            rw [List.append_nil] at h
            exact ⟨.ref p, H, I, rfl, quiet_end e h (.tup hp hvs)⟩
          · have fr := I.hok.fresh (Nat.le_refl s.heap.objs.size)
            exact ⟨.ref s.heap.objs.size, _, lay_tup (tk := s.toks) I (fun _ _ z => z) (Nat.le_refl _) (r1.append r2) (by rw [List.length_append]; exact hz'), rfl, h _ _ _ (Step.new e fr _) (.tup (SqD.of upd_same rfl) ((hvs.append hws).mono (Step.new e fr (.frz (tupO (its ++ its2)) (.tup (vs ++ ws)))).sg))⟩
      · cases hd
    | _ => simp [addD] at hd
  | _ => cases b <;> simp [addD] at hd
end
end DL

namespace DL
open PySem PySem.Spec PyProof.Rows L2
variable [WW]
section
variable {X : Cx}
theorem od_sub : OpR X (binaryOp .Sub) (rD X.K subD) := by
  intro pins s σ H x y v u Q I rx ry ⟨G, a, b, d, e, ra, rb, hd, h⟩
  cases a <;> cases b <;> simp only [subD, reduceCtorEq, Option.some.injEq] at hd
  cases hd; cases ra.int_inv; cases rb.int_inv
  exact op_sub pins s σ H _ _ v u Q I rx ry ⟨_, _, rfl, rfl, quiet_end e h (.int _)⟩
theorem od_fdiv : OpR X (binaryOp .FloorDiv) (rD X.K fdivD) := by
  intro pins s σ H x y v u Q I rx ry ⟨G, a, b, d, e, ra, rb, hd, h⟩
  cases a <;> cases b <;> simp only [fdivD, reduceCtorEq] at hd
  split at hd
  · rename_i hc
    cases hd; cases ra.int_inv; cases rb.int_inv
    exact op_fdivW pins s σ H _ _ v u Q I rx ry ⟨_, _, rfl, rfl, hc, quiet_end e h (.int _)⟩
  · cases hd
theorem od_mod : OpR X (binaryOp .Mod) (rD X.K modD) := by
  intro pins s σ H x y v u Q I rx ry ⟨G, a, b, d, e, ra, rb, hd, h⟩
  cases a <;> cases b <;> simp only [modD, reduceCtorEq] at hd
  split at hd
  · rename_i hc
    cases hd; cases ra.int_inv; cases rb.int_inv
    exact op_mod pins s σ H _ _ v u Q I rx ry ⟨_, _, rfl, rfl, hc, quiet_end e h (.int _)⟩
  · cases hd
theorem od_pow : OpR X (binaryOp .Pow) (rD X.K powD) := by
  intro pins s σ H x y v u Q I rx ry ⟨G, a, b, d, e, ra, rb, hd, h⟩
  cases a <;> cases b <;> simp only [powD, reduceCtorEq] at hd
  split at hd
  · rename_i hc
    cases hd; cases ra.int_inv; cases rb.int_inv
    exact op_pow pins s σ H _ _ v u Q I rx ry ⟨_, _, rfl, rfl, hc, quiet_end e h (.int _)⟩
  · cases hd
theorem Reps.rep {K : Fg} {G : Hp} {vs : List V} {ds : List D} (h : Reps K G vs ds) : ∀ k : Nat, Reps K G (List.replicate k vs).flatten (List.replicate k ds).flatten
  | 0 => .nil
  | k + 1 => by
    rw [List.replicate_succ, List.replicate_succ, List.flatten_cons, List.flatten_cons]
    exact h.append (Reps.rep h k)
/-- a list that is read, as it stands -/
theorem list_at {pins : List (Addr × Obj)} {σ : L2.St} {H : Hp} {s : Shared} {a : Addr} {xs : List V} (I : Inv X pins σ H s) (h : SqX X.K H a xs) : ∃ (its : List Value) (n : Nat), Vals xs its ∧ s.heap.get? a = some { cls := .type "list", data := .seq its.toArray n } ∧ xs.length ≤ sizeLine := by
  rcases h with h | ⟨its, n, h1, h2, h3⟩
  · obtain ⟨z, its, n, r, e⟩ := h.ok I.hok
    exact ⟨its, n, r, e, z⟩
  · refine ⟨its.toList, n, h3, I.kIn a _ h1, ?_⟩
    have z := h3.length
    simp only [Array.length_toList] at z
    exact z ▸ h2
theorem S_len (l : List Nat) : (S l).length = l.length := by simp [Str.length]
theorem rep_foldl (x : Str) : ∀ (k : Nat) (acc : Array Nat), ((List.replicate k x.cps).foldl (fun a b => a ++ b) acc).toList = acc.toList ++ (List.replicate k x.cps.toList).flatten
  | 0, acc => by simp
  | k + 1, acc => by
    rw [List.replicate_succ, List.foldl_cons, rep_foldl x k, List.replicate_succ, List.flatten_cons, Array.toList_append, List.append_assoc]
theorem rep_str (x : Str) (k : Nat) : (⟨(List.replicate k x.cps).foldl (fun a b => a ++ b) #[]⟩ : Str) = repS x k := by
  have h := rep_foldl x k #[]
  unfold repS S
  congr 1
  apply Array.ext'
  rw [h]
  simp
theorem repS_len (x : Str) (k : Nat) : (repS x k).length = x.length * k := by
  unfold repS
  rw [S_len, PyProof.Rows.lm_len_rep_flat, Nat.mul_comm]
  simp [Str.length, Nat.mul_comm]
theorem od_mul : OpR X (binaryOp .Mult) (rD X.K mulD) := by
  intro pins s σ H x y v u Q I rx ry ⟨G, a, b, d, e, ra, rb, hd, h⟩
  cases a with
  | int i =>
    cases b <;> simp only [mulD, reduceCtorEq] at hd
    split at hd
    · rename_i hc
      cases hd; cases ra.int_inv; cases rb.int_inv
      exact op_mulW pins s σ H _ _ v u Q I rx ry ⟨_, _, rfl, rfl, hc, quiet_end e h (.int _)⟩
    · cases hd
  | list xs =>
    cases b <;> simp only [mulD, reduceCtorEq] at hd
    rename_i k
    split at hd
    · rename_i hc
      cases hd; cases rb.int_inv
      obtain ⟨hB, hz⟩ := hc
      obtain ⟨h1, h2⟩ := inB63 hB
      obtain ⟨l, vs, rfl, hl, hvs⟩ := ra.lst_rd
      cases rx
      obtain ⟨t, rfl⟩ := ry
      obtain ⟨its, n, r, g, z⟩ := list_at I (sqx_same e hl)
      have hn : its.length = xs.length := by rw [← r.length, hvs.length]
      have hlen : its.toArray.size * k.toNat ≤ sizeLine := by rw [List.size_toArray, hn]; exact hz
      have hcap : ¬ its.toArray.size * k.toNat > (2 ^ 63 - 1) / 8 := by
        rw [sizeLine_eq] at hlen
        have : (16777216 : Nat) ≤ (2 ^ 63 - 1) / 8 := by decide
        omega
      have hfit : ¬ (!Builtin.List.listFitsIndex k) = true := by
        rw [fitsIndex_both h1 h2]; exact Bool.false_ne_true
      have hlong : ¬ Builtin.List.listTooLong (its.toArray.size * k.toNat) = true := by
        rw [notLongL hlen]; exact Bool.false_ne_true
      have hnew : List.foldl (fun x1 x2 => x1 ++ x2) #[] (List.replicate (if its.toArray.isEmpty = true then 0 else k.toNat) its.toArray) = (List.replicate k.toNat its).flatten.toArray := by
        have f0 : ∀ m : Nat, List.foldl (fun x1 x2 => x1 ++ x2) #[] (List.replicate m its.toArray) = (List.replicate m its).flatten.toArray := fun m => by
          have := foldl_rep its m []
          rw [List.nil_append] at this
          exact this
        rw [f0]
        cases its with
        | nil => simp
        | cons a r' => rw [if_neg (by simp)]
      have hzv : (List.replicate k.toNat vs).flatten.length ≤ sizeLine := by
        rw [PyProof.Rows.lm_len_rep_flat, hvs.length, Nat.mul_comm]; exact hz
      refine wpAny_binaryOp_repeat_ref (T := "list") (U := "int") (by decide) ⟨_, g, rfl⟩ (fun s' => typeIs_int s' k t) noFill_list_mul F.fills_int_mul F.slot_int_rmul repeat_list F.slot_int_index.lookup
        (call_meets F.slot_int_rmul (typeIs_int s k t) F.entry_int_rmul (F.args_int_rmul_2 _ _) (int___rmul___int_list k t l its.toArray n)
          ⟨g, rfl, ⟨_, g, rfl⟩, call_meets F.slot_list_mul ⟨_, g, rfl⟩ F.entry_list_mul (F.args_list_mul_2 _ _) (AutoListH.list___mul___list_int_3 l its.toArray n k t hfit hcap hlong) ⟨g, ?_⟩⟩)
      rw [hnew]
      exact ⟨.ref _, _, I.lnew (t' := s.toks) (r.rep k.toNat) hzv, rfl, h _ _ _ (Step.new e I.fresh _) (.lst (SqX.of upd_same) ((hvs.rep k.toNat).mono (Step.new e I.fresh (.lst (List.replicate k.toNat vs).flatten)).sg))⟩
    · cases hd
  | str p =>
    cases b <;> simp only [mulD, reduceCtorEq] at hd
    rename_i k
    split at hd
    · rename_i hc
      obtain ⟨hB, hz⟩ := hc
      obtain ⟨h1, h2⟩ := inB63 hB
      cases hd; cases ra.str_inv; cases rb.int_inv
      obtain ⟨t, rfl⟩ := rx
      obtain ⟨t', rfl⟩ := ry
      have hb1 : (decide (k < -(2 ^ 63 : Int)) || decide (k ≥ 2 ^ 63)) = false := by
        rw [decide_eq_false (by omega), decide_eq_false (by omega)]; rfl
      have e0 : p.length * k.toNat ≤ 16777216 := by rw [← sizeLine_eq]; exact hz
      have e1 : ((p.length * k.toNat : Nat) : Int) ≤ 16777216 := Int.ofNat_le.mpr e0
      rw [Int.natCast_mul] at e1
      refine PySem.P.mul_str hb1 (fun hn hk => ?_) (fun hn hk => ?_) ?_
      · intro hgt
        have hk0 : 0 < k := by omega
        have hx : (p.length : Int) * k ≤ 16777216 := by
          have : ((k.toNat : Nat) : Int) = k := by omega
          rw [this] at e1; exact e1
        have h3 : (p.length : Int) ≤ (2 ^ 63 - 1) / k := by
          rw [Int.le_ediv_iff_mul_le hk0]
          omega
        omega
      · exact decide_eq_false (Nat.not_lt.mpr hz)
      · by_cases hk : k < 1
        · rw [if_pos hk]
          have k0 : k.toNat = 0 := by omega
          have q := quiet_end e h (.str _)
          rw [k0] at q
          exact ⟨by decide, ⟨.str _, H, I.tok _, ⟨_, rfl⟩, q⟩⟩
        · rw [if_neg hk]
          by_cases hk2 : (k == 1 || p.length == 0) = true
          · rw [if_pos hk2]
            have er : repS p k.toNat = p := by
              rcases Bool.or_eq_true _ _ |>.mp hk2 with z | z
              · have : k = 1 := by simpa using z
                subst this
                unfold repS; rw [show (1 : Int).toNat = 1 from rfl]; simp [S]
              · have z0 : p.cps.toList = [] := by
                  have : p.cps.size = 0 := by simpa [Str.length] using z
                  apply List.eq_nil_of_length_eq_zero; simpa using this
                have ep : p = S [] := by rw [S_of p, z0]
                unfold repS; rw [z0, ep]
                simp [S]
            have q := quiet_end e h (.str _)
            rw [er] at q
            exact ⟨.str _, H, I, ⟨_, rfl⟩, q⟩
          · rw [if_neg hk2, rep_str]
            have q := quiet_end e h (.str _)
            refine ⟨?_, ⟨.str _, H, I.tok _, ⟨_, rfl⟩, q⟩⟩
            rw [repS_len]; exact hz
    · cases hd
  | _ => cases b <;> simp [mulD] at hd
end
end DL

namespace DL
open PySem PySem.Spec PyProof.Rows L2
variable [WW]

def ltD : D → D → Option D
  | .int i, .int j => some (.bool (decide (i < j)))
  | .str x, .str y => some (.bool (decide (x.cps.toList < y.cps.toList)))
  | _, _ => none
def gtD : D → D → Option D
  | .int i, .int j => some (.bool (decide (j < i)))
  | .str x, .str y => some (.bool (decide (y.cps.toList < x.cps.toList)))
  | _, _ => none
def leD : D → D → Option D
  | .int i, .int j => some (.bool (decide (i ≤ j)))
  | _, _ => none
def geD : D → D → Option D
  | .int i, .int j => some (.bool (decide (j ≤ i)))
  | _, _ => none
/-- whether a value is among these -/
def hasD (xs : List D) (d : D) : Option D := if PyData.plainAll xs ∧ d.plain ∧ d.depth ≤ 60 then some (.bool (xs.any fun y => PyData.eqv y d)) else none
def inD : D → D → Option D
  | .str x, .str z => match x.cps.toList with
    | [c] => some (.bool (decide (c ∈ z.cps.toList)))
    | _ => none
  | d, .list xs => hasD xs d
  | d, .tuple xs => hasD xs d
  | _, _ => none
def notD : D → Option D
  | .bool b => some (.bool (!b))
  | _ => none
def notInD (a b : D) : Option D := (inD a b).bind notD
def isNone : D → Bool
  | .none => true
  | _ => false
def isNoneD (a : D) : Option D := some (.bool (isNone a))
def isNotNoneD (a : D) : Option D := some (.bool (!isNone a))
def lenD : List D → Option D
  | [.str x] => if x.length ≤ sizeLine then some (.int x.length) else none
  | [.list xs] => some (.int xs.length)
  | [.tuple xs] => some (.int xs.length)
  | _ => none
def absD : List D → Option D
  | [.int i] => some (.int (if i < 0 then -i else i))
  | _ => none
def max2D : List D → Option D
  | [.int i, .int j] => some (.int (if j > i then j else i))
  | _ => none
def min2D : List D → Option D
  | [.int i, .int j] => some (.int (if j < i then j else i))
  | _ => none
def intD : List D → Option D
  | [.int i] => some (.int i)
  | [.bool b] => some (.int (if b then 1 else 0))
  | _ => none
def ixD : D → D → Option D
  | .list xs, .int i => atI xs i
  | .tuple xs, .int i => atI xs i
  | .str z, .int i => if z.length ≤ sizeLine then (atI z.cps.toList i).map fun c => .str (S [c]) else none
  | _, _ => none
def cutD (xs : List D) (lo hi : Option Int) : List D := (xs.drop (HT.sIx xs.length 0 lo)).take (HT.sIx xs.length xs.length hi - HT.sIx xs.length 0 lo)
def slD : D → Option Int → Option Int → Option D
  | .list xs, lo, hi => some (.list (cutD xs lo hi))
  | .tuple xs, lo, hi => some (.tuple (cutD xs lo hi))
  | .str z, lo, hi => if z.length ≤ sizeLine then some (.str (cutS z lo hi)) else none
  | _, _, _ => none

section
variable {X : Cx}
theorem pair_inv {K : Fg} {G : Hp} {xs : List V} {a b : D} (h : Reps K G xs [a, b]) : ∃ x y, xs = [x, y] ∧ Rep K G x a ∧ Rep K G y b := by
  cases h with | cons h1 t => cases t with | cons h2 t => cases t; exact ⟨_, _, rfl, h1, h2⟩
theorem one_inv {K : Fg} {G : Hp} {xs : List V} {a : D} (h : Reps K G xs [a]) : ∃ x, xs = [x] ∧ Rep K G x a := by
  cases h with | cons h1 t => cases t; exact ⟨_, rfl, h1⟩
theorem od_lt : OpR X (compareOp .Lt) (rD X.K ltD) := by
  intro pins s σ H x y v u Q I rx ry ⟨G, a, b, d, e, ra, rb, hd, h⟩
  cases a <;> cases b <;> simp only [ltD, reduceCtorEq, Option.some.injEq] at hd
  · cases hd; cases ra.int_inv; cases rb.int_inv
    obtain ⟨t, rfl⟩ := rx
    obtain ⟨t', rfl⟩ := ry
    exact lt_int ⟨.bl _, H, I, rfl, quiet_end e h (.bl _)⟩
  · cases hd; cases ra.str_inv; cases rb.str_inv
    exact op_lt_str pins s σ H _ _ v u Q I rx ry ⟨_, _, rfl, rfl, quiet_end e h (.bl _)⟩
theorem od_gt : OpR X (compareOp .Gt) (rD X.K gtD) := by
  intro pins s σ H x y v u Q I rx ry ⟨G, a, b, d, e, ra, rb, hd, h⟩
  cases a <;> cases b <;> simp only [gtD, reduceCtorEq, Option.some.injEq] at hd
  · cases hd; cases ra.int_inv; cases rb.int_inv
    obtain ⟨t, rfl⟩ := rx
    obtain ⟨t', rfl⟩ := ry
    exact gt_int ⟨.bl _, H, I, rfl, quiet_end e h (.bl _)⟩
  · cases hd; cases ra.str_inv; cases rb.str_inv
    exact op_gt_str pins s σ H _ _ v u Q I rx ry ⟨_, _, rfl, rfl, quiet_end e h (.bl _)⟩
theorem od_le : OpR X (compareOp .LtE) (rD X.K leD) := by
  intro pins s σ H x y v u Q I rx ry ⟨G, a, b, d, e, ra, rb, hd, h⟩
  cases a <;> cases b <;> simp only [leD, reduceCtorEq, Option.some.injEq] at hd
  cases hd; cases ra.int_inv; cases rb.int_inv
  obtain ⟨t, rfl⟩ := rx
  obtain ⟨t', rfl⟩ := ry
  exact le_int ⟨.bl _, H, I, rfl, quiet_end e h (.bl _)⟩
theorem od_ge : OpR X (compareOp .GtE) (rD X.K geD) := by
  intro pins s σ H x y v u Q I rx ry ⟨G, a, b, d, e, ra, rb, hd, h⟩
  cases a <;> cases b <;> simp only [geD, reduceCtorEq, Option.some.injEq] at hd
  cases hd; cases ra.int_inv; cases rb.int_inv
  obtain ⟨t, rfl⟩ := rx
  obtain ⟨t', rfl⟩ := ry
  exact ge_int ⟨.bl _, H, I, rfl, quiet_end e h (.bl _)⟩
theorem units_dep {A : Around} {k m n : Nat} (hr : Room k A) (h : m ≤ 60) : A.units + 1 + min n m < cLine := by
  have h1 := hr.units
  have h2 := Nat.min_le_right n m
  omega
theorem units_dep' {A : Around} {k m n : Nat} (hr : Room k A) (h : m ≤ 60) : A.units + min m n < cLine := by
  have h1 := hr.units
  have h2 := Nat.min_le_left m n
  omega
theorem od_eq (O : Okc X) : OpR X (compareOp .Eq) (rD X.K eqD) := by
  intro pins s σ H x y v u Q I rx ry ⟨G, a, b, d, e, ra, rb, hd, h⟩
  unfold eqD at hd
  split at hd
  · rename_i hc
    cases hd
    obtain ⟨as, q1⟩ := Rep.reads I e a x v hc.1 ra rx
    obtain ⟨bs, q2⟩ := Rep.reads I e b y u hc.2.1 rb ry
    exact PySem.SeqAt.eq_plain q1 q2 hc.1 hc.2.1 (units_dep' O.hr hc.2.2) ⟨.bl _, H, I, rfl, quiet_end e h (.bl _)⟩
  · cases hd
theorem od_ne (O : Okc X) : OpR X (compareOp .NotEq) (rD X.K neD) := by
  intro pins s σ H x y v u Q I rx ry ⟨G, a, b, d, e, ra, rb, hd, h⟩
  unfold neD at hd
  split at hd
  · rename_i hc
    cases hd
    obtain ⟨as, q1⟩ := Rep.reads I e a x v hc.1 ra rx
    obtain ⟨bs, q2⟩ := Rep.reads I e b y u hc.2.1 rb ry
    exact PySem.SeqAt.ne_plain q1 q2 hc.1 hc.2.1 (units_dep' O.hr hc.2.2) ⟨.bl _, H, I, rfl, quiet_end e h (.bl _)⟩
  · cases hd
theorem sign_of {x : Str} {c : Nat} (h : x.cps.toList = [c]) : x = ⟨#[c]⟩ := by
  rw [S_of x, h]
theorem od_in (O : Okc X) : OpR X (compareOp .In) (rD X.K inD) := by
  intro pins s σ H x y v u Q I rx ry ⟨G, a, b, d, e, ra, rb, hd, h⟩
  cases b with
  | str z =>
    cases a <;> simp only [inD, reduceCtorEq] at hd
    split at hd
    · rename_i c hc
      cases hd; cases ra.str_inv; cases rb.str_inv
      cases sign_of hc
      exact op_in_sign pins s σ H _ _ v u Q I rx ry ⟨c, z, rfl, rfl, quiet_end e h (.bl _)⟩
    · cases hd
  | list xs =>
    have hd : hasD xs a = some d := by cases a <;> exact hd
    unfold hasD at hd
    split at hd
    · rename_i hc
      cases hd
      obtain ⟨as, q1⟩ := Rep.reads I e a x v hc.2.1 ra rx
      obtain ⟨bs, q2⟩ := Rep.reads I e (.list xs) y u (by simpa only [PyData.plain] using hc.1) rb ry
      exact PySem.SeqAt.in_list_data q2 q1 hc.1 hc.2.1 (units_dep O.hr hc.2.2) ⟨.bl _, H, I, rfl, quiet_end e h (.bl _)⟩
    · cases hd
  | tuple xs =>
    have hd : hasD xs a = some d := by cases a <;> exact hd
    unfold hasD at hd
    split at hd
    · rename_i hc
      cases hd
      obtain ⟨as, q1⟩ := Rep.reads I e a x v hc.2.1 ra rx
      obtain ⟨bs, q2⟩ := Rep.reads I e (.tuple xs) y u (by simpa only [PyData.plain] using hc.1) rb ry
      exact PySem.SeqAt.in_tuple_data q2 q1 hc.1 hc.2.1 (units_dep O.hr hc.2.2) ⟨.bl _, H, I, rfl, quiet_end e h (.bl _)⟩
    · cases hd
  | _ => cases a <;> simp [inD] at hd
theorem od_notin (O : Okc X) : OpR X (compareOp .NotIn) (rD X.K notInD) := by
  intro pins s σ H x y v u Q I rx ry ⟨G, a, b, d, e, ra, rb, hd, h⟩
  unfold notInD at hd
  cases b with
  | str z =>
    cases a <;> simp only [inD, reduceCtorEq, Option.bind_none] at hd
    split at hd
    · rename_i c hc
      cases hd; cases ra.str_inv; cases rb.str_inv
      cases sign_of hc
      exact op_notIn_sign pins s σ H _ _ v u Q I rx ry ⟨c, z, rfl, rfl, quiet_end e h (.bl _)⟩
    · cases hd
  | list xs =>
    have hd : (hasD xs a).bind notD = some d := by cases a <;> exact hd
    unfold hasD at hd
    split at hd
    · rename_i hc
      cases hd
      obtain ⟨as, q1⟩ := Rep.reads I e a x v hc.2.1 ra rx
      obtain ⟨bs, q2⟩ := Rep.reads I e (.list xs) y u (by simpa only [PyData.plain] using hc.1) rb ry
      exact PySem.SeqAt.notIn_list_data q2 q1 hc.1 hc.2.1 (units_dep O.hr hc.2.2) ⟨.bl _, H, I, rfl, quiet_end e h (.bl _)⟩
    · cases hd
  | tuple xs =>
    have hd : (hasD xs a).bind notD = some d := by cases a <;> exact hd
    unfold hasD at hd
    split at hd
    · rename_i hc
      cases hd
      obtain ⟨as, q1⟩ := Rep.reads I e a x v hc.2.1 ra rx
      obtain ⟨bs, q2⟩ := Rep.reads I e (.tuple xs) y u (by simpa only [PyData.plain] using hc.1) rb ry
      exact PySem.SeqAt.notIn_tuple_data q2 q1 hc.1 hc.2.1 (units_dep O.hr hc.2.2) ⟨.bl _, H, I, rfl, quiet_end e h (.bl _)⟩
    · cases hd
  | _ => cases a <;> simp [inD] at hd
theorem cd_len : CallR X (.builtin "len") (rsD X.K lenD) := by
  intro pins s σ H xs us Q I r ⟨G, as, d, e, ra, hd, h⟩
  match as, hd with
  | [.str x], hd =>
    obtain ⟨w, rfl, r1⟩ := one_inv ra
    cases r1.str_inv
    simp only [lenD] at hd
    split at hd
    · rename_i hz
      cases hd
      exact call_len pins s σ H _ us Q I r ⟨_, _, rfl, ⟨hz, rfl⟩, quiet_end e h (.int _)⟩
    · cases hd
  | [.list ys], hd =>
    obtain ⟨w, rfl, r1⟩ := one_inv ra
    obtain ⟨a, vs, rfl, hq, hs⟩ := r1.lst_inv
    cases hd
    exact call_len pins s σ H _ us Q I r ⟨_, _, rfl, Or.inl ⟨vs, e.seq hq, hs.length.symm⟩, quiet_end e h (.int _)⟩
  | [.tuple ys], hd =>
    obtain ⟨w, rfl, r1⟩ := one_inv ra
    obtain ⟨a, vs, rfl, hq, hs⟩ := r1.tup_inv
    cases hd
    exact call_len pins s σ H _ us Q I r ⟨_, _, rfl, Or.inr ⟨vs, sqt_same e hq, hs.length.symm⟩, quiet_end e h (.int _)⟩
theorem cd_abs : CallR X (.builtin "abs") (rsD X.K absD) := by
  intro pins s σ H xs us Q I r ⟨G, as, d, e, ra, hd, h⟩
  match as, hd with
  | [.int i], hd =>
    obtain ⟨w, rfl, r1⟩ := one_inv ra
    cases r1.int_inv
    cases hd
    exact call_abs pins s σ H _ us Q I r ⟨_, rfl, quiet_end e h (.int _)⟩
theorem cd_int : CallR X (.type "int") (rsD X.K intD) := by
  intro pins s σ H xs us Q I r ⟨G, as, d, e, ra, hd, h⟩
  match as, hd with
  | [.int i], hd =>
    obtain ⟨w, rfl, r1⟩ := one_inv ra
    cases r1.int_inv
    cases hd
    exact call_int1 pins s σ H _ us Q I r (Or.inl ⟨_, rfl, quiet_end e h (.int _)⟩)
  | [.bool i], hd =>
    obtain ⟨w, rfl, r1⟩ := one_inv ra
    cases r1.bl_inv
    cases hd
    exact call_int1 pins s σ H _ us Q I r (Or.inr ⟨_, rfl, quiet_end e h (.int _)⟩)
theorem cd_max2 (O : Okc X) : CallR X (.builtin "max") (rsD X.K max2D) := by
  intro pins s σ H xs us Q I r ⟨G, as, d, e, ra, hd, h⟩
  match as, hd with
  | [.int i, .int j], hd =>
    obtain ⟨w, z, rfl, r1, r2⟩ := pair_inv ra
    cases r1.int_inv; cases r2.int_inv
    cases hd
    exact call_max2 O.calm pins s σ H _ us Q I r ⟨_, _, rfl, quiet_end e h (.int _)⟩
theorem cd_min2 (O : Okc X) : CallR X (.builtin "min") (rsD X.K min2D) := by
  intro pins s σ H xs us Q I r ⟨G, as, d, e, ra, hd, h⟩
  match as, hd with
  | [.int i, .int j], hd =>
    obtain ⟨w, z, rfl, r1, r2⟩ := pair_inv ra
    cases r1.int_inv; cases r2.int_inv
    cases hd
    exact call_min2 O.calm pins s σ H _ us Q I r ⟨_, _, rfl, quiet_end e h (.int _)⟩
theorem atI_of {K : Fg} {G : Hp} {vs : List V} {xs : List D} {i : Int} {d : D} (h : Reps K G vs xs) (e : atI xs i = some d) : ∃ v, atI vs i = some v ∧ Rep K G v d := by
  unfold atI at e ⊢
  rw [h.length]
  cases q : ixN xs.length i with
  | none => rw [q] at e; cases e
  | some j => rw [q] at e; exact h.get e
theorem id_ix : IxR X (rD X.K ixD) := by
  intro ve se pins s σ H x y v u Q I rx ry ⟨G, a, b, d, e, ra, rb, hd, h⟩ hsub
  cases a with
  | list xs =>
    cases b <;> simp only [ixD, reduceCtorEq] at hd
    cases rb.int_inv
    obtain ⟨l, vs, rfl, hq, hs⟩ := ra.lst_inv
    obtain ⟨w, hw, rw'⟩ := atI_of hs hd
    exact ix_list ve se pins s σ H _ _ v u Q I rx ry ⟨_, _, _, _, rfl, rfl, e.seq hq, hw, quiet_end e h rw'⟩ hsub
  | tuple xs =>
    cases b <;> simp only [ixD, reduceCtorEq] at hd
    cases rb.int_inv
    obtain ⟨l, vs, rfl, hq, hs⟩ := ra.tup_inv
    obtain ⟨w, hw, rw'⟩ := atI_of hs hd
    exact ix_tup ve se pins s σ H _ _ v u Q I rx ry ⟨_, _, _, _, rfl, rfl, sqt_same e hq, hw, quiet_end e h rw'⟩ hsub
  | str z =>
    cases b <;> simp only [ixD, reduceCtorEq] at hd
    split at hd
    · rename_i hz
      cases rb.int_inv; cases ra.str_inv
      obtain ⟨c, hc, rfl⟩ := Option.map_eq_some_iff.mp hd
      exact ix_str ve se pins s σ H _ _ v u Q I rx ry ⟨_, _, c, rfl, rfl, hz, hc, quiet_end e h (.str _)⟩ hsub
    · cases hd
  | _ => cases b <;> simp [ixD] at hd
theorem Reps.cut {K : Fg} {G : Hp} {vs : List V} {xs : List D} (h : Reps K G vs xs) (lo hi : Option Int) : Reps K G (cutV vs lo hi) (cutD xs lo hi) := by
  unfold cutV cutD
  rw [h.length]
  exact (h.drop _).take _
/-- a slice is slD on data -/
def rslD (K : Fg) : V → Option Int → Option Int → Hp → VK → Prop := fun x lo hi H Q => ∃ G a d, Same G H ∧ Rep K G x a ∧ slD a lo hi = some d ∧ ∀ v G' H', Step G H G' H' → Rep K G' v d → Q v H'
theorem sd_sl : SlR X (rslD X.K) := by
  intro pins s σ H x v vl vu lo hi sl Q I rx hs pl pu ⟨G, a, d, e, ra, hd, h⟩
  cases a with
  | list xs =>
    cases hd
    obtain ⟨l, vs, rfl, hq, hvs⟩ := ra.lst_inv
    refine sl_list pins s σ H _ v vl vu lo hi sl Q I rx hs pl pu ⟨_, _, rfl, e.seq hq, fun p hp => ?_⟩
    exact h _ _ _ (Step.new e hp _) (.lst (SqX.of upd_same) ((hvs.cut lo hi).mono (Step.new e hp (.lst (cutV vs lo hi))).sg))
  | tuple xs =>
    cases hd
    obtain ⟨l, vs, rfl, hq, hvs⟩ := ra.tup_d
    cases rx
    obtain ⟨its, r, ht, hz⟩ := I.tuple (sqt_same e hq.sqt)
    have hlen : its.toArray.size = vs.length := by rw [List.size_toArray]; exact r.length.symm
    refine ⟨"tuple", _, PyProof.Rows.slot_tuple_getitem.lookup, ht.typeIs, ?_⟩
    by_cases hw : HT.sIx vs.length 0 lo = 0 ∧ HT.sIx vs.length vs.length hi = vs.length
    · have ec : cutD xs lo hi = xs := by
        unfold cutD
        rw [← hvs.length, hw.1, hw.2, hvs.length]
        simp
      rw [ec] at h
      exact getItem_tuple_whole ht hs pl pu (by rw [hlen]; exact hw) ⟨.ref l, H, I, rfl, quiet_end e h (.tup hq hvs)⟩
    · refine HT.getItem_tuple_cut ht hs pl pu (by rw [hlen]; exact hw) ?_ (by rw [hlen]; exact hz)
      rw [hlen]
      have fr := I.hok.fresh (Nat.le_refl s.heap.objs.size)
      exact ⟨.ref s.heap.objs.size, _, lay_tup (tk := s.toks) I (fun _ _ z => z) (Nat.le_refl _) ((r.drop (HT.sIx vs.length 0 lo)).take (HT.sIx vs.length vs.length hi - HT.sIx vs.length 0 lo)) (Nat.le_trans (cutV_length vs lo hi) hz), rfl,
        h _ _ _ (Step.new e fr _) (.tup (SqD.of upd_same rfl) ((hvs.cut lo hi).mono (Step.new e fr (.frz (tupO _) (.tup (cutV vs lo hi)))).sg))⟩
  | str z =>
    simp only [slD] at hd
    split at hd
    · rename_i hz
      cases hd; cases ra.str_inv
      exact sl_str pins s σ H _ v vl vu lo hi sl Q I rx hs pl pu ⟨_, rfl, hz, quiet_end e h (.str _)⟩
    · cases hd
  | _ => simp [slD] at hd
end
end DL

namespace DL
open PySem PySem.Spec PyProof.Rows L2
variable [WW]

/-- what an expression computes: its data, the slots and boxes behind it -/
abbrev Fx := Row → Bxs → Option (D × Row × Bxs)
abbrev Ft := Row → Bxs → Option (Bool × Row × Bxs)
abbrev Fs := Row → Bxs → Option (List D × Row × Bxs)

/-- e computes f -/
def DE (X : Cx) (e : Expr) (f : Fx) : Prop := ∃ t, PE X e t ∧ ∀ (δ : List Addr) (F : Fm) (own : Nat → Addr) (G H : Hp) (ρ : Row) (γ : Bxs) (σ : L2.St) (d : D) (ρ' : Row) (γ' : Bxs) (Q : VK),
  Rel X.K δ F own G H ρ γ σ → f ρ γ = some (d, ρ', γ') → (∀ v G' H', Rel X.K δ F own G' H' ρ' γ' σ → Same G G' → Rep X.K G' v d → Q v H') → t σ H Q
/-- e, as a test, computes f -/
def DT (X : Cx) (e : Expr) (f : Ft) : Prop := ∃ t, PT X e t ∧ ∀ (δ : List Addr) (F : Fm) (own : Nat → Addr) (G H : Hp) (ρ : Row) (γ : Bxs) (σ : L2.St) (d : Bool) (ρ' : Row) (γ' : Bxs) (Q : Bool → Hp → Prop),
  Rel X.K δ F own G H ρ γ σ → f ρ γ = some (d, ρ', γ') → (∀ G' H', Rel X.K δ F own G' H' ρ' γ' σ → Same G G' → Q d H') → t σ H Q
def DW (X : Cx) (e : Expr) (f : Ft) : Prop := ∃ t, PW X e t ∧ ∀ (δ : List Addr) (F : Fm) (own : Nat → Addr) (G H : Hp) (ρ : Row) (γ : Bxs) (σ : L2.St) (d : Bool) (ρ' : Row) (γ' : Bxs) (Q : Bool → Hp → Prop),
  Rel X.K δ F own G H ρ γ σ → f ρ γ = some (d, ρ', γ') → (∀ G' H', Rel X.K δ F own G' H' ρ' γ' σ → Same G G' → Q d H') → t σ H Q
/-- some expressions in a row -/
def DA (X : Cx) (es : List Expr) (f : Fs) : Prop := ∃ t, PA X es t ∧ ∀ (δ : List Addr) (F : Fm) (own : Nat → Addr) (G H : Hp) (ρ : Row) (γ : Bxs) (σ : L2.St) (ds : List D) (ρ' : Row) (γ' : Bxs) (Q : List V → Hp → Prop),
  Rel X.K δ F own G H ρ γ σ → f ρ γ = some (ds, ρ', γ') → (∀ vs G' H', Rel X.K δ F own G' H' ρ' γ' σ → Same G G' → Reps X.K G' vs ds → Q vs H') → t σ H Q

def fC (d : D) : Fx := fun ρ γ => some (d, ρ, γ)
def fV (i : Nat) : Fx := fun ρ γ => match ρ[i]? with
  | some (.d x) => some (x, ρ, γ)
  | _ => none
def f1 (g : D → Option D) (fa : Fx) : Fx := fun ρ γ => (fa ρ γ).bind fun p => (g p.1).map fun z => (z, p.2)
def f2 (g : D → D → Option D) (fa fb : Fx) : Fx := fun ρ γ => (fa ρ γ).bind fun p => (fb p.2.1 p.2.2).bind fun q => (g p.1 q.1).map fun z => (z, q.2)
def fS (g : List D → Option D) (fa : Fs) : Fx := fun ρ γ => (fa ρ γ).bind fun p => (g p.1).map fun z => (z, p.2)
def fNil : Fs := fun ρ γ => some ([], ρ, γ)
def fCons (fa : Fx) (fr : Fs) : Fs := fun ρ γ => (fa ρ γ).bind fun p => (fr p.2.1 p.2.2).map fun q => (p.1 :: q.1, q.2)
def fIf (c : Ft) (fa fb : Fx) : Fx := fun ρ γ => (c ρ γ).bind fun p => if p.1 = true then fa p.2.1 p.2.2 else fb p.2.1 p.2.2
/-- truth -/
def truD : D → Option Bool
  | .none => some false
  | .bool b => some b
  | .int i => some (i != 0)
  | .str x => if x.length ≤ sizeLine then some (x.length != 0) else none
  | .list xs => some (!xs.isEmpty)
  | .tuple xs => some (!xs.isEmpty)
  | .dict _ => none
def fTru (fa : Fx) : Ft := fun ρ γ => (fa ρ γ).bind fun p => (truD p.1).map fun z => (z, p.2)
def fBl (fa : Fx) : Ft := fun ρ γ => (fa ρ γ).bind fun p => match p.1 with
  | .bool b => some (b, p.2)
  | _ => none
def fAndT (fa fb : Ft) : Ft := fun ρ γ => (fa ρ γ).bind fun p => if p.1 = true then fb p.2.1 p.2.2 else some (false, p.2)
def fOrT (fa fb : Ft) : Ft := fun ρ γ => (fa ρ γ).bind fun p => if p.1 = true then some (true, p.2) else fb p.2.1 p.2.2
def fNotT (fa : Ft) : Ft := fun ρ γ => (fa ρ γ).map fun p => (!p.1, p.2)
/-- a and b, a or b as values, a a bool -/
def fAnd (fa fb : Fx) : Fx := fun ρ γ => (fa ρ γ).bind fun p => match p.1 with
  | .bool true => fb p.2.1 p.2.2
  | .bool false => some (.bool false, p.2)
  | _ => none
def fOr (fa fb : Fx) : Fx := fun ρ γ => (fa ρ γ).bind fun p => match p.1 with
  | .bool false => fb p.2.1 p.2.2
  | .bool true => some (.bool true, p.2)
  | _ => none
def fNot (fa : Fx) : Fx := f1 notD fa
def fTup (fa : Fs) : Fx := fS (fun ds => if ds.length ≤ sizeLine then some (.tuple ds) else none) fa
def fLst (fa : Fs) : Fx := fS (fun ds => if ds.length ≤ sizeLine then some (.list ds) else none) fa
/-- parts of a slice -/
abbrev Fo := Row → Bxs → Option (Option Int × Row × Bxs)
def fNo : Fo := fun ρ γ => some (none, ρ, γ)
def fPt (fa : Fx) : Fo := fun ρ γ => (fa ρ γ).bind fun p => match p.1 with
  | .int i => some (some i, p.2)
  | _ => none
def fSl (fa : Fx) (fl fh : Fo) : Fx := fun ρ γ => (fa ρ γ).bind fun p => (fl p.2.1 p.2.2).bind fun q => (fh q.2.1 q.2.2).bind fun r => (slD p.1 q.1 r.1).map fun z => (z, r.2)

section
variable {X : Cx} {e a b c : Expr} {es : List Expr} {fa fb fc : Fx} {ft fu : Ft} {fs : Fs} {pos p : Pos}
theorem bind_some {α β : Type} {o : Option α} {f : α → Option β} {z : β} (h : o.bind f = some z) : ∃ y, o = some y ∧ f y = some z := Option.bind_eq_some_iff.mp h
theorem map_some {α β : Type} {o : Option α} {f : α → β} {z : β} (h : o.map f = some z) : ∃ y, o = some y ∧ f y = z := Option.map_eq_some_iff.mp h

theorem de_const {v : V} {d : D} (h : PE X e (tC v)) (r : ∀ G : Hp, Rep X.K G v d) : DE X e (fC d) :=
  ⟨_, h, fun δ F own G H ρ γ σ d' ρ' γ' Q R e k => by cases e; exact k _ G H R (Same.refl _) (r G)⟩
theorem de_int {i : Int} {j : Nat} : DE X (.Constant (.int i) j pos) (fC (.int i)) := de_const pe_int fun _ => .int _
theorem de_bl {i : Bool} {j : Nat} : DE X (.Constant (.bool i) j pos) (fC (.bool i)) := de_const pe_bl fun _ => .bl _
theorem de_str {i : Str} {j : Nat} : DE X (.Constant (.str i) j pos) (fC (.str i)) := de_const pe_str fun _ => .str _
theorem de_non {j : Nat} : DE X (.Constant .none j pos) (fC .none) := de_const pe_non fun _ => .non
theorem de_var {i : Nat} {x : Str} (h : PE X (.Name x pos) (tVar i)) : DE X (.Name x pos) (fV i) := by
  refine ⟨_, h, fun δ F own G H ρ γ σ d ρ' γ' Q R e k => ?_⟩
  unfold fV at e
  split at e
  · rename_i y hy
    cases e
    obtain ⟨v, hv, r⟩ := R.slot i _ hy
    exact ⟨v, hv, k v G H R (Same.refl _) r⟩
  · cases e
theorem de_bin {op : Operator} {g : D → D → Option D} (ho : OpR X (binaryOp op) (rD X.K g)) (ha : DE X a fa) (hb : DE X b fb) : DE X (.BinOp a op b pos) (f2 g fa fb) := by
  obtain ⟨ta, pa, qa⟩ := ha
  obtain ⟨tb, pb, qb⟩ := hb
  refine ⟨_, pe_op ho pa pb, fun δ F own G H ρ γ σ d ρ' γ' Q R e k => ?_⟩
  obtain ⟨⟨x, ρ1, γ1⟩, e1, e⟩ := bind_some e
  obtain ⟨⟨y, ρ2, γ2⟩, e2, e⟩ := bind_some e
  obtain ⟨z, e3, e⟩ := map_some e
  cases e
  refine qa δ F own G H ρ γ σ x _ _ _ R e1 fun v G1 H1 R1 s1 r1 => qb δ F own G1 H1 _ _ σ y _ _ _ R1 e2 fun u G2 H2 R2 s2 r2 => ?_
  exact ⟨G2, x, y, d, R2.sub, r1.mono s2, r2, e3, fun w G' H' st r => k w G' H' (R2.step st) ((s1.trans s2).trans st.sg) r⟩
theorem de_cmp {op : CmpOp} {g : D → D → Option D} (ho : OpR X (compareOp op) (rD X.K g)) (ha : DE X a fa) (hb : DE X b fb) (hm : behindInMarks op b = false := by first | exact nobehind _ (by decide) (by decide) | rfl) : DE X (.Compare a [op] [b] pos) (f2 g fa fb) := by
  obtain ⟨ta, pa, qa⟩ := ha
  obtain ⟨tb, pb, qb⟩ := hb
  refine ⟨_, pe_cmpR ho pa pb hm, fun δ F own G H ρ γ σ d ρ' γ' Q R e k => ?_⟩
  obtain ⟨⟨x, ρ1, γ1⟩, e1, e⟩ := bind_some e
  obtain ⟨⟨y, ρ2, γ2⟩, e2, e⟩ := bind_some e
  obtain ⟨z, e3, e⟩ := map_some e
  cases e
  refine qa δ F own G H ρ γ σ x _ _ _ R e1 fun v G1 H1 R1 s1 r1 => qb δ F own G1 H1 _ _ σ y _ _ _ R1 e2 fun u G2 H2 R2 s2 r2 => ?_
  exact ⟨G2, x, y, d, R2.sub, r1.mono s2, r2, e3, fun w G' H' st r => k w G' H' (R2.step st) ((s1.trans s2).trans st.sg) r⟩
theorem de_isN {j : Nat} {p' : Pos} (ha : DE X a fa) : DE X (.Compare a [.Is] [.Constant .none j p'] pos) (f1 isNoneD fa) := by
  obtain ⟨ta, pa, qa⟩ := ha
  refine ⟨_, pe_cmp (pc_isN pa) rfl, fun δ F own G H ρ γ σ d ρ' γ' Q R e k => ?_⟩
  obtain ⟨⟨x, ρ1, γ1⟩, e1, e⟩ := bind_some e
  obtain ⟨z, e3, e⟩ := map_some e
  cases e
  refine qa δ F own G H ρ γ σ x _ _ _ R e1 fun v G1 H1 R1 s1 r1 => k _ G1 H1 R1 s1 ?_
  cases e3
  have : decide (v = V.non) = isNone x := by cases r1 <;> simp [isNone]
  rw [this]
  exact .bl _
theorem de_notN {j : Nat} {p' : Pos} (ha : DE X a fa) : DE X (.Compare a [.IsNot] [.Constant .none j p'] pos) (f1 isNotNoneD fa) := by
  obtain ⟨ta, pa, qa⟩ := ha
  refine ⟨_, pe_cmp (pc_notN pa) rfl, fun δ F own G H ρ γ σ d ρ' γ' Q R e k => ?_⟩
  obtain ⟨⟨x, ρ1, γ1⟩, e1, e⟩ := bind_some e
  obtain ⟨z, e3, e⟩ := map_some e
  cases e
  refine qa δ F own G H ρ γ σ x _ _ _ R e1 fun v G1 H1 R1 s1 r1 => k _ G1 H1 R1 s1 ?_
  cases e3
  have : (!decide (v = V.non)) = (!isNone x) := by cases r1 <;> simp [isNone]
  rw [this]
  exact .bl _
theorem de_neg (ha : DE X a fa) : DE X (.UnaryOp .USub a pos) (f1 negD fa) := by
  obtain ⟨ta, pa, qa⟩ := ha
  refine ⟨_, pe_un un_neg pa, fun δ F own G H ρ γ σ d ρ' γ' Q R e k => ?_⟩
  obtain ⟨⟨x, ρ1, γ1⟩, e1, e⟩ := bind_some e
  obtain ⟨z, e3, e⟩ := map_some e
  cases e
  refine qa δ F own G H ρ γ σ x _ _ _ R e1 fun v G1 H1 R1 s1 r1 => ?_
  cases x <;> simp only [negD, reduceCtorEq, Option.some.injEq] at e3
  cases e3; cases r1.int_inv
  exact ⟨_, rfl, k _ G1 H1 R1 s1 (.int _)⟩
theorem da_nil : DA X [] fNil := ⟨_, pa_nil, fun δ F own G H ρ γ σ d ρ' γ' Q R e k => by cases e; exact k _ G H R (Same.refl _) .nil⟩
theorem da_cons (ha : DE X e fa) (hr : DA X es fs) (hs : starEach (e :: es) X.env = (false, eval e X.env) :: starEach es X.env := by rfl) : DA X (e :: es) (fCons fa fs) := by
  obtain ⟨ta, pa, qa⟩ := ha
  obtain ⟨tb, pb, qb⟩ := hr
  refine ⟨_, pa_cons pa pb hs, fun δ F own G H ρ γ σ d ρ' γ' Q R e k => ?_⟩
  obtain ⟨⟨x, ρ1, γ1⟩, e1, e⟩ := bind_some e
  obtain ⟨⟨y, ρ2, γ2⟩, e2, e⟩ := map_some e
  cases e
  refine qa δ F own G H ρ γ σ x _ _ _ R e1 fun v G1 H1 R1 s1 r1 => qb δ F own G1 H1 _ _ σ y _ _ _ R1 e2 fun u G2 H2 R2 s2 r2 => ?_
  exact k _ G2 H2 R2 (s1.trans s2) (.cons (r1.mono s2) r2)
/-- a tuple display, its object known -/
def tTupF (t : TA) : TE := fun σ H Q => t σ H fun xs H1 => xs.length ≤ sizeLine ∧ ∀ p us, H1 p = none → Q (.ref p) (upd H1 p (.frz (tupO us) (.tup xs)))
theorem pe_tupF {x1 : Nat} {t : TA} (h : PA X es t) : PE X (.Tuple es x1 pos) (tTupF t) := by
  refine ⟨fun pins s σ H Q I hq => ?_⟩
  refine wpAny_Tuple_spliced (thn (h.run pos pins s σ H _ I hq) fun us s1 ⟨xs, H1, I1, r, z, q⟩ => ⟨by rw [← r.length]; exact z, ?_⟩)
  exact ⟨.ref s1.heap.objs.size, _, lay_tup (tk := s1.toks) I1 (fun _ _ z => z) (Nat.le_refl _) r z, rfl, q _ us (I1.hok.fresh (Nat.le_refl _))⟩
theorem de_tup {k' : Nat} (h : DA X es fs) : DE X (.Tuple es k' pos) (fTup fs) := by
  obtain ⟨ta, pa, qa⟩ := h
  refine ⟨_, pe_tupF pa, fun δ F own G H ρ γ σ d ρ' γ' Q R e k => ?_⟩
  obtain ⟨⟨x, ρ1, γ1⟩, e1, e⟩ := bind_some e
  obtain ⟨z, e3, e⟩ := map_some e
  cases e
  dsimp only at e3
  split at e3
  · rename_i hz
    cases e3
    refine qa δ F own G H ρ γ σ x _ _ _ R e1 fun v G1 H1 R1 s1 r1 => ⟨by rw [r1.length]; exact hz, fun p us hp => ?_⟩
    have st := Step.new R1.sub hp (.frz (tupO us) (.tup v))
    exact k _ _ _ (R1.step st) (s1.trans st.sg) (.tup (SqD.of upd_same rfl) (r1.mono st.sg))
  · cases e3
theorem de_lst (h : DA X es fs) : DE X (.List es pos) (fLst fs) := by
  obtain ⟨ta, pa, qa⟩ := h
  refine ⟨_, pe_lst pa, fun δ F own G H ρ γ σ d ρ' γ' Q R e k => ?_⟩
  obtain ⟨⟨x, ρ1, γ1⟩, e1, e⟩ := bind_some e
  obtain ⟨z, e3, e⟩ := map_some e
  cases e
  dsimp only at e3
  split at e3
  · rename_i hz
    cases e3
    refine qa δ F own G H ρ γ σ x _ _ _ R e1 fun v G1 H1 R1 s1 r1 => ⟨by rw [r1.length]; exact hz, fun p hp => ?_⟩
    have st := Step.new R1.sub hp (.lst v)
    exact k _ _ _ (R1.step st) (s1.trans st.sg) (.lst (SqX.of upd_same) (r1.mono st.sg))
  · cases e3
theorem de_ix (ha : DE X a fa) (hb : DE X b fb) (hs : PlainIx b := by exact fun _ _ => rfl) : DE X (.Subscript a b pos) (f2 ixD fa fb) := by
  obtain ⟨ta, pa, qa⟩ := ha
  obtain ⟨tb, pb, qb⟩ := hb
  refine ⟨_, pe_ix id_ix pa pb hs, fun δ F own G H ρ γ σ d ρ' γ' Q R e k => ?_⟩
  obtain ⟨⟨x, ρ1, γ1⟩, e1, e⟩ := bind_some e
  obtain ⟨⟨y, ρ2, γ2⟩, e2, e⟩ := bind_some e
  obtain ⟨z, e3, e⟩ := map_some e
  cases e
  refine qa δ F own G H ρ γ σ x _ _ _ R e1 fun v G1 H1 R1 s1 r1 => qb δ F own G1 H1 _ _ σ y _ _ _ R1 e2 fun u G2 H2 R2 s2 r2 => ?_
  exact ⟨G2, x, y, d, R2.sub, r1.mono s2, r2, e3, fun w G' H' st r => k w G' H' (R2.step st) ((s1.trans s2).trans st.sg) r⟩
/-- a built-in function, a built-in class -/
theorem de_callB {id : String} {x : Str} {g : List D → Option D} (hc : CallR X (.builtin id) (rsD X.K g)) (hg : Gl X x) (hm : X.mg x = none) (hv : bootBuiltins x = some (.builtin id)) (ha : DA X (e :: es) fs) (hn : x ≠ "__name__" := by decide) (hdb : (x == ("__debug__" : Str)) = false := by decide)
    (he : starEach (e :: es) X.env = (false, eval e X.env) :: starEach es X.env := by rfl) (hpl : (backTo pos (starEach es X.env)).any (·.1) = false := by rfl) : DE X (.Call (.Name x p) (e :: es) [] pos) (fS g fs) := by
  obtain ⟨ta, pa, qa⟩ := ha
  refine ⟨_, pe_callB hc hg hm hv pa hn hdb he hpl, fun δ F own G H ρ γ σ d ρ' γ' Q R e k => ?_⟩
  obtain ⟨⟨x, ρ1, γ1⟩, e1, e⟩ := bind_some e
  obtain ⟨z, e3, e⟩ := map_some e
  cases e
  refine qa δ F own G H ρ γ σ x _ _ _ R e1 fun v G1 H1 R1 s1 r1 => ?_
  exact ⟨G1, x, d, R1.sub, r1, e3, fun w G' H' st r => k w G' H' (R1.step st) (s1.trans st.sg) r⟩
theorem de_callT {T : String} {x : Str} {g : List D → Option D} (hc : CallR X (.type T) (rsD X.K g)) (hg : Gl X x) (hm : X.mg x = none) (hv : bootBuiltins x = some (.type T)) (ha : DA X (e :: es) fs) (hn : x ≠ "__name__" := by decide) (hdb : (x == ("__debug__" : Str)) = false := by decide)
    (he : starEach (e :: es) X.env = (false, eval e X.env) :: starEach es X.env := by rfl) (hpl : (backTo pos (starEach es X.env)).any (·.1) = false := by rfl) : DE X (.Call (.Name x p) (e :: es) [] pos) (fS g fs) := by
  obtain ⟨ta, pa, qa⟩ := ha
  refine ⟨_, pe_callTy hc hg hm hv pa hn hdb he hpl, fun δ F own G H ρ γ σ d ρ' γ' Q R e k => ?_⟩
  obtain ⟨⟨x, ρ1, γ1⟩, e1, e⟩ := bind_some e
  obtain ⟨z, e3, e⟩ := map_some e
  cases e
  refine qa δ F own G H ρ γ σ x _ _ _ R e1 fun v G1 H1 R1 s1 r1 => ?_
  exact ⟨G1, x, d, R1.sub, r1, e3, fun w G' H' st r => k w G' H' (R1.step st) (s1.trans st.sg) r⟩

theorem dt_tru (ha : DE X a fa) (he : ∀ whole, isTrue a X.env whole = (do let v ← whole; standAt a.pos; holding [v] (truthy v)) := by intro _; rfl) : DT X a (fTru fa) := by
  obtain ⟨ta, pa, qa⟩ := ha
  refine ⟨_, pt_truth pa he, fun δ F own G H ρ γ σ d ρ' γ' Q R e k => ?_⟩
  obtain ⟨⟨x, ρ1, γ1⟩, e1, e⟩ := bind_some e
  obtain ⟨z, e3, e⟩ := map_some e
  cases e
  refine qa δ F own G H ρ γ σ x _ _ _ R e1 fun v G1 H1 R1 s1 r1 => ⟨d, ?_, k G1 H1 R1 s1⟩
  cases x with
  | none => cases r1.non_inv; cases e3; rfl
  | bool b => cases r1.bl_inv; cases e3; rfl
  | int i => cases r1.int_inv; cases e3; rfl
  | str y =>
    cases r1.str_inv
    simp only [truD] at e3
    split at e3
    · rename_i hz
      cases e3
      refine ⟨hz, ?_⟩
      cases y.length <;> rfl
    · cases e3
  | list ys =>
    obtain ⟨l, vs, rfl, hq, hs⟩ := r1.lst_inv
    cases e3
    refine Or.inl ⟨vs, R1.sub.seq hq, ?_⟩
    cases hs <;> rfl
  | tuple ys =>
    obtain ⟨l, vs, rfl, hq, hs⟩ := r1.tup_inv
    cases e3
    refine Or.inr (Or.inl ⟨vs, sqt_same R1.sub hq, ?_⟩)
    cases hs <;> rfl
  | dict kvs => cases e3
/-- a comparison, as a test -/
theorem dt_val (ha : DE X a fa) (he : ∀ whole, isTrue a X.env whole = (do let v ← whole; standAt a.pos; holding [v] (truthy v)) := by intro _; rfl) : DT X a (fBl fa) := by
  obtain ⟨ta, pa, qa⟩ := ha
  refine ⟨_, pt_val pa he, fun δ F own G H ρ γ σ d ρ' γ' Q R e k => ?_⟩
  obtain ⟨⟨x, ρ1, γ1⟩, e1, e⟩ := bind_some e
  refine qa δ F own G H ρ γ σ x _ _ _ R e1 fun v G1 H1 R1 s1 r1 => ?_
  cases x <;> simp only [reduceCtorEq, Option.some.injEq] at e
  cases e; cases r1.bl_inv
  exact ⟨_, rfl, k G1 H1 R1 s1⟩
theorem dt_cmp {op : CmpOp} {g : D → D → Option D} (ho : OpR X (compareOp op) (rD X.K g)) (ha : DE X a fa) (hb : DE X b fb) (hm : behindInMarks op b = false := by first | exact nobehind _ (by decide) (by decide) | rfl) : DT X (.Compare a [op] [b] pos) (fBl (f2 g fa fb)) := by
  obtain ⟨ta, pa, qa⟩ := ha
  obtain ⟨tb, pb, qb⟩ := hb
  refine ⟨_, pt_cmpR ho pa pb hm, fun δ F own G H ρ γ σ d ρ' γ' Q R e k => ?_⟩
  obtain ⟨⟨z, ρ3, γ3⟩, e0, e⟩ := bind_some e
  obtain ⟨⟨x, ρ1, γ1⟩, e1, e0⟩ := bind_some e0
  obtain ⟨⟨y, ρ2, γ2⟩, e2, e0⟩ := bind_some e0
  obtain ⟨z', e3, e0⟩ := map_some e0
  cases e0
  cases z <;> simp only [reduceCtorEq, Option.some.injEq] at e
  cases e
  refine qa δ F own G H ρ γ σ x _ _ _ R e1 fun v G1 H1 R1 s1 r1 => qb δ F own G1 H1 _ _ σ y _ _ _ R1 e2 fun u G2 H2 R2 s2 r2 => ?_
  refine ⟨G2, x, y, _, R2.sub, r1.mono s2, r2, e3, fun w G' H' st r => ?_⟩
  cases r.bl_inv
  exact ⟨_, rfl, k G' H' (R2.step st) ((s1.trans s2).trans st.sg)⟩
theorem dw_and1 (ha : DT X a ft) : DW X (.BoolOp .And [a] pos) ft := by
  obtain ⟨ta, pa, qa⟩ := ha
  exact ⟨_, pw_and1 pa, qa⟩
theorem dw_or1 (ha : DT X a ft) : DW X (.BoolOp .Or [a] pos) ft := by
  obtain ⟨ta, pa, qa⟩ := ha
  exact ⟨_, pw_or1 pa, qa⟩
theorem dw_and (ha : DT X a ft) (hb : DW X (.BoolOp .And (b :: es) pos) fu) : DW X (.BoolOp .And (a :: b :: es) pos) (fAndT ft fu) := by
  obtain ⟨ta, pa, qa⟩ := ha
  obtain ⟨tb, pb, qb⟩ := hb
  refine ⟨_, pw_and pa pb, fun δ F own G H ρ γ σ d ρ' γ' Q R e k => ?_⟩
  obtain ⟨⟨x, ρ1, γ1⟩, e1, e⟩ := bind_some e
  refine qa δ F own G H ρ γ σ x _ _ _ R e1 fun G1 H1 R1 s1 => ?_
  cases x with
  | true => exact iteT (qb δ F own G1 H1 _ _ σ d ρ' γ' _ R1 e fun G2 H2 R2 s2 => k G2 H2 R2 (s1.trans s2))
  | false => cases e; exact iteF (k G1 H1 R1 s1)
theorem dw_or (ha : DT X a ft) (hb : DW X (.BoolOp .Or (b :: es) pos) fu) : DW X (.BoolOp .Or (a :: b :: es) pos) (fOrT ft fu) := by
  obtain ⟨ta, pa, qa⟩ := ha
  obtain ⟨tb, pb, qb⟩ := hb
  refine ⟨_, pw_or pa pb, fun δ F own G H ρ γ σ d ρ' γ' Q R e k => ?_⟩
  obtain ⟨⟨x, ρ1, γ1⟩, e1, e⟩ := bind_some e
  refine qa δ F own G H ρ γ σ x _ _ _ R e1 fun G1 H1 R1 s1 => ?_
  cases x with
  | false => exact iteF (qb δ F own G1 H1 _ _ σ d ρ' γ' _ R1 e fun G2 H2 R2 s2 => k G2 H2 R2 (s1.trans s2))
  | true => cases e; exact iteT (k G1 H1 R1 s1)
theorem dt_w (h : DW X a ft) : DT X a ft := by
  obtain ⟨ta, pa, qa⟩ := h
  exact ⟨_, pa.pt, qa⟩
theorem dt_not (ha : DT X a ft) : DT X (.UnaryOp .Not a pos) (fNotT ft) := by
  obtain ⟨ta, pa, qa⟩ := ha
  refine ⟨_, pt_not pa, fun δ F own G H ρ γ σ d ρ' γ' Q R e k => ?_⟩
  obtain ⟨⟨x, ρ1, γ1⟩, e1, e⟩ := map_some e
  cases e
  exact qa δ F own G H ρ γ σ x _ _ _ R e1 fun G1 H1 R1 s1 => k G1 H1 R1 s1
theorem de_if (hc : DT X c ft) (ha : DE X a fa) (hb : DE X b fb) : DE X (.IfExp c a b pos) (fIf ft fa fb) := by
  obtain ⟨tc, pc, qc⟩ := hc
  obtain ⟨ta, pa, qa⟩ := ha
  obtain ⟨tb, pb, qb⟩ := hb
  refine ⟨_, pe_ifExp pc pa pb, fun δ F own G H ρ γ σ d ρ' γ' Q R e k => ?_⟩
  obtain ⟨⟨x, ρ1, γ1⟩, e1, e⟩ := bind_some e
  refine qc δ F own G H ρ γ σ x _ _ _ R e1 fun G1 H1 R1 s1 => ?_
  cases x with
  | true => exact iteT (qa δ F own G1 H1 _ _ σ d ρ' γ' _ R1 e fun v G2 H2 R2 s2 r2 => k v G2 H2 R2 (s1.trans s2) r2)
  | false => exact iteF (qb δ F own G1 H1 _ _ σ d ρ' γ' _ R1 e fun v G2 H2 R2 s2 r2 => k v G2 H2 R2 (s1.trans s2) r2)
theorem de_one {op : BoolOp} (ha : DE X a fa) : DE X (.BoolOp op [a] pos) fa := by
  obtain ⟨ta, pa, qa⟩ := ha
  exact ⟨_, pe_one pa, qa⟩
theorem de_and (ha : DE X a fa) (hb : DE X (.BoolOp .And (b :: es) pos) fb) : DE X (.BoolOp .And (a :: b :: es) pos) (fAnd fa fb) := by
  obtain ⟨ta, pa, qa⟩ := ha
  obtain ⟨tb, pb, qb⟩ := hb
  refine ⟨_, pe_and pa pb, fun δ F own G H ρ γ σ d ρ' γ' Q R e k => ?_⟩
  obtain ⟨⟨x, ρ1, γ1⟩, e1, e⟩ := bind_some e
  refine qa δ F own G H ρ γ σ x _ _ _ R e1 fun v G1 H1 R1 s1 r1 => ?_
  split at e
  · rename_i hx
    have hx : x = .bool true := hx
    subst hx
    cases r1.bl_inv
    exact ⟨_, rfl, iteT (qb δ F own G1 H1 _ _ σ d ρ' γ' _ R1 e fun v G2 H2 R2 s2 r2 => k v G2 H2 R2 (s1.trans s2) r2)⟩
  · rename_i hx
    have hx : x = .bool false := hx
    subst hx
    cases r1.bl_inv
    cases e
    exact ⟨_, rfl, iteF (k _ G1 H1 R1 s1 (.bl _))⟩
  · cases e
theorem de_or (ha : DE X a fa) (hb : DE X (.BoolOp .Or (b :: es) pos) fb) : DE X (.BoolOp .Or (a :: b :: es) pos) (fOr fa fb) := by
  obtain ⟨ta, pa, qa⟩ := ha
  obtain ⟨tb, pb, qb⟩ := hb
  refine ⟨_, pe_or pa pb, fun δ F own G H ρ γ σ d ρ' γ' Q R e k => ?_⟩
  obtain ⟨⟨x, ρ1, γ1⟩, e1, e⟩ := bind_some e
  refine qa δ F own G H ρ γ σ x _ _ _ R e1 fun v G1 H1 R1 s1 r1 => ?_
  split at e
  · rename_i hx
    have hx : x = .bool false := hx
    subst hx
    cases r1.bl_inv
    exact ⟨_, rfl, iteF (qb δ F own G1 H1 _ _ σ d ρ' γ' _ R1 e fun v G2 H2 R2 s2 r2 => k v G2 H2 R2 (s1.trans s2) r2)⟩
  · rename_i hx
    have hx : x = .bool true := hx
    subst hx
    cases r1.bl_inv
    cases e
    exact ⟨_, rfl, iteT (k _ G1 H1 R1 s1 (.bl _))⟩
  · cases e
theorem de_not (ha : DE X a fa) : DE X (.UnaryOp .Not a pos) (fNot fa) := by
  obtain ⟨ta, pa, qa⟩ := ha
  refine ⟨_, pe_not pa, fun δ F own G H ρ γ σ d ρ' γ' Q R e k => ?_⟩
  obtain ⟨⟨x, ρ1, γ1⟩, e1, e⟩ := bind_some e
  obtain ⟨z, e3, e⟩ := map_some e
  cases e
  refine qa δ F own G H ρ γ σ x _ _ _ R e1 fun v G1 H1 R1 s1 r1 => ?_
  cases x <;> simp only [notD, reduceCtorEq, Option.some.injEq] at e3
  cases e3; cases r1.bl_inv
  exact ⟨_, rfl, k _ G1 H1 R1 s1 (.bl _)⟩

def DO (X : Cx) (e : Option Expr) (f : Fo) : Prop := ∃ t, PO X e t ∧ ∀ (δ : List Addr) (F : Fm) (own : Nat → Addr) (G H : Hp) (ρ : Row) (γ : Bxs) (σ : L2.St) (d : Option Int) (ρ' : Row) (γ' : Bxs) (Q : Option Int → Hp → Prop),
  Rel X.K δ F own G H ρ γ σ → f ρ γ = some (d, ρ', γ') → (∀ G' H', Rel X.K δ F own G' H' ρ' γ' σ → Same G G' → Q d H') → t σ H Q
theorem do_none : DO X none fNo := ⟨_, po_none, fun δ F own G H ρ γ σ d ρ' γ' Q R e k => by cases e; exact k G H R (Same.refl _)⟩
theorem do_some (ha : DE X a fa) : DO X (some a) (fPt fa) := by
  obtain ⟨ta, pa, qa⟩ := ha
  refine ⟨_, po_some pa, fun δ F own G H ρ γ σ d ρ' γ' Q R e k => ?_⟩
  obtain ⟨⟨x, ρ1, γ1⟩, e1, e⟩ := bind_some e
  refine qa δ F own G H ρ γ σ x _ _ _ R e1 fun v G1 H1 R1 s1 r1 => ?_
  cases x <;> simp only [reduceCtorEq, Option.some.injEq] at e
  cases e; cases r1.int_inv
  exact ⟨_, rfl, k G1 H1 R1 s1⟩
theorem de_sl {lo hi : Option Expr} {fl fh : Fo} {p2 : Pos} (ha : DE X a fa) (hl : DO X lo fl) (hh : DO X hi fh) : DE X (.Subscript a (.Slice lo hi none p2) pos) (fSl fa fl fh) := by
  obtain ⟨ta, pa, qa⟩ := ha
  obtain ⟨tl, pl, ql⟩ := hl
  obtain ⟨th, ph, qh⟩ := hh
  refine ⟨_, pe_slice sd_sl pa pl ph, fun δ F own G H ρ γ σ d ρ' γ' Q R e k => ?_⟩
  obtain ⟨⟨x, ρ1, γ1⟩, e1, e⟩ := bind_some e
  obtain ⟨⟨y, ρ2, γ2⟩, e2, e⟩ := bind_some e
  obtain ⟨⟨z, ρ3, γ3⟩, e3, e⟩ := bind_some e
  obtain ⟨w, e4, e⟩ := map_some e
  cases e
  refine qa δ F own G H ρ γ σ x _ _ _ R e1 fun v G1 H1 R1 s1 r1 => ql δ F own G1 H1 _ _ σ y _ _ _ R1 e2 fun G2 H2 R2 s2 => qh δ F own G2 H2 _ _ σ z _ _ _ R2 e3 fun G3 H3 R3 s3 => ?_
  exact ⟨G3, x, d, R3.sub, r1.mono (s2.trans s3), e4, fun w' G' H' st r => k w' G' H' (R3.step st) (((s1.trans s2).trans s3).trans st.sg) r⟩
end
end DL

namespace DL
open PySem PySem.Spec PyProof.Rows L2
variable [WW]

/-- how a statement ends -/
inductive Oc where
  | nx (ρ : Row) (γ : Bxs) | rt (s : Sl) (γ : Bxs) | bk (ρ : Row) (γ : Bxs) | ct (ρ : Row) (γ : Bxs)
abbrev Fst := Row → Bxs → Option Oc
/-- what is left when a def is left -/
structure Fin (K : Fg) (δ : List Addr) (F : Fm) (γ : Bxs) (G H : Hp) : Prop where
  wd : Wd K δ γ G H
  g0 : Same F.G G
  q0 : ∀ b, F.H b ≠ none → F.G b = none → G b = none
  h0 : ∀ b o, F.H b = some o → F.G b = none → b ∉ δ → Kpt o (H b)
theorem Rel.fin {K : Fg} {δ : List Addr} {F : Fm} {own : Nat → Addr} {G H : Hp} {ρ : Row} {γ : Bxs} {σ : L2.St} (r : Rel K δ F own G H ρ γ σ) : Fin K δ F γ G H := ⟨r.wd, r.g0, r.q0, r.h0⟩
/-- what is handed back: data, or a new list -/
def RetV (K : Fg) (δ : List Addr) (F : Fm) (G H : Hp) (v : V) : Sl → Prop
  | .d x => Rep K G v x
  | .ow c => ∃ p, v = .ref p ∧ G p = none ∧ p ∉ δ ∧ F.H p = none ∧ OwnOk K G H p c
  | _ => False
def EndOk (K : Fg) (δ : List Addr) (F : Fm) (G : Hp) (E : Ends) : Oc → Prop
  | .nx ρ γ => ∀ own G' H' σ, Rel K δ F own G' H' ρ γ σ → Same G G' → E.nx σ H'
  | .rt s γ => ∀ v G' H', Fin K δ F γ G' H' → RetV K δ F G' H' v s → E.rt v H'
  | .bk ρ γ => ∀ own G' H' σ, Rel K δ F own G' H' ρ γ σ → Same G G' → E.bk σ H'
  | .ct ρ γ => ∀ own G' H' σ, Rel K δ F own G' H' ρ γ σ → Same G G' → E.ct σ H'
theorem EndOk.mono {K : Fg} {δ : List Addr} {F : Fm} {G G1 : Hp} {E : Ends} (e : Same G G1) : ∀ {o : Oc}, EndOk K δ F G E o → EndOk K δ F G1 E o
  | .nx _ _, h => fun own G' H' σ r s => h own G' H' σ r (e.trans s)
  | .rt _ _, h => h
  | .bk _ _, h => fun own G' H' σ r s => h own G' H' σ r (e.trans s)
  | .ct _ _, h => fun own G' H' σ r s => h own G' H' σ r (e.trans s)

def DS (X : Cx) (st : Stmt) (f : Fst) : Prop := ∃ t, PS X st t ∧ ∀ (δ : List Addr) (F : Fm) (own : Nat → Addr) (G H : Hp) (ρ : Row) (γ : Bxs) (σ : L2.St) (o : Oc) (E : Ends),
  Rel X.K δ F own G H ρ γ σ → f ρ γ = some o → EndOk X.K δ F G E o → t E σ H
def DB (X : Cx) (sts : List Stmt) (f : Fst) : Prop := ∃ t, PSs X sts t ∧ ∀ (δ : List Addr) (F : Fm) (own : Nat → Addr) (G H : Hp) (ρ : Row) (γ : Bxs) (σ : L2.St) (o : Oc) (E : Ends),
  Rel X.K δ F own G H ρ γ σ → f ρ γ = some o → EndOk X.K δ F G E o → t E σ H

section
variable {K : Fg} {δ : List Addr} {F : Fm} {own : Nat → Addr} {G H : Hp} {ρ : Row} {γ : Bxs} {σ : L2.St}
theorem get_set_ne {α : Type} {l : List α} {i j : Nat} {x : α} (h : i ≠ j) : (l.set i x)[j]? = l[j]? := by
  rw [List.getElem?_set]; simp [h]
theorem get_set_eq {α : Type} {l : List α} {i : Nat} {x : α} (h : i < l.length) : (l.set i x)[i]? = some x := by
  rw [List.getElem?_set]; simp [h]
/-- data to slot i -/
theorem Rel.setD (r : Rel K δ F own G H ρ γ σ) {i : Nat} {v : V} {d : D} (h : Rep K G v d) : Rel K δ F own G H (ρ.set i (.d d)) γ (σ.set i (some v)) := by
  refine ⟨r.wd, r.g0, r.q0, r.h0, by rw [List.length_set, List.length_set]; exact r.len, fun j s hj => ?_, fun j xs hj => ?_, fun j k xs ys hj hk => ?_⟩
  · by_cases e : i = j
    · subst e
      have hl : i < ρ.length := by
        have := (List.getElem?_eq_some_iff.mp hj).1
        rw [List.length_set] at this; exact this
      rw [get_set_eq hl] at hj
      cases hj
      exact ⟨v, get_set_eq (by rw [← r.len]; exact hl), h⟩
    · rw [get_set_ne e] at hj ⊢
      exact r.slot j s hj
  · by_cases e : i = j
    · subst e
      have hl : i < ρ.length := by
        have := (List.getElem?_eq_some_iff.mp hj).1
        rw [List.length_set] at this; exact this
      rw [get_set_eq hl] at hj
      cases hj
    · rw [get_set_ne e] at hj
      exact r.ownd j xs hj
  · have hij : i ≠ j := fun e => by
      subst e
      have hl : i < ρ.length := by
        have := (List.getElem?_eq_some_iff.mp hj).1
        rw [List.length_set] at this; exact this
      rw [get_set_eq hl] at hj
      cases hj
    have hik : i ≠ k := fun e => by
      subst e
      have hl : i < ρ.length := by
        have := (List.getElem?_eq_some_iff.mp hk).1
        rw [List.length_set] at this; exact this
      rw [get_set_eq hl] at hk
      cases hk
    rw [get_set_ne hij] at hj
    rw [get_set_ne hik] at hk
    exact r.inj j k xs ys hj hk
/-- a list that is nobody's: what an own list is made of -/
structure Free (δ : List Addr) (F : Fm) (own : Nat → Addr) (G : Hp) (ρ : Row) (p : Addr) : Prop where
  g : G p = none
  d : p ∉ δ
  f : F.H p = none
  o : ∀ (j : Nat) (c : OC), ρ[j]? = some (.ow c) → own j ≠ p
theorem Rel.live (r : Rel K δ F own G H ρ γ σ) {p : Addr} (h : H p = none) : Free δ F own G ρ p := by
  refine ⟨r.sub.free h, fun z => r.wd.live z h, ?_, fun j xs hj e => ?_⟩
  · cases q : F.H p with
    | none => rfl
    | some o =>
      cases z : F.G p with
      | some u =>
        have := r.sub _ _ (r.g0 _ _ z)
        rw [h] at this; cases this
      | none =>
        by_cases hd : p ∈ δ
        · exact absurd h (r.wd.live hd)
        · exact absurd h (r.h0 p o q z hd).live
  · have h2 := (r.slot j _ hj).2.live
    rw [e] at h2
    exact h2 h
/-- an own list to slot i -/
theorem Rel.setC (r : Rel K δ F own G H ρ γ σ) {i : Nat} {p : Addr} {c : OC} (f : Free δ F own G ρ p) (hc : OwnOk K G H p c) :
    Rel K δ F (fun j => if j = i then p else own j) G H (ρ.set i (.ow c)) γ (σ.set i (some (.ref p))) := by
  have lt : ∀ {s : Sl} {j : Nat}, (ρ.set i s)[j]? ≠ none → j < ρ.length := fun {s j} h => by
    have := List.getElem?_eq_none_iff (l := ρ.set i s) (i := j)
    rw [List.length_set] at this
    exact Nat.lt_of_not_le fun z => h (this.mpr z)
  refine ⟨r.wd, r.g0, r.q0, r.h0, by rw [List.length_set, List.length_set]; exact r.len, fun j s hj => ?_, fun j xs hj => ?_, fun j k xs ys hj hk => ?_⟩
  · by_cases e : i = j
    · subst e
      have hl : i < ρ.length := lt (by rw [hj]; intro z; cases z)
      rw [get_set_eq hl] at hj
      cases hj
      rw [if_pos rfl]
      exact ⟨get_set_eq (by rw [← r.len]; exact hl), hc⟩
    · rw [get_set_ne e] at hj ⊢
      rw [if_neg (fun z => e z.symm)]
      exact r.slot j s hj
  · by_cases e : i = j
    · subst e
      rw [if_pos rfl]
      exact ⟨f.g, f.d, f.f⟩
    · rw [get_set_ne e] at hj
      rw [if_neg (fun z => e z.symm)]
      exact r.ownd j xs hj
  · by_cases ej : i = j
    · by_cases ek : i = k
      · exact fun _ => ej.symm.trans ek
      · rw [get_set_ne ek] at hk
        rw [if_pos ej.symm, if_neg (fun z => ek z.symm)]
        exact fun z => absurd z.symm (f.o k ys hk)
    · rw [get_set_ne ej] at hj
      by_cases ek : i = k
      · rw [if_neg (fun z => ej z.symm), if_pos ek.symm]
        exact fun z => absurd z (f.o j xs hj)
      · rw [get_set_ne ek] at hk
        rw [if_neg (fun z => ej z.symm), if_neg (fun z => ek z.symm)]
        exact r.inj j k xs ys hj hk
theorem Rel.setO (r : Rel K δ F own G H ρ γ σ) {i : Nat} {p : Addr} {vs : List V} {ds : List D} (f : Free δ F own G ρ p) (hp : H p = some (.lst vs)) (h : Reps K G vs ds) :
    Rel K δ F (fun j => if j = i then p else own j) G H (ρ.set i (.ow (.l ds))) γ (σ.set i (some (.ref p))) := r.setC f ⟨vs, hp, h⟩
/-- the own thing of slot i is written -/
theorem Rel.writeC (r : Rel K δ F own G H ρ γ σ) {i : Nat} {x c : OC} {u : HO} (hi : ρ[i]? = some (.ow x)) (hc : OwnOk K G (upd H (own i) u) (own i) c) :
    Rel K δ F own G (upd H (own i) u) (ρ.set i (.ow c)) γ σ := by
  obtain ⟨o1, o2, o3⟩ := r.ownd i x hi
  have hl : i < ρ.length := (List.getElem?_eq_some_iff.mp hi).1
  refine ⟨⟨fun b u e => ?_, r.wd.len, r.wd.nd, r.wd.out, fun n c hc => ?_, r.wd.tb.own (r.slot i _ hi).2⟩, r.g0, r.q0, fun b o h1 h2 h3 => ?_, by rw [List.length_set]; exact r.len, fun j s hj => ?_, fun j ys hj => ?_, fun j k ys zs hj hk => ?_⟩
  · have hb : b ≠ own i := fun z => by rw [z, o1] at e; cases e
    rw [upd_ne hb]; exact r.sub _ _ e
  · obtain ⟨a, ws, h1, h2, h3⟩ := r.wd.cell n c hc
    refine ⟨a, ws, h1, ?_, h3⟩
    have hb : a ≠ own i := fun z => o2 (z ▸ List.mem_of_getElem? h1)
    rw [upd_ne hb]; exact h2
  · have hb : b ≠ own i := fun z => by rw [z, o3] at h1; cases h1
    rw [upd_ne hb]; exact r.h0 b o h1 h2 h3
  · by_cases e : i = j
    · subst e
      rw [get_set_eq hl] at hj
      cases hj
      exact ⟨(r.slot i _ hi).1, hc⟩
    · rw [get_set_ne e] at hj
      have q := r.slot j s hj
      cases s with
      | un => trivial
      | d x => exact q
      | bx n => exact q
      | ow ys =>
        obtain ⟨q1, q2⟩ := q
        have hb : own j ≠ own i := fun z => e (r.inj i j x ys hi hj z.symm)
        exact ⟨q1, q2.at (Same.refl _) fun u hu => by rw [upd_ne hb]; exact hu⟩
  · by_cases e : i = j
    · subst e; exact ⟨o1, o2, o3⟩
    · rw [get_set_ne e] at hj; exact r.ownd j ys hj
  · by_cases ej : i = j
    · by_cases ek : i = k
      · exact fun _ => ej.symm.trans ek
      · rw [get_set_ne ek] at hk
        subst ej
        exact r.inj i k x zs hi hk
    · rw [get_set_ne ej] at hj
      by_cases ek : i = k
      · subst ek
        exact r.inj j i ys x hj hi
      · rw [get_set_ne ek] at hk
        exact r.inj j k ys zs hj hk
theorem Rel.write (r : Rel K δ F own G H ρ γ σ) {i : Nat} {xs ds : List D} {vs : List V} (hi : ρ[i]? = some (.ow (.l xs))) (h : Reps K G vs ds) :
    Rel K δ F own G (upd H (own i) (.lst vs)) (ρ.set i (.ow (.l ds))) γ σ := r.writeC hi ⟨vs, upd_same, h⟩
/-- an own thing as data -/
def OC.d : OC → D
  | .l xs => .list xs
  | .m kvs => .dict kvs
theorem OwnOk.data {K : Fg} {G H : Hp} {a : Addr} : ∀ {c : OC}, OwnOk K G H a c → ∃ u, H a = some u ∧ ∀ G', Same G G' → G' a = some u → Rep K G' (.ref a) c.d
  | .l _, ⟨_, h, r⟩ => ⟨_, h, fun _ e g => .lst (SqX.of g) (r.mono e)⟩
  | .m _, ⟨_, _, _, h, c, d, m, k, r⟩ => ⟨_, h, fun _ e g => .dict g c d m k (r.mono e)⟩
/-- the own thing of slot i becomes data -/
def fzS (i : Nat) (ρ : Row) : Row := match ρ[i]? with
  | some (.ow c) => ρ.set i (.d c.d)
  | _ => ρ
theorem Rel.freeze (r : Rel K δ F own G H ρ γ σ) (i : Nat) : ∃ G', Same G G' ∧ Rel K δ F own G' H (fzS i ρ) γ σ := by
  unfold fzS
  split
  · rename_i c hi
    obtain ⟨o1, o2, o3⟩ := r.ownd i c hi
    obtain ⟨s1, oc⟩ := r.slot i _ hi
    obtain ⟨u, s2, s3⟩ := oc.data
    have sg : Same G (upd G (own i) u) := fun b w e => by
      have hb : b ≠ own i := fun z => by rw [z, o1] at e; cases e
      rw [upd_ne hb]; exact e
    have hl : i < ρ.length := (List.getElem?_eq_some_iff.mp hi).1
    have ne : ∀ {j : Nat} {s : Sl}, (ρ.set i (.d c.d))[j]? = some s → (∀ d, s ≠ .d d) → i ≠ j ∧ ρ[j]? = some s := fun {j s} hj hs => by
      have e : i ≠ j := fun e => by
        subst e
        rw [get_set_eq hl] at hj
        cases hj
        exact hs _ rfl
      rw [get_set_ne e] at hj
      exact ⟨e, hj⟩
    refine ⟨_, sg, ⟨⟨fun b w e => ?_, r.wd.len, r.wd.nd, fun a ha => ?_, fun n c hc => ?_, r.wd.tb.calm oc.not.1⟩, r.g0.trans sg, fun b h1 h2 => ?_, r.h0, by rw [List.length_set]; exact r.len, fun j s hj => ?_, fun j ys hj => ?_, fun j k ys zs hj hk => ?_⟩⟩
    · by_cases hb : b = own i
      · rw [hb, upd_same] at e; cases e; rw [hb]; exact s2
      · rw [upd_ne hb] at e; exact r.sub _ _ e
    · have hb : a ≠ own i := fun z => o2 (by rw [← z]; exact ha)
      rw [upd_ne hb]; exact r.wd.out a ha
    · obtain ⟨a, ws, h1, h2, h3⟩ := r.wd.cell n c hc
      exact ⟨a, ws, h1, h2, h3.mono sg⟩
    · have hb : b ≠ own i := fun z => h1 (by rw [z]; exact o3)
      rw [upd_ne hb]; exact r.q0 b h1 h2
    · by_cases e : i = j
      · subst e
        rw [get_set_eq hl] at hj
        cases hj
        exact ⟨_, s1, s3 _ sg upd_same⟩
      · rw [get_set_ne e] at hj
        have q := r.slot j s hj
        cases s with
        | un => trivial
        | d x => obtain ⟨v, q1, q2⟩ := q; exact ⟨v, q1, q2.mono sg⟩
        | bx n => exact q
        | ow ys => exact ⟨q.1, q.2.at sg fun _ z => z⟩
    · obtain ⟨e, hj⟩ := ne hj (fun d z => by cases z)
      obtain ⟨p1, p2, p3⟩ := r.ownd j ys hj
      refine ⟨?_, p2, p3⟩
      have hb : own j ≠ own i := fun z => e (r.inj i j c ys hi hj z.symm)
      rw [upd_ne hb]; exact p1
    · obtain ⟨_, hj⟩ := ne hj (fun d z => by cases z)
      obtain ⟨_, hk⟩ := ne hk (fun d z => by cases z)
      exact r.inj j k ys zs hj hk
  · exact ⟨G, Same.refl _, r⟩
end
end DL

namespace DL
open PySem PySem.Spec PyProof.Rows L2
variable [WW]

abbrev Fq := Row → Bxs → Option (Sl × Row × Bxs)
def SlV (K : Fg) (δ : List Addr) (F : Fm) (own : Nat → Addr) (ρ : Row) (G H : Hp) (v : V) : Sl → Prop
  | .d x => Rep K G v x
  | .ow c => ∃ p, v = .ref p ∧ Free δ F own G ρ p ∧ OwnOk K G H p c
  | _ => False
def DQ (X : Cx) (e : Expr) (f : Fq) : Prop := ∃ t, PE X e t ∧ ∀ (δ : List Addr) (F : Fm) (own : Nat → Addr) (G H : Hp) (ρ : Row) (γ : Bxs) (σ : L2.St) (s : Sl) (ρ' : Row) (γ' : Bxs) (Q : VK),
  Rel X.K δ F own G H ρ γ σ → f ρ γ = some (s, ρ', γ') → (∀ v G' H', Rel X.K δ F own G' H' ρ' γ' σ → Same G G' → SlV X.K δ F own ρ' G' H' v s → Q v H') → t σ H Q
def qE (fa : Fx) : Fq := fun ρ γ => (fa ρ γ).map fun p => (.d p.1, p.2)
def qL (fa : Fs) : Fq := fun ρ γ => (fa ρ γ).bind fun p => if p.1.length ≤ sizeLine then some (.ow (.l p.1), p.2) else none
section
variable {X : Cx} {e a b : Expr} {es : List Expr} {fa fb : Fx} {fs : Fs} {pos : Pos}
theorem dq_e (h : DE X e fa) : DQ X e (qE fa) := by
  obtain ⟨t, p, q⟩ := h
  refine ⟨t, p, fun δ F own G H ρ γ σ s ρ' γ' Q R e k => ?_⟩
  obtain ⟨⟨x, ρ1, γ1⟩, e1, e⟩ := map_some e
  cases e
  exact q δ F own G H ρ γ σ x _ _ _ R e1 fun v G' H' R' sg r => k v G' H' R' sg r
theorem Free.more {δ : List Addr} {F : Fm} {own : Nat → Addr} {G : Hp} {ρ : Row} {p : Addr} (f : Free δ F own G ρ p) : Free δ F own G ρ p := f
theorem dq_lst (h : DA X es fs) : DQ X (.List es pos) (qL fs) := by
  obtain ⟨ta, pa, qa⟩ := h
  refine ⟨_, pe_lst pa, fun δ F own G H ρ γ σ s ρ' γ' Q R e k => ?_⟩
  obtain ⟨⟨x, ρ1, γ1⟩, e1, e⟩ := bind_some e
  split at e
  · rename_i hz
    cases e
    refine qa δ F own G H ρ γ σ x _ _ _ R e1 fun v G1 H1 R1 s1 r1 => ⟨by rw [r1.length]; exact hz, fun p hp => ?_⟩
    have st := Step.own R1.sub hp (.lst v)
    exact k _ _ _ (R1.step st) s1 ⟨p, rfl, R1.live hp, v, upd_same, r1⟩
  · cases e
end

def sNext : Fst := fun ρ γ => some (.nx ρ γ)
def sSeq (f g : Fst) : Fst := fun ρ γ => (f ρ γ).bind fun o => match o with
  | .nx ρ1 γ1 => g ρ1 γ1
  | o => some o
def sFz (i : Nat) (f : Fst) : Fst := fun ρ γ => f (fzS i ρ) γ
def sRet (fq : Fq) : Fst := fun ρ γ => (fq ρ γ).map fun p => .rt p.1 p.2.2
/-- return x, x one's own list -/
def sRetO (i : Nat) : Fst := fun ρ γ => match ρ[i]? with
  | some (.ow c) => some (.rt (.ow c) γ)
  | _ => none
def sBreak : Fst := fun ρ γ => some (.bk ρ γ)
def sCont : Fst := fun ρ γ => some (.ct ρ γ)
def sDrop (fa : Fx) : Fst := fun ρ γ => (fa ρ γ).map fun p => .nx p.2.1 p.2.2
def sIf (c : Ft) (f g : Fst) : Fst := fun ρ γ => (c ρ γ).bind fun p => if p.1 = true then f p.2.1 p.2.2 else g p.2.1 p.2.2
def sSet (i : Nat) (fq : Fq) : Fst := fun ρ γ => (fq ρ γ).map fun p => .nx (p.2.1.set i p.1) p.2.2
section
variable {X : Cx} {e a b c : Expr} {st : Stmt} {sts : List Stmt} {f g : Fst} {fa fb : Fx} {ft : Ft} {fq fr : Fq} {pos : Pos}
theorem db_nil : DB X [] sNext := ⟨_, pss_nil, fun δ F own G H ρ γ σ o E R e k => by cases e; exact k own G H σ R (Same.refl _)⟩
theorem db_one (h : DS X st f) : DB X [st] f := by
  obtain ⟨t, p, q⟩ := h
  exact ⟨t, pss_one p, q⟩
theorem db_cons (h1 : DS X st f) (h2 : DB X sts g) : DB X (st :: sts) (sSeq f g) := by
  obtain ⟨t, p, q⟩ := h1
  obtain ⟨t2, p2, q2⟩ := h2
  refine ⟨_, pss_cons p p2, fun δ F own G H ρ γ σ o E R e k => ?_⟩
  obtain ⟨o1, e1, e⟩ := bind_some e
  refine q δ F own G H ρ γ σ o1 _ R e1 ?_
  cases o1 with
  | nx ρ1 γ1 => exact fun own' G' H' σ' R' sg => q2 δ F own' G' H' ρ1 γ1 σ' o E R' e (k.mono sg)
  | rt d γ1 => cases e; exact k
  | bk ρ1 γ1 => cases e; exact k
  | ct ρ1 γ1 => cases e; exact k
/-- (a ghost) the own list of slot i is data from here on -/
theorem db_fz (i : Nat) (h : DB X sts f) : DB X sts (sFz i f) := by
  obtain ⟨t, p, q⟩ := h
  refine ⟨t, p, fun δ F own G H ρ γ σ o E R e k => ?_⟩
  obtain ⟨G', sg, R'⟩ := R.freeze i
  exact q δ F own G' H _ γ σ o E R' e (k.mono sg)
theorem SlV.ret {K : Fg} {δ : List Addr} {F : Fm} {own : Nat → Addr} {ρ : Row} {G H : Hp} {v : V} : ∀ {s : Sl}, SlV K δ F own ρ G H v s → RetV K δ F G H v s
  | .d _, h => h
  | .ow _, ⟨p, e, f, hp⟩ => ⟨p, e, f.g, f.d, f.f, hp⟩
theorem ds_ret (h : DQ X e fq) : DS X (.Return (some e) pos) (sRet fq) := by
  obtain ⟨t, p, q⟩ := h
  refine ⟨_, ps_ret p, fun δ F own G H ρ γ σ o E R e k => ?_⟩
  obtain ⟨⟨x, ρ1, γ1⟩, e1, e⟩ := map_some e
  cases e
  exact q δ F own G H ρ γ σ x _ _ _ R e1 fun v G' H' R' sg r => k v G' H' R'.fin r.ret
theorem ds_retO {i : Nat} {x : Str} {p : Pos} (hv : PE X (.Name x p) (tVar i)) : DS X (.Return (some (.Name x p)) pos) (sRetO i) := by
  refine ⟨_, ps_ret hv, fun δ F own G H ρ γ σ o E R e k => ?_⟩
  unfold sRetO at e
  split at e
  · rename_i xs hi
    cases e
    obtain ⟨h1, h2⟩ := R.slot i _ hi
    obtain ⟨o1, o2, o3⟩ := R.ownd i xs hi
    exact ⟨_, h1, k _ G H R.fin ⟨_, rfl, o1, o2, o3, h2⟩⟩
  · cases e
theorem ds_pass : DS X (.Pass pos) sNext := ⟨_, ps_pass, fun δ F own G H ρ γ σ o E R e k => by cases e; exact k own G H σ R (Same.refl _)⟩
theorem ds_break : DS X (.Break pos) sBreak := ⟨_, ps_break, fun δ F own G H ρ γ σ o E R e k => by cases e; exact k own G H σ R (Same.refl _)⟩
theorem ds_cont : DS X (.Continue pos) sCont := ⟨_, ps_continue, fun δ F own G H ρ γ σ o E R e k => by cases e; exact k own G H σ R (Same.refl _)⟩
theorem ds_expr (h : DE X e fa) (hs : swapsWith e none pos.line X.env = pure false := by rfl) : DS X (.Expr e pos) (sDrop fa) := by
  obtain ⟨t, p, q⟩ := h
  refine ⟨_, ps_expr p hs, fun δ F own G H ρ γ σ o E R e k => ?_⟩
  obtain ⟨⟨x, ρ1, γ1⟩, e1, e⟩ := map_some e
  cases e
  exact q δ F own G H ρ γ σ x _ _ _ R e1 fun v G' H' R' sg r => k own G' H' σ R' sg
theorem ds_if {x y : List Stmt} (hc : DT X c ft) (ha : DB X x f) (hb : DB X y g) : DS X (.If c x y pos) (sIf ft f g) := by
  obtain ⟨tc, pc, qc⟩ := hc
  obtain ⟨ta, pa, qa⟩ := ha
  obtain ⟨tb, pb, qb⟩ := hb
  refine ⟨_, ps_if pc pa pb, fun δ F own G H ρ γ σ o E R e k => ?_⟩
  obtain ⟨⟨z, ρ1, γ1⟩, e1, e⟩ := bind_some e
  refine qc δ F own G H ρ γ σ z _ _ _ R e1 fun G1 H1 R1 s1 => ?_
  cases z with
  | true => exact iteT (qa δ F own G1 H1 _ _ σ o E R1 e (k.mono s1))
  | false => exact iteF (qb δ F own G1 H1 _ _ σ o E R1 e (k.mono s1))
/-- a statement that is not reached -/
theorem ds_never : DS X st (fun _ _ => none) := ⟨_, ps_never, fun δ F own G H ρ γ σ o E R e k => nomatch e⟩
/-- a slot is stored -/
theorem Rel.setV {K : Fg} {δ : List Addr} {F : Fm} {own : Nat → Addr} {G H : Hp} {ρ : Row} {γ : Bxs} {σ : L2.St} (r : Rel K δ F own G H ρ γ σ) (i : Nat) {v : V} : ∀ {s : Sl}, SlV K δ F own ρ G H v s → ∃ own', Rel K δ F own' G H (ρ.set i s) γ (σ.set i (some v))
  | .d x, h => ⟨own, r.setD h⟩
  | .ow c, ⟨p, e, f, hc⟩ => by
    subst e
    exact ⟨_, r.setC f hc⟩
theorem ds_set {i : Nat} {x : Str} {pos' : Pos} (O : Okc X) (hi : X.N[i]? = some x) (hx : Loc X.env.scope x) (h : DQ X e fq) (hs : swapsWith e (some (.Name x pos')) pos.line X.env = pure false := by rfl) (hf : X.fn x = true ∨ X.env.scope.names.lookup x = some .local := by first | exact .inl rfl | exact .inr rfl | assumption) : DS X (.Assign [.Name x pos'] e pos) (sSet i fq) := by
  obtain ⟨t, p, q⟩ := h
  refine ⟨_, ps_set O.nd hi hx p hs hf, fun δ F own G H ρ γ σ o E R e k => ?_⟩
  obtain ⟨⟨s, ρ1, γ1⟩, e1, e⟩ := map_some e
  cases e
  refine q δ F own G H ρ γ σ s _ _ _ R e1 fun v G' H' R' sg r => ?_
  obtain ⟨own', R2⟩ := R'.setV i r
  exact k own' G' H' _ R2 sg

/-- the frame that keeps a new list meanwhile -/
def holdF (F : Fm) (v : V) (H : Hp) : Sl → Fm
  | .ow _ => match v with
    | .ref p => ⟨F.G, fun b => if b = p then H p else F.H b⟩
    | _ => F
  | _ => F
def sPar (i j : Nat) (fq fr : Fq) : Fst := fun ρ γ => (fq ρ γ).bind fun p => (fr p.2.1 p.2.2).map fun q => .nx ((q.2.1.set i p.1).set j q.1) q.2.2
theorem Rel.hold {K : Fg} {δ : List Addr} {F : Fm} {own : Nat → Addr} {G H : Hp} {ρ : Row} {γ : Bxs} {σ : L2.St} (r : Rel K δ F own G H ρ γ σ) {v : V} : ∀ {s : Sl}, SlV K δ F own ρ G H v s → Rel K δ (holdF F v H s) own G H ρ γ σ
  | .d x, h => r
  | .ow c, ⟨p, e, f, hc⟩ => by
    subst e
    refine ⟨r.wd, r.g0, fun b h1 h2 => ?_, fun b o h1 h2 h3 => ?_, r.len, r.slot, fun i ys hi => ?_, r.inj⟩
    · by_cases hb : b = p
      · rw [hb]; exact f.g
      · have h1 : (if b = p then H p else F.H b) ≠ none := h1
        rw [if_neg hb] at h1
        exact r.q0 b h1 h2
    · by_cases hb : b = p
      · have h1 : (if b = p then H p else F.H b) = some o := h1
        rw [if_pos hb] at h1
        rw [hb]; exact .inl h1
      · have h1 : (if b = p then H p else F.H b) = some o := h1
        rw [if_neg hb] at h1
        exact r.h0 b o h1 h2 h3
    · obtain ⟨o1, o2, o3⟩ := r.ownd i ys hi
      refine ⟨o1, o2, ?_⟩
      show (if own i = p then H p else F.H (own i)) = none
      rw [if_neg (f.o i ys hi)]
      exact o3
/-- back to the old frame, the list still free -/
theorem Rel.unhold {K : Fg} {δ : List Addr} {F : Fm} {own own' : Nat → Addr} {G H G' H' : Hp} {ρ ρ' : Row} {γ' : Bxs} {σ' : L2.St} {v : V} (g0 : Same F.G G) : ∀ {s : Sl}, SlV K δ F own ρ G H v s → Same G G' → Rel K δ (holdF F v H s) own' G' H' ρ' γ' σ' →
    Rel K δ F own' G' H' ρ' γ' σ' ∧ SlV K δ F own' ρ' G' H' v s
  | .d x, h, sg, r => ⟨r, h.mono sg⟩
  | .ow c, ⟨p, e, f, hc⟩, sg, r => by
    subst e
    obtain ⟨u, hp⟩ := hc.there
    have up : ∀ b, b ≠ p → (holdF F (.ref p) H (.ow c)).H b = F.H b := fun b hb => if_neg hb
    have atp : (holdF F (.ref p) H (.ow c)).H p = some u := (if_pos rfl).trans hp
    have gp : F.G p = none := g0.free f.g
    have hne : ∀ b, F.H b ≠ none → b ≠ p := fun b h z => h (by rw [z]; exact f.f)
    refine ⟨⟨r.wd, r.g0, fun b h1 h2 => ?_, fun b o h1 h2 h3 => ?_, r.len, r.slot, fun i ys hi => ?_, r.inj⟩, p, rfl, ⟨?_, f.d, f.f, fun j ys hj z => ?_⟩, ?_⟩
    · exact r.q0 b (by rw [up b (hne b h1)]; exact h1) h2
    · exact r.h0 b o (by rw [up b (hne b (by rw [h1]; intro z; cases z))]; exact h1) h2 h3
    · obtain ⟨o1, o2, o3⟩ := r.ownd i ys hi
      have hb : own' i ≠ p := fun z => by rw [z, atp] at o3; cases o3
      rw [up _ hb] at o3
      exact ⟨o1, o2, o3⟩
    · exact r.q0 p (by rw [atp]; intro z; cases z) gp
    · obtain ⟨o1, o2, o3⟩ := r.ownd j ys hj
      rw [z, atp] at o3; cases o3
    · exact hc.at sg fun w hw => by
        rw [hp] at hw
        cases hw
        exact (r.h0 p _ atp gp f.d).eq (hc.kpt hp)
theorem set_ol {ρ : Row} {i j : Nat} {s : Sl} {xs : OC} (h : (ρ.set i s)[j]? = some (.ow xs)) : (j = i ∧ s = .ow xs) ∨ (j ≠ i ∧ ρ[j]? = some (.ow xs)) := by
  by_cases e : i = j
  · subst e
    have hl : i < ρ.length := by
      have := (List.getElem?_eq_some_iff.mp h).1
      rw [List.length_set] at this; exact this
    rw [get_set_eq hl] at h
    exact Or.inl ⟨rfl, Option.some.inj h⟩
  · rw [get_set_ne e] at h
    exact Or.inr ⟨fun z => e z.symm, h⟩
theorem Rel.setV2 {K : Fg} {δ : List Addr} {F : Fm} {own : Nat → Addr} {G H : Hp} {ρ : Row} {γ : Bxs} {σ : L2.St} (r : Rel K δ F own G H ρ γ σ) (i j : Nat) {v w : V} : ∀ {s t : Sl}, SlV K δ F own ρ G H v s → SlV K δ F own ρ G H w t →
    (∀ xs ys p q, s = .ow xs → t = .ow ys → v = .ref p → w = .ref q → p ≠ q) → ∃ own', Rel K δ F own' G H ((ρ.set i s).set j t) γ ((σ.set i (some v)).set j (some w))
  | .d x, .d y, h, k, _ => ⟨own, (r.setD h).setD k⟩
  | .d x, .ow ys, h, ⟨q, e, f, hc⟩, _ => by
    subst e
    refine ⟨_, (r.setD h).setC ⟨f.g, f.d, f.f, fun l xs hl => ?_⟩ hc⟩
    rcases set_ol hl with ⟨_, z⟩ | ⟨_, z⟩
    · cases z
    · exact f.o l xs z
  | .ow xs, .d y, ⟨p, e, f, hc⟩, k, _ => by
    subst e
    exact ⟨_, (r.setC f hc).setD k⟩
  | .ow xs, .ow ys, ⟨p, e, f, hc⟩, ⟨q, e', f', hc'⟩, ne => by
    subst e
    subst e'
    refine ⟨_, (r.setC f hc).setC ⟨f'.g, f'.d, f'.f, fun l zs hl => ?_⟩ hc'⟩
    rcases set_ol hl with ⟨z, _⟩ | ⟨z1, z2⟩
    · rw [if_pos z]; exact ne xs ys p q rfl rfl rfl rfl
    · rw [if_neg z1]; exact f'.o l zs z2
theorem ds_par {i j : Nat} {x y : Str} {px py pt : Pos} {kt k2 : Nat} {pt2 : Pos} (O : Okc X) (hi : X.N[i]? = some x) (hj : X.N[j]? = some y) (hij : i ≠ j)
    (hx : X.env.scope.names.lookup x = some .local) (hy : X.env.scope.names.lookup y = some .local) (ha : DQ X a fq) (hb : DQ X b fr)
    (hw : swappedStores [.Tuple [.Name x px, .Name y py] kt pt] (.Tuple [a, b] k2 pt2) X.env = pure (some [x, y]) := by rfl)
    (h1 : starEach [a, b] X.env = (false, eval a X.env) :: starEach [b] X.env := by rfl) (h2 : starEach [b] X.env = (false, eval b X.env) :: starEach [] X.env := by rfl)
    (hs : swapsWithSole [.Tuple [.Name x px, .Name y py] kt pt] (.Tuple [a, b] k2 pt2) pos.line X.env = pure false := by rfl) :
    DS X (.Assign [.Tuple [.Name x px, .Name y py] kt pt] (.Tuple [a, b] k2 pt2) pos) (sPar i j fq fr) := by
  obtain ⟨ta, pa, qa⟩ := ha
  obtain ⟨tb, pb, qb⟩ := hb
  refine ⟨_, ps_par O.calm O.nd hi hj hij hx hy (pa_cons pa (pa_cons pb pa_nil h2) h1) hw hs, fun δ F own G H ρ γ σ o E R e k => ?_⟩
  obtain ⟨⟨s, ρ1, γ1⟩, e1, e⟩ := bind_some e
  obtain ⟨⟨t, ρ2, γ2⟩, e2, e⟩ := map_some e
  cases e
  refine qa δ F own G H ρ γ σ s _ _ _ R e1 fun v G1 H1 R1 s1 r1 => ?_
  refine qb δ (holdF F v H1 s) own G1 H1 _ _ σ t _ _ _ (R1.hold r1) e2 fun w G2 H2 R2 s2 r2 => ?_
  obtain ⟨R3, r3⟩ := Rel.unhold R1.g0 r1 s2 R2
  have r4 : SlV X.K δ F own ρ2 G2 H2 w t ∧ ∀ xs ys p q, s = .ow xs → t = .ow ys → v = .ref p → w = .ref q → p ≠ q := by
    cases s with
    | un => exact r1.elim
    | bx n => exact r1.elim
    | d x => exact ⟨r2, fun xs ys p q z => nomatch z⟩
    | ow xs =>
      obtain ⟨p, ev, f, hc⟩ := r1
      obtain ⟨u, hp⟩ := hc.there
      subst ev
      cases t with
      | un => exact r2.elim
      | bx n => exact r2.elim
      | d x => exact ⟨r2, fun xs ys p q _ z => nomatch z⟩
      | ow ys =>
        obtain ⟨q, ew, f', hc'⟩ := r2
        subst ew
        have f2 : (if q = p then H1 p else F.H q) = none := f'.f
        have nq : q ≠ p := fun z => by rw [if_pos z, hp] at f2; cases f2
        rw [if_neg nq] at f2
        refine ⟨⟨q, rfl, ⟨f'.g, f'.d, f2, f'.o⟩, hc'⟩, fun xs ys p' q' _ _ z1 z2 => ?_⟩
        cases z1
        cases z2
        exact nq.symm
  obtain ⟨own', R4⟩ := R3.setV2 i j r3 r4.1 r4.2
  exact ⟨v, w, rfl, k own' G2 H2 _ R4 (s1.trans s2)⟩
end
end DL

namespace DL
open PySem PySem.Spec PyProof.Rows L2
variable [WW]

/-- what the list in slot i holds -/
def ctO (i : Nat) (ρ : Row) (γ : Bxs) : Option (List D) := match ρ[i]? with
  | some (.ow (.l xs)) => some xs
  | some (.bx n) => γ[n]?
  | _ => none
/-- .. when it is written -/
def putO (i : Nat) (ρ : Row) (γ : Bxs) (ds : List D) : Row × Bxs := match ρ[i]? with
  | some (.ow (.l _)) => (ρ.set i (.ow (.l ds)), γ)
  | some (.bx n) => (ρ, γ.set n ds)
  | _ => (ρ, γ)
section
variable {K : Fg} {δ : List Addr} {F : Fm} {own : Nat → Addr} {G H : Hp} {ρ : Row} {γ : Bxs} {σ : L2.St}
theorem Rel.atO (r : Rel K δ F own G H ρ γ σ) {i : Nat} {xs : List D} (h : ctO i ρ γ = some xs) : ∃ a vs, σ[i]? = some (some (.ref a)) ∧ H a = some (.lst vs) ∧ Reps K G vs xs := by
  unfold ctO at h
  split at h
  · rename_i ys hi
    cases h
    obtain ⟨h1, vs, h2, h3⟩ := r.slot i _ hi
    exact ⟨_, vs, h1, h2, h3⟩
  · rename_i n hi
    obtain ⟨b, h1, h2⟩ := r.slot i _ hi
    obtain ⟨a, vs, h3, h4, h5⟩ := r.wd.cell n xs h
    rw [h1] at h3; cases h3
    exact ⟨b, vs, h2, h4, h5⟩
  · cases h
theorem nd_get {l : List Addr} (hn : l.Nodup) {i j : Nat} {a : Addr} (h1 : l[i]? = some a) (h2 : l[j]? = some a) : i = j := nodup_ix' hn h1 h2
where
  nodup_ix' {l : List Addr} (hn : l.Nodup) {i j : Nat} {a : Addr} (h1 : l[i]? = some a) (h2 : l[j]? = some a) : i = j := nd_ix hn h1 h2
theorem Rel.putO (r : Rel K δ F own G H ρ γ σ) {i : Nat} {xs ds : List D} {a : Addr} {vs : List V} (h : ctO i ρ γ = some xs) (ha : σ[i]? = some (some (.ref a))) (hr : Reps K G vs ds) :
    Rel K δ F own G (upd H a (.lst vs)) (DL.putO i ρ γ ds).1 (DL.putO i ρ γ ds).2 σ := by
  unfold ctO at h
  unfold DL.putO
  split at h
  · rename_i ys hi
    try rw [hi]
    have q := (r.slot i _ hi).1
    rw [ha] at q; cases q
    exact r.write hi hr
  · rename_i n hi
    try rw [hi]
    obtain ⟨b, h1, h2⟩ := r.slot i _ hi
    rw [ha] at h2; cases h2
    have hd : a ∈ δ := List.mem_of_getElem? h1
    have hla : ∃ ws, H a = some (.lst ws) := by
      obtain ⟨a', ws, p1, p2, _⟩ := r.wd.cell n xs h
      rw [h1] at p1; cases p1
      exact ⟨ws, p2⟩
    have hl : n < γ.length := (List.getElem?_eq_some_iff.mp h).1
    refine ⟨⟨fun b u e => ?_, by show δ.length = (γ.set n ds).length; rw [List.length_set]; exact r.wd.len, r.wd.nd, r.wd.out, fun m c hc => ?_, r.wd.tb.wr (.lst hla.choose_spec)⟩, r.g0, r.q0, fun b o z1 z2 z3 => ?_, r.len, fun j s hj => ?_, r.ownd, r.inj⟩
    · have hb : b ≠ a := fun z => by rw [z, r.wd.out a hd] at e; cases e
      rw [upd_ne hb]; exact r.sub _ _ e
    · by_cases e : n = m
      · subst e
        have hc : (γ.set n ds)[n]? = some c := hc
        rw [get_set_eq hl] at hc
        cases hc
        exact ⟨a, vs, h1, upd_same, hr⟩
      · have hc : (γ.set n ds)[m]? = some c := hc
        rw [get_set_ne e] at hc
        obtain ⟨a', ws, p1, p2, p3⟩ := r.wd.cell m c hc
        refine ⟨a', ws, p1, ?_, p3⟩
        have hb : a' ≠ a := fun z => e (nd_get r.wd.nd h1 (z ▸ p1))
        rw [upd_ne hb]; exact p2
    · have hb : b ≠ a := fun z => z3 (z ▸ hd)
      rw [upd_ne hb]; exact r.h0 b o z1 z2 z3
    · have q := r.slot j s hj
      cases s with
      | un => trivial
      | d x => exact q
      | bx n => exact q
      | ow ys =>
        have hb : own j ≠ a := fun z => (r.ownd j ys hj).2.1 (z ▸ hd)
        exact ⟨q.1, q.2.at (Same.refl _) fun u hu => by rw [upd_ne hb]; exact hu⟩
  · cases h
end

def intOf : D → Option Int
  | .int i => some i
  | _ => none
theorem intOf_some : ∀ {d : D} {i : Int}, intOf d = some i → d = .int i
  | .int _, _, h => by cases h; rfl
def fLenO (i : Nat) : Fx := fun ρ γ => (ctO i ρ γ).map fun xs => (.int xs.length, ρ, γ)
def fIxO (i : Nat) (fb : Fx) : Fx := fun ρ γ => (ctO i ρ γ).bind fun _ => (fb ρ γ).bind fun p => (ctO i p.2.1 p.2.2).bind fun xs => (ixD (.list xs) p.1).map fun z => (z, p.2)
def sApp (i : Nat) (fa : Fx) : Fst := fun ρ γ => (ctO i ρ γ).bind fun _ => (fa ρ γ).bind fun p => (ctO i p.2.1 p.2.2).bind fun xs => if xs.length < sizeLine then some (.nx (putO i p.2.1 p.2.2 (xs ++ [p.1])).1 (putO i p.2.1 p.2.2 (xs ++ [p.1])).2) else none
def sSetO (i : Nat) (fa fk : Fx) : Fst := fun ρ γ => (fa ρ γ).bind fun p => (ctO i p.2.1 p.2.2).bind fun _ => (fk p.2.1 p.2.2).bind fun q => (ctO i q.2.1 q.2.2).bind fun xs => (intOf q.1).bind fun k =>
  (ixN xs.length k).map fun j => .nx (putO i q.2.1 q.2.2 (xs.set j p.1)).1 (putO i q.2.1 q.2.2 (xs.set j p.1)).2
def fPop (i : Nat) : Fx := fun ρ γ => (ctO i ρ γ).bind fun xs => (xs[xs.length - 1]?).map fun d => (d, putO i ρ γ xs.dropLast)
def fPopAt (i : Nat) (fk : Fx) : Fx := fun ρ γ => (ctO i ρ γ).bind fun _ => (fk ρ γ).bind fun q => (ctO i q.2.1 q.2.2).bind fun xs => (intOf q.1).bind fun k =>
  if inB 9223372036854775808 k = true then (ixN xs.length k).bind fun j => (xs[j]?).map fun d => (d, putO i q.2.1 q.2.2 (xs.eraseIdx j)) else none
def fTruO (i : Nat) : Ft := fun ρ γ => (ctO i ρ γ).map fun xs => (!xs.isEmpty, ρ, γ)

section
variable {X : Cx} {e b : Expr} {fa fb : Fx} {i : Nat} {x : Str} {pos p pb apos cpos : Pos}
theorem tvar_of {σ : L2.St} {H : Hp} {Q : VK} {v : V} (h : σ[i]? = some (some v)) (q : Q v H) : tVar i σ H Q := ⟨v, h, q⟩
theorem de_lenO (hv : PE X (.Name x p) (tVar i)) (hg : Gl X "len") (hm : X.mg "len" = none) (he : starEach [.Name x p] X.env = (false, eval (.Name x p) X.env) :: starEach [] X.env := by rfl) (hpl : (backTo pos (starEach [] X.env)).any (·.1) = false := by rfl) : DE X (.Call (.Name "len" pb) [.Name x p] [] pos) (fLenO i) := by
  refine ⟨_, pe_callB call_len hg hm PySem.boot_len (pa_cons hv pa_nil he) (by decide) (by decide) he hpl, fun δ F own G H ρ γ σ d ρ' γ' Q R e k => ?_⟩
  obtain ⟨xs, e1, e⟩ := map_some e
  cases e
  obtain ⟨a, vs, h1, h2, h3⟩ := R.atO e1
  refine tvar_of h1 ⟨_, _, rfl, Or.inl ⟨vs, SqL.of h2, h3.length.symm⟩, k _ G H R (Same.refl _) (.int _)⟩
theorem same_at {σ : L2.St} {a a' : Addr} (h : σ[i]? = some (some (V.ref a))) (h' : σ[i]? = some (some (V.ref a'))) : a' = a := by
  rw [h] at h'; cases h'; rfl
theorem de_ixO (hv : PE X (.Name x p) (tVar i)) (hb : DE X b fb) (hs : PlainIx b := by exact fun _ _ => rfl) : DE X (.Subscript (.Name x p) b pos) (fIxO i fb) := by
  obtain ⟨tb, pb, qb⟩ := hb
  refine ⟨_, pe_ix ix_list hv pb hs, fun δ F own G H ρ γ σ d ρ' γ' Q R e k => ?_⟩
  obtain ⟨zs, e0, e⟩ := bind_some e
  obtain ⟨⟨z, ρ1, γ1⟩, e1, e⟩ := bind_some e
  obtain ⟨xs, e2, e⟩ := bind_some e
  obtain ⟨w, e3, e⟩ := map_some e
  cases e
  obtain ⟨a, us, h1, _, _⟩ := R.atO e0
  refine tvar_of h1 (qb δ F own G H ρ γ σ z _ _ _ R e1 fun v G1 H1 R1 s1 r1 => ?_)
  obtain ⟨a', vs, h1', h2, h3⟩ := R1.atO e2
  cases same_at h1 h1'
  cases z <;> simp only [ixD, reduceCtorEq] at e3
  cases r1.int_inv
  obtain ⟨u, hu, ru⟩ := atI_of h3 e3
  exact ⟨_, vs, _, u, rfl, rfl, SqL.of h2, hu, k u G1 H1 R1 s1 ru⟩
theorem tyV_list {K : Fg} {H : Hp} {a : Addr} {vs : List V} (h : H a = some (.lst vs)) : tyV K "list" (.ref a) H := Or.inl ⟨rfl, vs, SqL.of h⟩
theorem ds_app (hv : PE X (.Name x p) (tVar i)) (ha : DE X e fa) (hbase : attributeBase (.Name x p) "append" X.env (eval (.Name x p) X.env) = eval (.Name x p) X.env := by rfl)
    (hfew : ((backTo cpos (starEach [e] X.env)).all (fun x => !x.1) && (backToKw cpos (keywordEach [] X.env)).all (fun x => x.1.isSome)
      && decide ([e].length + ([] : List Keyword).length + (if ([] : List Keyword).isEmpty then 0 else 1) < 30)) = true := by rfl)
    (hline : (apos.endLine == cpos.line) = true := by rfl) (hs : starEach [e] X.env = (false, eval e X.env) :: starEach [] X.env := by rfl) (hplain : (backTo cpos (starEach [] X.env)).any (·.1) = false := by rfl)
    (hsw : swapsWith (.Call (.Attribute (.Name x p) "append" apos) [e] [] cpos) none pos.line X.env = pure false := by rfl) :
    DS X (.Expr (.Call (.Attribute (.Name x p) "append" apos) [e] [] cpos) pos) (sApp i fa) := by
  obtain ⟨ta, pa, qa⟩ := ha
  refine ⟨_, ps_expr (pe_bm PySem.F.plainAttrs_list PySem.F.slot_list_append PySem.F.type_list_append mt_append hv (pa_cons pa pa_nil hs) hbase hfew hline hs hplain) hsw, fun δ F own G H ρ γ σ o E R e k => ?_⟩
  obtain ⟨zs, e0, e⟩ := bind_some e
  obtain ⟨⟨z, ρ1, γ1⟩, e1, e⟩ := bind_some e
  obtain ⟨xs, e2, e⟩ := bind_some e
  split at e
  · rename_i hz
    cases e
    obtain ⟨a, us, h1, h1', _⟩ := R.atO e0
    show tBM X.K "list" rAppend (tVar i) (tCons ta tNil) σ H (fun _ H1 => E.nx σ H1)
    refine tvar_of h1 ⟨tyV_list h1', ?_⟩
    refine qa δ F own G H ρ γ σ z _ _ _ R e1 fun v G1 H1 R1 s1 r1 => ?_
    obtain ⟨a', vs, h1', h2, h3⟩ := R1.atO e2
    cases same_at h1 h1'
    refine ⟨_, vs, v, rfl, rfl, h2, by rw [h3.length]; exact hz, ?_⟩
    exact k own G1 _ σ (R1.putO e2 h1 (h3.append (.cons r1 .nil))) s1
  · cases e
theorem ixN_len {xs : List D} {vs : List V} {K : Fg} {G : Hp} (h : Reps K G vs xs) (k : Int) : ixN vs.length k = ixN xs.length k := by rw [h.length]
theorem ds_setO {k : Expr} {fk : Fx} {spos : Pos} (hv : PE X (.Name x p) (tVar i)) (he : DE X e fa) (hk : DE X k fk)
    (hasg : ∀ v, assign (.Subscript (.Name x p) k spos) X.env v = (do
      let ov ← holding [v] (eval (.Name x p) X.env)
      let iv ← holding [v, ov] (eval k X.env)
      standAt spos
      holding [v, ov, iv] (setItem ov iv v)
      release [v, ov, iv] []) := by intro _; rfl)
    (hs : swapsWithSole [.Subscript (.Name x p) k spos] e pos.line X.env = pure false := by rfl) (hw : swappedStores [.Subscript (.Name x p) k spos] e X.env = pure none := by rfl)
    (h1 : (assignEach [.Subscript (.Name x p) k spos] X.env).map (·.2) = [assign (.Subscript (.Name x p) k spos) X.env] := by rfl) :
    DS X (.Assign [.Subscript (.Name x p) k spos] e pos) (sSetO i fa fk) := by
  obtain ⟨ta, pa, qa⟩ := he
  obtain ⟨tk, pk, qk⟩ := hk
  refine ⟨_, ps_asg pa (pg_sub hv pk set_list hasg) hs hw h1, fun δ F own G H ρ γ σ o E R e k => ?_⟩
  obtain ⟨⟨z, ρ1, γ1⟩, e1, e⟩ := bind_some e
  obtain ⟨zs, e0, e⟩ := bind_some e
  obtain ⟨⟨y, ρ2, γ2⟩, e2, e⟩ := bind_some e
  obtain ⟨xs, e3, e⟩ := bind_some e
  refine qa δ F own G H ρ γ σ z _ _ _ R e1 fun v G1 H1 R1 s1 r1 => ?_
  obtain ⟨a, us, h1, _, _⟩ := R1.atO e0
  refine tvar_of h1 (qk δ F own G1 H1 _ _ σ y _ _ _ R1 e2 fun w G2 H2 R2 s2 r2 => ?_)
  obtain ⟨kk, e5, e⟩ := bind_some e
  cases intOf_some e5
  obtain ⟨j, e4, e⟩ := map_some e
  cases e
  cases r2.int_inv
  obtain ⟨a', vs, h1', h2, h3⟩ := R2.atO e3
  cases same_at h1 h1'
  refine ⟨_, vs, kk, j, rfl, rfl, h2, by rw [ixN_len h3]; exact e4, ?_⟩
  exact k own G2 _ σ (R2.putO e3 h1 (h3.set (r1.mono s2) j)) (s1.trans s2)
theorem de_pop (hv : PE X (.Name x p) (tVar i)) (hbase : attributeBase (.Name x p) "pop" X.env (eval (.Name x p) X.env) = eval (.Name x p) X.env := by rfl) (hline : (apos.endLine == cpos.line) = true := by rfl) :
    DE X (.Call (.Attribute (.Name x p) "pop" apos) [] [] cpos) (fPop i) := by
  refine ⟨_, pe_bm0 PySem.F.plainAttrs_list PySem.F.slot_list_pop PySem.F.type_list_pop mt_pop hv hbase hline, fun δ F own G H ρ γ σ d ρ' γ' Q R e k => ?_⟩
  obtain ⟨xs, e1, e⟩ := bind_some e
  obtain ⟨y, e2, e⟩ := map_some e
  obtain ⟨a, vs, h1, h2, h3⟩ := R.atO e1
  obtain ⟨u, hu, ru⟩ := h3.get e2
  rw [← h3.length] at hu
  have R2 := R.putO e1 h1 h3.dropLast
  have e9 := (Prod.mk.inj e).2
  have e8 := (Prod.mk.inj e).1
  subst e8
  try dsimp only at e9
  rw [e9] at R2
  exact tvar_of h1 ⟨tyV_list h2, _, vs, u, rfl, rfl, h2, hu, k u G _ R2 (Same.refl _) ru⟩
theorem de_popAt {kx : Expr} {fk : Fx} (hv : PE X (.Name x p) (tVar i)) (ha : DE X kx fk) (hbase : attributeBase (.Name x p) "pop" X.env (eval (.Name x p) X.env) = eval (.Name x p) X.env := by rfl)
    (hfew : ((backTo cpos (starEach [kx] X.env)).all (fun x => !x.1) && (backToKw cpos (keywordEach [] X.env)).all (fun x => x.1.isSome)
      && decide ([kx].length + ([] : List Keyword).length + (if ([] : List Keyword).isEmpty then 0 else 1) < 30)) = true := by rfl)
    (hline : (apos.endLine == cpos.line) = true := by rfl) (hs : starEach [kx] X.env = (false, eval kx X.env) :: starEach [] X.env := by rfl) (hplain : (backTo cpos (starEach [] X.env)).any (·.1) = false := by rfl) :
    DE X (.Call (.Attribute (.Name x p) "pop" apos) [kx] [] cpos) (fPopAt i fk) := by
  obtain ⟨ta, pa, qa⟩ := ha
  refine ⟨_, pe_bm PySem.F.plainAttrs_list PySem.F.slot_list_pop PySem.F.type_list_pop mt_popAt hv (pa_cons pa pa_nil hs) hbase hfew hline hs hplain, fun δ F own G H ρ γ σ d ρ' γ' Q R e k => ?_⟩
  obtain ⟨zs, e0, e⟩ := bind_some e
  obtain ⟨⟨z, ρ1, γ1⟩, e1, e⟩ := bind_some e
  obtain ⟨xs, e2, e⟩ := bind_some e
  obtain ⟨a, us, h1, h1', _⟩ := R.atO e0
  refine tvar_of h1 ⟨tyV_list h1', qa δ F own G H ρ γ σ z _ _ _ R e1 fun v G1 H1 R1 s1 r1 => ?_⟩
  obtain ⟨kk, e5, e⟩ := bind_some e
  cases intOf_some e5
  split at e
  case isFalse => cases e
  rename_i hb
  have hb := inB63 hb
  obtain ⟨j, e3, e⟩ := bind_some e
  obtain ⟨y, e4, e⟩ := map_some e
  cases r1.int_inv
  obtain ⟨a', vs, h1', h2, h3⟩ := R1.atO e2
  cases same_at h1 h1'
  obtain ⟨u, hu, ru⟩ := h3.get e4
  obtain ⟨q1, q2, q3, q4⟩ := ixN_seq e3
  have R2 := R1.putO e2 h1 (h3.erase j)
  have e9 := (Prod.mk.inj e).2
  have e8 := (Prod.mk.inj e).1
  subst e8
  try dsimp only at e9
  rw [e9] at R2
  refine ⟨_, vs, kk, j, u, rfl, rfl, h2, hb.1, hb.2, ?_, hu, k u G1 _ R2 s1 ru⟩
  · rw [h3.length]; exact q1
theorem dt_truO (hv : PE X (.Name x p) (tVar i)) (he : ∀ whole, isTrue (.Name x p) X.env whole = (do let v ← whole; standAt (PySem.Expr.Name x p).pos; holding [v] (truthy v)) := by intro _; rfl) : DT X (.Name x p) (fTruO i) := by
  refine ⟨_, pt_truth hv he, fun δ F own G H ρ γ σ d ρ' γ' Q R e k => ?_⟩
  obtain ⟨xs, e1, e⟩ := map_some e
  cases e
  obtain ⟨a, vs, h1, h2, h3⟩ := R.atO e1
  refine tvar_of h1 ⟨_, Or.inl ⟨vs, SqL.of h2, ?_⟩, k G H R (Same.refl _)⟩
  cases h3 <;> rfl
end
end DL

namespace DL
open PySem PySem.Spec PyProof.Rows L2
variable [WW]

abbrev Fg1 := D → Row → Option Row
def DG (X : Cx) (tg : Expr) (ts : List Nat) (g : Fg1) : Prop := ∃ t, PG X tg t ∧ ∀ (δ : List Addr) (F : Fm) (own : Nat → Addr) (G H : Hp) (ρ : Row) (γ : Bxs) (σ : L2.St) (v : V) (d : D) (ρ' : Row) (Q : L2.St → Hp → Prop),
  Rel X.K δ F own G H ρ γ σ → Rep X.K G v d → g d ρ = some ρ' → (∀ σ', Rel X.K δ F own G H ρ' γ σ' → (∀ vs : List Nat, (∀ i ∈ ts, i ∈ vs) → wipe σ' vs = wipe σ vs) → Q σ' H) → t v σ H Q
def DGs (X : Cx) (tg : List Expr) (ts : List Nat) (g : List D → Row → Option Row) : Prop := ∃ t, PGs X tg t ∧ ∀ (δ : List Addr) (F : Fm) (own : Nat → Addr) (G H : Hp) (ρ : Row) (γ : Bxs) (σ : L2.St) (v : List V) (d : List D) (ρ' : Row) (Q : L2.St → Hp → Prop),
  Rel X.K δ F own G H ρ γ σ → Reps X.K G v d → g d ρ = some ρ' → (∀ σ', Rel X.K δ F own G H ρ' γ σ' → (∀ vs : List Nat, (∀ i ∈ ts, i ∈ vs) → wipe σ' vs = wipe σ vs) → Q σ' H) → t v σ H Q
def gN (i : Nat) : Fg1 := fun d ρ => some (ρ.set i (.d d))
def gsN : List D → Row → Option Row := fun ds ρ => match ds with
  | [] => some ρ
  | _ => none
def gsC (g : Fg1) (gs : List D → Row → Option Row) : List D → Row → Option Row := fun ds ρ => match ds with
  | d :: r => (g d ρ).bind (gs r)
  | [] => none
def gT (n : Nat) (gs : List D → Row → Option Row) : Fg1 := fun d ρ => match d with
  | .tuple ds => if ds.length = n then gs ds ρ else none
  | .list ds => if ds.length = n then gs ds ρ else none
  | _ => none
theorem wipe_set {σ : L2.St} {i : Nat} {o : Option V} : ∀ {vs : List Nat}, i ∈ vs → wipe (σ.set i o) vs = wipe σ vs
  | [], h => by simp at h
  | v :: vs, h => by
    unfold wipe
    by_cases e : i ∈ vs
    · rw [wipe_set e]
    · have e' : i = v := by
        rcases List.mem_cons.mp h with z | z
        · exact z
        · exact absurd z e
      subst e'
      have : ∀ (l : List Nat) (s : L2.St) (o : Option V), i ∉ l → wipe (s.set i o) l = (wipe s l).set i o := by
        intro l
        induction l with
        | nil => intro s o _; rfl
        | cons a r ih =>
          intro s o hn
          simp only [List.mem_cons, not_or] at hn
          unfold wipe
          rw [ih s o hn.2, List.set_comm _ _ hn.1]
      rw [this vs σ o e]
      rw [List.set_set]
section
variable {X : Cx} {x : Str} {pos : Pos}
theorem dg_name {i : Nat} (O : Okc X) (hi : X.N[i]? = some x) (hx : Loc X.env.scope x) (hf : X.fn x = true ∨ X.env.scope.names.lookup x = some .local := by first | exact .inl rfl | exact .inr rfl | assumption) : DG X (.Name x pos) [i] (gN i) :=
  ⟨_, pg_name O.nd hi hx hf, fun δ F own G H ρ γ σ v d ρ' Q R r e k => by
    cases e
    exact k _ (R.setD r) fun vs hv => wipe_set (hv i List.mem_cons_self)⟩
theorem dgs_nil : DGs X [] [] gsN := ⟨_, pgs_nil, fun δ F own G H ρ γ σ v d ρ' Q R r e k => by
  cases d with
  | nil => cases r; cases e; exact ⟨rfl, k σ R fun _ _ => rfl⟩
  | cons a b => cases e⟩
theorem dgs_cons {e : Expr} {es : List Expr} {t1 t2 : List Nat} {g : Fg1} {gs : List D → Row → Option Row} (h1 : DG X e t1 g) (h2 : DGs X es t2 gs) (hs : (assignEach (e :: es) X.env).map (·.2) = assign e X.env :: (assignEach es X.env).map (·.2) := by rfl) : DGs X (e :: es) (t1 ++ t2) (gsC g gs) := by
  obtain ⟨ta, pa, qa⟩ := h1
  obtain ⟨tb, pb, qb⟩ := h2
  refine ⟨_, pgs_cons pa pb hs, fun δ F own G H ρ γ σ v d ρ' Q R r e k => ?_⟩
  cases d with
  | nil => cases e
  | cons a b =>
    cases r with
    | cons r1 r2 =>
      obtain ⟨ρ1, e1, e2⟩ := bind_some e
      refine ⟨_, _, rfl, qa δ F own G H ρ γ σ _ a ρ1 _ R r1 e1 fun σ1 R1 w1 => qb δ F own G H ρ1 γ σ1 _ b ρ' _ R1 r2 e2 fun σ2 R2 w2 => k σ2 R2 fun vs hv => ?_⟩
      rw [w2 vs fun i hi => hv i (List.mem_append_right _ hi), w1 vs fun i hi => hv i (List.mem_append_left _ hi)]
theorem pg_or {e : Expr} {t u : TG} (h1 : PG X e t) (h2 : PG X e u) : PG X e (fun v σ H Q => t v σ H Q ∨ u v σ H Q) :=
  ⟨fun pins s σ H v w Q I r h => h.elim (h1.run pins s σ H v w Q I r) (h2.run pins s σ H v w Q I r)⟩
theorem dg_tup {es : List Expr} {kk n : Nat} {ts : List Nat} {gs : List D → Row → Option Row} (O : Okc X) (h : DGs X es ts gs) (hn : (assignEach es X.env).length = n := by rfl) (hst : (assignEach es X.env).findIdx? (·.1) = none := by rfl) : DG X (.Tuple es kk pos) ts (gT n gs) := by
  obtain ⟨ta, pa, qa⟩ := h
  refine ⟨_, pg_or (pg_tup O.calm pa hn hst) (pg_unl O.calm pa hn hst), fun δ F own G H ρ γ σ v d ρ' Q R r e k => ?_⟩
  cases d with
  | tuple ds =>
    simp only [gT] at e
    split at e
    · rename_i hl
      obtain ⟨a, vs, rfl, hq, hs⟩ := r.tup_inv
      exact Or.inl ⟨a, vs, rfl, sqt_same R.sub hq, by rw [hs.length]; exact hl, qa δ F own G H ρ γ σ vs _ ρ' _ R hs e k⟩
    · cases e
  | list ds =>
    simp only [gT] at e
    split at e
    · rename_i hl
      obtain ⟨a, vs, rfl, hq, hs⟩ := r.lst_inv
      exact Or.inr ⟨a, vs, rfl, R.sub.seq hq, by rw [hs.length]; exact hl, qa δ F own G H ρ γ σ vs _ ρ' _ R hs e k⟩
    · cases e
  | _ => simp [gT] at e
end

structure ItOk (K : Fg) (G1 : Hp) (J : It) (ds : List D) : Prop where
  go : ∀ (G H : Hp), Same G1 G → Same G H → ∀ (i : Nat) (d : D), ds[i]? = some d → J.go i H ∧ ∀ x H', J.yld i H x H' → ∃ G', Step G H G' H' ∧ Rep K G' x d
  stop : ∀ (G H : Hp), Same G1 G → Same G H → J.stop ds.length H
def DI (X : Cx) (tg iter : Expr) (f : Fs) : Prop := ∃ wi, PI X tg iter wi ∧ ∀ (δ : List Addr) (F : Fm) (own : Nat → Addr) (G H : Hp) (ρ : Row) (γ : Bxs) (σ : L2.St) (ds : List D) (ρ' : Row) (γ' : Bxs) (R : It → Hp → Prop),
  Rel X.K δ F own G H ρ γ σ → f ρ γ = some (ds, ρ', γ') → (∀ J G' H', Rel X.K δ F own G' H' ρ' γ' σ → Same G G' → ItOk X.K G' J ds → R J H') → wi σ H R
/-- the items of data -/
def itemsD : D → Option (List D)
  | .list xs => some xs
  | .tuple xs => some xs
  | .str x => some (x.cps.toList.map fun c => .str (S [c]))
  | _ => none
def iE (fa : Fx) : Fs := fun ρ γ => (fa ρ γ).bind fun p => (itemsD p.1).map fun z => (z, p.2)
def range1D : List D → Option (List D)
  | [.int n] => if inB 4611686018427387904 n = true then some ((List.range n.toNat).map fun i => .int (i : Nat)) else none
  | _ => none
def range2D : List D → Option (List D)
  | [.int a, .int b] => if inB 4611686018427387904 a = true ∧ inB 4611686018427387904 b = true then some ((List.range (b - a).toNat).map fun i => .int (a + (i : Nat))) else none
  | _ => none
def iR (g : List D → Option (List D)) (fa : Fs) : Fs := fun ρ γ => (fa ρ γ).bind fun p => (g p.1).map fun z => (z, p.2)
section
variable {X : Cx} {tg e a b : Expr} {es : List Expr} {fa fb : Fx} {fs : Fs} {pos p : Pos}
theorem pi_or {w1 w2 : TI} (h1 : PI X tg e w1) (h2 : PI X tg e w2) : PI X tg e (fun σ H R => w1 σ H R ∨ w2 σ H R) :=
  ⟨fun pins s σ H R I h => h.elim (h1.run pins s σ H R I) (h2.run pins s σ H R I)⟩
theorem it_list {K : Fg} {G1 : Hp} {a : Addr} {vs : List V} {ds : List D} (h : SqL K G1 a vs) (hs : Reps K G1 vs ds) (uniq : ∀ (H : Hp) (xs : List V), Same G1 H → SqL K H a xs → xs = vs) : ItOk K G1 (Itl K a) ds := by
  refine ⟨fun G H s1 s2 i d hd => ?_, fun G H s1 s2 => ⟨vs, (s1.trans s2).seq h, by rw [hs.length]; exact Nat.le_refl _⟩⟩
  obtain ⟨v, hv, r⟩ := hs.get hd
  refine ⟨⟨vs, v, (s1.trans s2).seq h, hv⟩, fun x H' ⟨eh, y⟩ => ?_⟩
  subst eh
  have := y vs ((s1.trans s2).seq h)
  rw [hv] at this; cases this
  exact ⟨G, Step.refl s2, r.mono s1⟩
theorem it_list' {K : Fg} {G1 : Hp} {a : Addr} {vs : List V} {ds : List D} (h : SqL K G1 a vs) (hs : Reps K G1 vs ds) : ItOk K G1 (Itl K a) ds := by
  refine ⟨fun G H s1 s2 i d hd => ?_, fun G H s1 s2 => ⟨vs, (s1.trans s2).seq h, by rw [hs.length]; exact Nat.le_refl _⟩⟩
  obtain ⟨v, hv, r⟩ := hs.get hd
  refine ⟨⟨vs, v, (s1.trans s2).seq h, hv⟩, fun x H' ⟨eh, y⟩ => ?_⟩
  subst eh
  have := y vs ((s1.trans s2).seq h)
  rw [hv] at this; cases this
  exact ⟨G, Step.refl s2, r.mono s1⟩
theorem it_tup {K : Fg} {G1 : Hp} {a : Addr} {vs : List V} {ds : List D} (h : SqT K G1 a vs) (hs : Reps K G1 vs ds) : ItOk K G1 (Itt K a) ds := by
  refine ⟨fun G H s1 s2 i d hd => ?_, fun G H s1 s2 => ⟨vs, sqt_same (s1.trans s2) h, by rw [hs.length]; exact Nat.le_refl _⟩⟩
  obtain ⟨v, hv, r⟩ := hs.get hd
  refine ⟨⟨vs, v, sqt_same (s1.trans s2) h, hv⟩, fun x H' ⟨eh, y⟩ => ?_⟩
  subst eh
  have := y vs (sqt_same (s1.trans s2) h)
  rw [hv] at this; cases this
  exact ⟨G, Step.refl s2, r.mono s1⟩
theorem it_range {K : Fg} {G1 : Hp} (lo : Int) (n : Nat) : ItOk K G1 (Itr lo n) ((List.range n).map fun i => .int (lo + (i : Nat))) := by
  refine ⟨fun G H s1 s2 i d hd => ?_, fun G H s1 s2 => ?_⟩
  · rw [List.getElem?_map] at hd
    obtain ⟨j, hj, rfl⟩ := map_some hd
    obtain ⟨hl, hj⟩ := List.getElem?_eq_some_iff.mp hj
    rw [List.getElem_range] at hj
    subst hj
    refine ⟨by rw [List.length_range] at hl; exact hl, fun x H' ⟨eh, ex⟩ => ?_⟩
    subst eh
    subst ex
    exact ⟨G, Step.refl s2, .int _⟩
  · show n ≤ _
    rw [List.length_map, List.length_range]
    exact Nat.le_refl _
theorem it_str {K : Fg} {G1 : Hp} (x : Str) : ItOk K G1 (Its x) (x.cps.toList.map fun c => .str (S [c])) := by
  refine ⟨fun G H s1 s2 i d hd => ?_, fun G H s1 s2 => ?_⟩
  · rw [List.getElem?_map] at hd
    obtain ⟨c, hc, rfl⟩ := map_some hd
    have hl : i < x.cps.size := by
      have := (List.getElem?_eq_some_iff.mp hc).1
      simpa using this
    refine ⟨hl, fun v H' ⟨eh, c', hc', ev⟩ => ?_⟩
    subst eh
    subst ev
    have : x.cps[i]? = some c := by simpa using hc
    rw [this] at hc'; cases hc'
    exact ⟨G, Step.refl s2, .str _⟩
  · show x.cps.size ≤ _
    simp
theorem di_e (ha : DE X a fa) : DI X tg a (iE fa) := by
  obtain ⟨t, p, q⟩ := ha
  refine ⟨_, pi_or (pi_list p) (pi_or (pi_tup p) (pi_str p)), fun δ F own G H ρ γ σ ds ρ' γ' R r e k => ?_⟩
  obtain ⟨⟨x, ρ1, γ1⟩, e1, e⟩ := bind_some e
  obtain ⟨z, e2, e⟩ := map_some e
  cases e
  cases x with
  | list xs =>
    cases e2
    refine Or.inl (q δ F own G H ρ γ σ _ _ _ _ r e1 fun v G1 H1 R1 s1 r1 => ?_)
    obtain ⟨l, vs, rfl, hq, hs⟩ := r1.lst_inv
    exact ⟨l, rfl, ⟨vs, R1.sub.seq hq⟩, k _ G1 H1 R1 s1 (it_list' hq hs)⟩
  | tuple xs =>
    cases e2
    refine Or.inr (Or.inl (q δ F own G H ρ γ σ _ _ _ _ r e1 fun v G1 H1 R1 s1 r1 => ?_))
    obtain ⟨l, vs, rfl, hq, hs⟩ := r1.tup_inv
    exact ⟨l, rfl, ⟨vs, sqt_same R1.sub hq⟩, k _ G1 H1 R1 s1 (it_tup hq hs)⟩
  | str y =>
    cases e2
    refine Or.inr (Or.inr (q δ F own G H ρ γ σ _ _ _ _ r e1 fun v G1 H1 R1 s1 r1 => ?_))
    cases r1.str_inv
    exact ⟨y, rfl, k _ G1 H1 R1 s1 (it_str y)⟩
  | _ => cases e2
theorem di_range1 (hg : Gl X "range") (hm : X.mg "range" = none) (ha : DA X [a] fs) (hs : starEach [a] X.env = [(false, eval a X.env)] := by rfl) : DI X tg (.Call (.Name "range" p) [a] [] pos) (iR range1D fs) := by
  obtain ⟨t, pa, q⟩ := ha
  refine ⟨_, pi_range1 hg hm pa hs, fun δ F own G H ρ γ σ ds ρ' γ' R r e k => ?_⟩
  obtain ⟨⟨x, ρ1, γ1⟩, e1, e⟩ := bind_some e
  obtain ⟨z, e2, e⟩ := map_some e
  cases e
  refine q δ F own G H ρ γ σ _ _ _ _ r e1 fun v G1 H1 R1 s1 r1 => ?_
  match x, e2, r1 with
  | [.int n], e2, r1 =>
    simp only [range1D] at e2
    split at e2
    · rename_i hb
      have hb := inB62 hb
      cases e2
      obtain ⟨w, rfl, rw'⟩ := one_inv r1
      cases rw'.int_inv
      refine ⟨n, rfl, hb.1, hb.2, k _ G1 H1 R1 s1 ?_⟩
      have := it_range (K := X.K) (G1 := G1) 0 n.toNat
      simpa using this
    · cases e2
theorem di_range2 (hg : Gl X "range") (hm : X.mg "range" = none) (ha : DA X [a, b] fs) (hs : starEach [a, b] X.env = [(false, eval a X.env), (false, eval b X.env)] := by rfl) (hs2 : starEach [b] X.env = [(false, eval b X.env)] := by rfl) : DI X tg (.Call (.Name "range" p) [a, b] [] pos) (iR range2D fs) := by
  obtain ⟨t, pa, q⟩ := ha
  refine ⟨_, pi_range2 hg hm pa hs hs2, fun δ F own G H ρ γ σ ds ρ' γ' R r e k => ?_⟩
  obtain ⟨⟨x, ρ1, γ1⟩, e1, e⟩ := bind_some e
  obtain ⟨z, e2, e⟩ := map_some e
  cases e
  refine q δ F own G H ρ γ σ _ _ _ _ r e1 fun v G1 H1 R1 s1 r1 => ?_
  match x, e2, r1 with
  | [.int n, .int m], e2, r1 =>
    simp only [range2D] at e2
    split at e2
    · rename_i hb
      have hb : -(2 ^ 62) ≤ n ∧ n < 2 ^ 62 ∧ -(2 ^ 62) ≤ m ∧ m < 2 ^ 62 := ⟨(inB62 hb.1).1, (inB62 hb.1).2, (inB62 hb.2).1, (inB62 hb.2).2⟩
      cases e2
      obtain ⟨u, w, rfl, r2, r3⟩ := pair_inv r1
      cases r2.int_inv
      cases r3.int_inv
      exact ⟨n, m, rfl, hb, k _ G1 H1 R1 s1 (it_range n (m - n).toNat)⟩
    · cases e2
end

def forL (g : Fg1) (fb : Fst) : List D → Row → Bxs → Option Oc
  | [], ρ, γ => some (.nx ρ γ)
  | d :: ds, ρ, γ => (g d ρ).bind fun ρ1 => (fb ρ1 γ).bind fun o => match o with
    | .nx ρ2 γ2 => forL g fb ds ρ2 γ2
    | .ct ρ2 γ2 => forL g fb ds ρ2 γ2
    | .bk ρ2 γ2 => some (.nx ρ2 γ2)
    | .rt d γ2 => some (.rt d γ2)
def sFor (fi : Fs) (g : Fg1) (fb : Fst) : Fst := fun ρ γ => (fi ρ γ).bind fun p => forL g fb p.1 p.2.1 p.2.2
def whL (c : Ft) (fb : Fst) : Nat → Row → Bxs → Option Oc
  | 0, _, _ => none
  | n + 1, ρ, γ => (c ρ γ).bind fun p => if p.1 = true then (fb p.2.1 p.2.2).bind fun o => (match o with
    | .nx ρ2 γ2 => whL c fb n ρ2 γ2
    | .ct ρ2 γ2 => whL c fb n ρ2 γ2
    | .bk ρ2 γ2 => some (.nx ρ2 γ2)
    | .rt d γ2 => some (.rt d γ2)) else some (.nx p.2.1 p.2.2)
def sWh (fuel : Row → Bxs → Nat) (c : Ft) (fb : Fst) : Fst := fun ρ γ => whL c fb (fuel ρ γ) ρ γ
theorem drop_at {α : Type} {l : List α} {i : Nat} (h : i < l.length) : ∃ x, l[i]? = some x ∧ l.drop i = x :: l.drop (i + 1) :=
  ⟨l[i], by simp [h], List.drop_eq_getElem_cons h⟩
section
variable {X : Cx} {tg iter c : Expr} {body : List Stmt} {fi : Fs} {g : Fg1} {ts : List Nat} {fb : Fst} {ft : Ft} {pos : Pos}
theorem ds_for (O : Okc X) (hi : DI X tg iter fi) (hg : DG X tg ts g) (hb : DB X body fb) (hs : ∀ x, foldedSetIterable iter X.env x = pure x := by intro _; rfl) : DS X (.For tg iter body [] pos) (sFor fi g fb) := by
  obtain ⟨wi, pi, qi⟩ := hi
  obtain ⟨tg', pg, qg⟩ := hg
  obtain ⟨tb, pb, qb⟩ := hb
  refine ⟨_, ps_for O.pas O.calm pi pg pb hs, fun δ F own G H ρ γ σ o E R e k => ?_⟩
  obtain ⟨⟨ds, ρ1, γ1⟩, e1, e⟩ := bind_some e
  refine qi δ F own G H ρ γ σ ds _ _ _ R e1 fun J G1 H1 R1 s1 it => ?_
  have k1 := k.mono s1
  refine ⟨fun i m σ H => m = ds.length - i ∧ i ≤ ds.length ∧ ∃ own G ρ γ, Rel X.K δ F own G H ρ γ σ ∧ Same G1 G ∧ forL g fb (ds.drop i) ρ γ = some o, ⟨ds.length, by simp, Nat.zero_le _, own, G1, ρ1, γ1, R1, Same.refl _, e⟩, ?_⟩
  rintro i m σ2 H2 ⟨rfl, hi, own2, G2, ρ2, γ2, R2, s2, e2⟩
  by_cases hlt : i < ds.length
  · obtain ⟨d, hd, hdr⟩ := drop_at hlt
    rw [hdr] at e2
    obtain ⟨ρ3, e3, e2⟩ := bind_some e2
    obtain ⟨o3, e4, e5⟩ := bind_some e2
    obtain ⟨gn, gy⟩ := it.go G2 H2 s2 R2.sub i d hd
    refine Or.inr ⟨gn, fun σ' H' => ∃ own G ρ γ, Rel X.K δ F own G H' ρ γ σ' ∧ Same G1 G ∧ forL g fb (ds.drop (i + 1)) ρ γ = some o, fun σ' H' h => ⟨ds.length - (i + 1), by omega, rfl, hlt, h⟩, fun x H3 y => ?_⟩
    obtain ⟨G3, st, rx⟩ := gy x H3 y
    refine qg δ F own2 G3 H3 ρ2 γ2 σ2 x d ρ3 _ (R2.step st) rx e3 fun σ4 R4 _ => ?_
    refine qb δ F own2 G3 H3 ρ3 γ2 σ4 o3 _ R4 e4 ?_
    cases o3 with
    | nx ρ5 γ5 => exact fun own5 G5 H5 σ5 R5 s5 => ⟨own5, G5, ρ5, γ5, R5, (s2.trans st.sg).trans s5, e5⟩
    | ct ρ5 γ5 => exact fun own5 G5 H5 σ5 R5 s5 => ⟨own5, G5, ρ5, γ5, R5, (s2.trans st.sg).trans s5, e5⟩
    | bk ρ5 γ5 =>
      cases e5
      exact fun own5 G5 H5 σ5 R5 s5 => k1 own5 G5 H5 σ5 R5 ((s2.trans st.sg).trans s5)
    | rt d5 γ5 =>
      cases e5
      exact k1
  · have ei : i = ds.length := by omega
    subst ei
    rw [List.drop_length] at e2
    cases e2
    exact Or.inl ⟨it.stop G2 H2 s2 R2.sub, k1 own2 G2 H2 σ2 R2 s2⟩
theorem ds_wh (O : Okc X) (fuel : Row → Bxs → Nat) (hc : DT X c ft) (hb : DB X body fb) : DS X (.While c body [] pos) (sWh fuel ft fb) := by
  obtain ⟨tc, pc, qc⟩ := hc
  obtain ⟨tb, pb, qb⟩ := hb
  refine ⟨_, ps_while O.pas pc pb, fun δ F own G H ρ γ σ o E R e k => ?_⟩
  refine ⟨fun m σ H => ∃ own G1 ρ γ, Rel X.K δ F own G1 H ρ γ σ ∧ Same G G1 ∧ whL ft fb m ρ γ = some o, ⟨_, own, G, ρ, γ, R, Same.refl _, e⟩, ?_⟩
  rintro m σ2 H2 ⟨own2, G2, ρ2, γ2, R2, s2, e2⟩
  cases m with
  | zero => cases e2
  | succ n =>
    obtain ⟨⟨b, ρ3, γ3⟩, e3, e4⟩ := bind_some e2
    refine qc δ F own2 G2 H2 ρ2 γ2 σ2 b _ _ _ R2 e3 fun G3 H3 R3 s3 => ?_
    cases b with
    | false =>
      cases e4
      exact iteF (k own2 G3 H3 σ2 R3 (s2.trans s3))
    | true =>
      obtain ⟨o4, e5, e6⟩ := bind_some e4
      refine iteT ⟨fun σ' H' => ∃ own G1 ρ γ, Rel X.K δ F own G1 H' ρ γ σ' ∧ Same G G1 ∧ whL ft fb n ρ γ = some o, fun σ' H' h => ⟨n, Nat.lt_succ_self n, h⟩, ?_⟩
      refine qb δ F own2 G3 H3 _ _ σ2 o4 _ R3 e5 ?_
      cases o4 with
      | nx ρ5 γ5 => exact fun own5 G5 H5 σ5 R5 s5 => ⟨own5, G5, ρ5, γ5, R5, (s2.trans s3).trans s5, e6⟩
      | ct ρ5 γ5 => exact fun own5 G5 H5 σ5 R5 s5 => ⟨own5, G5, ρ5, γ5, R5, (s2.trans s3).trans s5, e6⟩
      | bk ρ5 γ5 =>
        cases e6
        exact fun own5 G5 H5 σ5 R5 s5 => k own5 G5 H5 σ5 R5 ((s2.trans s3).trans s5)
      | rt d5 γ5 =>
        cases e6
        exact k
end
end DL

namespace DL
open PySem PySem.Spec PyProof.Rows L2
variable [WW]

/-- these slots are forgotten -/
def unS : List Nat → Row → Row
  | [], ρ => ρ
  | i :: is, ρ => (unS is ρ).set i .un
theorem unS_length : ∀ (vs : List Nat) (ρ : Row), (unS vs ρ).length = ρ.length
  | [], _ => rfl
  | i :: is, ρ => by unfold unS; rw [List.length_set, unS_length is ρ]
theorem unS_get {ρ : Row} {i : Nat} {s : Sl} : ∀ {vs : List Nat}, (unS vs ρ)[i]? = some s → s ≠ .un → ρ[i]? = some s ∧ i ∉ vs
  | [], h, _ => ⟨h, by simp⟩
  | v :: vs, h, hn => by
    unfold unS at h
    by_cases e : v = i
    · subst e
      by_cases hl : v < (unS vs ρ).length
      · rw [get_set_eq hl] at h; cases h; exact absurd rfl hn
      · rw [List.getElem?_eq_none (by simpa using hl)] at h; cases h
    · rw [get_set_ne e] at h
      obtain ⟨h1, h2⟩ := unS_get h hn
      exact ⟨h1, by simp only [List.mem_cons, not_or]; exact ⟨fun z => e z.symm, h2⟩⟩
theorem unS_at (ρ : Row) (i : Nat) : ∀ vs : List Nat, (unS vs ρ)[i]? = if i ∈ vs then ρ[i]?.map (fun _ => Sl.un) else ρ[i]?
  | [] => by simp [unS]
  | v :: vs => by
    unfold unS
    by_cases e : v = i
    · subst e
      rw [if_pos List.mem_cons_self]
      by_cases hl : v < ρ.length
      · rw [get_set_eq (by rw [unS_length]; exact hl)]; simp [hl]
      · have h1 : ρ[v]? = none := List.getElem?_eq_none (by omega)
        rw [h1, List.getElem?_eq_none (by rw [List.length_set, unS_length]; omega)]; rfl
    · rw [get_set_ne e, unS_at ρ i vs]
      have h2 : (i ∈ v :: vs) ↔ i ∈ vs := by simp only [List.mem_cons]; exact ⟨fun z => z.resolve_left (fun z2 => e z2.symm), Or.inr⟩
      simp only [h2]
theorem unS_unS (vs : List Nat) (ρ : Row) : unS vs (unS vs ρ) = unS vs ρ := by
  apply List.ext_getElem?
  intro i
  rw [unS_at (unS vs ρ), unS_at ρ]
  by_cases h : i ∈ vs
  · rw [if_pos h, if_pos h]; cases ρ[i]? <;> rfl
  · rw [if_neg h, if_neg h]
theorem wipe_at (σ : L2.St) (i : Nat) : ∀ vs : List Nat, (L2.wipe σ vs)[i]? = if i ∈ vs then σ[i]?.map (fun _ => none) else σ[i]?
  | [] => by simp [L2.wipe]
  | v :: vs => by
    unfold L2.wipe
    by_cases e : v = i
    · subst e
      rw [if_pos List.mem_cons_self]
      by_cases hl : v < σ.length
      · rw [get_set_eq (by rw [wipe_length]; exact hl)]; simp [hl]
      · have h1 : σ[v]? = none := List.getElem?_eq_none (by omega)
        rw [h1, List.getElem?_eq_none (by rw [List.length_set, wipe_length]; omega)]; rfl
    · rw [get_set_ne e, wipe_at σ i vs]
      have h2 : (i ∈ v :: vs) ↔ i ∈ vs := by simp only [List.mem_cons]; exact ⟨fun z => z.resolve_left (fun z2 => e z2.symm), Or.inr⟩
      simp only [h2]
theorem wipe_wipe (vs : List Nat) (σ : L2.St) : L2.wipe (L2.wipe σ vs) vs = L2.wipe σ vs := by
  apply List.ext_getElem?
  intro i
  rw [wipe_at (L2.wipe σ vs), wipe_at σ]
  by_cases h : i ∈ vs
  · rw [if_pos h, if_pos h]; cases σ[i]? <;> rfl
  · rw [if_neg h, if_neg h]
section
variable {K : Fg} {δ : List Addr} {F : Fm} {own : Nat → Addr} {G H : Hp} {ρ : Row} {γ : Bxs} {σ σ' : L2.St}
/-- other slots, where those agree that are still known -/
theorem Rel.forget (r : Rel K δ F own G H ρ γ σ) (vs : List Nat) (hl : σ'.length = σ.length) (h : ∀ i : Nat, i ∉ vs → σ'[i]? = σ[i]?) : Rel K δ F own G H (unS vs ρ) γ σ' := by
  refine ⟨r.wd, r.g0, r.q0, r.h0, by rw [unS_length, r.len, hl], fun i s hi => ?_, fun i xs hi => ?_, fun i j xs ys hi hj => ?_⟩
  · cases s with
    | un => trivial
    | d x =>
      obtain ⟨h1, h2⟩ := unS_get hi (fun z => nomatch z)
      rw [h i h2]; exact r.slot i _ h1
    | bx n =>
      obtain ⟨h1, h2⟩ := unS_get hi (fun z => nomatch z)
      rw [h i h2]; exact r.slot i _ h1
    | ow xs =>
      obtain ⟨h1, h2⟩ := unS_get hi (fun z => nomatch z)
      rw [h i h2]; exact r.slot i _ h1
  · exact r.ownd i xs (unS_get hi (fun z => nomatch z)).1
  · exact r.inj i j xs ys (unS_get hi (fun z => nomatch z)).1 (unS_get hj (fun z => nomatch z)).1
theorem wipe_get {σ : L2.St} {i : Nat} {vs : List Nat} (h : i ∉ vs) : (wipe σ vs)[i]? = σ[i]? := wipe_out h
theorem Rel.wipe (r : Rel K δ F own G H ρ γ σ) (vs : List Nat) : Rel K δ F own G H (unS vs ρ) γ (L2.wipe σ vs) :=
  r.forget vs (wipe_length σ vs) fun i hi => wipe_out hi
theorem Rel.unwipe (r : Rel K δ F own G H ρ γ σ') {vs : List Nat} (hl : σ'.length = σ.length) (h : L2.wipe σ' vs = L2.wipe σ vs) : Rel K δ F own G H (unS vs ρ) γ σ :=
  r.forget vs hl.symm fun i hi => by rw [← wipe_out (σ := σ) hi, ← h, wipe_out hi]
/-- a list that is nobody's is written -/
theorem Rel.updF (r : Rel K δ F own G H ρ γ σ) {p : Addr} {o : HO} (f : Free δ F own G ρ p) (nt : NT H p) : Rel K δ F own G (upd H p o) ρ γ σ := by
  refine ⟨⟨fun b u e => ?_, r.wd.len, r.wd.nd, r.wd.out, fun n c hc => ?_, r.wd.tb.wr nt⟩, r.g0, r.q0, fun b u h1 h2 h3 => ?_, r.len, fun j s hj => ?_, r.ownd, r.inj⟩
  · have hb : b ≠ p := fun z => by rw [z, f.g] at e; cases e
    rw [upd_ne hb]; exact r.sub _ _ e
  · obtain ⟨a, ws, h1, h2, h3⟩ := r.wd.cell n c hc
    have hb : a ≠ p := fun z => f.d (z ▸ List.mem_of_getElem? h1)
    exact ⟨a, ws, h1, by rw [upd_ne hb]; exact h2, h3⟩
  · have hb : b ≠ p := fun z => by rw [z, f.f] at h1; cases h1
    rw [upd_ne hb]; exact r.h0 b u h1 h2 h3
  · have q := r.slot j s hj
    cases s with
    | un => trivial
    | d x => exact q
    | bx n => exact q
    | ow ys => exact ⟨q.1, q.2.at (Same.refl _) fun u hu => by rw [upd_ne (f.o j ys hj)]; exact hu⟩
end

/-- the turns: the items left, what is made so far -/
def lcL (vs : List Nat) (g : Fg1) (ft : Ft) (fe : Fx) : List D → List D → Row → Bxs → Option (List D × Row × Bxs)
  | [], acc, ρ, γ => some (acc, ρ, γ)
  | d :: ds, acc, ρ, γ => (g d ρ).bind fun ρ1 => (ft ρ1 γ).bind fun p => if p.1 = true then
      (fe p.2.1 p.2.2).bind fun q => if acc.length < sizeLine then lcL vs g ft fe ds (acc ++ [q.1]) (unS vs q.2.1) q.2.2 else none
    else lcL vs g ft fe ds acc (unS vs p.2.1) p.2.2
def qLc (fi : Fs) (vs : List Nat) (g : Fg1) (ft : Ft) (fe : Fx) : Fq := fun ρ γ => (fi ρ γ).bind fun p => (lcL vs g ft fe p.1 [] (unS vs p.2.1) p.2.2).map fun q => (.ow (.l q.1), q.2)
def fYes : Ft := fun ρ γ => some (true, ρ, γ)
def QT (K : Fg) (t : TE) (f : Fq) : Prop := ∀ (δ : List Addr) (F : Fm) (own : Nat → Addr) (G H : Hp) (ρ : Row) (γ : Bxs) (σ : L2.St) (s : Sl) (ρ' : Row) (γ' : Bxs) (Q : VK),
  Rel K δ F own G H ρ γ σ → f ρ γ = some (s, ρ', γ') → (∀ v G' H', Rel K δ F own G' H' ρ' γ' σ → Same G G' → SlV K δ F own ρ' G' H' v s → Q v H') → t σ H Q
def DTs (X : Cx) (es : List Expr) (f : Ft) : Prop := ∃ t, PTs X es t ∧ ∀ (δ : List Addr) (F : Fm) (own : Nat → Addr) (G H : Hp) (ρ : Row) (γ : Bxs) (σ : L2.St) (d : Bool) (ρ' : Row) (γ' : Bxs) (Q : Bool → Hp → Prop),
  Rel X.K δ F own G H ρ γ σ → f ρ γ = some (d, ρ', γ') → (∀ G' H', Rel X.K δ F own G' H' ρ' γ' σ → Same G G' → Q d H') → t σ H Q
theorem dts_nil {X : Cx} : DTs X [] fYes := ⟨_, pts_nil, fun δ F own G H ρ γ σ d ρ' γ' Q R e k => by cases e; exact k G H R (Same.refl _)⟩
theorem dts_one {X : Cx} {c : Expr} {ft : Ft} (h : DT X c ft) : DTs X [c] ft := by
  obtain ⟨t, p, q⟩ := h
  exact ⟨t, pts_one p, q⟩

/-- the readings' own sides (no context in them) -/
def GR (K : Fg) (t : TG) (ts : List Nat) (g : Fg1) : Prop := ∀ (δ : List Addr) (F : Fm) (own : Nat → Addr) (G H : Hp) (ρ : Row) (γ : Bxs) (σ : L2.St) (v : V) (d : D) (ρ' : Row) (Q : L2.St → Hp → Prop),
  Rel K δ F own G H ρ γ σ → Rep K G v d → g d ρ = some ρ' → (∀ σ', Rel K δ F own G H ρ' γ σ' → (∀ vs : List Nat, (∀ i ∈ ts, i ∈ vs) → wipe σ' vs = wipe σ vs) → Q σ' H) → t v σ H Q
def TR (K : Fg) (t : TT) (f : Ft) : Prop := ∀ (δ : List Addr) (F : Fm) (own : Nat → Addr) (G H : Hp) (ρ : Row) (γ : Bxs) (σ : L2.St) (d : Bool) (ρ' : Row) (γ' : Bxs) (Q : Bool → Hp → Prop),
  Rel K δ F own G H ρ γ σ → f ρ γ = some (d, ρ', γ') → (∀ G' H', Rel K δ F own G' H' ρ' γ' σ → Same G G' → Q d H') → t σ H Q
def ER (K : Fg) (t : TE) (f : Fx) : Prop := ∀ (δ : List Addr) (F : Fm) (own : Nat → Addr) (G H : Hp) (ρ : Row) (γ : Bxs) (σ : L2.St) (d : D) (ρ' : Row) (γ' : Bxs) (Q : VK),
  Rel K δ F own G H ρ γ σ → f ρ γ = some (d, ρ', γ') → (∀ v G' H', Rel K δ F own G' H' ρ' γ' σ → Same G G' → Rep K G' v d → Q v H') → t σ H Q
def IR (K : Fg) (wi : TI) (f : Fs) : Prop := ∀ (δ : List Addr) (F : Fm) (own : Nat → Addr) (G H : Hp) (ρ : Row) (γ : Bxs) (σ : L2.St) (ds : List D) (ρ' : Row) (γ' : Bxs) (R : It → Hp → Prop),
  Rel K δ F own G H ρ γ σ → f ρ γ = some (ds, ρ', γ') → (∀ J G' H', Rel K δ F own G' H' ρ' γ' σ → Same G G' → ItOk K G' J ds → R J H') → wi σ H R

theorem SlV.ol_at {K : Fg} {δ : List Addr} {F : Fm} {own : Nat → Addr} {ρ : Row} {G H : Hp} {p : Addr} {xs : List D} (h : SlV K δ F own ρ G H (.ref p) (.ow (.l xs))) : ∃ vs, Free δ F own G ρ p ∧ H p = some (.lst vs) ∧ Reps K G vs xs := by
  obtain ⟨q, e, f, vs, hp, hs⟩ := h
  cases e
  exact ⟨vs, f, hp, hs⟩
theorem Free.unS {δ : List Addr} {F : Fm} {own : Nat → Addr} {G : Hp} {ρ : Row} {p : Addr} (f : Free δ F own G ρ p) (vs : List Nat) : Free δ F own G (DL.unS vs ρ) p :=
  ⟨f.g, f.d, f.f, fun j xs hj => f.o j xs (unS_get hj (fun z => nomatch z)).1⟩
theorem qt_lc {K : Fg} {wi : TI} {g : TG} {tt : TT} {te : TE} {vs : List Nat} {fi : Fs} {gg : Fg1} {ts : List Nat} {ft : Ft} {fe : Fx} (hi : IR K wi fi) (hg : GR K g ts gg) (ht : TR K tt ft) (he : ER K te fe) (hv : ∀ i ∈ ts, i ∈ vs) : QT K (tLc wi g tt te vs) (qLc fi vs gg ft fe) := by
  intro δ F own G H ρ γ σ s ρ' γ' Q R e k
  obtain ⟨⟨ds, ρ1, γ1⟩, e1, e⟩ := bind_some e
  obtain ⟨⟨res, ρ2, γ2⟩, e2, e⟩ := map_some e
  cases e
  refine hi δ F own G H ρ γ σ ds _ _ _ R e1 fun J G1 H1 R1 s1 it => ?_
  intro Dl hD
  have f0 : Free δ F own G1 ρ1 Dl := R1.live hD
  have R1' := (R1.updF (o := .lst []) f0 (.none hD)).forget vs (σ' := σ) rfl fun _ _ => rfl
  refine ⟨fun i m H => m = ds.length - i ∧ i ≤ ds.length ∧ ∃ G ρ γ acc, Rel K δ F own G H ρ γ σ ∧ Same G1 G ∧ SlV K δ F own ρ G H (.ref Dl) (.ow (.l acc)) ∧ unS vs ρ = ρ ∧ lcL vs gg ft fe (ds.drop i) acc ρ γ = some (res, ρ', γ'),
    ⟨ds.length, by simp, Nat.zero_le _, G1, unS vs ρ1, γ1, [], R1', Same.refl _, ⟨Dl, rfl, f0.unS vs, [], upd_same, .nil⟩, unS_unS vs ρ1, e2⟩, ?_⟩
  rintro i m H2 ⟨rfl, hle, G2, ρ2, γ2, acc, R2, s2, sv, eu, e3⟩
  by_cases hlt : i < ds.length
  · obtain ⟨d, hd, hdr⟩ := drop_at hlt
    rw [hdr] at e3
    obtain ⟨ρ3, e4, e5⟩ := bind_some e3
    obtain ⟨⟨b, ρ4, γ4⟩, e6, e7⟩ := bind_some e5
    obtain ⟨gn, gy⟩ := it.go G2 H2 s2 R2.sub i d hd
    refine Or.inr ⟨gn, fun H' => ∃ G ρ γ acc, Rel K δ F own G H' ρ γ σ ∧ Same G1 G ∧ SlV K δ F own ρ G H' (.ref Dl) (.ow (.l acc)) ∧ unS vs ρ = ρ ∧ lcL vs gg ft fe (ds.drop (i + 1)) acc ρ γ = some (res, ρ', γ'), fun H' h => ⟨ds.length - (i + 1), by omega, rfl, hlt, h⟩, fun x H3 y => ?_⟩
    obtain ⟨G3, st, rx⟩ := gy x H3 y
    -- the turn runs under the frame that keeps the new list
    have R3 := ((R2.hold sv).step st).wipe vs
    rw [eu] at R3
    refine hg δ _ own G3 H3 ρ2 γ2 (wipe σ vs) x d ρ3 _ R3 rx e4 fun σ4 R4 w4 => ?_
    have hw : wipe σ4 vs = wipe σ vs := by rw [w4 vs hv, wipe_wipe]
    have hlen : σ4.length = σ.length := by rw [← wipe_length σ4 vs, hw, wipe_length]
    refine ⟨hw, ht δ _ own G3 H3 ρ3 γ2 σ4 b _ _ _ R4 e6 fun G4 H4 R5 s5 => ?_⟩
    cases b with
    | false =>
      have e7 : lcL vs gg ft fe (ds.drop (i + 1)) acc (unS vs ρ4) γ4 = some (res, ρ', γ') := e7
      obtain ⟨R6, sv6⟩ := Rel.unhold R2.g0 sv (st.sg.trans s5) R5
      refine iteF ⟨G4, unS vs ρ4, γ4, acc, R6.unwipe hlen hw, s2.trans (st.sg.trans s5), ?_, unS_unS _ _, e7⟩
      obtain ⟨ws, f6, h6, r6⟩ := sv6.ol_at
      exact ⟨Dl, rfl, f6.unS vs, ws, h6, r6⟩
    | true =>
      obtain ⟨⟨d', ρ5, γ5⟩, e8, e9⟩ := bind_some e7
      split at e9
      case isFalse => cases e9
      rename_i hz
      refine iteT (he δ _ own G4 H4 _ _ σ4 d' _ _ _ R5 e8 fun v G5 H5 R6 s6 r6 => ?_)
      obtain ⟨R7, sv7⟩ := Rel.unhold R2.g0 sv ((st.sg.trans s5).trans s6) R6
      obtain ⟨ws, f7, h7, r7⟩ := sv7.ol_at
      refine ⟨ws, h7, by rw [r7.length]; exact hz, G5, unS vs ρ5, γ5, acc ++ [d'], (R7.updF f7 (.lst h7)).unwipe hlen hw, s2.trans ((st.sg.trans s5).trans s6), ?_, unS_unS _ _, e9⟩
      exact ⟨Dl, rfl, f7.unS vs, ws ++ [v], upd_same, r7.append (.cons r6 .nil)⟩
  · have ei : i = ds.length := by omega
    subst ei
    rw [List.drop_length] at e3
    cases e3
    exact Or.inl ⟨it.stop G2 H2 s2 R2.sub, k _ G2 H2 R2 (s1.trans s2) sv⟩

/-- a new list, as data -/
def fQ (fq : Fq) : Fx := fun ρ γ => (fq ρ γ).bind fun p => match p.1 with
  | .ow c => some (c.d, p.2)
  | .d x => some (x, p.2)
  | _ => none
section
variable {X : Cx} {elt tg iter : Expr} {ifs : List Expr} {scope : Scope} {own : List (Str × Nat)} {pos spos py : Pos} {fi : Fs} {ts : List Nat} {g : Fg1} {ft : Ft} {fe : Fx}
theorem de_q {e : Expr} {fq : Fq} (h : DQ X e fq) : DE X e (fQ fq) := by
  obtain ⟨t, p, q⟩ := h
  refine ⟨t, p, fun δ F own G H ρ γ σ d ρ' γ' Q R e k => ?_⟩
  obtain ⟨⟨s, ρ1, γ1⟩, e1, e⟩ := bind_some e
  refine q δ F own G H ρ γ σ s _ _ _ R e1 fun v G1 H1 R1 s1 r1 => ?_
  cases s with
  | un => cases e
  | bx n => cases e
  | d x => cases e; exact k v G1 H1 R1 s1 r1
  | ow xs =>
    cases e
    obtain ⟨p, rfl, f, hc⟩ := r1
    obtain ⟨w, hp, hw⟩ := hc.data
    have sg : Same G1 (upd G1 p w) := fun b u e => by
      have hb : b ≠ p := fun z => by rw [z, f.g] at e; cases e
      rw [upd_ne hb]; exact e
    have R2 : Rel X.K δ F own (upd G1 p w) H1 ρ' γ' σ := by
      refine ⟨⟨fun b u e => ?_, R1.wd.len, R1.wd.nd, fun a ha => ?_, fun n c hc => ?_, R1.wd.tb.calm hc.not.1⟩, R1.g0.trans sg, fun b h1 h2 => ?_, R1.h0, R1.len, fun j s hj => ?_, fun j xs hj => ?_, R1.inj⟩
      · by_cases hb : b = p
        · rw [hb, upd_same] at e; cases e; rw [hb]; exact hp
        · rw [upd_ne hb] at e; exact R1.sub _ _ e
      · have hb : a ≠ p := fun z => f.d (by rw [← z]; exact ha)
        rw [upd_ne hb]; exact R1.wd.out a ha
      · obtain ⟨a, ws, h1, h2, h3⟩ := R1.wd.cell n c hc
        exact ⟨a, ws, h1, h2, h3.mono sg⟩
      · have hb : b ≠ p := fun z => h1 (by rw [z]; exact f.f)
        rw [upd_ne hb]; exact R1.q0 b h1 h2
      · have q := R1.slot j s hj
        cases s with
        | un => trivial
        | d x => obtain ⟨v, q1, q2⟩ := q; exact ⟨v, q1, q2.mono sg⟩
        | bx n => exact q
        | ow ys => exact ⟨q.1, q.2.at sg fun _ z => z⟩
      · obtain ⟨o1, o2, o3⟩ := R1.ownd j xs hj
        refine ⟨?_, o2, o3⟩
        rw [upd_ne (f.o j xs hj)]; exact o1
    exact k _ _ _ R2 (s1.trans sg) (hw _ sg upd_same)
def tE (K : Fg) (f : Fx) : TE := fun σ H Q => ∃ (δ : List Addr) (F : Fm) (own : Nat → Addr) (G : Hp) (ρ : Row) (γ : Bxs) (d : D) (ρ' : Row) (γ' : Bxs), Rel K δ F own G H ρ γ σ ∧ f ρ γ = some (d, ρ', γ') ∧ ∀ v G' H', Rel K δ F own G' H' ρ' γ' σ → Same G G' → Rep K G' v d → Q v H'
def tT (K : Fg) (f : Ft) : TT := fun σ H Q => ∃ (δ : List Addr) (F : Fm) (own : Nat → Addr) (G : Hp) (ρ : Row) (γ : Bxs) (d : Bool) (ρ' : Row) (γ' : Bxs), Rel K δ F own G H ρ γ σ ∧ f ρ γ = some (d, ρ', γ') ∧ ∀ G' H', Rel K δ F own G' H' ρ' γ' σ → Same G G' → Q d H'
def tG (K : Fg) (ts : List Nat) (g : Fg1) : TG := fun v σ H Q => ∃ (δ : List Addr) (F : Fm) (own : Nat → Addr) (G : Hp) (ρ : Row) (γ : Bxs) (d : D) (ρ' : Row), Rel K δ F own G H ρ γ σ ∧ Rep K G v d ∧ g d ρ = some ρ' ∧ ∀ σ', Rel K δ F own G H ρ' γ σ' → (∀ vs : List Nat, (∀ i ∈ ts, i ∈ vs) → L2.wipe σ' vs = L2.wipe σ vs) → Q σ' H
theorem DE.can {e : Expr} {f : Fx} (h : DE X e f) : PE X e (tE X.K f) := by
  obtain ⟨t, p, q⟩ := h
  exact ⟨fun pins s σ H Q I ⟨δ, F, own, G, ρ, γ, d, ρ', γ', R, e, k⟩ => p.run pins s σ H Q I (q δ F own G H ρ γ σ d ρ' γ' Q R e k)⟩
theorem DTs.can {es : List Expr} {f : Ft} (h : DTs X es f) : PTs X es (tT X.K f) := by
  obtain ⟨t, p, q⟩ := h
  exact ⟨fun pins s σ H Q I ⟨δ, F, own, G, ρ, γ, d, ρ', γ', R, e, k⟩ => p.run pins s σ H Q I (q δ F own G H ρ γ σ d ρ' γ' Q R e k)⟩
theorem DG.can {e : Expr} {f : Fg1} (h : DG X e ts f) : PG X e (tG X.K ts f) := by
  obtain ⟨t, p, q⟩ := h
  exact ⟨fun pins s σ H v u Q I rv ⟨δ, F, own, G, ρ, γ, d, ρ', R, r, e, k⟩ => p.run pins s σ H v u Q I rv (q δ F own G H ρ γ σ v d ρ' Q R r e k)⟩
theorem er_can (K : Fg) (f : Fx) : ER K (tE K f) f := fun δ F own G H ρ γ σ d ρ' γ' Q R e k => ⟨δ, F, own, G, ρ, γ, d, ρ', γ', R, e, k⟩
theorem tr_can (K : Fg) (f : Ft) : TR K (tT K f) f := fun δ F own G H ρ γ σ d ρ' γ' Q R e k => ⟨δ, F, own, G, ρ, γ, d, ρ', γ', R, e, k⟩
theorem gr_can (K : Fg) (f : Fg1) : GR K (tG K ts f) ts f := fun δ F own G H ρ γ σ v d ρ' Q R r e k => ⟨δ, F, own, G, ρ, γ, d, ρ', R, r, e, k⟩
theorem Okc.blk (O : Okc X) (s : Shared) (H : Hp) (C : Addr) (cl : List (Str × Addr)) (fp : List Addr) : Okc (X.blk s H scope (compEnvC scope cl C X.env) fp) :=
  ⟨O.hr, O.hg, O.calm, O.nd, PassesOwn.never, O.ww⟩
theorem dq_lc (O : Okc X) (hi : DI X tg iter fi) (ok : BlkOk X.N X.env.scope scope own)
    (hg : ∀ (s : Shared) (H : Hp) (C : Addr) (cl : List (Str × Addr)) (fp : List Addr), DG (X.blk s H scope (compEnvC scope cl C X.env) fp) tg ts g)
    (ht : ∀ (s : Shared) (H : Hp) (C : Addr) (cl : List (Str × Addr)) (fp : List Addr), DTs (X.blk s H scope (compEnvC scope cl C X.env) fp) ifs ft)
    (he : ∀ (s : Shared) (H : Hp) (C : Addr) (cl : List (Str × Addr)) (fp : List Addr), DE (X.blk s H scope (compEnvC scope cl C X.env) fp) elt fe)
    (hv : ∀ i ∈ ts, i ∈ own.map (·.2)) (hs : ∀ x, foldedSetIterable iter X.env x = pure x := by intro _; rfl) :
    DQ X (.ListComp elt [⟨tg, iter, ifs, 0⟩] scope pos) (qLc fi (own.map (·.2)) g ft fe) := by
  obtain ⟨wi, pi, qi⟩ := hi
  exact ⟨_, pe_lc (g := tG X.K ts g) (tt := tT X.K ft) (te := tE X.K fe) O.calm O.nd pi ok (fun s H C cl fp => (hg s H C cl fp).can) (fun s H C cl fp => (ht s H C cl fp).can) (fun s H C cl fp => (he s H C cl fp).can) hs, qt_lc qi (gr_can X.K g) (tr_can X.K ft) (er_can X.K fe) hv⟩
theorem ds_setLc {i : Nat} {y : Str} (O : Okc X) (hy : X.N[i]? = some y) (hyl : X.env.scope.names.lookup y = some .local) (hsw : swapsWith (.ListComp elt [⟨tg, iter, ifs, 0⟩] scope pos) (some (.Name y py)) spos.line X.env = pure true)
    (hi : DI X tg iter fi) (ok : BlkOk X.N X.env.scope scope own)
    (hg : ∀ (s : Shared) (H : Hp) (C : Addr) (cl : List (Str × Addr)) (fp : List Addr), DG (X.blk s H scope (compEnvC scope cl C X.env) fp) tg ts g)
    (ht : ∀ (s : Shared) (H : Hp) (C : Addr) (cl : List (Str × Addr)) (fp : List Addr), DTs (X.blk s H scope (compEnvC scope cl C X.env) fp) ifs ft)
    (he : ∀ (s : Shared) (H : Hp) (C : Addr) (cl : List (Str × Addr)) (fp : List Addr), DE (X.blk s H scope (compEnvC scope cl C X.env) fp) elt fe)
    (hv : ∀ i ∈ ts, i ∈ own.map (·.2)) (hs : ∀ x, foldedSetIterable iter X.env x = pure x := by intro _; rfl) :
    DS X (.Assign [.Name y py] (.ListComp elt [⟨tg, iter, ifs, 0⟩] scope pos) spos) (sSet i (qLc fi (own.map (·.2)) g ft fe)) := by
  obtain ⟨wi, pi, qi⟩ := hi
  refine ⟨_, ps_setLc (g := tG X.K ts g) (tt := tT X.K ft) (te := tE X.K fe) O.calm O.nd hy hyl hsw pi ok (fun s H C cl fp => (hg s H C cl fp).can) (fun s H C cl fp => (ht s H C cl fp).can) (fun s H C cl fp => (he s H C cl fp).can) hs, fun δ F ow G H ρ γ σ o E R e k => ?_⟩
  obtain ⟨⟨s, ρ1, γ1⟩, e1, e⟩ := map_some e
  cases e
  refine qt_lc qi (gr_can X.K g) (tr_can X.K ft) (er_can X.K fe) hv δ F ow G H ρ γ σ s _ _ _ R e1 fun v G' H' R' sg r => ?_
  obtain ⟨own', R2⟩ := R'.setV i r
  exact k own' G' H' _ R2 sg
end
end DL

namespace DL
open PySem PySem.Spec PyProof.Rows L2
variable [WW]

abbrev Fn := List Sl → Bxs → Option (Sl × Bxs)
/-- the arguments -/
inductive ArgOk (K : Fg) (δ : List Addr) (G : Hp) : List V → List Sl → Prop
  | nil : ArgOk K δ G [] []
  | d {v : V} {x : D} {vs : List V} {as : List Sl} : Rep K G v x → ArgOk K δ G vs as → ArgOk K δ G (v :: vs) (.d x :: as)
  | bx {b : Addr} {n : Nat} {vs : List V} {as : List Sl} : δ[n]? = some b → ArgOk K δ G vs as → ArgOk K δ G (.ref b :: vs) (.bx n :: as)
theorem ArgOk.length {K : Fg} {δ : List Addr} {G : Hp} : ∀ {vs : List V} {as : List Sl}, ArgOk K δ G vs as → vs.length = as.length
  | _, _, .nil => rfl
  | _, _, .d _ t => by simp only [List.length_cons, ArgOk.length t]
  | _, _, .bx _ t => by simp only [List.length_cons, ArgOk.length t]
theorem ArgOk.mono {K : Fg} {δ : List Addr} {G G' : Hp} (e : Same G G') : ∀ {vs : List V} {as : List Sl}, ArgOk K δ G vs as → ArgOk K δ G' vs as
  | _, _, .nil => .nil
  | _, _, .d r t => .d (r.mono e) (ArgOk.mono e t)
  | _, _, .bx r t => .bx r (ArgOk.mono e t)
theorem ArgOk.get {K : Fg} {δ : List Addr} {G : Hp} (a : Addr) (H : Hp) : ∀ {vs : List V} {as : List Sl} {i : Nat} {s : Sl}, ArgOk K δ G vs as → as[i]? = some s → SlOk K δ a G H ((vs.map some)[i]?) s ∧ ∀ c, s ≠ .ow c
  | _, _, _, _, .nil, h => by simp at h
  | _, _, 0, s, .d r t, h => by
    have h : some _ = some s := h
    cases h
    exact ⟨⟨_, rfl, r⟩, fun xs z => nomatch z⟩
  | _, _, 0, s, .bx r t, h => by
    have h : some _ = some s := h
    cases h
    exact ⟨⟨_, r, rfl⟩, fun xs z => nomatch z⟩
  | _, _, i + 1, s, .d r t, h => by
    have q := ArgOk.get a H t (i := i) (s := s) (by simpa using h)
    rw [List.map_cons, List.getElem?_cons_succ]; exact q
  | _, _, i + 1, s, .bx r t, h => by
    have q := ArgOk.get a H t (i := i) (s := s) (by simpa using h)
    rw [List.map_cons, List.getElem?_cons_succ]; exact q

/-- the def at f computes fn -/
structure Kp (P : Program) (w : World) (K : Fg) (mg : Str → Option Value) (base : Heap) (k : Nat) (f : Addr) (fd : FuncData) (ps : List Str) (fn : Fn) : Prop where
  run : ∀ (A : Around) (outer : List Env) (s : Shared) (H G : Hp) (args : Args) (us : List Value) (vs : List V) (δ : List Addr) (as : List Sl) (γ : Bxs) (r : Sl) (γ' : Bxs) (Q : VK), Room k A → A.guards = some [] → Env0 P w K mg base A outer s H →
    BindsTo s fd args (ps.zip us) → Vals vs us → vs.length = ps.length → Wd K δ γ G H → ArgOk K δ G vs as → fn as γ = some (r, γ') →
    (∀ v G' H', Fin K δ ⟨G, H⟩ γ' G' H' → RetV K δ ⟨G, H⟩ G' H' v r → Q v H') → codeAny (model P w) A (.call (.ref f) args) (CR CX0 outer P w H s Q E0) s

/-- a body's outcome as a call's -/
def doneO : Oc → Option (Sl × Bxs)
  | .rt s γ => some (s, γ)
  | .nx _ γ => some (.d .none, γ)
  | _ => none
/-- what a def of n names computes, by its body -/
def fnOf (n : Nat) (fb : Fst) : Fn := fun as γ => (fb (as ++ List.replicate (n - as.length) .un) γ).bind doneO

/-- the context of a body -/
abbrev Cxd (P : Program) (w : World) (K : Fg) (mg : Str → Option Value) (base : Heap) (N : List Str) (qual : Str) (st : Stmt) (f : Addr) (cdv : Value) (A : Around) (outer : List Env) (s : Shared) (H : Hp) : Cx :=
  (cxOf CX0 P w K mg base N qual (defScope st) f cdv A outer s H E0).nox
section
variable {P : Program} {w : World} {K : Fg} {mg : Str → Option Value} {base : Heap}
theorem rel_start {δ : List Addr} {γ : Bxs} {G H : Hp} {vs : List V} {as : List Sl} {N ps : List Str} (wd : Wd K δ γ G H) (ha : ArgOk K δ G vs as) (hl : vs.length ≤ N.length) : Rel K δ ⟨G, H⟩ (fun _ => 0) G H (as ++ List.replicate (N.length - as.length) .un) γ (L2.start N vs) := by
  have el := ha.length
  have at_i : ∀ {i : Nat} {s : Sl}, (as ++ List.replicate (N.length - as.length) Sl.un)[i]? = some s → s ≠ .un → as[i]? = some s ∧ i < vs.length := fun {i s} h hn => by
    by_cases hi : i < as.length
    · rw [List.getElem?_append_left hi] at h
      exact ⟨h, by omega⟩
    · rw [List.getElem?_append_right (by omega), List.getElem?_replicate] at h
      split at h
      · cases h; exact absurd rfl hn
      · cases h
  have no : ∀ {i : Nat} {xs : OC}, (as ++ List.replicate (N.length - as.length) Sl.un)[i]? ≠ some (.ow xs) := fun {i xs} h =>
    (ha.get 0 H (at_i h (fun z => nomatch z)).1).2 xs rfl
  refine ⟨wd, Same.refl _, fun b h1 h2 => h2, fun b o h1 h2 h3 => .inl h1, ?_, fun i s hi => ?_, fun i xs hi => absurd hi no, fun i j xs ys hi => absurd hi no⟩
  · unfold L2.start
    rw [List.length_append, List.length_append, List.length_replicate, List.length_map, List.length_replicate, el]
  · by_cases hn : s = .un
    · subst hn; trivial
    · obtain ⟨h1, h2⟩ := at_i hi hn
      have e : (L2.start N vs)[i]? = (vs.map some)[i]? := by
        unfold L2.start
        rw [List.getElem?_append_left (by simpa using h2)]
      rw [e]
      exact (ha.get 0 H h1).1
/-- a def of the text, by its body -/
theorem Kp.ofG {x qual : Str} {st : Stmt} {f : Addr} {fd : FuncData} {N ps : List Str} {k : Nat} {fb : Fst} (F : Fun K x qual st f fd) (S : FnScope N ps (defScope st))
    (hb : ∀ (cdv : Value) (A : Around) (outer : List Env) (s : Shared) (H : Hp), fd.code = cdv → Okc (Cxd P w K mg base N qual st f cdv A outer s H) → Room (k + 1) (Cxd P w K mg base N qual st f cdv A outer s H).A → DB (Cxd P w K mg base N qual st f cdv A outer s H) (defBody st) fb) (hW : WW.w = w := by rfl) :
    Kp P w K mg base (k + 2) f fd ps (fnOf N.length fb) := by
  obtain ⟨oc, od, kV, doc, pm, an, cdv, ct, osl, rfl, lk, hcd⟩ := F.ex
  refine ⟨fun A outer s H G args us vs δ as γ r γ' Q hr hgd e0 hbn rv hl wd ha hfn hq => ?_⟩
  have lowB : ∀ b o, base.get? b = some o → s.heap.get? b = some o := fun b o z => (e0.bs b o z).1
  have KX : K.In s.heap := e0.mod.kin.keeps lowB
  have lim : s.heap.NoLimit := e0.mod.nolimit.keeps lowB
  have seen : ∀ y ∈ ps.zip us, (defScope st).names.lookup y.1 = some .local ∨ ((defScope st).names.lookup y.1 = some .cell ∧ ((cellsFrom (s.heap.objs.size + 1) (defScope st).names []).lookup y.1).isSome = true) := fun ⟨n, v⟩ hy =>
    (S.par n (List.of_mem_zip hy).1).imp id fun q => ⟨q, PySem.W.cellsFrom_some _ _ _ (Or.inl q)⟩
  have hpl : vs.length ≤ N.length := by
    have z := congrArg List.length S.pre
    rw [List.length_take] at z
    omega
  obtain ⟨o, eo, ed⟩ := bind_some hfn
  refine codeAny_call_function hr.depth (KX _ _ lk) rfl S.co S.gen rfl (PySem.W.codeRec_of KX hcd) (hbn _ _ _ _ ?_)
  refine wpAny_newFunctionEnv_cells S.kind seen fun env he s1 x => ?_
  subst he
  refine ⟨lim.keeps x.toInCall.keep, codeAny_func ?_⟩
  have O : Okc (Cxd P w K mg base N qual st f cdv A outer s H) := ⟨(hr.mono (by omega : 2 ≤ k + 2)).deeper _, hgd, rfl, S.nd, PassesOwn.never, hW⟩
  obtain ⟨t, ht, hd⟩ := hb cdv A outer s H rfl O (hr.deeper _)
  have I := inv_start (CX := CX0) (E := E0) (mg := mg) (base := base) (P := P) (w := w) (cd := cdv) (f := f) (qual := qual) S hr.hd e0 hl rv x
  have R := rel_start (N := N) (ps := ps) wd ha hpl
  have back : ∀ {σ' : L2.St} {H' : Hp} {v : V} {u : Value} {s' : Shared}, Inv (cxOf CX0 P w K mg base N qual (defScope st) f cdv A outer s H E0) [] σ' H' s' → RelV v u → Q v H' → CE outer P w H s Q u s' :=
    fun {σ' H' v u s'} J rv q => ⟨v, H', J.os, J.bare, J.base, J.hok, rv, q⟩
  refine wpAny_mono (ht.nox.run [] s1 (L2.start N vs) H { nx := fun _ H' => Q .non H', rt := Q } I (hd δ ⟨G, H⟩ _ G H _ γ _ o _ R eo ?_)) (fun fl s' hs => ?_) fun e s' hs => hs
  · cases o with
    | nx ρ1 γ1 =>
      cases ed
      exact fun own' G' H' σ' R' _ => hq .non G' H' R'.fin Rep.non
    | rt s1 γ1 =>
      cases ed
      exact fun v G' H' fin rv => hq v G' H' fin rv
    | bk ρ1 γ1 => cases ed
    | ct ρ1 γ1 => cases ed
  · cases fl with
    | ret u =>
      obtain ⟨v, σ', H', J, rv, q⟩ := hs
      exact back J rv q
    | next =>
      obtain ⟨σ', H', J, q⟩ := hs
      exact back (v := V.non) (u := Value.none) J rfl q
    | brk => obtain ⟨_, _, _, q⟩ := hs; exact False.elim q
    | cont => obtain ⟨_, _, _, q⟩ := hs; exact False.elim q
theorem Kp.of {x qual : Str} {st : Stmt} {f : Addr} {fd : FuncData} {N ps : List Str} {k : Nat} {fb : Fst} (F : Fun K x qual st f fd) (S : FnScope N ps (defScope st))
    (hb : ∀ (cdv : Value) (A : Around) (outer : List Env) (s : Shared) (H : Hp), Okc (Cxd P w K mg base N qual st f cdv A outer s H) → Room (k + 1) (Cxd P w K mg base N qual st f cdv A outer s H).A → DB (Cxd P w K mg base N qual st f cdv A outer s H) (defBody st) fb) (hW : WW.w = w := by rfl) :
    Kp P w K mg base (k + 2) f fd ps (fnOf N.length fb) := Kp.ofG F S (fun cdv A outer s H _ => hb cdv A outer s H) hW
end
end DL

namespace DL
open PySem PySem.Spec PyProof.Rows L2
variable [WW]

abbrev Fa := Row → Bxs → Option (List Sl × Row × Bxs)
def DAr (X : Cx) (es : List Expr) (f : Fa) : Prop := (∀ (ρ : Row) (γ : Bxs) (as : List Sl) (ρ' : Row) (γ' : Bxs), f ρ γ = some (as, ρ', γ') → as.length = es.length) ∧ ∃ t, PA X es t ∧ ∀ (δ : List Addr) (F : Fm) (own : Nat → Addr) (G H : Hp) (ρ : Row) (γ : Bxs) (σ : L2.St) (as : List Sl) (ρ' : Row) (γ' : Bxs) (Q : List V → Hp → Prop),
  Rel X.K δ F own G H ρ γ σ → f ρ γ = some (as, ρ', γ') → (∀ vs G' H', Rel X.K δ F own G' H' ρ' γ' σ → Same G G' → ArgOk X.K δ G' vs as → Q vs H') → t σ H Q
def aNil : Fa := fun ρ γ => some ([], ρ, γ)
def aE (fa : Fx) (fr : Fa) : Fa := fun ρ γ => (fa ρ γ).bind fun p => (fr p.2.1 p.2.2).map fun q => (.d p.1 :: q.1, q.2)
/-- a box is handed on -/
def aB (i : Nat) (fr : Fa) : Fa := fun ρ γ => match ρ[i]? with
  | some (.bx n) => (fr ρ γ).map fun q => (.bx n :: q.1, q.2)
  | _ => none
def qCall (fn : Fn) (fa : Fa) : Fq := fun ρ γ => (fa ρ γ).bind fun p => (fn p.1 p.2.2).map fun q => (q.1, p.2.1, q.2)
/-- the own list of slot i is lent to the call, as its first argument -/
def qCallO (fn : Fn) (i : Nat) (fa : Fa) : Fq := fun ρ γ => match ρ[i]? with
  | some (.ow (.l _)) => (fa ρ γ).bind fun p => match p.2.1[i]? with
    | some (.ow (.l xs)) => (fn (.bx p.2.2.length :: p.1) (p.2.2 ++ [xs])).bind fun q => (q.2[p.2.2.length]?).map fun ys => (q.1, p.2.1.set i (.ow (.l ys)), q.2.take p.2.2.length)
    | _ => none
  | _ => none
section
variable {K : Fg} {δ : List Addr} {F : Fm} {own : Nat → Addr} {G H : Hp} {ρ : Row} {γ : Bxs} {σ : L2.St}
/-- behind a call -/
theorem Rel.called (r : Rel K δ F own G H ρ γ σ) {γ' : Bxs} {G' H' : Hp} (f : Fin K δ ⟨G, H⟩ γ' G' H') : Rel K δ F own G' H' ρ γ' σ := by
  have sg : Same G G' := f.g0
  refine ⟨f.wd, r.g0.trans sg, fun b h1 h2 => ?_, fun b o h1 h2 h3 => ?_, r.len, fun i s hi => ?_, fun i xs hi => ?_, r.inj⟩
  · by_cases hd : b ∈ δ
    · exact f.wd.out b hd
    · cases q : F.H b with
      | none => exact absurd q h1
      | some o => exact f.q0 b (r.h0 b o q h2 hd).live (r.q0 b h1 h2)
  · exact (r.h0 b o h1 h2 h3).trans fun u hu => f.h0 b u hu (r.q0 b (by rw [h1]; intro z; cases z) h2) h3
  · have q := r.slot i s hi
    cases s with
    | un => trivial
    | d x => obtain ⟨v, q1, q2⟩ := q; exact ⟨v, q1, q2.mono sg⟩
    | bx n => exact q
    | ow xs =>
      obtain ⟨o1, o2, o3⟩ := r.ownd i xs hi
      exact ⟨q.1, q.2.at sg fun u hu => (f.h0 _ _ hu o1 o2).eq (q.2.kpt hu)⟩
  · obtain ⟨o1, o2, o3⟩ := r.ownd i xs hi
    exact ⟨f.q0 _ (r.slot i _ hi).2.live o1, o2, o3⟩
/-- what it hands back -/
theorem Rel.gave (r : Rel K δ F own G H ρ γ σ) {ρ' : Row} {G' H' : Hp} {v : V} (ho : ∀ (j : Nat) (xs : OC), ρ'[j]? = some (.ow xs) → ∃ ys, ρ[j]? = some (.ow ys)) : ∀ {s : Sl}, RetV K δ ⟨G, H⟩ G' H' v s → SlV K δ F own ρ' G' H' v s
  | .d _, h => h
  | .ow xs, ⟨p, e, g, d, hn, hc⟩ => by
    have f0 := r.live (p := p) hn
    refine ⟨p, e, ⟨g, d, f0.f, fun j ys hj => ?_⟩, hc⟩
    obtain ⟨zs, hz⟩ := ho j ys hj
    exact f0.o j zs hz
/-- the own list of slot i is lent: one more box -/
theorem Rel.lend (r : Rel K δ F own G H ρ γ σ) {i : Nat} {xs : List D} (hi : ρ[i]? = some (.ow (.l xs))) : Wd K (δ ++ [own i]) (γ ++ [xs]) G H := by
  obtain ⟨o1, o2, o3⟩ := r.ownd i _ hi
  obtain ⟨q1, vs, q2, q3⟩ := r.slot i _ hi
  refine ⟨r.sub, by rw [List.length_append, List.length_append, r.wd.len]; rfl, ?_, fun a ha => ?_, fun n c hc => ?_, r.wd.tb⟩
  · refine List.nodup_append.mpr ⟨r.wd.nd, by simp, fun a ha b hb e => ?_⟩
    have : b = own i := by simpa using hb
    subst this
    subst e
    exact o2 ha
  · rcases List.mem_append.mp ha with z | z
    · exact r.wd.out a z
    · have : a = own i := by simpa using z
      rw [this]; exact o1
  · by_cases hn : n < γ.length
    · rw [List.getElem?_append_left hn] at hc
      obtain ⟨a, ws, h1, h2, h3⟩ := r.wd.cell n c hc
      exact ⟨a, ws, by rw [List.getElem?_append_left (by rw [r.wd.len]; exact hn)]; exact h1, h2, h3⟩
    · rw [List.getElem?_append_right (by omega)] at hc
      have e0 : n - γ.length = 0 := by
        cases e : n - γ.length with
        | zero => rfl
        | succ m => rw [e] at hc; simp at hc
      rw [e0] at hc
      cases hc
      refine ⟨own i, vs, ?_, q2, q3⟩
      rw [List.getElem?_append_right (by rw [r.wd.len]; omega), r.wd.len, e0]
      rfl
theorem Rel.lent (r : Rel K δ F own G H ρ γ σ) {i : Nat} {xs ys : List D} (hi : ρ[i]? = some (.ow (.l xs))) {γ' : Bxs} {G' H' : Hp} (f : Fin K (δ ++ [own i]) ⟨G, H⟩ γ' G' H') (hy : γ'[γ.length]? = some ys) : Rel K δ F own G' H' (ρ.set i (.ow (.l ys))) (γ'.take γ.length) σ := by
  have sg : Same G G' := f.g0
  obtain ⟨o1, o2, o3⟩ := r.ownd i _ hi
  obtain ⟨q1, vs, q2, q3⟩ := r.slot i _ hi
  have hl : i < ρ.length := (List.getElem?_eq_some_iff.mp hi).1
  have lenγ : γ'.length = γ.length + 1 := by
    have := f.wd.len
    rw [List.length_append, r.wd.len] at this
    simpa using this.symm
  have notin : ∀ {b : Addr}, b ∉ δ → b ≠ own i → b ∉ δ ++ [own i] := fun h1 h2 z => by
    rcases List.mem_append.mp z with z | z
    · exact h1 z
    · exact h2 (by simpa using z)
  refine ⟨⟨f.wd.sub, ?_, r.wd.nd, fun a ha => f.wd.out a (List.mem_append_left _ ha), fun n c hc => ?_, f.wd.tb⟩, r.g0.trans sg, fun b h1 h2 => ?_, fun b o h1 h2 h3 => ?_, by rw [List.length_set]; exact r.len, fun j s hj => ?_, fun j zs hj => ?_, fun j k zs ws hj hk => ?_⟩
  · rw [List.length_take, lenγ, r.wd.len]; omega
  · have hn : n < γ.length := by
      have := (List.getElem?_eq_some_iff.mp hc).1
      rw [List.length_take] at this; omega
    rw [List.getElem?_take_of_lt hn] at hc
    obtain ⟨a, us, h1, h2, h3⟩ := f.wd.cell n c hc
    rw [List.getElem?_append_left (by rw [r.wd.len]; exact hn)] at h1
    exact ⟨a, us, h1, h2, h3⟩
  · by_cases hd : b ∈ δ
    · exact f.wd.out b (List.mem_append_left _ hd)
    · cases q : F.H b with
      | none => exact absurd q h1
      | some o => exact f.q0 b (r.h0 b o q h2 hd).live (r.q0 b h1 h2)
  · have hb : b ≠ own i := fun z => by rw [z, o3] at h1; cases h1
    exact (r.h0 b o h1 h2 h3).trans fun u hu => f.h0 b u hu (r.q0 b (by rw [h1]; intro z; cases z) h2) (notin h3 hb)
  · by_cases e : i = j
    · subst e
      rw [get_set_eq hl] at hj
      cases hj
      obtain ⟨a, us, h1, h2, h3⟩ := f.wd.cell γ.length ys hy
      rw [List.getElem?_append_right (by rw [r.wd.len]; exact Nat.le_refl _), r.wd.len, Nat.sub_self] at h1
      have h1 : some (own i) = some a := h1
      cases h1
      exact ⟨q1, us, h2, h3⟩
    · rw [get_set_ne e] at hj
      have q := r.slot j s hj
      cases s with
      | un => trivial
      | d x => obtain ⟨v, z1, z2⟩ := q; exact ⟨v, z1, z2.mono sg⟩
      | bx n => exact q
      | ow zs =>
        obtain ⟨p1, p2, p3⟩ := r.ownd j zs hj
        have hb : own j ≠ own i := fun z => e (r.inj i j (.l xs) zs hi hj z.symm)
        exact ⟨q.1, q.2.at sg fun u hu => (f.h0 _ _ hu p1 (notin p2 hb)).eq (q.2.kpt hu)⟩
  · by_cases e : i = j
    · subst e
      exact ⟨f.wd.out _ (List.mem_append_right _ (by simp)), o2, o3⟩
    · rw [get_set_ne e] at hj
      obtain ⟨p1, p2, p3⟩ := r.ownd j zs hj
      exact ⟨f.q0 _ (r.slot j _ hj).2.live p1, p2, p3⟩
  · have back : ∀ {l : Nat} {zs : OC}, (ρ.set i (.ow (.l ys)))[l]? = some (.ow zs) → ∃ us, ρ[l]? = some (.ow us) := fun {l zs} h => by
      rcases set_ol h with ⟨z, _⟩ | ⟨_, z⟩
      · exact ⟨_, by rw [z]; exact hi⟩
      · exact ⟨zs, z⟩
    obtain ⟨us1, h1⟩ := back hj
    obtain ⟨us2, h2⟩ := back hk
    exact r.inj j k us1 us2 h1 h2
end
section
variable {X : Cx} {e : Expr} {es : List Expr} {fa : Fx} {fr : Fa} {pos p : Pos} {x y : Str} {k i : Nat} {f : Addr} {fd : FuncData} {ps : List Str} {fn : Fn}
theorem dar_nil : DAr X [] aNil := ⟨fun ρ γ as ρ' γ' h => (by cases h; rfl), _, pa_nil, fun δ F own G H ρ γ σ d ρ' γ' Q R e k => by cases e; exact k _ G H R (Same.refl _) .nil⟩
theorem dar_e (ha : DE X e fa) (hr : DAr X es fr) (hs : starEach (e :: es) X.env = (false, eval e X.env) :: starEach es X.env := by rfl) : DAr X (e :: es) (aE fa fr) := by
  obtain ⟨ta, pa, qa⟩ := ha
  obtain ⟨lb, tb, pb, qb⟩ := hr
  refine ⟨fun ρ γ as ρ' γ' h => ?_, _, pa_cons pa pb hs, fun δ F own G H ρ γ σ d ρ' γ' Q R e k => ?_⟩
  · obtain ⟨⟨x, ρ1, γ1⟩, e1, h⟩ := bind_some h
    obtain ⟨⟨y, ρ2, γ2⟩, e2, h⟩ := map_some h
    cases h
    simp only [List.length_cons, lb _ _ _ _ _ e2]
  obtain ⟨⟨x, ρ1, γ1⟩, e1, e⟩ := bind_some e
  obtain ⟨⟨y, ρ2, γ2⟩, e2, e⟩ := map_some e
  cases e
  refine qa δ F own G H ρ γ σ x _ _ _ R e1 fun v G1 H1 R1 s1 r1 => qb δ F own G1 H1 _ _ σ y _ _ _ R1 e2 fun u G2 H2 R2 s2 r2 => ?_
  exact k _ G2 H2 R2 (s1.trans s2) (.d (r1.mono s2) r2)
theorem dar_b (hv : PE X (.Name y p) (tVar i)) (hr : DAr X es fr) (hs : starEach (.Name y p :: es) X.env = (false, eval (.Name y p) X.env) :: starEach es X.env := by rfl) : DAr X (.Name y p :: es) (aB i fr) := by
  obtain ⟨lb, tb, pb, qb⟩ := hr
  refine ⟨fun ρ γ as ρ' γ' h => ?_, _, pa_cons hv pb hs, fun δ F own G H ρ γ σ d ρ' γ' Q R e k => ?_⟩
  · unfold aB at h
    split at h
    · obtain ⟨⟨y, ρ2, γ2⟩, e2, h⟩ := map_some h
      cases h
      simp only [List.length_cons, lb _ _ _ _ _ e2]
    · cases h
  unfold aB at e
  split at e
  · rename_i n hi
    obtain ⟨⟨z, ρ2, γ2⟩, e2, e⟩ := map_some e
    cases e
    obtain ⟨b, h1, h2⟩ := R.slot i _ hi
    show tVar i σ H _
    refine tvar_of h2 (qb δ F own G H ρ γ σ z _ _ _ R e2 fun u G2 H2 R2 s2 r2 => ?_)
    exact k _ G2 H2 R2 s2 (.bx h1 r2)
  · cases e
/-- a def of the text is called -/
theorem run_kp {pins : List (Addr × Obj)} {σ : L2.St} {H G : Hp} {s : Shared} {Q : VK} {us : List Value} {vs : List V} {δ : List Addr} {as : List Sl} {γ γ' : Bxs} {r : Sl} (O : Okc X) (F : Kp X.prog X.w X.K X.mg X.base k f fd ps fn) (hr : Room k X.A) (hb : Binds X.K fd ps []) (hl : vs.length = ps.length)
    (I : Inv X pins σ H s) (rv : Vals vs us) (wd : Wd X.K δ γ G H) (ha : ArgOk X.K δ G vs as) (e : fn as γ = some (r, γ')) (h : ∀ v G' H', Fin X.K δ ⟨G, H⟩ γ' G' H' → RetV X.K δ ⟨G, H⟩ G' H' v r → Q v H') :
    wpAny (model X.prog X.w) X.A (call (.ref f) us) (EP X pins σ Q) X.xe s := by
  have hu : (us ++ []).length = ps.length := by rw [List.append_nil, ← rv.length]; exact hl
  have bt := hb s us I.kIn hu
  rw [List.append_nil] at bt
  refine wpAny_call (codeAny_mono (F.run X.A X.stack s H G ⟨us, []⟩ us vs δ as γ r γ' Q hr O.hg I.env0 bt rv hl wd ha e h) fun z s' hq => ?_)
  cases z with
  | error e => exact False.elim hq
  | ok fl =>
    cases fl with
    | ret u => exact I.after hq
    | next => exact False.elim hq
    | brk => exact False.elim hq
    | cont => exact False.elim hq
theorem dq_call (O : Okc X) (F : Kp X.prog X.w X.K X.mg X.base k f fd ps fn) (hr : Room k X.A) (hg : Gl X x) (hm : X.mg x = some (.ref f)) (hk : PySem.W.keepIn X.K (.ref f) = true) (hb : Binds X.K fd ps []) (ha : DAr X (e :: es) fr)
    (hln : (e :: es).length = ps.length := by rfl) (hdb : (x == ("__debug__" : Str)) = false := by decide) (he : starEach (e :: es) X.env = (false, eval e X.env) :: starEach es X.env := by rfl) (hpl : (backTo pos (starEach es X.env)).any (·.1) = false := by rfl) : DQ X (.Call (.Name x p) (e :: es) [] pos) (qCall fn fr) := by
  obtain ⟨la, ta, pa, qa⟩ := ha
  refine ⟨fun σ H Q => ta σ H fun vs H1 => ∃ (δ : List Addr) (G : Hp) (as : List Sl) (γ : Bxs) (r : Sl) (γ' : Bxs), vs.length = ps.length ∧ Wd X.K δ γ G H1 ∧ ArgOk X.K δ G vs as ∧ fn as γ = some (r, γ') ∧ ∀ v G' H', Fin X.K δ ⟨G, H1⟩ γ' G' H' → RetV X.K δ ⟨G, H1⟩ G' H' v r → Q v H', ⟨fun pins s σ H Q I h => ?_⟩, fun δ F' own G H ρ γ σ s ρ' γ' Q R e k => ?_⟩
  · refine wpAny_Call_Name_kw (ld_glob I hg hm ?_ hdb)
    refine PySem.W.callWith_K (h₀ := X.base) I.ok.mod.kin hk (thn (pa.run pos pins s σ H _ I h) fun us s1 ⟨vs, H1, I1, r, δ, G, as, γ, rr, γ', hl, wd, hA, hf, q⟩ => ⟨I1.kIn, ?_⟩) he hpl
    exact run_kp O F hr hb hl I1 r wd hA hf q
  · obtain ⟨⟨as, ρ1, γ1⟩, e1, e⟩ := bind_some e
    obtain ⟨⟨r, γ2⟩, e2, e⟩ := map_some e
    cases e
    refine qa δ F' own G H ρ γ σ as _ _ _ R e1 fun vs G1 H1 R1 s1 r1 => ⟨δ, G1, as, _, r, _, by rw [r1.length, la _ _ _ _ _ e1]; exact hln, R1.wd, r1, e2, fun v G' H' fin rv => ?_⟩
    exact k v G' H' (R1.called fin) (s1.trans fin.g0) (R1.gave (fun j xs hj => ⟨xs, hj⟩) rv)
theorem dq_callO (O : Okc X) (F : Kp X.prog X.w X.K X.mg X.base k f fd ps fn) (hr : Room k X.A) (hg : Gl X x) (hm : X.mg x = some (.ref f)) (hk : PySem.W.keepIn X.K (.ref f) = true) (hb : Binds X.K fd ps []) (hv : PE X (.Name y p) (tVar i)) (ha : DAr X es fr)
    (hdb : (x == ("__debug__" : Str)) = false := by decide) (he : starEach (.Name y p :: es) X.env = (false, eval (.Name y p) X.env) :: starEach es X.env := by rfl) (hpl : (backTo pos (starEach es X.env)).any (·.1) = false := by rfl) (hln : es.length + 1 = ps.length := by rfl) {p' : Pos} : DQ X (.Call (.Name x p') (.Name y p :: es) [] pos) (qCallO fn i fr) := by
  obtain ⟨la, ta, pa, qa⟩ := ha
  refine ⟨fun σ H Q => tCons (tVar i) ta σ H fun vs H1 => ∃ (δ : List Addr) (G : Hp) (as : List Sl) (γ : Bxs) (r : Sl) (γ' : Bxs), vs.length = ps.length ∧ Wd X.K δ γ G H1 ∧ ArgOk X.K δ G vs as ∧ fn as γ = some (r, γ') ∧ ∀ v G' H', Fin X.K δ ⟨G, H1⟩ γ' G' H' → RetV X.K δ ⟨G, H1⟩ G' H' v r → Q v H', ⟨fun pins s σ H Q I h => ?_⟩, fun δ F' own G H ρ γ σ s ρ' γ' Q R e k => ?_⟩
  · refine wpAny_Call_Name_kw (ld_glob I hg hm ?_ hdb)
    refine PySem.W.callWith_K (h₀ := X.base) I.ok.mod.kin hk (thn ((pa_cons hv pa he).run pos pins s σ H _ I h) fun us s1 ⟨vs, H1, I1, r, δ, G, as, γ, rr, γ', hl, wd, hA, hf, q⟩ => ⟨I1.kIn, ?_⟩) he hpl
    exact run_kp O F hr hb hl I1 r wd hA hf q
  · unfold qCallO at e
    split at e
    case h_2 => cases e
    rename_i xs0 hi0
    obtain ⟨⟨as, ρ1, γ1⟩, e1, e⟩ := bind_some e
    dsimp only at e
    split at e
    case h_2 => cases e
    rename_i xs hi
    obtain ⟨⟨r, γ2⟩, e2, e⟩ := bind_some e
    obtain ⟨ys, e3, e⟩ := map_some e
    cases e
    have h0 := (R.slot i _ hi0).1
    show tVar i σ H _
    refine tvar_of h0 (qa δ F' own G H ρ γ σ as ρ1 γ1 _ R e1 fun vs G1 H1 R1 s1 r1 => ?_)
    have lift : ∀ {ws : List V} {bs : List Sl}, ArgOk X.K δ G1 ws bs → ArgOk X.K (δ ++ [own i]) G1 ws bs := by
      intro ws bs h
      induction h with
      | nil => exact .nil
      | d a _ ih => exact .d a ih
      | bx a _ ih => exact .bx (by rw [List.getElem?_append_left (List.getElem?_eq_some_iff.mp a).1]; exact a) ih
    refine ⟨δ ++ [own i], G1, .bx γ1.length :: as, γ1 ++ [xs], r, γ2, by rw [List.length_cons, r1.length, la _ _ _ _ _ e1]; exact hln, R1.lend hi, .bx ?_ (lift r1), e2, fun v G' H' fin rv => ?_⟩
    · rw [List.getElem?_append_right (by rw [R1.wd.len]; exact Nat.le_refl _), R1.wd.len, Nat.sub_self]; rfl
    · have R2 := R1.lent hi fin e3
      refine k v G' H' R2 (s1.trans fin.g0) ?_
      have rv2 : RetV X.K δ ⟨G1, H1⟩ G' H' v r := by
        cases r with
        | un => exact rv
        | bx n => exact rv
        | d z => exact rv
        | ow zs =>
          obtain ⟨p, e, g, d, hn, hc⟩ := rv
          exact ⟨p, e, g, fun z => d (List.mem_append_left _ z), hn, hc⟩
      refine R1.gave (fun j zs hj => ?_) rv2
      rcases set_ol hj with ⟨z, _⟩ | ⟨_, z⟩
      · exact ⟨_, by rw [z]; exact hi⟩
      · exact ⟨zs, z⟩
end
end DL

namespace DL
open PySem PySem.Spec PyProof.Rows L2
variable [WW]

def tyN : D → String
  | .none => "NoneType"
  | .bool _ => "bool"
  | .int _ => "int"
  | .str _ => "str"
  | .list _ => "list"
  | .tuple _ => "tuple"
  | .dict _ => "dict"
def isD (T : String) (d : D) : Option D := if fnB d = true then none else (kitB (tyN d) T).map PyData.bool
theorem kit_rep {X : Cx} {pins : List (Addr × Obj)} {σ : L2.St} {H G : Hp} {s : Shared} {v : V} {u : Value} {d : D} (I : Inv X pins σ H s) (e : Same G H) (r : Rep X.K G v d) (rv : RelV v u) (hn : fnB d = false) :
    ∃ P : Heap → Prop, PySem.W.KitX X.K u (.type (tyN d)) P ∧ P s.heap ∧ u ≠ .builtin "__main__.__loader__#opaque" := by
  have of : ∀ {x : V} {u t : Value}, RelV x u → TyX X.K H x t → ∃ P : Heap → Prop, PySem.W.KitX X.K u t P ∧ P s.heap ∧ u ≠ .builtin "__main__.__loader__#opaque" := fun rx ty => kit_of I rx ty
  cases r with
  | non => exact of rv (.base .non)
  | bl b => exact of rv (.base (.bl b))
  | int i => exact of rv (.base (.int i))
  | str x => exact of rv (.base (.str x))
  | lst h _ =>
    rcases h with (h | ⟨o, h⟩) | ⟨its, n, h, _, _⟩
    · exact of rv (.base (.lst (e _ _ h)))
    · exact of rv (.base (.frz (e _ _ h)))
    · exact of rv (.kList h rfl)
  | tup h _ =>
    rcases h with ⟨o, h, _⟩ | ⟨o, its, n, h, hc, _⟩
    · exact of rv (.fTuple (e _ _ h))
    · exact of rv (.kTuple h hc)
  | @dict a o es ep kvs h c _ _ _ _ =>
    cases (show u = Value.ref a from rv)
    have he : s.heap.get? a = some o := (I.hok a _ (e _ _ h)).1
    exact ⟨_, PySem.W.kitx_dict, ⟨o, he, c.1⟩, fun z => nomatch z⟩
  | fn h => cases hn
theorem call_isiD {X : Cx} : CallR X (.builtin "isinstance") (fun xs H Q => ∃ (G : Hp) (x : V) (d : D) (T : String) (b : Bool), xs = [x, .ty T] ∧ Same G H ∧ Rep X.K G x d ∧ fnB d = false ∧ kitB (tyN d) T = some b ∧ Q (.bl b) H) := by
  intro pins s σ H xs us Q I r h
  obtain ⟨G, x, d, T, b, rfl, e, rd, hn, hb, q⟩ := h
  obtain ⟨u1, u2, rfl, r1, r2⟩ := vals2 r
  cases (show u2 = Value.type T from r2)
  obtain ⟨P, Z, p, hx⟩ := kit_rep I e rd r1 hn
  exact PySem.W.kia_one Z I.kIn p (kit_ty hb) hx fun tk => ⟨.bl b, H, I.tok tk, rfl, q⟩
section
variable {X : Cx} {e : Expr} {es : List Expr} {fa : Fx} {fs : Fs} {pos p q apos cpos : Pos}
theorem de_isi {T : String} {x : Str} (he : DE X e fa) (hg : Gl X "isinstance") (hm : X.mg "isinstance" = none) (hT : PE X (.Name x q) (tC (.ty T)))
    (h1 : starEach [e, .Name x q] X.env = (false, eval e X.env) :: starEach [.Name x q] X.env := by rfl) (h2 : starEach [.Name x q] X.env = (false, eval (.Name x q) X.env) :: starEach [] X.env := by rfl)
    (hpl : (backTo pos (starEach [.Name x q] X.env)).any (·.1) = false := by rfl) : DE X (.Call (.Name "isinstance" p) [e, .Name x q] [] pos) (f1 (isD T) fa) := by
  obtain ⟨t, pt, qt⟩ := he
  refine ⟨_, pe_callB call_isiD hg hm (by decide +kernel) (pa_cons pt (pa_cons hT pa_nil h2) h1) (by decide) (by decide) h1 hpl, fun δ F own G H ρ γ σ d ρ' γ' Q R e k => ?_⟩
  obtain ⟨⟨x, ρ1, γ1⟩, e1, e⟩ := bind_some e
  obtain ⟨z, e3, e⟩ := map_some e
  cases e
  unfold isD at e3
  split at e3
  case isTrue => cases e3
  rename_i hn
  obtain ⟨b, e4, e5⟩ := map_some e3
  subst e5
  refine qt δ F own G H ρ γ σ x _ _ _ R e1 fun v G1 H1 R1 s1 r1 => ?_
  exact ⟨G1, v, x, T, b, rfl, R1.sub, r1, by simpa using hn, e4, k _ G1 H1 R1 s1 (.bl _)⟩

def blOf : D → Option Bool
  | .bool b => some b
  | _ => none
def blsOf : List D → Option (List Bool)
  | [] => some []
  | d :: ds => (blOf d).bind fun b => (blsOf ds).map fun bs => b :: bs
theorem blsOf_map : ∀ bs : List Bool, blsOf (bs.map PyData.bool) = some bs
  | [] => rfl
  | b :: r => by show (some b).bind _ = _; rw [Option.bind_some, blsOf_map r]; rfl
theorem Reps.bls {K : Fg} {G : Hp} : ∀ {vs : List V} {ds : List D} {bs : List Bool}, Reps K G vs ds → blsOf ds = some bs → vs = bs.map V.bl
  | _, _, _, .nil, h => by cases h; rfl
  | _, _, _, .cons (d := d) a b, h => by
    obtain ⟨y, e1, h⟩ := bind_some h
    obtain ⟨ys, e2, h⟩ := map_some h
    subst h
    cases d <;> simp only [blOf, reduceCtorEq, Option.some.injEq] at e1
    subst e1
    rw [a.bl_inv, Reps.bls b e2]; rfl
def allD : List D → Option D
  | [.list xs] => (blsOf xs).map fun bs => .bool (bs.all id)
  | _ => none
def anyD : List D → Option D
  | [.list xs] => (blsOf xs).map fun bs => .bool (bs.any id)
  | _ => none
theorem cd_all (O : Okc X) : CallR X (.builtin "all") (rsD X.K allD) := by
  intro pins s σ H xs us Q I r ⟨G, as, d, e, ra, hd, h⟩
  match as, hd with
  | [.list ys], hd =>
    obtain ⟨w, rfl, r1⟩ := one_inv ra
    obtain ⟨a, vs, rfl, hq, hs⟩ := r1.lst_inv
    obtain ⟨bs, e1, hd⟩ := map_some hd
    subst hd
    cases hs.bls e1
    exact cr_all O.calm pins s σ H _ us Q I r ⟨a, bs, rfl, e.seq hq, quiet_end e h (.bl _)⟩
theorem cd_any (O : Okc X) : CallR X (.builtin "any") (rsD X.K anyD) := by
  intro pins s σ H xs us Q I r ⟨G, as, d, e, ra, hd, h⟩
  match as, hd with
  | [.list ys], hd =>
    obtain ⟨w, rfl, r1⟩ := one_inv ra
    obtain ⟨a, vs, rfl, hq, hs⟩ := r1.lst_inv
    obtain ⟨bs, e1, hd⟩ := map_some hd
    subst hd
    cases hs.bls e1
    exact cr_any O.calm pins s σ H _ us Q I r ⟨a, bs, rfl, e.seq hq, quiet_end e h (.bl _)⟩

def fM (g : D → List D → Option D) (fa : Fx) (fr : Fs) : Fx := fun ρ γ => (fa ρ γ).bind fun p => (fr p.2.1 p.2.2).bind fun q => (g p.1 q.1).map fun z => (z, q.2)
theorem de_bmS {id : String} {name : Str} {o : Expr} {g : D → List D → Option D} (slot : Slot "str" name id) (hty : typeOf (.builtin id) = pure (.type "method_descriptor")) (hm : MtR X id (rmD X.K g)) (hT : ∀ a as d, g a as = some d → ∃ x, a = .str x)
    (ho : DE X o fa) (ha : DA X (e :: es) fs)
    (hbase : attributeBase o name X.env (eval o X.env) = eval o X.env := by rfl)
    (hfew : ((backTo cpos (starEach (e :: es) X.env)).all (fun x => !x.1) && (backToKw cpos (keywordEach [] X.env)).all (fun x => x.1.isSome)
      && decide ((e :: es).length + ([] : List Keyword).length + (if ([] : List Keyword).isEmpty then 0 else 1) < 30)) = true := by rfl)
    (hline : (apos.endLine == cpos.line) = true := by rfl) (hs : starEach (e :: es) X.env = (false, eval e X.env) :: starEach es X.env := by rfl) (hplain : (backTo cpos (starEach es X.env)).any (·.1) = false := by rfl) :
    DE X (.Call (.Attribute o name apos) (e :: es) [] cpos) (fM g fa fs) := by
  obtain ⟨ta, pa, qa⟩ := ho
  obtain ⟨tb, pb, qb⟩ := ha
  refine ⟨_, pe_bm PySem.F.plainAttrs_str slot hty hm pa pb hbase hfew hline hs hplain, fun δ F own G H ρ γ σ d ρ' γ' Q R e k => ?_⟩
  obtain ⟨⟨x, ρ1, γ1⟩, e1, e⟩ := bind_some e
  obtain ⟨⟨ys, ρ2, γ2⟩, e2, e⟩ := bind_some e
  obtain ⟨z, e3, e⟩ := map_some e
  cases e
  refine qa δ F own G H ρ γ σ x _ _ _ R e1 fun v G1 H1 R1 s1 r1 => ⟨?_, qb δ F own G1 H1 _ _ σ ys _ _ _ R1 e2 fun u G2 H2 R2 s2 r2 => ?_⟩
  · obtain ⟨y, hy⟩ := hT _ _ _ e3
    have hy : x = .str y := hy
    subst hy
    cases r1.str_inv
    exact rfl
  · exact ⟨G2, x, ys, d, R2.sub, r1.mono s2, r2, e3, fun w G' H' st r => k w G' H' (R2.step st) ((s1.trans s2).trans st.sg) r⟩
def strOf : D → Option Str
  | .str x => some x
  | _ => none
def strsOf : List D → Option (List Str)
  | [] => some []
  | d :: ds => (strOf d).bind fun b => (strsOf ds).map fun bs => b :: bs
theorem strsOf_map : ∀ bs : List Str, strsOf (bs.map PyData.str) = some bs
  | [] => rfl
  | b :: r => by show (some b).bind _ = _; rw [Option.bind_some, strsOf_map r]; rfl
theorem Reps.strs {K : Fg} {G : Hp} : ∀ {vs : List V} {ds : List D} {bs : List Str}, Reps K G vs ds → strsOf ds = some bs → vs = bs.map V.str
  | _, _, _, .nil, h => by cases h; rfl
  | _, _, _, .cons (d := d) a b, h => by
    obtain ⟨y, e1, h⟩ := bind_some h
    obtain ⟨ys, e2, h⟩ := map_some h
    subst h
    cases d <;> simp only [strOf, reduceCtorEq, Option.some.injEq] at e1
    subst e1
    rw [a.str_inv, Reps.strs b e2]; rfl
def joinD : D → List D → Option D
  | .str a, [.list ds] => (strsOf ds).bind fun ys => if (ys.map (·.length)).sum + ys.length * a.length ≤ 16777216 then some (.str (Txt.join a ys)) else none
  | .str a, [.tuple ds] => (strsOf ds).bind fun ys => if (ys.map (·.length)).sum + ys.length * a.length ≤ 16777216 then some (.str (Txt.join a ys)) else none
  | _, _ => none
theorem md_join : MtR X "str.join" (rmD X.K joinD) := by
  intro pins s σ H x xs v us Q I rx rs ⟨G, a, as, d, e, ra, rb, hd, h⟩
  match a, as, hd with
  | .str a, [.list ds], hd =>
    obtain ⟨w, rfl, r1⟩ := one_inv rb
    obtain ⟨l, vs, rfl, hq, hs⟩ := r1.lst_inv
    obtain ⟨ys, e1, hd⟩ := bind_some hd
    split at hd
    · rename_i hz
      cases hd
      cases ra.str_inv
      cases hs.strs e1
      exact mt_join pins s σ H _ _ v us Q I rx rs ⟨a, l, ys, rfl, rfl, Or.inl (e.seq hq), hz, quiet_end e h (.str _)⟩
    · cases hd
  | .str a, [.tuple ds], hd =>
    obtain ⟨w, rfl, r1⟩ := one_inv rb
    obtain ⟨l, vs, rfl, hq, hs⟩ := r1.tup_inv
    obtain ⟨ys, e1, hd⟩ := bind_some hd
    split at hd
    · rename_i hz
      cases hd
      cases ra.str_inv
      cases hs.strs e1
      exact mt_join pins s σ H _ _ v us Q I rx rs ⟨a, l, ys, rfl, rfl, Or.inr (sqt_same e hq), hz, quiet_end e h (.str _)⟩
    · cases hd
def findD : D → List D → Option D
  | .str a, [.str b] => some (.int (Txt.find a b))
  | _, _ => none
theorem md_find : MtR X "str.find" (rmD X.K findD) := by
  intro pins s σ H x xs v us Q I rx rs ⟨G, a, as, d, e, ra, rb, hd, h⟩
  match a, as, hd with
  | .str a, [.str b], hd =>
    obtain ⟨w, rfl, r1⟩ := one_inv rb
    cases hd
    cases ra.str_inv
    cases r1.str_inv
    exact mt_find pins s σ H _ _ v us Q I rx rs ⟨a, b, rfl, rfl, quiet_end e h (.int _)⟩
theorem joinD_str (a : D) (as : List D) (d : D) (h : joinD a as = some d) : ∃ x, a = .str x := by
  cases a with
  | str x => exact ⟨x, rfl⟩
  | _ => simp [joinD] at h
theorem findD_str (a : D) (as : List D) (d : D) (h : findD a as = some d) : ∃ x, a = .str x := by
  cases a with
  | str x => exact ⟨x, rfl⟩
  | _ => simp [findD] at h
end

mutual
/-- a bound of a text's length -/
def wgt : D → Nat
  | .none => 4
  | .bool _ => 5
  | .int i => i.natAbs.log2 + 2
  | .str x => 10 * x.length + 2
  | .list xs => wgts xs + 3
  | .tuple xs => wgts xs + 3
  | .dict _ => 0
def wgts : List D → Nat
  | [] => 0
  | d :: ds => wgt d + 2 + wgts ds
end
mutual
/-- codes that are codes -/
def codeOk : D → Bool
  | .str x => x.cps.toList.all fun c => decide (c < 4294967296)
  | .list xs => codesOk xs
  | .tuple xs => codesOk xs
  | _ => true
def codesOk : List D → Bool
  | [] => true
  | d :: ds => codeOk d && codesOk ds
end
mutual
theorem shown_le : ∀ d : D, d.plain = true → codeOk d = true → d.shown.length ≤ wgt d
  | .none, _, _ => by decide +kernel
  | .bool b, _, _ => by cases b <;> decide +kernel
  | .int i, _, _ => by
    simp only [PyData.shown, wgt]
    have := int_text_length_le (a := i) (k := i.natAbs.log2 + 1) (by omega) (by omega)
    have e : (Str.ofString (toString i)).length = (toString i).length := PySem.ofString_length _
    show (Str.ofString (toString i)).length ≤ _
    omega
  | .str x, _, h => by
    simp only [PyData.shown, wgt]
    refine StrLaws.reprText_len x fun c hc => ?_
    have := List.all_eq_true.mp h c hc
    have : c < 4294967296 := by simpa using this
    omega
  | .list xs, p, h => by
    simp only [PyData.shown, wgt]
    have h1 := listText_len_le (PyData.shownAll xs)
    have h2 := shown_les xs (by simpa only [PyData.plain] using p) (by simpa only [codeOk] using h)
    omega
  | .tuple xs, p, h => by
    simp only [PyData.shown, wgt]
    have h1 := tupleText_len_le (PyData.shownAll xs)
    have h2 := shown_les xs (by simpa only [PyData.plain] using p) (by simpa only [codeOk] using h)
    omega
  | .dict _, p, _ => by simp [PyData.plain] at p
theorem shown_les : ∀ ds : List D, PyData.plainAll ds = true → codesOk ds = true → ((PyData.shownAll ds).map (·.length)).sum + 2 * (PyData.shownAll ds).length ≤ wgts ds
  | [], _, _ => by simp [PyData.shownAll, wgts]
  | d :: ds, p, h => by
    simp only [PyData.plainAll, Bool.and_eq_true] at p
    simp only [codesOk, Bool.and_eq_true] at h
    have h1 := shown_le d p.1 h.1
    have h2 := shown_les ds p.2 h.2
    simp only [PyData.shownAll, wgts, List.map_cons, List.sum_cons, List.length_cons]
    omega
end
def reprD : List D → Option D
  | [d] => if d.plain ∧ d.showable ∧ codeOk d ∧ d.depth ≤ 60 ∧ wgt d ≤ 16777216 then some (.str d.shown) else none
  | _ => none
mutual
theorem plain_nodict : ∀ d : D, d.plain = true → d.hasDict = false
  | .none, _ => rfl
  | .bool _, _ => rfl
  | .int _, _ => rfl
  | .str _, _ => rfl
  | .list xs, h => by simp only [PyData.hasDict]; exact plains_nodict xs (by simpa only [PyData.plain] using h)
  | .tuple xs, h => by simp only [PyData.hasDict]; exact plains_nodict xs (by simpa only [PyData.plain] using h)
  | .dict _, h => by simp [PyData.plain] at h
theorem plains_nodict : ∀ ds : List D, PyData.plainAll ds = true → PyData.hasDictAll ds = false
  | [], _ => rfl
  | d :: ds, h => by
    simp only [PyData.plainAll, Bool.and_eq_true] at h
    simp only [PyData.hasDictAll, plain_nodict d h.1, plains_nodict ds h.2, Bool.or_self]
end
section
variable {X : Cx}
theorem cd_reprG (hg : X.A.guards = some []) (hu : X.A.units + 64 < cLine) : CallR X (.builtin "repr") (rsD X.K reprD) := by
  intro pins s σ H xs us Q I r ⟨G, as, d, e, ra, hd, h⟩
  match as, hd with
  | [y], hd =>
    obtain ⟨w, rfl, r1⟩ := one_inv ra
    simp only [reprD] at hd
    split at hd
    case isFalse => cases hd
    rename_i hc
    cases hd
    obtain ⟨hp, hs, hk, hdp, hw⟩ := hc
    have hsz : y.shown.length ≤ sizeLine := by rw [sizeLine_eq]; exact Nat.le_trans (shown_le y hp hk) hw
    obtain ⟨u, rfl, ru⟩ := Vals.one r
    have q := quiet_end e h (.str _)
    have fin : ∀ (h' : Heap) (t : Tok) (tk : Nat), (∀ b o, s.heap.get? b = some o → h'.get? b = some o) → EP X pins σ Q (.str y.shown t) { s with heap := h', toks := tk } := fun h' t tk hk => ⟨.str _, H, I.kept hk, ⟨_, rfl⟩, q⟩
    have fin0 : ∀ (t : Tok) (tk : Nat), EP X pins σ Q (.str y.shown t) { s with toks := tk } := fun t tk => ⟨.str _, H, I.tok _, ⟨_, rfl⟩, q⟩
    cases y with
    | none => cases r1.non_inv; cases ru; exact PySem.P.repr_of_none (fin0 _ _)
    | bool b => cases r1.bl_inv; cases ru; exact PySem.P.repr_of_bool (fin0 _ _)
    | int i =>
      cases r1.int_inv
      obtain ⟨t, rfl⟩ := ru
      exact PySem.P.repr_of_int (by simpa [PyData.showable] using hs) (fin0 _ _)
    | str x =>
      cases r1.str_inv
      obtain ⟨t, rfl⟩ := ru
      exact PySem.P.repr_of_str (fin0 _ _) hsz
    | list zs =>
      obtain ⟨a, vs, rfl, _, _⟩ := r1.lst_inv
      cases ru
      obtain ⟨as, q1⟩ := Rep.reads I e (.list zs) _ _ hp r1 rfl
      exact repr_of_reads' q1 hs (PyData.noDict_hsm (plain_nodict _ hp)) hg (by omega) (fun _ _ z => z) (fun h' t tk hk => fin h' t tk hk) hsz
    | tuple zs =>
      obtain ⟨a, vs, rfl, _, _⟩ := r1.tup_inv
      cases ru
      obtain ⟨as, q1⟩ := Rep.reads I e (.tuple zs) _ _ hp r1 rfl
      exact repr_of_reads' q1 hs (PyData.noDict_hsm (plain_nodict _ hp)) hg (by omega) (fun _ _ z => z) (fun h' t tk hk => fin h' t tk hk) hsz
    | dict kvs => simp [PyData.plain] at hp
theorem cd_repr (O : Okc X) : CallR X (.builtin "repr") (rsD X.K reprD) := cd_reprG O.hg O.hr.units
end
end DL

namespace DL
open PySem PySem.Spec PyProof.Rows L2
variable [WW]

theorem reps_script {K : Fg} {G : Hp} (ns : List Int) : Reps K G (ns.map V.int) (ns.map PyData.int) := Reps.ints ns
section
variable {P : Program} {w : World} {K : Fg} {mg mb : Str → Option Value} {k : Nat} {fa a : Addr} {fd : FuncData} {x : Str} {fn : Fn} {s₁ : Shared} {vs : List Value} {ns : List Int}
theorem law_kp (noT : WW.T = []) (KX : K.In s₁.heap) (hns : s₁.heap.Ns mainGlobals mg) (hb : s₁.heap.Ns builtinsNs mb) (hbb : ∀ x : Str, x ≠ "__name__" → mb x = bootBuiltins x) (hlim : s₁.heap.NoLimit) (hg : s₁.gens = #[])
    (ha : s₁.heap.get? a = some { cls := .type "list", data := .seq vs.toArray }) (hi : IntsAre vs ns) (hl : ns.length ≤ sizeLine) (hr : Room k callerA)
    (F : ∀ base : Heap, K.In base → base.Ns mainGlobals mg → Kp P w K mg base k fa fd [x] fn) (hbind : ∀ (s : Shared) (u : Value), BindsTo s fd ⟨[u], []⟩ [(x, u)])
    (hfn : ∃ γ, fn [.d (.list (ns.map PyData.int))] [] = some (.d (.bool true), γ)) :
    codeAny (model P w) callerA (.call (.ref fa) ⟨[.ref a], []⟩) (fun r s' => r = .ok (.ret (.bool true)) ∧ OldK s₁.heap s'.heap ∧ s'.os = s₁.os ∧ AllBare s'.gens) s₁ := by
  have rv := vals_ints hi
  have lenV := hi.length
  obtain ⟨γ1, hfn⟩ := hfn
  have core : ∀ H : Hp, (∀ b, H b = none ∨ ∃ o xs, H b = some (.frz o (.lst xs))) → SqX K H a (ns.map V.int) → HOk P w H s₁.heap → (∀ b, H b ≠ none → b = a ∧ K.lookup a = none) →
      codeAny (model P w) callerA (.call (.ref fa) ⟨[.ref a], []⟩) (fun r s' => r = .ok (.ret (.bool true)) ∧ OldK s₁.heap s'.heap ∧ s'.os = s₁.os ∧ AllBare s'.gens) s₁ := by
    intro H only hS hok hA
    have quiet : ∀ {b : Addr} {o : Obj}, s₁.heap.get? b = some o → (b = a → o.data ≠ .seq vs.toArray 0) → H b = none := fun {b o} e ne => by
      cases q : H b with
      | none => rfl
      | some u =>
        have e1 := (hA b (by rw [q]; intro z; cases z)).1
        rw [e1, ha] at e
        cases e
        exact absurd rfl (ne e1)
    have names : ∀ {b : Addr} {m : Str → Option Value}, s₁.heap.Ns b m → (hidT s₁.heap H).Ns b m := fun {b m} ⟨o, es, ep, e, d, r⟩ =>
      ⟨o, es, ep, hidT_get e (quiet e fun _ z => by rw [d] at z; cases z), d, r⟩
    have inB : K.In (hidT s₁.heap H) := fun b o e => hidT_get (KX b o e) (by
      cases q : H b with
      | none => rfl
      | some u =>
        obtain ⟨e1, e2⟩ := hA b (by rw [q]; intro z; cases z)
        rw [e1, e2] at e
        cases e)
    have hM : Mod K mg (hidT s₁.heap H) := ⟨inB, names hns, ⟨mb, names hb, hbb⟩, let ⟨mc, z1, z2⟩ := hlim; ⟨mc, names z1, z2⟩⟩
    have e0 : Env0 P w K mg (hidT s₁.heap H) callerA [] s₁ H := ⟨rfl, hM, fun b o e => of_hidT e, Nat.le_of_eq (hidT_size _ _), trivial, fun b hb => (nomatch hb), hok, .of_eq hg⟩
    refine codeAny_mono ((F _ inB (names hns)).run callerA [] s₁ H H ⟨[.ref a], []⟩ [.ref a] [.ref a] [] [.d (.list (ns.map PyData.int))] [] (.d (.bool true)) γ1 (fun v _ => v = .bl true) hr rfl e0 (hbind s₁ (.ref a)) (.cons rfl .nil) rfl
      ⟨Same.refl _, rfl, List.nodup_nil, fun b hb => (nomatch hb), fun n c hc => by simp at hc, fun p hp => by rw [noT] at hp; cases hp⟩ (.d (.lst hS (reps_script ns)) .nil) hfn fun v G' H' _ r => Rep.bl_inv r) fun r s' h => ?_
    cases r with
    | error e => exact False.elim h
    | ok fl =>
      cases fl with
      | next => exact False.elim h
      | brk => exact False.elim h
      | cont => exact False.elim h
      | ret u =>
        obtain ⟨v, H', os, bare, un, hok', r', q⟩ := h
        have q : v = .bl true := q
        subst q
        cases (show u = Value.bool true from r')
        refine ⟨rfl, OldK.of_keep fun b o e => ?_, os, bare⟩
        rcases only b with z | ⟨ob, xs, z⟩
        · exact un.keep b o e z (fun z => nomatch z) (fun z => nomatch z)
        · have e1 := (hok b _ z).1
          have e2 := (hok' b _ (un.frzs b ob _ z)).1
          rw [e] at e1
          cases e1
          exact e2
  cases hk : K.lookup a with
  | some o =>
    have e := KX a o hk
    rw [ha] at e
    cases e
    exact core (fun _ => none) (fun _ => Or.inl rfl) (Or.inr ⟨vs.toArray, 0, hk, by rw [List.size_toArray, lenV]; exact hl, by simpa using rv⟩) (fun b u z => nomatch z) (fun b z => absurd rfl z)
  | none =>
    refine core (fun b => if b = a then some (.frz { cls := .type "list", data := .seq vs.toArray } (.lst (ns.map V.int))) else none) (fun b => ?_) (Or.inl (Or.inr ⟨_, if_pos rfl⟩)) (fun b u z => ?_) fun b z => ?_
    · by_cases h : b = a
      · exact Or.inr ⟨_, _, if_pos h⟩
      · exact Or.inl (if_neg h)
    · by_cases h : b = a
      · have z := (if_pos h).symm.trans z
        cases z
        rw [h]
        exact ⟨ha, by rw [List.length_map]; exact hl, vs, _, rv, ha⟩
      · have z := (if_neg h).symm.trans z
        cases z
    · by_cases h : b = a
      · exact ⟨h, hk⟩
      · exact absurd (if_neg h) z
end
omit [WW] in
/-- the goal that the head leaves, from what the law's def computes at every script -/
theorem walk_kp {l : PySem.W.OpenLaw} {n k : Nat} {q : Program} {loose : List Str} {XP : (Str → Option Value) → Heap → Prop} {YP : World → Heap → Prop} {d : DefRec} {K : Params → Fg} {fn : Fn} {x : Str}
    (hn : l.most = some n) (hn2 : n ≤ sizeLine) (hdf : d.params.defaults = []) (hr : Room k callerA) (hY : ∀ (w : World) (h : Heap), YP w h → (K w.params).In h)
    (F : ∀ (w : World) (mg : Str → Option Value) (fa : Addr) (h : Heap), (K w.params).In h → h.Ns mainGlobals mg → mg d.name = some (.ref fa) →
      ∃ fd : FuncData, (∀ (s : Shared) (u : Value), BindsTo s fd ⟨[u], []⟩ [(x, u)]) ∧ ∀ base : Heap, (K w.params).In base → base.Ns mainGlobals mg → @Kp (WW.mk w [] []) l.prog w (K w.params) mg base k fa fd [x] fn)
    (hfn : ∀ ns : List Int, ns.length ≤ n → ∃ γ, fn [.d (.list (ns.map PyData.int))] [] = some (.d (.bool true), γ)) :
    PySem.W.WalkO q loose XP YP l.row.toRowW d [] (fun f vs => PySem.call f vs) := by
  refine Att.attach_call hn hdf fun w s₀ s₁ mg mb fa o pm cd doc a vs ns G Y ho hd hcd hmg hobj hints hlen hg => ?_
  have KX := hY w _ Y
  obtain ⟨fd, hb, hF⟩ := F w mg fa _ KX G.T.g hmg
  letI : WW := WW.mk w [] []
  exact law_kp rfl KX G.T.g G.T.b G.T.builtins G.T.nolimit hg hobj hints (Nat.le_trans hlen hn2) hr hF hb (hfn ns hlen)
end DL

namespace DL
open PySem PySem.Spec PyProof.Rows L2
variable [WW]

/-- a sum of lists is a new list -/
def rCatO (K : Fg) : R2 := fun x y H Q => ∃ G xs ys, Same G H ∧ Rep K G x (.list xs) ∧ Rep K G y (.list ys) ∧ xs.length + ys.length ≤ sizeLine ∧ ∀ p vs, H p = none → Reps K G vs (xs ++ ys) → Q (.ref p) (upd H p (.lst vs))
def qCat (fa fb : Fx) : Fq := fun ρ γ => (fa ρ γ).bind fun p => (fb p.2.1 p.2.2).bind fun q => match p.1, q.1 with
  | .list xs, .list ys => if xs.length + ys.length ≤ sizeLine then some (.ol (xs ++ ys), q.2) else none
  | _, _ => none
/-- list(e) is a new list -/
def qList (fa : Fx) : Fq := fun ρ γ => (fa ρ γ).bind fun p => match p.1 with
  | .list xs => some (.ow (.l xs), p.2)
  | .tuple xs => some (.ow (.l xs), p.2)
  | _ => none
/-- xs * k is a new list -/
def sAsg (fa : Fx) (g : Fg1) : Fst := fun ρ γ => (fa ρ γ).bind fun p => (g p.1 p.2.1).map fun ρ1 => .nx ρ1 p.2.2
def fChain (g h : D → D → Option D) (fa fb fc : Fx) : Fx := fun ρ γ => (fa ρ γ).bind fun p => (fb p.2.1 p.2.2).bind fun q => (g p.1 q.1).bind fun z => match z with
  | .bool true => (fc q.2.1 q.2.2).bind fun r => (h q.1 r.1).map fun u => (u, r.2)
  | .bool false => some (.bool false, q.2)
  | _ => none
section
variable {X : Cx} {a b c e tg : Expr} {fa fb fc : Fx} {fs : Fs} {pos p : Pos}
theorem od_addL : OpR X (binaryOp .Add) (rCatO X.K) := by
  intro pins s σ H x y v u Q I rx ry ⟨G, xs, ys, e, ra, rb, hz, h⟩
  obtain ⟨p, vs, rfl, hp, hvs⟩ := ra.lst_rd
  obtain ⟨q, ws, rfl, hq, hws⟩ := rb.lst_rd
  cases rx
  cases ry
  obtain ⟨its, n1, r1, h1, z1⟩ := list_at I (sqx_same e hp)
  obtain ⟨its2, n2, r2, h2, z2⟩ := list_at I (sqx_same e hq)
  have hzz : its.toArray.size + its2.toArray.size ≤ sizeLine := by
    rw [List.size_toArray, List.size_toArray, ← r1.length, ← r2.length, hvs.length, hws.length]; exact hz
  refine PySem.P.add_list h1 h2 ?_ hzz
  have ea : its.toArray ++ its2.toArray = (its ++ its2).toArray := by simp
  rw [ea]
  have hzv : (vs ++ ws).length ≤ sizeLine := by rw [List.length_append, hvs.length, hws.length]; exact hz
  exact ⟨.ref _, _, I.lnew (t' := s.toks) (r1.append r2) hzv, rfl, h _ _ I.fresh (hvs.append hws)⟩
theorem dq_cat (ha : DE X a fa) (hb : DE X b fb) : DQ X (.BinOp a .Add b pos) (qCat fa fb) := by
  obtain ⟨ta, pa, qa⟩ := ha
  obtain ⟨tb, pb, qb⟩ := hb
  refine ⟨_, pe_op od_addL pa pb, fun δ F own G H ρ γ σ d ρ' γ' Q R e k => ?_⟩
  obtain ⟨⟨x, ρ1, γ1⟩, e1, e⟩ := bind_some e
  obtain ⟨⟨y, ρ2, γ2⟩, e2, e⟩ := bind_some e
  cases x <;> cases y <;> simp only [reduceCtorEq] at e
  split at e
  case isFalse => cases e
  rename_i hz
  cases e
  refine qa δ F own G H ρ γ σ _ _ _ _ R e1 fun v G1 H1 R1 s1 r1 => qb δ F own G1 H1 _ _ σ _ _ _ _ R1 e2 fun u G2 H2 R2 s2 r2 => ?_
  refine ⟨G2, _, _, R2.sub, r1.mono s2, r2, hz, fun p vs hp hs => ?_⟩
  exact k _ _ _ (R2.step (Step.own R2.sub hp (.lst vs))) (s1.trans s2) ⟨p, rfl, R2.live hp, vs, upd_same, hs⟩
theorem dq_list (ha : DE X e fa) (hg : Gl X "list") (hm : X.mg "list" = none) (he : starEach [e] X.env = (false, eval e X.env) :: starEach [] X.env := by rfl) (hpl : (backTo pos (starEach [] X.env)).any (·.1) = false := by rfl) :
    DQ X (.Call (.Name "list" p) [e] [] pos) (qList fa) := by
  obtain ⟨ta, pa, qa⟩ := ha
  refine ⟨_, pe_callTy call_list_of hg hm (by decide +kernel) (pa_cons pa pa_nil he) (by decide) (by decide) he hpl, fun δ F own G H ρ γ σ d ρ' γ' Q R e k => ?_⟩
  obtain ⟨⟨x, ρ1, γ1⟩, e1, e⟩ := bind_some e
  cases x with
  | list xs =>
    cases e
    refine qa δ F own G H ρ γ σ _ _ _ _ R e1 fun v G1 H1 R1 s1 r1 => ?_
    obtain ⟨l, vs, rfl, hq, hs⟩ := r1.lst_inv
    exact ⟨l, vs, rfl, Or.inl (R1.sub.seq hq), fun p hp => k _ _ _ (R1.step (Step.own R1.sub hp (.lst vs))) s1 ⟨p, rfl, R1.live hp, vs, upd_same, hs⟩⟩
  | tuple xs =>
    cases e
    refine qa δ F own G H ρ γ σ _ _ _ _ R e1 fun v G1 H1 R1 s1 r1 => ?_
    obtain ⟨l, vs, rfl, hq, hs⟩ := r1.tup_inv
    exact ⟨l, vs, rfl, Or.inr (sqt_same R1.sub hq), fun p hp => k _ _ _ (R1.step (Step.own R1.sub hp (.lst vs))) s1 ⟨p, rfl, R1.live hp, vs, upd_same, hs⟩⟩
  | _ => cases e
theorem de_chain {op op' : CmpOp} {g h : D → D → Option D} (ho : OpR X (compareOp op) (rD X.K g)) (ho' : OpR X (compareOp op') (rD X.K h)) (ha : DE X a fa) (hb : DE X b fb) (hc : DE X c fc)
    (hm : lastMarks [op, op'] [b, c] = false := by with_unfolding_all rfl) : DE X (.Compare a [op, op'] [b, c] pos) (fChain g h fa fb fc) := by
  obtain ⟨ta, pa, qa⟩ := ha
  obtain ⟨tb, pb, qb⟩ := hb
  obtain ⟨tc, pc, qc⟩ := hc
  refine ⟨_, pe_chain ho ho' pa pb pc hm, fun δ F own G H ρ γ σ d ρ' γ' Q R e k => ?_⟩
  obtain ⟨⟨x, ρ1, γ1⟩, e1, e⟩ := bind_some e
  obtain ⟨⟨y, ρ2, γ2⟩, e2, e⟩ := bind_some e
  obtain ⟨z, e3, e⟩ := bind_some e
  refine qa δ F own G H ρ γ σ x _ _ _ R e1 fun v G1 H1 R1 s1 r1 => qb δ F own G1 H1 _ _ σ y _ _ _ R1 e2 fun u G2 H2 R2 s2 r2 => ?_
  refine ⟨G2, x, y, z, R2.sub, r1.mono s2, r2, e3, fun w G3 H3 st r3 => ?_⟩
  split at e
  · cases r3.bl_inv
    obtain ⟨⟨c', ρ4, γ4⟩, e4, e⟩ := bind_some e
    obtain ⟨d', e5, e⟩ := map_some e
    cases e
    refine ⟨true, rfl, iteT (qc δ F own G3 H3 _ _ σ c' _ _ _ (R2.step st) e4 fun w' G4 H4 R4 s4 r4 => ?_)⟩
    exact ⟨G4, y, c', d, R4.sub, r2.mono (st.sg.trans s4), r4, e5, fun w2 G' H' st' r => k w2 G' H' (R4.step st') ((((s1.trans s2).trans st.sg).trans s4).trans st'.sg) r⟩
  · cases r3.bl_inv
    cases e
    exact ⟨false, rfl, iteF (k _ G3 H3 (R2.step st) ((s1.trans s2).trans st.sg) (.bl _))⟩
  · cases e
theorem ds_asg {ts : List Nat} {g : Fg1} (he : DE X e fa) (hg : DG X tg ts g) (hs : swapsWithSole [tg] e pos.line X.env = pure false := by rfl) (hw : swappedStores [tg] e X.env = pure none := by rfl)
    (h1 : (assignEach [tg] X.env).map (·.2) = [assign tg X.env] := by rfl) : DS X (.Assign [tg] e pos) (sAsg fa g) := by
  obtain ⟨ta, pa, qa⟩ := he
  obtain ⟨tb, pb, qb⟩ := hg
  refine ⟨_, ps_asg pa pb hs hw h1, fun δ F own G H ρ γ σ o E R e k => ?_⟩
  obtain ⟨⟨x, ρ1, γ1⟩, e1, e⟩ := bind_some e
  obtain ⟨ρ2, e2, e⟩ := map_some e
  cases e
  exact qa δ F own G H ρ γ σ x _ _ _ R e1 fun v G1 H1 R1 s1 r1 => qb δ F own G1 H1 _ _ σ v x _ _ R1 r1 e2 fun σ' R2 _ => k own G1 H1 σ' R2 s1
end
end DL

namespace DL
open PySem PySem.Spec PyProof.Rows L2
variable [WW]

/-- ints, all of them -/
def intsOf : List D → Option (List Int)
  | [] => some []
  | d :: ds => (intOf d).bind fun i => (intsOf ds).map fun r => i :: r
theorem intsOf_some : ∀ {ds : List D} {ns : List Int}, intsOf ds = some ns → ds = ns.map PyData.int
  | [], ns, h => by cases h; rfl
  | d :: ds, ns, h => by
    simp only [intsOf] at h
    obtain ⟨i, e1, h⟩ := bind_some h
    obtain ⟨r, e2, h⟩ := map_some h
    cases h
    rw [intOf_some e1, intsOf_some e2]; rfl
theorem intsOf_map : ∀ ns : List Int, intsOf (ns.map PyData.int) = some ns
  | [] => rfl
  | n :: ns => by simp [intsOf, intOf, intsOf_map ns]

def insI (i : Int) : List Int → List Int
  | [] => [i]
  | j :: r => if i ≤ j then i :: j :: r else j :: insI i r
def srtI : List Int → List Int
  | [] => []
  | i :: r => insI i (srtI r)
theorem insI_perm (i : Int) : ∀ l : List Int, (insI i l).Perm (i :: l)
  | [] => .refl _
  | j :: r => by
    unfold insI
    split
    · exact .refl _
    · exact ((insI_perm i r).cons j).trans (.swap i j r)
theorem srtI_perm : ∀ l : List Int, (srtI l).Perm l
  | [] => .refl _
  | i :: r => (insI_perm i _).trans ((srtI_perm r).cons i)
theorem insI_pw (i : Int) : ∀ l : List Int, l.Pairwise (· ≤ ·) → (insI i l).Pairwise (· ≤ ·)
  | [], _ => by simp [insI]
  | j :: r, h => by
    have h1 := List.pairwise_cons.mp h
    unfold insI
    split
    · rename_i hle
      refine List.pairwise_cons.mpr ⟨fun a ha => ?_, h⟩
      rcases List.mem_cons.mp ha with z | z
      · rw [z]; exact hle
      · exact Int.le_trans hle (h1.1 a z)
    · rename_i hle
      refine List.pairwise_cons.mpr ⟨fun a ha => ?_, insI_pw i r h1.2⟩
      rcases List.mem_cons.mp ((insI_perm i r).mem_iff.mp ha) with z | z
      · rw [z]; omega
      · exact h1.1 a z
theorem srtI_pw : ∀ l : List Int, (srtI l).Pairwise (· ≤ ·)
  | [] => .nil
  | i :: r => insI_pw i _ (srtI_pw r)
theorem pw_uniq : ∀ {l m : List Int}, l.Pairwise (· ≤ ·) → m.Pairwise (· ≤ ·) → l.Perm m → l = m
  | [], m, _, _, h => by rw [List.nil_perm.mp h]
  | a :: l, [], _, _, h => by cases List.perm_nil.mp h
  | a :: l, b :: m, h1, h2, h => by
    have p1 := List.pairwise_cons.mp h1
    have p2 := List.pairwise_cons.mp h2
    have hab : b ≤ a := by
      rcases List.mem_cons.mp (h.mem_iff.mp List.mem_cons_self) with z | z
      · omega
      · exact p2.1 a z
    have hba : a ≤ b := by
      rcases List.mem_cons.mp (h.mem_iff.mpr List.mem_cons_self) with z | z
      · omega
      · exact p1.1 b z
    have e : a = b := by omega
    subst e
    rw [pw_uniq p1.2 p2.2 h.cons_inv]
theorem srt_uniq {l ns : List Int} (hp : ns.Perm l) (hs : ns.Pairwise (· ≤ ·)) : ns = srtI l := pw_uniq hs (srtI_pw l) (hp.trans (srtI_perm l).symm)

def fTupO (fa : Fx) : Fx := fun ρ γ => (fa ρ γ).bind fun p => match p.1 with
  | .list xs => some (.tuple xs, p.2)
  | .tuple xs => some (.tuple xs, p.2)
  | _ => none
def rgOk (a b : Int) : Bool := inB 4611686018427387904 a && inB 4611686018427387904 b && decide ((b - a).toNat ≤ 2 ^ 24)
theorem rgOk_ok {a b : Int} (h : rgOk a b = true) : RgOk a b := by
  unfold rgOk at h
  simp only [Bool.and_eq_true, decide_eq_true_eq] at h
  exact ⟨(inB62 h.1.1).1, (inB62 h.1.1).2, (inB62 h.1.2).1, (inB62 h.1.2).2, h.2⟩
def rgDs (a b : Int) : List D := (List.range (b - a).toNat).map fun i => .int (a + (i : Nat))
/-- the items of range(..) that is no iterable of a for -/
def fR1 (fa : Fx) : Fs := fun ρ γ => (fa ρ γ).bind fun p => (intOf p.1).bind fun n => if rgOk 0 n then some (rgDs 0 n, p.2) else none
def fR2 (fa fb : Fx) : Fs := fun ρ γ => (fa ρ γ).bind fun p => (fb p.2.1 p.2.2).bind fun q => (intOf p.1).bind fun m => (intOf q.1).bind fun n => if rgOk m n then some (rgDs m n, q.2) else none
def fTupR (fr : Fs) : Fx := fun ρ γ => (fr ρ γ).map fun p => (.tuple p.1, p.2)
def qLR (fr : Fs) : Fq := fun ρ γ => (fr ρ γ).map fun p => (.ow (.l p.1), p.2)
def qSrt (fa : Fx) : Fq := fun ρ γ => (fa ρ γ).bind fun p => (match p.1 with
  | .list xs => intsOf xs
  | .tuple xs => intsOf xs
  | _ => none).map fun ns => (.ol ((srtI ns).map PyData.int), p.2)
/-- [x] * n, a new list -/
def qRep (fa fb : Fx) : Fq := fun ρ γ => (fa ρ γ).bind fun p => (fb p.2.1 p.2.2).bind fun q => match p.1, q.1 with
  | .list xs, .int k => if inB 9223372036854775808 k = true ∧ xs.length * k.toNat ≤ sizeLine then some (.ol (List.replicate k.toNat xs).flatten, q.2) else none
  | _, _ => none
def isBD : D → D → Option D
  | .bool a, .bool b => some (.bool (decide (a = b)))
  | _, _ => none
def isNBD : D → D → Option D
  | .bool a, .bool b => some (.bool (!decide (a = b)))
  | _, _ => none
def minI (i : Int) (l : List Int) : Int := l.foldl (fun a y => if y < a then y else a) i
def min1D : List D → Option D
  | [.list xs] => (intsOf xs).bind fun ns => match ns with
    | [] => none
    | n :: r => some (.int (minI n r))
  | [.tuple xs] => (intsOf xs).bind fun ns => match ns with
    | [] => none
    | n :: r => some (.int (minI n r))
  | _ => none
def indexD : D → List D → Option D
  | .tuple xs, [.int i] => (intsOf xs).bind fun ns => if i ∈ ns then some (.int (ns.idxOf i)) else none
  | _, _ => none
/-- a starred item ahead -/
def fStar (fa : Fx) (fr : Fs) : Fs := fun ρ γ => (fa ρ γ).bind fun p => (itemsLT p.1).bind fun xs => (fr p.2.1 p.2.2).map fun q => (xs ++ q.1, q.2)
where itemsLT : D → Option (List D)
  | .list xs => some xs
  | .tuple xs => some xs
  | _ => none
section
variable {X : Cx} {a b c e tg : Expr} {es : List Expr} {fa fb fc : Fx} {fs fr : Fs} {pos p apos cpos : Pos}
/-- tuple(x), its object known -/
def kTupF (K : Fg) (x : V) (H : Hp) (Q : VK) : Prop := (∃ p xs, x = .ref p ∧ SqL K H p xs ∧ ∀ q us, H q = none → Q (.ref q) (upd H q (.frz (tupO us) (.tup xs)))) ∨ (∃ p xs, x = .ref p ∧ SqT K H p xs ∧ Q (.ref p) H)
theorem pe_tupOfF (hg : Gl X "tuple") (hm : X.mg "tuple" = none) {ta : TE} (ha : PE X e ta) (na : starEach [e] X.env = (false, eval e X.env) :: starEach [] X.env) :
    PE X (.Call (.Name "tuple" p) [e] [] pos) (tThen ta (kTupF X.K)) := by
  refine ⟨fun pins s σ H Q I h => ?_⟩
  refine Call_ (ld_blt I hg hm boot_tuple (PyProof.Rows.callWith_type1 (one_arg ha I h (fun v s2 x H2 I2 r q => ?_) na) na))
  rcases q with ⟨p, xs, rfl, hs, q⟩ | ⟨p, xs, rfl, hs, q⟩
  · obtain rfl : v = .ref p := r
    obtain ⟨its, rv, pl, hz⟩ := I2.list hs
    refine call_tuple_list pl.isList (fun h' hk => ?_) (by rw [List.size_toArray, ← rv.length]; exact hz)
    have I1 : Inv X pins σ H2 { s2 with heap := h' } := I2.kept (t' := s2.toks) hk
    exact ⟨.ref h'.objs.size, _, lay_tup (s := { s2 with heap := h' }) (tk := s2.toks) I1 (fun _ _ z => z) (Nat.le_refl _) rv hz, rfl, q _ its (I1.hok.fresh (Nat.le_refl _))⟩
  · obtain rfl : v = .ref p := r
    obtain ⟨its, rv, pl, hz⟩ := I2.tuple hs
    exact call_tuple_tup pl ⟨.ref p, H2, I2, rfl, q⟩
def tTupRgF (te : L2.St → Hp → (Int → Int → Hp → Prop) → Prop) : TE := fun σ H Q => te σ H fun a b H1 => RgOk a b ∧ ∀ q us, H1 q = none → Q (.ref q) (upd H1 q (.frz (tupO us) (.tup (rgV a b))))
theorem pe_tupRgF {te : L2.St → Hp → (Int → Int → Hp → Prop) → Prop} (hc : X.calm = true) (hg : Gl X "tuple") (hm : X.mg "tuple" = none) (he : PRg X e te) (na : starEach [e] X.env = (false, eval e X.env) :: starEach [] X.env) : PE X (.Call (.Name "tuple" p) [e] [] pos) (tTupRgF te) := by
  refine ⟨fun pins s σ H Q I h => ?_⟩
  refine Call_ (ld_blt I hg hm boot_tuple (PyProof.Rows.callWith_type1 (args_cons (thn (he pins s σ H _ I h) fun x s1 ⟨r, a, b, t, u, v, H1, ex, hr, I1, ok, q⟩ => args_nil ?_) na) na))
  subst ex
  obtain ⟨b1, b2, b3, b4, b5⟩ := ok
  refine call_tuple_range (n := (b - a).toNat) (I1.ok.hd hc) hr (small_one b1 b2 b3 b4) (rangeSize_nat a b) b5 fun h' tk acc hk hi => ?_
  have I2 : Inv X pins σ H1 { s1 with heap := h', toks := tk } := I1.kept hk
  have ea : acc.toList.toArray = acc := Array.toArray_toList
  have z := lay_tup (s := { s1 with heap := h', toks := tk }) (tk := tk) I2 (fun _ _ z => z) (Nat.le_refl _) (vals_rg hi) (by rw [rgV_length, sizeLine_eq]; omega)
  unfold tupO at z
  rw [ea] at z
  refine ⟨.ref h'.objs.size, _, z, rfl, ?_⟩
  have q' := q _ acc.toList (I2.hok.fresh (Nat.le_refl _))
  unfold tupO at q'
  rw [ea] at q'
  exact q'
theorem de_tupOf (ha : DE X e fa) (hg : Gl X "tuple") (hm : X.mg "tuple" = none) (na : starEach [e] X.env = (false, eval e X.env) :: starEach [] X.env := by rfl) : DE X (.Call (.Name "tuple" p) [e] [] pos) (fTupO fa) := by
  obtain ⟨ta, pa, qa⟩ := ha
  refine ⟨_, pe_tupOfF hg hm pa na, fun δ F own G H ρ γ σ d ρ' γ' Q R e k => ?_⟩
  obtain ⟨⟨x, ρ1, γ1⟩, e1, e⟩ := bind_some e
  cases x with
  | list xs =>
    cases e
    refine qa δ F own G H ρ γ σ _ _ _ _ R e1 fun v G1 H1 R1 s1 r1 => ?_
    obtain ⟨l, vs, rfl, hq, hs⟩ := r1.lst_inv
    refine Or.inl ⟨l, vs, rfl, R1.sub.seq hq, fun q us hq' => ?_⟩
    have st := Step.new R1.sub hq' (.frz (tupO us) (.tup vs))
    exact k _ _ _ (R1.step st) (s1.trans st.sg) (.tup (SqD.of upd_same rfl) (hs.mono st.sg))
  | tuple xs =>
    cases e
    refine qa δ F own G H ρ γ σ _ _ _ _ R e1 fun v G1 H1 R1 s1 r1 => ?_
    have r1' := r1
    obtain ⟨l, vs, rfl, hq, hs⟩ := r1.tup_inv
    exact Or.inr ⟨l, vs, rfl, sqt_same R1.sub hq, k _ _ _ R1 s1 r1'⟩
  | _ => cases e

def DRg (X : Cx) (e : Expr) (f : Fs) : Prop := ∃ t, PRg X e t ∧ ∀ (δ : List Addr) (F : Fm) (own : Nat → Addr) (G H : Hp) (ρ : Row) (γ : Bxs) (σ : L2.St) (ds : List D) (ρ' : Row) (γ' : Bxs) (Q : Int → Int → Hp → Prop),
  Rel X.K δ F own G H ρ γ σ → f ρ γ = some (ds, ρ', γ') → (∀ a b G' H', Rel X.K δ F own G' H' ρ' γ' σ → Same G G' → RgOk a b → ds = rgDs a b → Q a b H') → t σ H Q
theorem drg_1 (ha : DE X a fa) (hg : Gl X "range") (hm : X.mg "range" = none) (na : starEach [a] X.env = (false, eval a X.env) :: starEach [] X.env := by rfl) : DRg X (.Call (.Name "range" p) [a] [] pos) (fR1 fa) := by
  obtain ⟨ta, pa, qa⟩ := ha
  refine ⟨_, prg_1 hg hm pa na, fun δ F own G H ρ γ σ d ρ' γ' Q R e k => ?_⟩
  obtain ⟨⟨x, ρ1, γ1⟩, e1, e⟩ := bind_some e
  obtain ⟨n, e2, e⟩ := bind_some e
  split at e
  case isFalse => cases e
  rename_i hok
  cases e
  refine qa δ F own G H ρ γ σ _ _ _ _ R e1 fun v G1 H1 R1 s1 r1 => ?_
  have e2 : intOf x = some n := e2
  rw [intOf_some e2] at r1
  exact ⟨n, r1.int_inv, k 0 n G1 H1 R1 s1 (rgOk_ok hok) rfl⟩
theorem drg_2 (ha : DE X a fa) (hb : DE X b fb) (hg : Gl X "range") (hm : X.mg "range" = none) (na : starEach [a, b] X.env = (false, eval a X.env) :: starEach [b] X.env := by rfl)
    (nb : starEach [b] X.env = (false, eval b X.env) :: starEach [] X.env := by rfl) (hp : (backTo pos (starEach [b] X.env)).any (·.1) = false := by rfl) : DRg X (.Call (.Name "range" p) [a, b] [] pos) (fR2 fa fb) := by
  obtain ⟨ta, pa, qa⟩ := ha
  obtain ⟨tb, pb, qb⟩ := hb
  refine ⟨_, prg_2 hg hm pa pb na nb hp, fun δ F own G H ρ γ σ d ρ' γ' Q R e k => ?_⟩
  obtain ⟨⟨x, ρ1, γ1⟩, e1, e⟩ := bind_some e
  obtain ⟨⟨y, ρ2, γ2⟩, e3, e⟩ := bind_some e
  obtain ⟨m, e2, e⟩ := bind_some e
  obtain ⟨n, e4, e⟩ := bind_some e
  split at e
  case isFalse => cases e
  rename_i hok
  cases e
  refine qa δ F own G H ρ γ σ _ _ _ _ R e1 fun v G1 H1 R1 s1 r1 => qb δ F own G1 H1 _ _ σ _ _ _ _ R1 e3 fun w G2 H2 R2 s2 r2 => ?_
  have e2 : intOf x = some m := e2
  have e4 : intOf y = some n := e4
  rw [intOf_some e2] at r1
  rw [intOf_some e4] at r2
  exact ⟨m, n, r1.int_inv, r2.int_inv, k m n G2 H2 R2 (s1.trans s2) (rgOk_ok hok) rfl⟩
theorem reps_rg {K : Fg} {G : Hp} (a b : Int) : Reps K G (rgV a b) (rgDs a b) := by
  unfold rgV rgDs
  have h := Reps.ints (K := K) (G := G) ((List.range (b - a).toNat).map fun i => a + (i : Nat))
  rw [List.map_map, List.map_map] at h
  exact h
theorem de_tupRg (hr : DRg X e fr) (O : Okc X) (hg : Gl X "tuple") (hm : X.mg "tuple" = none) (na : starEach [e] X.env = (false, eval e X.env) :: starEach [] X.env := by rfl) : DE X (.Call (.Name "tuple" p) [e] [] pos) (fTupR fr) := by
  obtain ⟨ta, pa, qa⟩ := hr
  refine ⟨_, pe_tupRgF O.calm hg hm pa na, fun δ F own G H ρ γ σ d ρ' γ' Q R e k => ?_⟩
  obtain ⟨⟨x, ρ1, γ1⟩, e1, e⟩ := map_some e
  cases e
  refine qa δ F own G H ρ γ σ _ _ _ _ R e1 fun a b G1 H1 R1 s1 hok ed => ⟨hok, fun q us hq => ?_⟩
  have ed : x = rgDs a b := ed
  subst ed
  have st := Step.new R1.sub hq (.frz (tupO us) (.tup (rgV a b)))
  exact k _ _ _ (R1.step st) (s1.trans st.sg) (.tup (SqD.of upd_same rfl) (reps_rg a b))
theorem dq_listRg (hr : DRg X e fr) (O : Okc X) (hg : Gl X "list") (hm : X.mg "list" = none) (na : starEach [e] X.env = (false, eval e X.env) :: starEach [] X.env := by rfl) : DQ X (.Call (.Name "list" p) [e] [] pos) (qLR fr) := by
  obtain ⟨ta, pa, qa⟩ := hr
  refine ⟨_, pe_listRg O.calm hg hm pa na, fun δ F own G H ρ γ σ d ρ' γ' Q R e k => ?_⟩
  obtain ⟨⟨x, ρ1, γ1⟩, e1, e⟩ := map_some e
  cases e
  refine qa δ F own G H ρ γ σ _ _ _ _ R e1 fun a b G1 H1 R1 s1 hok ed => ⟨hok, fun q hq => ?_⟩
  have ed : x = rgDs a b := ed
  subst ed
  exact k _ _ _ (R1.step (Step.own R1.sub hq (.lst (rgV a b)))) s1 ⟨q, rfl, R1.live hq, _, upd_same, reps_rg a b⟩

theorem od_is : OpR X (compareOp .Is) (rD X.K isBD) := by
  intro pins s σ H x y v u Q I rx ry ⟨G, a, b, d, e, ra, rb, hd, h⟩
  cases a <;> cases b <;> simp only [isBD, reduceCtorEq, Option.some.injEq] at hd
  cases hd; cases ra.bl_inv; cases rb.bl_inv
  exact op_isBl pins s σ H _ _ v u Q I rx ry ⟨_, _, rfl, rfl, quiet_end e h (.bl _)⟩
theorem od_isNot : OpR X (compareOp .IsNot) (rD X.K isNBD) := by
  intro pins s σ H x y v u Q I rx ry ⟨G, a, b, d, e, ra, rb, hd, h⟩
  cases a <;> cases b <;> simp only [isNBD, reduceCtorEq, Option.some.injEq] at hd
  cases hd; cases ra.bl_inv; cases rb.bl_inv
  exact op_notBl pins s σ H _ _ v u Q I rx ry ⟨_, _, rfl, rfl, quiet_end e h (.bl _)⟩

def rRepO (K : Fg) : R2 := fun x y H Q => ∃ G xs k, Same G H ∧ Rep K G x (.list xs) ∧ y = .int k ∧ (inB 9223372036854775808 k = true ∧ xs.length * k.toNat ≤ sizeLine) ∧ ∀ p vs, H p = none → Reps K G vs (List.replicate k.toNat xs).flatten → Q (.ref p) (upd H p (.lst vs))
theorem od_repL : OpR X (binaryOp .Mult) (rRepO X.K) := by
  intro pins s σ H x y v u Q I rx ry ⟨G, xs, k, e, ra, hy, hc, h⟩
  subst hy
  obtain ⟨hB, hz⟩ := hc
  obtain ⟨h1, h2⟩ := inB63 hB
  obtain ⟨l, vs, rfl, hl, hvs⟩ := ra.lst_rd
  cases rx
  obtain ⟨t, rfl⟩ := ry
  obtain ⟨its, n, r, g, z⟩ := list_at I (sqx_same e hl)
  have hn : its.length = xs.length := by rw [← r.length, hvs.length]
  have hlen : its.toArray.size * k.toNat ≤ sizeLine := by rw [List.size_toArray, hn]; exact hz
  have hcap : ¬ its.toArray.size * k.toNat > (2 ^ 63 - 1) / 8 := by
    rw [sizeLine_eq] at hlen
    have : (16777216 : Nat) ≤ (2 ^ 63 - 1) / 8 := by decide
    omega
  have hfit : ¬ (!Builtin.List.listFitsIndex k) = true := by
    rw [fitsIndex_both h1 h2]; exact Bool.false_ne_true
  have hlong : ¬ Builtin.List.listTooLong (its.toArray.size * k.toNat) = true := by
    rw [notLongL hlen]; exact Bool.false_ne_true
  have hnew : List.foldl (fun x1 x2 => x1 ++ x2) #[] (List.replicate (if its.toArray.isEmpty = true then 0 else k.toNat) its.toArray) = (List.replicate k.toNat its).flatten.toArray := by
    have f0 : ∀ m : Nat, List.foldl (fun x1 x2 => x1 ++ x2) #[] (List.replicate m its.toArray) = (List.replicate m its).flatten.toArray := fun m => by
      have := foldl_rep its m []
      rw [List.nil_append] at this
      exact this
    rw [f0]
    cases its with
    | nil => simp
    | cons a r' => rw [if_neg (by simp)]
  have hzv : (List.replicate k.toNat vs).flatten.length ≤ sizeLine := by
    rw [PyProof.Rows.lm_len_rep_flat, hvs.length, Nat.mul_comm]; exact hz
  refine wpAny_binaryOp_repeat_ref (T := "list") (U := "int") (by decide) ⟨_, g, rfl⟩ (fun s' => typeIs_int s' k t) noFill_list_mul F.fills_int_mul F.slot_int_rmul repeat_list F.slot_int_index.lookup
    (call_meets F.slot_int_rmul (typeIs_int s k t) F.entry_int_rmul (F.args_int_rmul_2 _ _) (int___rmul___int_list k t l its.toArray n)
      ⟨g, rfl, ⟨_, g, rfl⟩, call_meets F.slot_list_mul ⟨_, g, rfl⟩ F.entry_list_mul (F.args_list_mul_2 _ _) (AutoListH.list___mul___list_int_3 l its.toArray n k t hfit hcap hlong) ⟨g, ?_⟩⟩)
  rw [hnew]
  exact ⟨.ref _, _, I.lnew (t' := s.toks) (r.rep k.toNat) hzv, rfl, h _ _ I.fresh (hvs.rep k.toNat)⟩
theorem dq_rep (ha : DE X a fa) (hb : DE X b fb) : DQ X (.BinOp a .Mult b pos) (qRep fa fb) := by
  obtain ⟨ta, pa, qa⟩ := ha
  obtain ⟨tb, pb, qb⟩ := hb
  refine ⟨_, pe_op od_repL pa pb, fun δ F own G H ρ γ σ d ρ' γ' Q R e k => ?_⟩
  obtain ⟨⟨x, ρ1, γ1⟩, e1, e⟩ := bind_some e
  obtain ⟨⟨y, ρ2, γ2⟩, e2, e⟩ := bind_some e
  cases x <;> cases y <;> simp only [reduceCtorEq] at e
  split at e
  case isFalse => cases e
  rename_i hz
  cases e
  refine qa δ F own G H ρ γ σ _ _ _ _ R e1 fun v G1 H1 R1 s1 r1 => qb δ F own G1 H1 _ _ σ _ _ _ _ R1 e2 fun u G2 H2 R2 s2 r2 => ?_
  refine ⟨G2, _, _, R2.sub, r1.mono s2, r2.int_inv, hz, fun p vs hp hs => ?_⟩
  exact k _ _ _ (R2.step (Step.own R2.sub hp (.lst vs))) (s1.trans s2) ⟨p, rfl, R2.live hp, vs, upd_same, hs⟩

theorem da_star (ha : DE X e fa) (hr : DA X es fs) (hs : starEach (.Starred e p :: es) X.env = (true, eval e X.env) :: starEach es X.env := by rfl) : DA X (.Starred e p :: es) (fStar fa fs) := by
  obtain ⟨ta, pa, qa⟩ := ha
  obtain ⟨tb, pb, qb⟩ := hr
  refine ⟨_, StX.pa_star pa pb hs, fun δ F own G H ρ γ σ d ρ' γ' Q R e k => ?_⟩
  obtain ⟨⟨x, ρ1, γ1⟩, e1, e⟩ := bind_some e
  obtain ⟨xs, e3, e⟩ := bind_some e
  obtain ⟨⟨y, ρ2, γ2⟩, e2, e⟩ := map_some e
  cases e
  refine qa δ F own G H ρ γ σ x _ _ _ R e1 fun v G1 H1 R1 s1 r1 => ?_
  cases x with
  | list zs =>
    cases e3
    obtain ⟨l, vs, rfl, hq, hsv⟩ := r1.lst_inv
    exact ⟨l, vs, rfl, Or.inr (R1.sub.seq hq), qb δ F own G1 H1 _ _ σ y _ _ _ R1 e2 fun u G2 H2 R2 s2 r2 => k _ G2 H2 R2 (s1.trans s2) ((hsv.mono s2).append r2)⟩
  | tuple zs =>
    cases e3
    obtain ⟨l, vs, rfl, hq, hsv⟩ := r1.tup_inv
    exact ⟨l, vs, rfl, Or.inl (sqt_same R1.sub hq), qb δ F own G1 H1 _ _ σ y _ _ _ R1 e2 fun u G2 H2 R2 s2 r2 => k _ G2 H2 R2 (s1.trans s2) ((hsv.mono s2).append r2)⟩
  | _ => cases e3
end
end DL

namespace DL
open PySem PySem.Spec PyProof.Rows L2
variable [WW]

section
variable {prog : Program} {w : World} {A : Around} {E : Value → Shared → Prop} {s : Shared}
/-- sorted of a tuple of ints -/
theorem sorted_tupI {l : Addr} {vs : List Value} {ns : List Int} {Q : Value → Shared → Prop} (hl : s.heap.IsTuple l vs.toArray) (hI : IntsAre vs ns) (hz : vs.length ≤ sizeLine)
    (h : ∀ (h1 h' : Heap) (out : List Value) (c : Nat), (∀ b o, s.heap.get? b = some o → h1.get? b = some o) → (∀ b o, h1.get? b = some o → h'.get? b = some o) → h'.get? h1.objs.size = some (seqObj "list" out.toArray c) →
      IntsAre out (out.map SrtO.iv) → (out.map SrtO.iv).Perm ns → (out.map SrtO.iv).Pairwise (· ≤ ·) → Q (.ref h1.objs.size) { s with heap := h' }) :
    wpAny (model prog w) A (call (.builtin "sorted") [.ref l]) Q E s := by
  obtain ⟨o, ho, hc, n, hd⟩ := hl
  refine Calls.call_function_entry PyProof.Rows.kind_sorted PyProof.Rows.plain_sorted entry_sorted (args_sorted1 _) ?_
  unfold Builtin.«sorted»
  refine wpAny_bind (m := checkCount "sorted" 1 1 _) (wpAny_pure ?_)
  refine wpAny_bind (wpAny_collect_seq l (.inr rfl) ho hc hd (fun h1 k1 => ?_) (by rw [List.size_toArray]; exact hz))
  have e0 : vs.toArray.toList = vs := by simp
  rw [e0]
  refine wpAny_bind (wpAny_newList ?_ hz)
  have hoL : (h1.push (seqObj "list" vs.toArray 0)).get? h1.objs.size = some (seqObj "list" vs.toArray 0) := Heap.get?_push_size _ rfl
  show wpAny _ _ _ _ _ { s with heap := h1.push (seqObj "list" vs.toArray 0) }
  refine wpAny_bind (wpAny_holding (wpAny_call_entry slot_list_sort ⟨_, hoL, rfl⟩ entry_list_sort (SrtO.list_sort_ord (s := { s with heap := h1.push (seqObj "list" vs.toArray 0) }) SrtO.swo_int hoL hz (fun h2 => SrtO.ints_sortable hI h2) fun out hs hb => ⟨_, rfl, ?_⟩) (args_list_sort _)))
  obtain ⟨k1', k2, k3⟩ := SrtO.ints_out hI hs hb
  obtain ⟨c, hc'⟩ := sortedHeap_at (vs := vs) (out := out.toArray) hoL
  refine wpAny_pure ⟨_, rfl, h h1 _ out c k1 (fun b o q => ?_) hc' k1' k2 k3⟩
  have lt1 : b < h1.objs.size := Heap.lt_size q
  rw [sortedHeap_old (Nat.ne_of_lt lt1) (by rw [size_push']; exact Nat.lt_succ_of_lt lt1)]
  exact Heap.get?_push_of_some _ q
end

section
variable {X : Cx} {a b c e tg : Expr} {es : List Expr} {fa fb fc : Fx} {fs fr : Fs} {pos p apos cpos : Pos}
def rSortIT (K : Fg) : List V → Hp → VK → Prop := fun vs H Q => ∃ (a : Addr) (ns : List Int), vs = [V.ref a] ∧ (SqL K H a (ns.map V.int) ∨ SqT K H a (ns.map V.int)) ∧ ∀ (p : Addr), H p = none → Q (.ref p) (upd H p (.lst ((srtI ns).map V.int)))
theorem cr_sortIT : CallR X (.builtin "sorted") (rSortIT X.K) := by
  intro pins s σ H vs us Q I r h
  obtain ⟨a, ns, rfl, hs | hs, q⟩ := h
  · exact cr_sortedI pins s σ H _ us Q I r ⟨a, ns, rfl, hs, fun ns' p hp hw hn => by rw [srt_uniq hp hw]; exact q p hn⟩
  · obtain ⟨its, rv, hl, hz⟩ := I.tuple hs
    rw [Vals.ref1 r]
    have hi := rv.ints
    refine sorted_tupI hl hi (by rw [← rv.length]; exact hz) fun h1 h' out c kp kp2 hg k1 k2 k3 => ?_
    have e := srt_uniq k2 k3
    have hlen : ((out.map SrtO.iv).map V.int).length ≤ sizeLine := by
      rw [List.length_map, k2.length_eq]
      rw [List.length_map] at hz
      exact hz
    have I1 : Inv X pins σ H { s with heap := h1 } := I.kept (t' := s.toks) kp
    refine ⟨.ref h1.objs.size, upd H h1.objs.size (.lst ((out.map SrtO.iv).map V.int)), I1.laid (t' := s.toks) kp2 (Nat.le_refl _) ⟨hlen, out, c, vals_of_ints k1, hg⟩, rfl, ?_⟩
    rw [e]
    exact q _ (I1.hok.fresh (Nat.le_refl _))
theorem Reps.int_vs {K : Fg} {G : Hp} {vs : List V} {ds : List D} {ns : List Int} (h : Reps K G vs ds) (e : intsOf ds = some ns) : vs = ns.map V.int := by
  rw [intsOf_some e] at h
  exact h.ints_inv
theorem dq_srt (ha : DE X e fa) (hg : Gl X "sorted") (hm : X.mg "sorted" = none) (he : starEach [e] X.env = (false, eval e X.env) :: starEach [] X.env := by rfl) (hpl : (backTo pos (starEach [] X.env)).any (·.1) = false := by rfl) :
    DQ X (.Call (.Name "sorted" p) [e] [] pos) (qSrt fa) := by
  obtain ⟨ta, pa, qa⟩ := ha
  refine ⟨_, pe_callB cr_sortIT hg hm (by decide +kernel) (pa_cons pa pa_nil he) (by decide) (by decide) he hpl, fun δ F own G H ρ γ σ d ρ' γ' Q R e k => ?_⟩
  obtain ⟨⟨x, ρ1, γ1⟩, e1, e⟩ := bind_some e
  obtain ⟨ns, e2, e⟩ := map_some e
  cases e
  refine qa δ F own G H ρ γ σ _ _ _ _ R e1 fun v G1 H1 R1 s1 r1 => ?_
  cases x with
  | list xs =>
    obtain ⟨l, vs, rfl, hq, hs⟩ := r1.lst_inv
    rw [hs.int_vs e2] at hq
    exact ⟨l, ns, rfl, Or.inl (R1.sub.seq hq), fun p hp => k _ _ _ (R1.step (Step.own R1.sub hp _)) s1 ⟨p, rfl, R1.live hp, _, upd_same, Reps.ints _⟩⟩
  | tuple xs =>
    obtain ⟨l, vs, rfl, hq, hs⟩ := r1.tup_inv
    rw [hs.int_vs e2] at hq
    exact ⟨l, ns, rfl, Or.inr (sqt_same R1.sub hq), fun p hp => k _ _ _ (R1.step (Step.own R1.sub hp _)) s1 ⟨p, rfl, R1.live hp, _, upd_same, Reps.ints _⟩⟩
  | _ => cases e2

theorem holdAll_ints {h : Heap} {its : List Value} {ns : List Int} (r : Vals (ns.map V.int) its) : PySem.W.HoldAll h its ns := by
  induction ns generalizing its with
  | nil => cases r; exact PySem.W.HoldAll.nil
  | cons n ns ih =>
    cases r with
    | cons a b =>
      obtain ⟨t, rfl⟩ := a
      exact PySem.W.HoldAll.cons ⟨_, .int n t⟩ (ih b)
theorem minOf_eq (n : Int) (l : List Int) : PySem.W.minOf n l = minI n l := by
  unfold PySem.W.minOf minI
  congr 1
  funext a y
  have : (PySem.W.DatumOrd.lt y a = true) = (y < a) := by
    show (decide (y < a) = true) = _
    simp
  simp only [this]
theorem cd_min1 (O : Okc X) : CallR X (.builtin "min") (rsD X.K min1D) := by
  intro pins s σ H xs us Q I r ⟨G, as, d, e, ra, hd, h⟩
  have hu := O.hr.units
  have fin : ∀ (n : Int) (r' : List Int) (v : Value) (h' : Heap) (tk : Nat), PySem.W.Holds h' v (PySem.W.minOf n r') → (∀ b o, s.heap.get? b = some o → h'.get? b = some o) → d = .int (minI n r') → EP X pins σ Q v { s with heap := h', toks := tk } := by
    intro n r' v h' tk hv hk hd
    obtain ⟨as, q⟩ := hv
    have q : Reads h' v (.int (PySem.W.minOf n r')) as := q
    cases q with
    | int _ t =>
      refine ⟨.int (PySem.W.minOf n r'), H, I.kept (t' := tk) hk, ⟨_, rfl⟩, ?_⟩
      rw [minOf_eq]
      subst hd
      exact quiet_end e h (.int _)
  match as, hd with
  | [.list ys], hd =>
    obtain ⟨w, rfl, r1⟩ := one_inv ra
    obtain ⟨a, vs, rfl, hq, hs⟩ := r1.lst_inv
    simp only [min1D] at hd
    obtain ⟨ns, e1, hd⟩ := bind_some hd
    cases ns with
    | nil => cases hd
    | cons n r' =>
      cases hd
      rw [hs.int_vs e1] at hq
      obtain ⟨its, rv, hl, hz⟩ := I.list (e.seq hq)
      rw [Vals.ref1 r]
      exact PySem.W.min_list_datum (I.ok.hd O.calm) hl.isList (by simpa using holdAll_ints rv) (by show X.A.units + 1 + 0 < cLine; omega) fun i v h' tk _ hv hk => fin n r' v h' tk hv hk rfl
  | [.tuple ys], hd =>
    obtain ⟨w, rfl, r1⟩ := one_inv ra
    obtain ⟨a, vs, rfl, hq, hs⟩ := r1.tup_inv
    simp only [min1D] at hd
    obtain ⟨ns, e1, hd⟩ := bind_some hd
    cases ns with
    | nil => cases hd
    | cons n r' =>
      cases hd
      rw [hs.int_vs e1] at hq
      obtain ⟨its, rv, hl, hz⟩ := I.tuple (sqt_same e hq)
      rw [Vals.ref1 r]
      exact PySem.W.min_tuple_datum (I.ok.hd O.calm) hl (by simpa using holdAll_ints rv) (by show X.A.units + 1 + 0 < cLine; omega) fun i v h' tk _ hv hk => fin n r' v h' tk hv hk rfl
theorem md_index (O : Okc X) : MtR X "tuple.index" (rmD X.K indexD) := by
  intro pins s σ H x xs v us Q I rx rxs ⟨G, a, as, d, e, ra, ras, hd, h⟩
  have hu := O.hr.units
  match a, as, hd with
  | .tuple ys, [.int i], hd =>
    obtain ⟨l, vs, rfl, hq, hs⟩ := ra.tup_inv
    obtain ⟨w, rfl, r1⟩ := one_inv ras
    cases r1.int_inv
    simp only [indexD] at hd
    obtain ⟨ns, e1, hd⟩ := bind_some hd
    split at hd
    case isFalse => cases hd
    rename_i hin
    cases hd
    rw [hs.int_vs e1] at hq
    obtain ⟨its, rv, hl, hz⟩ := I.tuple (sqt_same e hq)
    cases rx
    cases rxs with
    | cons ry rt =>
      cases rt
      obtain ⟨t, rfl⟩ := ry
      exact PySem.W.index_tuple_datum hl (holdAll_ints rv) ⟨_, .int i t⟩ (by show X.A.units + 1 + 0 < cLine; omega) hin ⟨.int _, H, I.tok _, ⟨_, rfl⟩, quiet_end e h (.int _)⟩
theorem indexD_tup (a : D) (as : List D) (d : D) (h : indexD a as = some d) : ∃ xs, a = .tuple xs := by
  cases a <;> simp [indexD] at h
  exact ⟨_, rfl⟩
def tBMt (K : Fg) (r : V → List V → Hp → VK → Prop) (to : TE) (t : TA) : TE := fun σ H Q => to σ H fun x H1 => (∃ a xs, x = .ref a ∧ SqD K H1 a xs) ∧ t σ H1 fun xs H2 => r x xs H2 Q
theorem Inv.tup_ty {pins : List (Addr × Obj)} {σ : L2.St} {H : Hp} {s : Shared} {a : Addr} {xs : List V} (I : Inv X pins σ H s) (h : SqD X.K H a xs) : s.TypeIs (.ref a) "tuple" ∧ ∀ b, Value.ref a = .ref b → ∃ ob, s.heap.get? b = some ob ∧ ob.dict = none := by
  rcases h with ⟨o, h, d⟩ | ⟨o, its, n, hk, hc, hd, _⟩
  · have q := I.hok a _ h
    obtain ⟨q1, _, its, _, o', ho', hc', _⟩ := q
    rw [q1] at ho'
    cases ho'
    exact ⟨⟨o, q1, hc'⟩, fun b e => by cases e; exact ⟨o, q1, d⟩⟩
  · have q := I.kIn a o hk
    exact ⟨⟨o, q, hc⟩, fun b e => by cases e; exact ⟨o, q, hd⟩⟩
theorem pe_bmT {id : String} {name : Str} {o : Expr} {r : V → List V → Hp → VK → Prop} {to : TE} {t : TA} (slot : Slot "tuple" name id) (hty : typeOf (.builtin id) = pure (.type "method_descriptor")) (hm : MtR X id r) (ho : PE X o to) (ha : PA X (e :: es) t)
    (hbase : attributeBase o name X.env (eval o X.env) = eval o X.env)
    (hfew : ((backTo cpos (starEach (e :: es) X.env)).all (fun x => !x.1) && (backToKw cpos (keywordEach [] X.env)).all (fun x => x.1.isSome)
      && decide ((e :: es).length + ([] : List Keyword).length + (if ([] : List Keyword).isEmpty then 0 else 1) < 30)) = true)
    (hline : (apos.endLine == cpos.line) = true) (hs : starEach (e :: es) X.env = (false, eval e X.env) :: starEach es X.env) (hplain : (backTo cpos (starEach es X.env)).any (·.1) = false) :
    PE X (.Call (.Attribute o name apos) (e :: es) [] cpos) (tBMt X.K r to t) := by
  refine ⟨fun pins s σ H Q I h => ?_⟩
  refine wpAny_Call_method_late hbase hfew hline rfl (thn (ho.run pins s σ H _ I h) fun v s1 ⟨x, H1, I1, r1, ⟨a, xs, ex, ty⟩, q1⟩ => ?_)
  subst ex
  obtain rfl : v = Value.ref a := r1
  obtain ⟨h1, h2⟩ := Inv.tup_ty I1 ty
  refine ⟨"tuple", id, PySem.F.plainAttrs_tuple, slot, hty, h1, h2, ?_⟩
  have hA := ha.run cpos pins s1 σ H1 _ I1 q1
  rw [hs] at hA ⊢
  refine Calls.callWith_builtin (by show (false || (backTo cpos (starEach es X.env)).any (·.1)) = false; rw [hplain] <;> rfl) (Calls.evalArgs_plain ?_)
  exact thn hA fun us s2 ⟨vs, H2, I2, r2, q2⟩ => hm pins s2 σ H2 (.ref a) vs (.ref a) us Q I2 rfl r2 q2
theorem de_bmT {id : String} {name : Str} {o : Expr} {g : D → List D → Option D} (slot : Slot "tuple" name id) (hty : typeOf (.builtin id) = pure (.type "method_descriptor")) (hm : MtR X id (rmD X.K g)) (hT : ∀ a as d, g a as = some d → ∃ x, a = .tuple x)
    (ho : DE X o fa) (ha : DA X (e :: es) fs)
    (hbase : attributeBase o name X.env (eval o X.env) = eval o X.env := by rfl)
    (hfew : ((backTo cpos (starEach (e :: es) X.env)).all (fun x => !x.1) && (backToKw cpos (keywordEach [] X.env)).all (fun x => x.1.isSome)
      && decide ((e :: es).length + ([] : List Keyword).length + (if ([] : List Keyword).isEmpty then 0 else 1) < 30)) = true := by rfl)
    (hline : (apos.endLine == cpos.line) = true := by rfl) (hs : starEach (e :: es) X.env = (false, eval e X.env) :: starEach es X.env := by rfl) (hplain : (backTo cpos (starEach es X.env)).any (·.1) = false := by rfl) :
    DE X (.Call (.Attribute o name apos) (e :: es) [] cpos) (fM g fa fs) := by
  obtain ⟨ta, pa, qa⟩ := ho
  obtain ⟨tb, pb, qb⟩ := ha
  refine ⟨_, pe_bmT slot hty hm pa pb hbase hfew hline hs hplain, fun δ F own G H ρ γ σ d ρ' γ' Q R e k => ?_⟩
  obtain ⟨⟨x, ρ1, γ1⟩, e1, e⟩ := bind_some e
  obtain ⟨⟨ys, ρ2, γ2⟩, e2, e⟩ := bind_some e
  obtain ⟨z, e3, e⟩ := map_some e
  cases e
  refine qa δ F own G H ρ γ σ x _ _ _ R e1 fun v G1 H1 R1 s1 r1 => ⟨?_, qb δ F own G1 H1 _ _ σ ys _ _ _ R1 e2 fun u G2 H2 R2 s2 r2 => ?_⟩
  · obtain ⟨y, hy⟩ := hT _ _ _ e3
    have hy : x = .tuple y := hy
    subst hy
    obtain ⟨l, vs, rfl, hq, _⟩ := r1.tup_d
    exact ⟨l, vs, rfl, sqd_same R1.sub hq⟩
  · exact ⟨G2, x, ys, d, R2.sub, r1.mono s2, r2, e3, fun w G' H' st r => k w G' H' (R2.step st) ((s1.trans s2).trans st.sg) r⟩
end
end DL

namespace DL
open PySem PySem.Spec PyProof.Rows L2
variable [WW]
/-- more turns than any while of ours takes -/
def BIG : Nat := 2 ^ 4096
def sW (c : Ft) (fb : Fst) : Fst := fun ρ γ => whL c fb BIG ρ γ
theorem ds_w {X : Cx} {c : Expr} {body : List Stmt} {ft : Ft} {fb : Fst} {pos : Pos} (O : Okc X) (hc : DT X c ft) (hb : DB X body fb) : DS X (.While c body [] pos) (sW ft fb) := ds_wh O (fun _ _ => BIG) hc hb
/-- a def stands as the text has it -/
structure DefOk (K : Fg) (mg : Str → Option Value) (x : Str) (st : Stmt) (ps : List Str) (f : Addr) (fd : FuncData) : Prop where
  fn : Fun K x x st f fd
  m : mg x = some (.ref f)
  b : Binds K fd ps []
theorem Okc.b1 {X : Cx} (O : Okc X) : Okc X := O
end DL

namespace DL
open PySem PySem.Spec PyProof.Rows L2
variable [WW]

def getK (kvs : List (D × D)) (k : D) : Option D := (kvs.find? fun p => decide (nk p.1 = nk k)).map (·.2)
def putD (kvs : List (D × D)) (k v : D) : List (D × D) :=
  if (kvs.any fun p => decide (nk p.1 = nk k)) = true then kvs.map (fun p => if nk p.1 = nk k then (p.1, v) else p) else kvs ++ [(k, v)]
/-- a key that fits in with the others -/
def okKey (kvs : List (D × D)) (k : D) : Bool := (leafK k && kvs.all fun p => leafK p.1) || (tupK k && kvs.all fun p => tupK p.1)

def toKey : D → Key
  | .int i => .inl i
  | .str x => .inr x
  | _ => .inl 0
theorem leaf_kD {d : D} (h : leafK d = true) : kD (toKey d) = d := by
  cases d <;> first | rfl | cases h
theorem leaf_nk {a b : D} (ha : leafK a = true) (hb : leafK b = true) : nk a = nk b ↔ toKey a = toKey b := by
  cases a <;> cases b <;> simp [leafK, nk, toKey] at ha hb ⊢
theorem leaf_hash {d : D} (h : leafK d = true) (w : World) : (nk d).hash w = keyH w (toKey d) := by
  cases d <;> first | rfl | cases h
theorem leaf_rep {K : Fg} {G : Hp} {v : V} {d : D} (h : leafK d = true) (r : Rep K G v d) : v = kV (toKey d) := by
  cases d with
  | int i => rw [r.int_inv]; rfl
  | str x => rw [r.str_inv]; rfl
  | _ => cases h
theorem leaf_of {K : Fg} {G : Hp} {d : D} (h : leafK d = true) : Rep K G (kV (toKey d)) d := by
  cases d with
  | int i => exact .int i
  | str x => exact .str x
  | _ => cases h
/-- the value beside a datum -/
def VD (K : Fg) (G : Hp) (u : Value) (d : D) : Prop := ∃ v, RelV v u ∧ Rep K G v d
theorem VD.mono {K : Fg} {G G' : Hp} {u : Value} {d : D} (e : Same G G') (h : VD K G u d) : VD K G' u d := by
  obtain ⟨v, r, q⟩ := h
  exact ⟨v, r, q.mono e⟩
abbrev LR (K : Fg) (G : Hp) : List (D × D) → List (Key × Value) → Prop := Paired fun p q => leafK p.1 = true ∧ q.1 = toKey p.1 ∧ VD K G q.2 p.2
theorem ents_leaf {K : Fg} {G : Hp} {P : Program} {w : World} (hw : WW.w = w) : ∀ {es : List DictEntry} {kvs : List (D × D)}, Ents K G es kvs → (∀ p ∈ kvs, leafK p.1 = true) →
    ∃ vs, Pairs (mixKind P w) es vs ∧ LR K G kvs vs ∧ ∀ e ∈ es, ∃ k, (mixKind P w).is k e.key = true ∧ e.hash = (mixKind P w).hash k
  | _, _, .nil, _ => ⟨[], .nil, .nil, fun e h => nomatch h⟩
  | e :: es, (k, d) :: kvs, .cons hh rx rk rv rd t, hl => by
    have hk := hl (k, d) List.mem_cons_self
    obtain ⟨vs, p, r, q⟩ := ents_leaf (P := P) hw t fun p hp => hl p (List.mem_cons_of_mem _ hp)
    have hk : leafK k = true := hk
    have ek := leaf_rep hk rk
    subst ek
    refine ⟨(toKey k, e.val) :: vs, .cons (kV_is rx) rfl p, .cons ⟨hk, rfl, _, rv, rd⟩ r, fun e' he => ?_⟩
    rcases List.mem_cons.mp he with rfl | he
    · exact ⟨toKey k, kV_is rx, by rw [hh, leaf_hash hk, hw]; rfl⟩
    · exact q e' he
theorem leaf_ents {K : Fg} {G : Hp} {P : Program} {w : World} (hw : WW.w = w) : ∀ {es : List DictEntry} {vs : List (Key × Value)} {kvs : List (D × D)}, Pairs (mixKind P w) es vs → LR K G kvs vs → (∀ e ∈ es, ∃ k, (mixKind P w).is k e.key = true ∧ e.hash = (mixKind P w).hash k) → Ents K G es kvs
  | _, _, _, .nil, .nil, _ => .nil
  | e :: es, (kb, ub) :: vs, (ka, da) :: kvs, .cons h1 h2 p, .cons h t, q => by
    obtain ⟨hk, eq, v, rv, rd⟩ := h
    have eq : kb = toKey ka := eq
    subst eq
    have h2 : e.val = ub := h2
    subst h2
    obtain ⟨k', i1, i2⟩ := q e List.mem_cons_self
    have ek := (mixKind P w).inj _ _ _ i1 h1
    have ek : k' = toKey ka := ek
    subst ek
    have rk : RelV (kV (toKey ka)) e.key := by
      rcases keyIs_shape (show keyIs (toKey ka) e.key = true from h1) with ⟨i, t, a1, a2⟩ | ⟨x, t, a1, a2⟩
      · rw [a1, a2]; exact ⟨t, rfl⟩
      · rw [a1, a2]; exact ⟨t, rfl⟩
    refine .cons ?_ rk (leaf_of hk) rv rd (leaf_ents hw p t fun e' he => q e' (List.mem_cons_of_mem _ he))
    rw [i2, leaf_hash hk, hw]; rfl
theorem lr_get {K : Fg} {G : Hp} {k : D} (hk : leafK k = true) : ∀ {kvs : List (D × D)} {vs : List (Key × Value)}, LR K G kvs vs → (getK kvs k = none ∧ valueAt vs (toKey k) = none) ∨ ∃ d u, getK kvs k = some d ∧ valueAt vs (toKey k) = some u ∧ VD K G u d
  | _, _, .nil => Or.inl ⟨rfl, rfl⟩
  | p :: kvs, q :: vs, .cons h t => by
    obtain ⟨h1, h2, h3⟩ := h
    by_cases e : nk p.1 = nk k
    · have e2 : q.1 = toKey k := by rw [h2]; exact (leaf_nk h1 hk).mp e
      exact Or.inr ⟨p.2, q.2, by simp [getK, List.find?_cons, e], by simp [valueAt, List.find?_cons, e2], h3⟩
    · have e2 : ¬ q.1 = toKey k := fun z => e ((leaf_nk h1 hk).mpr (by rw [← h2]; exact z))
      rcases lr_get hk t with ⟨a, b⟩ | ⟨d, u, a, b, c⟩
      · refine Or.inl ⟨?_, ?_⟩
        · simpa [getK, List.find?_cons, e] using a
        · simpa [valueAt, List.find?_cons, e2] using b
      · refine Or.inr ⟨d, u, ?_, ?_, c⟩
        · simpa [getK, List.find?_cons, e] using a
        · simpa [valueAt, List.find?_cons, e2] using b
theorem lr_any {K : Fg} {G : Hp} {k : D} (hk : leafK k = true) : ∀ {kvs : List (D × D)} {vs : List (Key × Value)}, LR K G kvs vs → (kvs.any fun p => decide (nk p.1 = nk k)) = vs.any fun q => decide (q.1 = toKey k)
  | _, _, .nil => rfl
  | p :: kvs, q :: vs, .cons h t => by
    obtain ⟨h1, h2, _⟩ := h
    rw [List.any_cons, List.any_cons, lr_any hk t]
    congr 1
    rw [h2]
    exact decide_eq_decide.mpr (leaf_nk h1 hk)
theorem lr_put {K : Fg} {G : Hp} {k d : D} {u : Value} (hk : leafK k = true) (hd : VD K G u d) {kvs : List (D × D)} {vs : List (Key × Value)} (r : LR K G kvs vs) : LR K G (putD kvs k d) (stored vs (toKey k) u) := by
  unfold putD stored
  rw [lr_any hk r]
  by_cases a : (vs.any fun q => decide (q.1 = toKey k)) = true
  · rw [if_pos a, if_pos a]
    clear a
    induction r with
    | nil => exact .nil
    | @cons p q ps qs h t ih =>
      obtain ⟨h1, h2, h3⟩ := h
      refine .cons ?_ ih
      by_cases e : nk p.1 = nk k
      · have e2 : q.1 = toKey k := by rw [h2]; exact (leaf_nk h1 hk).mp e
        dsimp only
        rw [if_pos e, if_pos e2]; exact ⟨h1, h2, hd⟩
      · have e2 : ¬ q.1 = toKey k := fun z => e ((leaf_nk h1 hk).mpr (by rw [← h2]; exact z))
        dsimp only
        rw [if_neg e, if_neg e2]; exact ⟨h1, h2, h3⟩
  · rw [if_neg a, if_neg a]
    exact Paired.snoc r ⟨hk, rfl, hd⟩
theorem lr_keys {K : Fg} {G : Hp} : ∀ {kvs : List (D × D)} {vs : List (Key × Value)}, LR K G kvs vs → vs.map (·.1) = kvs.map fun p => toKey p.1
  | _, _, .nil => rfl
  | p :: kvs, q :: vs, .cons h t => by rw [List.map_cons, List.map_cons, lr_keys t, h.2.1]
theorem leaf_nodup {kvs : List (D × D)} (hl : ∀ p ∈ kvs, leafK p.1 = true) (hn : (kvs.map fun p => nk p.1).Nodup) : (kvs.map fun p => toKey p.1).Nodup := by
  induction kvs with
  | nil => exact List.nodup_nil
  | cons p kvs ih =>
    rw [List.map_cons, List.nodup_cons] at hn ⊢
    refine ⟨fun hm => hn.1 ?_, ih (fun q hq => hl q (List.mem_cons_of_mem _ hq)) hn.2⟩
    obtain ⟨q, hq, e⟩ := List.mem_map.mp hm
    exact List.mem_map.mpr ⟨q, hq, (leaf_nk (hl q (List.mem_cons_of_mem _ hq)) (hl p List.mem_cons_self)).mpr e⟩

abbrev TRl (K : Fg) (G : Hp) : List (D × D) → List (NestedKey × Addr × Value) → Prop := Paired fun p q => tupK p.1 = true ∧ q.1 = nk p.1 ∧ Rep K G (.ref q.2.1) p.1 ∧ VD K G q.2.2 p.2
theorem ents_tup {K : Fg} {G : Hp} {P : Program} {w : World} (hw : WW.w = w) : ∀ {es : List DictEntry} {kvs : List (D × D)}, Ents K G es kvs → (∀ p ∈ kvs, tupK p.1 = true) →
    ∃ xs, es = xs.map (entryOfKey (nestedKind P w)) ∧ TRl K G kvs xs
  | _, _, .nil, _ => ⟨[], rfl, .nil⟩
  | e :: es, (k, d) :: kvs, .cons hh rx rk rv rd t, hl => by
    have hk : tupK k = true := hl (k, d) List.mem_cons_self
    obtain ⟨xs, p, r⟩ := ents_tup (P := P) hw t fun p hp => hl p (List.mem_cons_of_mem _ hp)
    cases k with
    | tuple ks =>
      obtain ⟨b, zs, rfl, _, _⟩ := rk.tup_inv
      have ek : e.key = Value.ref b := rx
      obtain ⟨eh, ekey, ev⟩ := e
      subst ek
      refine ⟨(nk (.tuple ks), b, ev) :: xs, ?_, .cons ⟨hk, rfl, rk, _, rv, rd⟩ r⟩
      rw [List.map_cons, p]
      congr 1
      show DictEntry.mk eh _ _ = DictEntry.mk _ _ _
      congr 1
      rw [← hw]; exact hh
    | _ => cases hk
theorem tup_ents {K : Fg} {G : Hp} {P : Program} {w : World} (hw : WW.w = w) : ∀ {xs : List (NestedKey × Addr × Value)} {kvs : List (D × D)}, TRl K G kvs xs → Ents K G (xs.map (entryOfKey (nestedKind P w))) kvs
  | _, _, .nil => .nil
  | q :: xs, p :: kvs, .cons h t => by
    obtain ⟨h1, h2, h3, v, h4, h5⟩ := h
    refine .cons (x := .ref q.2.1) ?_ rfl h3 h4 h5 (tup_ents hw t)
    rw [← h2, hw]; rfl
theorem tr_get {K : Fg} {G : Hp} (k : D) : ∀ {kvs : List (D × D)} {xs : List (NestedKey × Addr × Value)}, TRl K G kvs xs → (getK kvs k = none ∧ atKey xs (nk k) = none) ∨ ∃ d p, getK kvs k = some d ∧ atKey xs (nk k) = some p ∧ VD K G p.2 d
  | _, _, .nil => Or.inl ⟨rfl, rfl⟩
  | p :: kvs, q :: xs, .cons h t => by
    obtain ⟨h1, h2, _, h3⟩ := h
    by_cases e : nk p.1 = nk k
    · exact Or.inr ⟨p.2, q.2, by simp [getK, List.find?_cons, e], by simp [atKey, List.find?_cons, h2, e], h3⟩
    · rcases tr_get k t with ⟨a, b⟩ | ⟨d, u, a, b, c⟩
      · refine Or.inl ⟨?_, ?_⟩
        · simpa [getK, List.find?_cons, e] using a
        · simpa [atKey, List.find?_cons, h2, e] using b
      · refine Or.inr ⟨d, u, ?_, ?_, c⟩
        · simpa [getK, List.find?_cons, e] using a
        · simpa [atKey, List.find?_cons, h2, e] using b
theorem tr_any {K : Fg} {G : Hp} (k : D) : ∀ {kvs : List (D × D)} {xs : List (NestedKey × Addr × Value)}, TRl K G kvs xs → (kvs.any fun p => decide (nk p.1 = nk k)) = (atKey xs (nk k)).isSome
  | _, _, .nil => rfl
  | p :: kvs, q :: xs, .cons h t => by
    obtain ⟨_, h2, _⟩ := h
    rw [List.any_cons, tr_any k t]
    by_cases e : nk p.1 = nk k
    · simp [atKey, List.find?_cons, h2, e]
    · simp [atKey, List.find?_cons, h2, e]
theorem tr_put {K : Fg} {G : Hp} {k d : D} {b : Addr} {u : Value} (hk : tupK k = true) (rk : Rep K G (.ref b) k) (hd : VD K G u d) {kvs : List (D × D)} {xs : List (NestedKey × Addr × Value)} (r : TRl K G kvs xs) : TRl K G (putD kvs k d) (storedH xs (nk k) b u) := by
  unfold putD storedH
  rw [tr_any k r]
  by_cases a : (atKey xs (nk k)).isSome = true
  · rw [if_pos a, if_pos a]
    clear a
    induction r with
    | nil => exact .nil
    | @cons p q ps qs h t ih =>
      obtain ⟨h1, h2, h3, h4⟩ := h
      refine .cons ?_ ih
      unfold putAt
      by_cases e : nk p.1 = nk k
      · dsimp only
        rw [if_pos e, if_pos (by rw [h2]; exact e)]; exact ⟨h1, h2, h3, hd⟩
      · dsimp only
        rw [if_neg e, if_neg (by rw [h2]; exact e)]; exact ⟨h1, h2, h3, h4⟩
  · rw [if_neg a, if_neg a]
    exact Paired.snoc r ⟨hk, rfl, rk, hd⟩
theorem tr_keys {K : Fg} {G : Hp} : ∀ {kvs : List (D × D)} {xs : List (NestedKey × Addr × Value)}, TRl K G kvs xs → xs.map (·.1) = kvs.map fun p => nk p.1
  | _, _, .nil => rfl
  | p :: kvs, q :: vs, .cons h t => by rw [List.map_cons, List.map_cons, tr_keys t, h.2.1]

theorem putD_keys (kvs : List (D × D)) (k d : D) : (putD kvs k d).map (fun p => nk p.1) = if (kvs.any fun p => decide (nk p.1 = nk k)) = true then kvs.map (fun p => nk p.1) else kvs.map (fun p => nk p.1) ++ [nk k] := by
  unfold putD
  split
  · rw [List.map_map]
    apply List.map_congr_left
    intro p _
    show nk (if nk p.1 = nk k then (p.1, d) else p).1 = nk p.1
    split <;> rfl
  · rw [List.map_append]; rfl
theorem putD_all {q : D → Bool} {kvs : List (D × D)} {k d : D} (h : ∀ p ∈ kvs, q p.1 = true) (hk : q k = true) : ∀ p ∈ putD kvs k d, q p.1 = true := by
  unfold putD
  split
  · intro p hp
    obtain ⟨r, hr, e⟩ := List.mem_map.mp hp
    split at e
    · rw [← e]; exact h r hr
    · rw [← e]; exact h r hr
  · intro p hp
    rcases List.mem_append.mp hp with hp | hp
    · exact h p hp
    · rw [List.mem_singleton.mp hp]; exact hk
theorem putD_len (kvs : List (D × D)) (k d : D) : (putD kvs k d).length ≤ kvs.length + 1 := by
  unfold putD
  split
  · rw [List.length_map]; omega
  · rw [List.length_append, List.length_singleton]; omega
theorem KeysOk.put {kvs : List (D × D)} {k : D} (o : KeysOk kvs) (hk : okKey kvs k = true) (hz : kvs.length < sizeLine) (d : D) : KeysOk (putD kvs k d) := by
  refine ⟨by have := putD_len kvs k d; omega, ?_, ?_⟩
  · rw [putD_keys]
    split
    · exact o.nd
    · rename_i h
      refine List.nodup_append.mpr ⟨o.nd, by simp, fun a ha b hb e => ?_⟩
      have hb : b = nk k := by simpa using hb
      subst hb
      subst e
      obtain ⟨p, hp, e⟩ := List.mem_map.mp ha
      exact h (List.any_eq_true.mpr ⟨p, hp, by simpa using e⟩)
  · unfold okKey at hk
    rw [Bool.or_eq_true, Bool.and_eq_true, Bool.and_eq_true, List.all_eq_true, List.all_eq_true] at hk
    rcases hk with ⟨h1, h2⟩ | ⟨h1, h2⟩
    · exact Or.inl (putD_all h2 h1)
    · exact Or.inr (putD_all h2 h1)
theorem okKey_leaf {kvs : List (D × D)} {k : D} (h : okKey kvs k = true) (hk : leafK k = true) : ∀ p ∈ kvs, leafK p.1 = true := by
  unfold okKey at h
  rw [Bool.or_eq_true, Bool.and_eq_true, Bool.and_eq_true, List.all_eq_true, List.all_eq_true] at h
  rcases h with ⟨_, h⟩ | ⟨h, _⟩
  · exact h
  · cases k <;> first | exact absurd h Bool.false_ne_true | exact absurd hk Bool.false_ne_true
theorem okKey_tup {kvs : List (D × D)} {k : D} (h : okKey kvs k = true) (hk : leafK k = false) : tupK k = true ∧ ∀ p ∈ kvs, tupK p.1 = true := by
  unfold okKey at h
  rw [Bool.or_eq_true, Bool.and_eq_true, Bool.and_eq_true, List.all_eq_true, List.all_eq_true] at h
  rcases h with ⟨h, _⟩ | ⟨h, h2⟩
  · rw [h] at hk; cases hk
  · exact ⟨h, h2⟩

section
variable {X : Cx} {pins : List (Addr × Obj)} {σ : L2.St} {H G : Hp} {s : Shared}
mutual
theorem rep_nested (I : Inv X pins σ H s) (e : Same G H) : ∀ (d : D) (v : V) (u : Value), keyD d = true → Rep X.K G v d → RelV v u → NestedIs s.heap (nk d) u
  | .none, v, u, _, h, r => by
    rw [h.non_inv] at r
    cases r
    exact .none
  | .bool b, v, u, _, h, r => by
    rw [h.bl_inv] at r
    cases r
    exact .bool rfl
  | .int i, v, u, _, h, r => by
    rw [h.int_inv] at r
    obtain ⟨t, rfl⟩ := r
    exact .int i t
  | .str x, v, u, _, h, r => by
    rw [h.str_inv] at r
    obtain ⟨t, rfl⟩ := r
    exact .text x t
  | .tuple ds, v, u, p, h, r => by
    obtain ⟨a, xs, rfl, hq, hs⟩ := h.tup_inv
    cases r
    obtain ⟨its, rv, pl, _⟩ := I.tuple (sqt_same e hq)
    obtain ⟨o, h1, h2, n, h4⟩ := pl
    have q := reps_nested I e ds xs its (by simpa only [keyD] using p) hs rv
    exact .tup h1 h2 h4 (by simpa using q)
  | .list _, _, _, p, _, _ => by simp [keyD] at p
  | .dict _, _, _, p, _, _ => by simp [keyD] at p
theorem reps_nested (I : Inv X pins σ H s) (e : Same G H) : ∀ (ds : List D) (vs : List V) (us : List Value), keyDs ds = true → Reps X.K G vs ds → Vals vs us → NestedAll s.heap (nks ds) us
  | [], vs, us, _, h, r => by
    cases h
    cases r
    exact .nil
  | d :: ds, vs, us, p, h, r => by
    cases h with
    | cons ha hb =>
      cases r with
      | cons ra rb =>
        simp only [keyDs, Bool.and_eq_true] at p
        exact .cons (rep_nested I e d _ _ p.1 ha ra) (reps_nested I e ds _ _ p.2 hb rb)
end
theorem rep_key (I : Inv X pins σ H s) (e : Same G H) {d : D} {b : Addr} (hk : tupK d = true) (r : Rep X.K G (.ref b) d) : (nestedKind X.prog X.w).is s.heap (nk d) b := by
  cases d with
  | tuple ds =>
    simp only [tupK, Bool.and_eq_true, decide_eq_true_eq] at hk
    exact ⟨rep_nested I e _ _ _ (by simpa only [keyD] using hk.1) r rfl, hk.2⟩
  | _ => cases hk

theorem dict_at (I : Inv X pins σ H s) {a : Addr} {kvs : List (D × D)} (dd : OwnOk X.K G H a (.m kvs)) : ∃ o es ep, H a = some (xO a o) ∧ s.heap.get? a = some o ∧ o.ExactDict ∧ o.data = .dict es ep ∧ (a == sysModules) = false ∧ KeysOk kvs ∧ Ents X.K G es.toList kvs := by
  obtain ⟨o, es, ep, h, c, d, m, k, r⟩ := dd
  exact ⟨o, es, ep, h, (I.hok a _ h).1, c, d, m, k, r⟩
theorem dict_leaf (I : Inv X pins σ H s) (hw : WW.w = X.w) {a : Addr} {kvs : List (D × D)} (dd : OwnOk X.K G H a (.m kvs)) (hl : ∀ p ∈ kvs, leafK p.1 = true) : ∃ vs, s.heap.DictOf (mixKind X.prog X.w) a vs ∧ LR X.K G kvs vs ∧ (a == sysModules) = false ∧ vs.length ≤ sizeLine := by
  obtain ⟨o, es, ep, _, h, c, d, m, k, r⟩ := dict_at I dd
  obtain ⟨vs, p, l, q⟩ := ents_leaf (P := X.prog) hw r hl
  refine ⟨vs, ⟨o, es, ep, h, c, d, fun e he => q e (by simpa using he), p, ?_⟩, l, m, ?_⟩
  · rw [lr_keys l]; exact leaf_nodup hl k.nd
  · rw [← Paired.length l]; exact k.z
theorem dict_tup (I : Inv X pins σ H s) (e : Same G H) (hw : WW.w = X.w) {a : Addr} {kvs : List (D × D)} (dd : OwnOk X.K G H a (.m kvs)) (hl : ∀ p ∈ kvs, tupK p.1 = true) : ∃ xs, s.heap.DictOfH (nestedKind X.prog X.w) a xs ∧ TRl X.K G kvs xs ∧ (a == sysModules) = false ∧ xs.length ≤ sizeLine := by
  obtain ⟨o, es, ep, _, h, c, d, m, k, r⟩ := dict_at I dd
  obtain ⟨xs, p, l⟩ := ents_tup (P := X.prog) hw r hl
  refine ⟨xs, ⟨o, es, ep, h, c, d, p, ?_, ?_⟩, l, m, ?_⟩
  · have : ∀ {ks : List (D × D)} {ys : List (NestedKey × Addr × Value)}, TRl X.K G ks ys → ∀ x ∈ ys, (nestedKind X.prog X.w).is s.heap x.1 x.2.1 := by
      intro ks ys q
      induction q with
      | nil => intro x hx; exact nomatch hx
      | @cons p q ps qs hq t ih =>
        intro x hx
        rcases List.mem_cons.mp hx with rfl | hx
        · obtain ⟨h1, h2, h3, _⟩ := hq
          rw [h2]; exact rep_key I e h1 h3
        · exact ih x hx
    exact this l
  · rw [tr_keys l]; exact k.nd
  · rw [← Paired.length l]; exact k.z
theorem dict_ty (I : Inv X pins σ H s) {a : Addr} {kvs : List (D × D)} (dd : OwnOk X.K G H a (.m kvs)) : s.TypeIs (.ref a) "dict" ∧ (∀ b, Value.ref a = .ref b → ∃ ob, s.heap.get? b = some ob ∧ ob.dict = none) ∧ (a == sysModules) = false := by
  obtain ⟨o, es, ep, _, h, c, d, m, _, _⟩ := dict_at I dd
  exact ⟨⟨o, h, c.1⟩, fun b e => by cases e; exact ⟨o, h, c.2.1⟩, m⟩
/-- behind a store -/
theorem dict_put (I : Inv X pins σ H s) (e : Same G H) {a : Addr} {kvs kvs' : List (D × D)} {h' : Heap} {t' : Nat} {o' : Obj} {es' : Array DictEntry} {ep' : Nat} (dd : OwnOk X.K G H a (.m kvs)) (hs : Heap.SameBut a s.heap h') (ho : h'.get? a = some o') (c : o'.ExactDict) (d : o'.data = .dict es' ep')
    (ga : G a = none) (k : KeysOk kvs') (r : Ents X.K G es'.toList kvs') : Inv X pins σ (upd H a (xO a o')) { s with heap := h', toks := t' } ∧ OwnOk X.K G (upd H a (xO a o')) a (.m kvs') := by
  obtain ⟨o, es, ep, h1, h, _, _, m, _, _⟩ := dict_at I dd
  refine ⟨I.write (x := a) (e := a) (by rw [h1]; exact True.intro) (.inl rfl) (fun b q hb z => (hs.2 b hb).trans z) ⟨_, ho⟩ ⟨ho, ⟨_, ho⟩, fun h1 h2 z k => k _ z⟩, o', es', ep', upd_same, c, d, m, k, r⟩
end
end DL

namespace DL
open PySem PySem.Spec PyProof.Rows L2
variable [WW]

section
variable {X : Cx} {pins : List (Addr × Obj)} {σ : L2.St} {H G : Hp} {s : Shared} {A : Around} {E : Value → Shared → Prop} {a : Addr} {kvs : List (D × D)} {y : V} {u : Value} {k d : D}
theorem tup_ref {K : Fg} (hk : tupK k = true) (r : Rep K G y k) (ry : RelV y u) : ∃ b, y = .ref b ∧ u = .ref b := by
  cases k with
  | tuple ks =>
    obtain ⟨b, zs, rfl, _, _⟩ := r.tup_inv
    exact ⟨b, rfl, ry⟩
  | _ => cases hk
theorem roomN (hu : A.units + 20 < cLine) : (nestedKind X.prog X.w).room A.in1 := by
  show A.units + 1 + 8 < cLine
  omega
theorem run_dget {Q : Value → Shared → Prop} (hu : A.units + 20 < cLine) (hw : WW.w = X.w) (I : Inv X pins σ H s) (e : Same G H) (dd : OwnOk X.K G H a (.m kvs)) (rk : Rep X.K G y k) (ry : RelV y u) (ok : okKey kvs k = true) (hd : getK kvs k = some d)
    (h : ∀ v w' s', Inv X pins σ H s' → Rep X.K G v d → RelV v w' → Q w' s') : wpAny (model X.prog X.w) A (getItem (.ref a) u) Q E s := by
  cases hk : leafK k with
  | true =>
    obtain ⟨vs, dv, l, m, z⟩ := dict_leaf I hw dd (okKey_leaf ok hk)
    rcases lr_get hk l with ⟨z1, _⟩ | ⟨d', w', z1, z2, v, rv, rd⟩
    · rw [hd] at z1; cases z1
    · rw [hd] at z1
      cases z1
      have ey := leaf_rep hk rk
      subst ey
      exact wpAny_getItem_of (kV_is ry) dv.mapOf z2 (h v w' _ (I.tok _) rd rv)
  | false =>
    obtain ⟨ht, hl⟩ := okKey_tup ok hk
    obtain ⟨xs, dv, l, m, z⟩ := dict_tup I e hw dd hl
    obtain ⟨b, rfl, rfl⟩ := tup_ref ht rk ry
    rcases tr_get k l with ⟨z1, _⟩ | ⟨d', p, z1, z2, v, rv, rd⟩
    · rw [hd] at z1; cases z1
    · rw [hd] at z1
      cases z1
      exact wpAny_getItem_heap (roomN hu) (rep_key I e ht rk) dv z2 (h v p.2 _ (I.tok _) rd rv)
theorem run_din {Q : Value → Shared → Prop} (hu : A.units + 20 < cLine) (hw : WW.w = X.w) (I : Inv X pins σ H s) (e : Same G H) (dd : OwnOk X.K G H a (.m kvs)) (rk : Rep X.K G y k) (ry : RelV y u) (ok : okKey kvs k = true)
    (h : ∀ s', Inv X pins σ H s' → Q (.bool (getK kvs k).isSome) s') : wpAny (model X.prog X.w) A (compareOp .In u (.ref a)) Q E s := by
  cases hk : leafK k with
  | true =>
    obtain ⟨vs, dv, l, m, z⟩ := dict_leaf I hw dd (okKey_leaf ok hk)
    have ey := leaf_rep hk rk
    subst ey
    refine wpAny_in_of (kV_is ry) m dv.mapOf ?_
    rcases lr_get hk l with ⟨z1, z2⟩ | ⟨d', w', z1, z2, _⟩
    · rw [z2]; rw [z1] at h; exact h _ (I.tok _)
    · rw [z2]; rw [z1] at h; exact h _ (I.tok _)
  | false =>
    obtain ⟨ht, hl⟩ := okKey_tup ok hk
    obtain ⟨xs, dv, l, m, z⟩ := dict_tup I e hw dd hl
    obtain ⟨b, rfl, rfl⟩ := tup_ref ht rk ry
    refine wpAny_in_heap (roomN hu) (rep_key I e ht rk) m dv ?_
    rcases tr_get k l with ⟨z1, z2⟩ | ⟨d', w', z1, z2, _⟩
    · rw [z2]; rw [z1] at h; exact h _ (I.tok _)
    · rw [z2]; rw [z1] at h; exact h _ (I.tok _)
theorem run_dnin {Q : Value → Shared → Prop} (hu : A.units + 20 < cLine) (hw : WW.w = X.w) (I : Inv X pins σ H s) (e : Same G H) (dd : OwnOk X.K G H a (.m kvs)) (rk : Rep X.K G y k) (ry : RelV y u) (ok : okKey kvs k = true)
    (h : ∀ s', Inv X pins σ H s' → Q (.bool (!(getK kvs k).isSome)) s') : wpAny (model X.prog X.w) A (compareOp .NotIn u (.ref a)) Q E s := by
  cases hk : leafK k with
  | true =>
    obtain ⟨vs, dv, l, m, z⟩ := dict_leaf I hw dd (okKey_leaf ok hk)
    have ey := leaf_rep hk rk
    subst ey
    refine wpAny_notIn_of (kV_is ry) m dv.mapOf ?_
    rcases lr_get hk l with ⟨z1, z2⟩ | ⟨d', w', z1, z2, _⟩
    · rw [z2]; rw [z1] at h; exact h _ (I.tok _)
    · rw [z2]; rw [z1] at h; exact h _ (I.tok _)
  | false =>
    obtain ⟨ht, hl⟩ := okKey_tup ok hk
    obtain ⟨xs, dv, l, m, z⟩ := dict_tup I e hw dd hl
    obtain ⟨b, rfl, rfl⟩ := tup_ref ht rk ry
    refine wpAny_notIn_heap (roomN hu) (rep_key I e ht rk) m dv ?_
    rcases tr_get k l with ⟨z1, z2⟩ | ⟨d', w', z1, z2, _⟩
    · rw [z2]; rw [z1] at h; exact h _ (I.tok _)
    · rw [z2]; rw [z1] at h; exact h _ (I.tok _)
/-- d.get(k, x) -/
theorem run_dgetD {Q : Value → Shared → Prop} {vr : V} {r : Value} {dr : D} (hu : A.units + 20 < cLine) (hw : WW.w = X.w) (I : Inv X pins σ H s) (e : Same G H) (dd : OwnOk X.K G H a (.m kvs)) (rk : Rep X.K G y k) (ry : RelV y u) (rr : Rep X.K G vr dr) (rvr : RelV vr r) (ok : okKey kvs k = true)
    (h : ∀ v w' s', Inv X pins σ H s' → Rep X.K G v ((getK kvs k).getD dr) → RelV v w' → Q w' s') : wpAny (model X.prog X.w) A (call (.builtin "dict.get") [.ref a, u, r]) Q E s := by
  cases hk : leafK k with
  | true =>
    obtain ⟨vs, dv, l, m, z⟩ := dict_leaf I hw dd (okKey_leaf ok hk)
    have ey := leaf_rep hk rk
    subst ey
    refine call_meetsIn PySem.F.slot_dict_get dv.typeIs PySem.F.entry_dict_get (PySem.F.args_dict_get_3 _ _ _) (meets_dict_get_default (mixKind X.prog X.w) a (kV_is ry) m r) ⟨_, dv.mapOf, ?_⟩
    rcases lr_get hk l with ⟨z1, z2⟩ | ⟨d', w', z1, z2, v, rv, rd⟩
    · rw [z2]; rw [z1] at h; exact h _ _ _ (I.tok _) rr rvr
    · rw [z2]; rw [z1] at h; exact h _ _ _ (I.tok _) rd rv
  | false =>
    obtain ⟨ht, hl⟩ := okKey_tup ok hk
    obtain ⟨xs, dv, l, m, z⟩ := dict_tup I e hw dd hl
    obtain ⟨b, rfl, rfl⟩ := tup_ref ht rk ry
    refine call_meetsIn PySem.F.slot_dict_get dv.typeIs PySem.F.entry_dict_get (PySem.F.args_dict_get_3 _ _ _) (meetsH_dict_get_default (nestedKind X.prog X.w) a b m r) ⟨roomN hu, nk k, xs, rep_key I e ht rk, dv, ?_⟩
    rcases tr_get k l with ⟨z1, z2⟩ | ⟨d', p, z1, z2, v, rv, rd⟩
    · rw [z2]; rw [z1] at h; exact h _ _ _ (I.tok _) rr rvr
    · rw [z2]; rw [z1] at h; exact h _ _ _ (I.tok _) rd rv
/-- d.get(k) -/
theorem run_dgetN {Q : Value → Shared → Prop} (hu : A.units + 20 < cLine) (hw : WW.w = X.w) (I : Inv X pins σ H s) (e : Same G H) (dd : OwnOk X.K G H a (.m kvs)) (rk : Rep X.K G y k) (ry : RelV y u) (ok : okKey kvs k = true)
    (h : ∀ v w' s', Inv X pins σ H s' → Rep X.K G v ((getK kvs k).getD .none) → RelV v w' → Q w' s') : wpAny (model X.prog X.w) A (call (.builtin "dict.get") [.ref a, u]) Q E s := by
  cases hk : leafK k with
  | true =>
    obtain ⟨vs, dv, l, m, z⟩ := dict_leaf I hw dd (okKey_leaf ok hk)
    have ey := leaf_rep hk rk
    subst ey
    refine call_meetsIn PySem.F.slot_dict_get dv.typeIs PySem.F.entry_dict_get (PySem.F.args_dict_get_2 _ _) (meets_dict_get (mixKind X.prog X.w) a (kV_is ry) m) ⟨_, dv.mapOf, ?_⟩
    rcases lr_get hk l with ⟨z1, z2⟩ | ⟨d', w', z1, z2, v, rv, rd⟩
    · rw [z2]; rw [z1] at h; exact h .non _ _ (I.tok _) .non rfl
    · rw [z2]; rw [z1] at h; exact h _ _ _ (I.tok _) rd rv
  | false =>
    obtain ⟨ht, hl⟩ := okKey_tup ok hk
    obtain ⟨xs, dv, l, m, z⟩ := dict_tup I e hw dd hl
    obtain ⟨b, rfl, rfl⟩ := tup_ref ht rk ry
    refine call_meetsIn PySem.F.slot_dict_get dv.typeIs PySem.F.entry_dict_get (PySem.F.args_dict_get_2 _ _) (meetsH_dict_get (nestedKind X.prog X.w) a b m) ⟨roomN hu, nk k, xs, rep_key I e ht rk, dv, ?_⟩
    rcases tr_get k l with ⟨z1, z2⟩ | ⟨d', p, z1, z2, v, rv, rd⟩
    · rw [z2]; rw [z1] at h; exact h .non _ _ (I.tok _) .non rfl
    · rw [z2]; rw [z1] at h; exact h _ _ _ (I.tok _) rd rv
/-- d[k] = v -/
theorem run_dset {Q : Unit → Shared → Prop} {x : V} {r : Value} (hu : A.units + 20 < cLine) (hw : WW.w = X.w) (I : Inv X pins σ H s) (e : Same G H) (dd : OwnOk X.K G H a (.m kvs)) (ga : G a = none) (rk : Rep X.K G y k) (ry : RelV y u) (rx : Rep X.K G x d) (rr : RelV x r) (ok : okKey kvs k = true) (hz : kvs.length < sizeLine)
    (h : ∀ ob s', Inv X pins σ (upd H a (xO a ob)) s' → OwnOk X.K G (upd H a (xO a ob)) a (.m (putD kvs k d)) → Q () s') : wpAny (model X.prog X.w) A (setItem (.ref a) u r) Q E s := by
  obtain ⟨_, _, _, _, _, _, _, _, ko, _⟩ := dict_at I dd
  have kp := ko.put ok hz d
  cases hk : leafK k with
  | true =>
    obtain ⟨vs, dv, l, m, z⟩ := dict_leaf I hw dd (okKey_leaf ok hk)
    have ey := leaf_rep hk rk
    subst ey
    refine wpAny_setItem_pairs (hsz := z) (kV_is ry) dv fun h' dd' hs => ?_
    obtain ⟨o', es', ep', h1, h2, h3, h4, h5, _⟩ := dd'
    have l' := lr_put hk ⟨x, rr, rx⟩ l
    obtain ⟨I', ow⟩ := dict_put (t' := s.toks + 1) I e dd hs h1 h2 h3 ga kp (leaf_ents hw h5 l' fun e he => h4 e (by simpa using he))
    exact h o' _ I' ow
  | false =>
    obtain ⟨ht, hl⟩ := okKey_tup ok hk
    obtain ⟨xs, dv, l, m, z⟩ := dict_tup I e hw dd hl
    obtain ⟨b, rfl, rfl⟩ := tup_ref ht rk ry
    refine wpAny_setItem_heap (hsz := z) (roomN hu) (rep_key I e ht rk) dv fun h' dd' hs => ?_
    obtain ⟨o', es', ep', h1, h2, h3, h4, _, _⟩ := dd'
    have l' := tr_put ht rk ⟨x, rr, rx⟩ l
    obtain ⟨I', ow⟩ := dict_put (t' := s.toks + (nestedKind X.prog X.w).draws (nk k)) I e dd hs h1 h2 h3 ga kp (by rw [h4]; exact tup_ents hw l')
    exact h o' _ I' ow
end
theorem Rep.own {K : Fg} {G H : Hp} {v : V} {kvs : List (D × D)} (e : Same G H) (r : Rep K G v (.dict kvs)) (hn : fnB (.dict kvs) = false) : ∃ a, v = .ref a ∧ OwnOk K G H a (.m kvs) := by
  cases r with
  | dict h c d m k es => exact ⟨_, rfl, _, _, _, e _ _ h, c, d, m, k, es⟩
  | fn h => cases hn
theorem fnB_ok {kvs : List (D × D)} (h : ∀ p ∈ kvs, p.1 ≠ .dict []) : fnB (.dict kvs) = false := by
  cases e : fnB (.dict kvs) with
  | false => rfl
  | true =>
    unfold fnB at e
    split at e
    · rename_i z
      cases z
      exact absurd rfl (h _ List.mem_cons_self)
    · cases e
theorem okKey_fn {kvs : List (D × D)} {k : D} (h : okKey kvs k = true) : fnB (.dict kvs) = false := by
  refine fnB_ok fun p hp z => ?_
  unfold okKey at h
  rw [Bool.or_eq_true, Bool.and_eq_true, Bool.and_eq_true] at h
  rcases h with ⟨_, h⟩ | ⟨_, h⟩
  · have := List.all_eq_true.mp h p hp
    rw [z] at this; cases this
  · have := List.all_eq_true.mp h p hp
    rw [z] at this; cases this
theorem Okc.u20 {X : Cx} (O : Okc X) : X.A.units + 20 < cLine := by have := O.hr.un; omega

def ixM (kvs : List (D × D)) (k : D) : Option D := if okKey kvs k = true then getK kvs k else none
def inM (kvs : List (D × D)) (k : D) : Option Bool := if okKey kvs k = true then some (getK kvs k).isSome else none
theorem ixM_some {kvs : List (D × D)} {k d : D} (h : ixM kvs k = some d) : okKey kvs k = true ∧ getK kvs k = some d := by
  unfold ixM at h
  split at h
  · exact ⟨by assumption, h⟩
  · cases h
theorem inM_some {kvs : List (D × D)} {k : D} {b : Bool} (h : inM kvs k = some b) : okKey kvs k = true ∧ (getK kvs k).isSome = b := by
  unfold inM at h
  split at h
  · cases h; exact ⟨by assumption, rfl⟩
  · cases h
/-- x[k] -/
def ixA : D → D → Option D
  | .dict kvs, k => ixM kvs k
  | x, k => ixD x k
def inA : D → D → Option D
  | k, .dict kvs => (inM kvs k).map PyData.bool
  | k, x => inD k x
def notInA : D → D → Option D
  | k, .dict kvs => (inM kvs k).map fun b => PyData.bool (!b)
  | k, x => notInD k x
/-- the dict of slot i -/
def rIxM (K : Fg) : R2 := fun x y H Q => ∃ (G : Hp) (a : Addr) (kvs : List (D × D)) (k d : D), x = .ref a ∧ Same G H ∧ OwnOk K G H a (.m kvs) ∧ Rep K G y k ∧ ixM kvs k = some d ∧ ∀ v, Rep K G v d → Q v H
def rInM (K : Fg) : R2 := fun y x H Q => ∃ (G : Hp) (a : Addr) (kvs : List (D × D)) (k : D) (b : Bool), x = .ref a ∧ Same G H ∧ OwnOk K G H a (.m kvs) ∧ Rep K G y k ∧ inM kvs k = some b ∧ Q (.bl b) H
def rNinM (K : Fg) : R2 := fun y x H Q => ∃ (G : Hp) (a : Addr) (kvs : List (D × D)) (k : D) (b : Bool), x = .ref a ∧ Same G H ∧ OwnOk K G H a (.m kvs) ∧ Rep K G y k ∧ inM kvs k = some b ∧ Q (.bl (!b)) H
theorem subTail {P : Program} {w : World} {A : Around} {E : Value → Shared → Prop} {s : Shared} {ve se : Expr} {ov iv : Value} {T id : String} {Q : Value → Shared → Prop} (hT : s.TypeIs ov T)
    (hl : typeLookup (.type T) "__getitem__" = pure (some (.builtin id))) (h : wpAny (model P w) A (getItem ov iv) Q E s) (hs : subscripted se false ov iv = operate [ov, iv] (getItem ov iv)) : wpAny (model P w) A (subscriptTail ve se ov iv) Q E s := by
  unfold subscriptTail
  apply wpAny_bind
  rw [getitemInPython_of_ne hT.not_modules]
  apply wpAny_bind
  apply wpAny_specialOf hT hl
  have go : wpAny (model P w) A (subscripted se false ov iv) (fun r s3 => wpAny (model P w) A (do letTemporaryGo ve ov r; pure r) Q E s3) E s := by
    rw [hs]
    exact wpAny_operating (wpAny_mono h (fun r s3 q => wpAny_bind (wpAny_letTemporaryGo (wpAny_pure q))) fun _ _ z => z)
  first
    | exact wpAny_pure (wpAny_bind go)
    | exact wpAny_bind (wpAny_pure (wpAny_bind go))
    | exact wpAny_bind go
section
variable {X : Cx}
theorem ix_M (O : Okc X) : IxR X (rIxM X.K) := by
  intro ve se pins s σ H x y v u Q I rx ry ⟨G, a, kvs, k, d, ex, e, dd, rk, hd, q⟩ hsub
  subst ex
  cases (show v = Value.ref a from rx)
  obtain ⟨h1, h2⟩ := ixM_some hd
  exact subTail (dict_ty I dd).1 PySem.F.slot_dict_getitem.lookup (run_dget O.u20 O.ww I e dd rk ry h1 h2 fun v w' s' I' rd rv => ⟨v, H, I', rv, q v rd⟩) hsub
theorem op_inM (O : Okc X) : OpR X (compareOp .In) (rInM X.K) := by
  intro pins s σ H y x u v Q I ry rx ⟨G, a, kvs, k, b, ex, e, dd, rk, hd, q⟩
  subst ex
  cases (show v = Value.ref a from rx)
  obtain ⟨h1, h2⟩ := inM_some hd
  exact run_din O.u20 O.ww I e dd rk ry h1 fun s' I' => by rw [h2]; exact ⟨.bl b, H, I', rfl, q⟩
theorem op_ninM (O : Okc X) : OpR X (compareOp .NotIn) (rNinM X.K) := by
  intro pins s σ H y x u v Q I ry rx ⟨G, a, kvs, k, b, ex, e, dd, rk, hd, q⟩
  subst ex
  cases (show v = Value.ref a from rx)
  obtain ⟨h1, h2⟩ := inM_some hd
  exact run_dnin O.u20 O.ww I e dd rk ry h1 fun s' I' => by rw [h2]; exact ⟨.bl (!b), H, I', rfl, q⟩
theorem id_ixA (O : Okc X) : IxR X (rD X.K ixA) := by
  intro ve se pins s σ H x y v u Q I rx ry ⟨G, a, b, d, e, ra, rb, hd, h⟩ hsub
  cases a with
  | dict kvs =>
    obtain ⟨p, rfl, ow⟩ := ra.own e (okKey_fn (ixM_some hd).1)
    exact ix_M O ve se pins s σ H _ y v u Q I rx ry ⟨G, p, kvs, b, d, rfl, e, ow, rb, hd, fun w rw' => quiet_end e h rw'⟩ hsub
  | _ => exact id_ix ve se pins s σ H x y v u Q I rx ry ⟨G, _, b, d, e, ra, rb, hd, h⟩ hsub
theorem od_inA (O : Okc X) : OpR X (compareOp .In) (rD X.K inA) := by
  intro pins s σ H x y v u Q I rx ry ⟨G, a, b, d, e, ra, rb, hd, h⟩
  cases b with
  | dict kvs =>
    obtain ⟨b, h1, h2⟩ := Option.map_eq_some_iff.mp (show (inM kvs a).map PyData.bool = some d by cases a <;> exact hd)
    subst h2
    obtain ⟨p, rfl, ow⟩ := rb.own e (okKey_fn (inM_some h1).1)
    exact op_inM O pins s σ H x _ v u Q I rx ry ⟨G, p, kvs, a, b, rfl, e, ow, ra, h1, quiet_end e h (.bl b)⟩
  | _ => exact od_in O pins s σ H x y v u Q I rx ry ⟨G, a, _, d, e, ra, rb, by cases a <;> exact hd, h⟩
theorem od_notinA (O : Okc X) : OpR X (compareOp .NotIn) (rD X.K notInA) := by
  intro pins s σ H x y v u Q I rx ry ⟨G, a, b, d, e, ra, rb, hd, h⟩
  cases b with
  | dict kvs =>
    obtain ⟨b, h1, h2⟩ := Option.map_eq_some_iff.mp (show (inM kvs a).map (fun b => PyData.bool (!b)) = some d by cases a <;> exact hd)
    subst h2
    obtain ⟨p, rfl, ow⟩ := rb.own e (okKey_fn (inM_some h1).1)
    exact op_ninM O pins s σ H x _ v u Q I rx ry ⟨G, p, kvs, a, b, rfl, e, ow, ra, h1, quiet_end e h (.bl (!b))⟩
  | _ => exact od_notin O pins s σ H x y v u Q I rx ry ⟨G, a, _, d, e, ra, rb, by cases a <;> exact hd, h⟩
end
end DL

namespace DL
open PySem PySem.Spec PyProof.Rows L2
variable [WW]

/-- what the dict in slot i holds -/
def ctM (i : Nat) (ρ : Row) : Option (List (D × D)) := match ρ[i]? with
  | some (.ow (.m kvs)) => some kvs
  | _ => none
theorem Rel.atM {K : Fg} {δ : List Addr} {F : Fm} {own : Nat → Addr} {G H : Hp} {ρ : Row} {γ : Bxs} {σ : L2.St} (r : Rel K δ F own G H ρ γ σ) {i : Nat} {kvs : List (D × D)} (h : ctM i ρ = some kvs) :
    σ[i]? = some (some (.ref (own i))) ∧ OwnOk K G H (own i) (.m kvs) ∧ G (own i) = none ∧ ρ[i]? = some (.ow (.m kvs)) := by
  unfold ctM at h
  split at h
  · rename_i ks hi
    cases h
    obtain ⟨h1, h2⟩ := r.slot i _ hi
    exact ⟨h1, h2, (r.ownd i _ hi).1, hi⟩
  · cases h
def fIxM (i : Nat) (fb : Fx) : Fx := fun ρ γ => (ctM i ρ).bind fun _ => (fb ρ γ).bind fun p => (ctM i p.2.1).bind fun kvs => (ixM kvs p.1).map fun z => (z, p.2)
def fInM (i : Nat) (fb : Fx) : Fx := fun ρ γ => (fb ρ γ).bind fun p => (ctM i p.2.1).bind fun kvs => (inM kvs p.1).map fun b => (.bool b, p.2)
def fNinM (i : Nat) (fb : Fx) : Fx := fun ρ γ => (fb ρ γ).bind fun p => (ctM i p.2.1).bind fun kvs => (inM kvs p.1).map fun b => (.bool (!b), p.2)
def sPutM (i : Nat) (fa fk : Fx) : Fst := fun ρ γ => (fa ρ γ).bind fun p => (ctM i p.2.1).bind fun _ => (fk p.2.1 p.2.2).bind fun q => (ctM i q.2.1).bind fun kvs =>
  if okKey kvs q.1 = true ∧ kvs.length < sizeLine then some (.nx (q.2.1.set i (.ow (.m (putD kvs q.1 p.1)))) q.2.2) else none
/-- d.get(k), d.get(k, x) -/
def getA : D → List D → Option D
  | .dict kvs, [k] => if okKey kvs k = true then some ((getK kvs k).getD .none) else none
  | .dict kvs, [k, x] => if okKey kvs k = true then some ((getK kvs k).getD x) else none
  | _, _ => none
def fGetM (i : Nat) (fr : Fs) : Fx := fun ρ γ => (ctM i ρ).bind fun _ => (fr ρ γ).bind fun p => (ctM i p.2.1).bind fun kvs => (getA (.dict kvs) p.1).map fun z => (z, p.2)
def qDict0 : Fq := fun ρ γ => some (.ow (.m []), ρ, γ)
def fLenM (i : Nat) : Fx := fun ρ γ => (ctM i ρ).map fun kvs => (.int kvs.length, ρ, γ)

theorem pe_or {X : Cx} {e : Expr} {t u : TE} (h1 : PE X e t) (h2 : PE X e u) : PE X e (fun σ H Q => t σ H Q ∨ u σ H Q) :=
  ⟨fun pins s σ H Q I h => h.elim (h1.run pins s σ H Q I) (h2.run pins s σ H Q I)⟩
/-- a thing laid, told exactly -/
theorem layO {X : Cx} {pins : List (Addr × Obj)} {σ : L2.St} {H : Hp} {s : Shared} {h' : Heap} {t' : Nat} {a : Addr} {o : Obj} (I : Inv X pins σ H s) (k : ∀ b u, s.heap.get? b = some u → h'.get? b = some u) (hp : s.heap.objs.size ≤ a) (ho : h'.get? a = some o) :
    Inv X pins σ (upd H a (xO a o)) { s with heap := h', toks := t' } :=
  I.laid k hp ⟨ho, ⟨_, ho⟩, fun _ _ z q => q _ z⟩

section
variable {X : Cx} {e b k f o : Expr} {es : List Expr} {fa fb fk fc : Fx} {fs : Fs} {i : Nat} {x : Str} {pos p pb apos cpos : Pos}
theorem de_ixA (O : Okc X) (ha : DE X e fa) (hb : DE X b fb) (hs : PlainIx b := by exact fun _ _ => rfl) : DE X (.Subscript e b pos) (f2 ixA fa fb) := by
  obtain ⟨ta, pa, qa⟩ := ha
  obtain ⟨tb, pb, qb⟩ := hb
  refine ⟨_, pe_ix (id_ixA O) pa pb hs, fun δ F own G H ρ γ σ d ρ' γ' Q R e k => ?_⟩
  obtain ⟨⟨x, ρ1, γ1⟩, e1, e⟩ := bind_some e
  obtain ⟨⟨y, ρ2, γ2⟩, e2, e⟩ := bind_some e
  obtain ⟨z, e3, e⟩ := map_some e
  cases e
  refine qa δ F own G H ρ γ σ x _ _ _ R e1 fun v G1 H1 R1 s1 r1 => qb δ F own G1 H1 _ _ σ y _ _ _ R1 e2 fun u G2 H2 R2 s2 r2 => ?_
  exact ⟨G2, x, y, d, R2.sub, r1.mono s2, r2, e3, fun w G' H' st r => k w G' H' (R2.step st) ((s1.trans s2).trans st.sg) r⟩
theorem de_ixM (O : Okc X) (hv : PE X (.Name x p) (tVar i)) (hb : DE X b fb) (hs : PlainIx b := by exact fun _ _ => rfl) : DE X (.Subscript (.Name x p) b pos) (fIxM i fb) := by
  obtain ⟨tb, pb, qb⟩ := hb
  refine ⟨_, pe_ix (ix_M O) hv pb hs, fun δ F own G H ρ γ σ d ρ' γ' Q R e k => ?_⟩
  obtain ⟨zs, e0, e⟩ := bind_some e
  obtain ⟨⟨z, ρ1, γ1⟩, e1, e⟩ := bind_some e
  obtain ⟨kvs, e2, e⟩ := bind_some e
  obtain ⟨w, e3, e⟩ := map_some e
  cases e
  refine tvar_of (R.atM e0).1 (qb δ F own G H ρ γ σ z _ _ _ R e1 fun v G1 H1 R1 s1 r1 => ?_)
  obtain ⟨h1, h2, _, _⟩ := R1.atM e2
  exact ⟨G1, own i, kvs, z, d, rfl, R1.sub, h2, r1, e3, fun v rv => k v G1 H1 R1 s1 rv⟩
theorem de_inM (O : Okc X) (hv : PE X (.Name x p) (tVar i)) (hb : DE X b fb) (hm : behindInMarks .In (.Name x p) = false := by first | exact nobehind _ (by decide) (by decide) | rfl) : DE X (.Compare b [.In] [.Name x p] pos) (fInM i fb) := by
  obtain ⟨tb, pb, qb⟩ := hb
  refine ⟨_, pe_cmpR (op_inM O) pb hv hm, fun δ F own G H ρ γ σ d ρ' γ' Q R e k => ?_⟩
  obtain ⟨⟨z, ρ1, γ1⟩, e1, e⟩ := bind_some e
  obtain ⟨kvs, e2, e⟩ := bind_some e
  obtain ⟨w, e3, e⟩ := map_some e
  cases e
  refine qb δ F own G H ρ γ σ z _ _ _ R e1 fun v G1 H1 R1 s1 r1 => ?_
  obtain ⟨h1, h2, _, _⟩ := R1.atM e2
  exact tvar_of h1 ⟨G1, own i, kvs, z, w, rfl, R1.sub, h2, r1, e3, k _ G1 H1 R1 s1 (.bl w)⟩
theorem de_ninM (O : Okc X) (hv : PE X (.Name x p) (tVar i)) (hb : DE X b fb) (hm : behindInMarks .NotIn (.Name x p) = false := by first | exact nobehind _ (by decide) (by decide) | rfl) : DE X (.Compare b [.NotIn] [.Name x p] pos) (fNinM i fb) := by
  obtain ⟨tb, pb, qb⟩ := hb
  refine ⟨_, pe_cmpR (op_ninM O) pb hv hm, fun δ F own G H ρ γ σ d ρ' γ' Q R e k => ?_⟩
  obtain ⟨⟨z, ρ1, γ1⟩, e1, e⟩ := bind_some e
  obtain ⟨kvs, e2, e⟩ := bind_some e
  obtain ⟨w, e3, e⟩ := map_some e
  cases e
  refine qb δ F own G H ρ γ σ z _ _ _ R e1 fun v G1 H1 R1 s1 r1 => ?_
  obtain ⟨h1, h2, _, _⟩ := R1.atM e2
  exact tvar_of h1 ⟨G1, own i, kvs, z, w, rfl, R1.sub, h2, r1, e3, k _ G1 H1 R1 s1 (.bl _)⟩
def rSetM (K : Fg) : TSet := fun o i v H Q => ∃ (G : Hp) (a : Addr) (kvs : List (D × D)) (k d : D), o = .ref a ∧ Same G H ∧ OwnOk K G H a (.m kvs) ∧ G a = none ∧ Rep K G i k ∧ Rep K G v d ∧ okKey kvs k = true ∧ kvs.length < sizeLine ∧
  ∀ ob, OwnOk K G (upd H a (xO a ob)) a (.m (putD kvs k d)) → Q (upd H a (xO a ob))
theorem set_M (O : Okc X) : PSet X (rSetM X.K) := by
  intro pins s σ H o i v ov iv u Q I ro ri rv ⟨G, a, kvs, k, d, eo, e, dd, ga, rk, rd, ok, hz, q⟩
  subst eo
  cases (show ov = Value.ref a from ro)
  exact run_dset O.u20 O.ww I e dd ga rk ri rd rv ok hz fun ob s' I' ow => ⟨_, I', q ob ow⟩
theorem ds_putM {spos : Pos} (O : Okc X) (hv : PE X (.Name x p) (tVar i)) (he : DE X e fa) (hk : DE X k fk)
    (hasg : ∀ v, assign (.Subscript (.Name x p) k spos) X.env v = (do
      let ov ← holding [v] (eval (.Name x p) X.env)
      let iv ← holding [v, ov] (eval k X.env)
      standAt spos
      holding [v, ov, iv] (setItem ov iv v)
      release [v, ov, iv] []) := by intro _; rfl)
    (hs : swapsWithSole [.Subscript (.Name x p) k spos] e pos.line X.env = pure false := by rfl) (hw : swappedStores [.Subscript (.Name x p) k spos] e X.env = pure none := by rfl)
    (h1 : (assignEach [.Subscript (.Name x p) k spos] X.env).map (·.2) = [assign (.Subscript (.Name x p) k spos) X.env] := by rfl) :
    DS X (.Assign [.Subscript (.Name x p) k spos] e pos) (sPutM i fa fk) := by
  obtain ⟨ta, pa, qa⟩ := he
  obtain ⟨tk, pk, qk⟩ := hk
  refine ⟨_, ps_asg pa (pg_sub hv pk (set_M O) hasg) hs hw h1, fun δ F own G H ρ γ σ o E R e k => ?_⟩
  obtain ⟨⟨z, ρ1, γ1⟩, e1, e⟩ := bind_some e
  obtain ⟨zs, e0, e⟩ := bind_some e
  obtain ⟨⟨y, ρ2, γ2⟩, e2, e⟩ := bind_some e
  obtain ⟨kvs, e3, e⟩ := bind_some e
  split at e
  case isFalse => cases e
  rename_i hc
  cases e
  refine qa δ F own G H ρ γ σ z _ _ _ R e1 fun v G1 H1 R1 s1 r1 => ?_
  refine tvar_of (R1.atM e0).1 (qk δ F own G1 H1 _ _ σ y _ _ _ R1 e2 fun w G2 H2 R2 s2 r2 => ?_)
  obtain ⟨h1, h2, h3, h4⟩ := R2.atM e3
  refine ⟨G2, own i, kvs, y, z, rfl, R2.sub, h2, h3, r2, r1.mono s2, hc.1, hc.2, fun ob ow => ?_⟩
  exact k own G2 _ σ (R2.writeC h4 ow) (s1.trans s2)

theorem ty_own {pins : List (Addr × Obj)} {σ : L2.St} {H G : Hp} {s : Shared} {a : Addr} {kvs : List (D × D)} (I : Inv X pins σ H s) (dd : OwnOk X.K G H a (.m kvs)) : s.TypeIs (.ref a) "dict" ∧ ∀ b, Value.ref a = .ref b → ∃ ob, s.heap.get? b = some ob ∧ ob.dict = none :=
  ⟨(dict_ty I dd).1, (dict_ty I dd).2.1⟩
/-- the receiver is a dict, then the arguments -/
def tGetD (K : Fg) (to : TE) (t1 : TE) (t2 : Option TE) : TE := fun σ H Q => to σ H fun x H1 => ∃ (G0 : Hp) (a : Addr) (k0 : List (D × D)), x = .ref a ∧ OwnOk K G0 H1 a (.m k0) ∧ t1 σ H1 fun y H2 => match t2 with
  | none => ∃ (G : Hp) (kvs : List (D × D)) (k : D), Same G H2 ∧ OwnOk K G H2 a (.m kvs) ∧ Rep K G y k ∧ okKey kvs k = true ∧ ∀ v, Rep K G v ((getK kvs k).getD .none) → Q v H2
  | some t2 => t2 σ H2 fun z H3 => ∃ (G : Hp) (kvs : List (D × D)) (k d : D), Same G H3 ∧ OwnOk K G H3 a (.m kvs) ∧ Rep K G y k ∧ Rep K G z d ∧ okKey kvs k = true ∧ ∀ v, Rep K G v ((getK kvs k).getD d) → Q v H3
theorem pe_getD1 {to t1 : TE} (O : Okc X) (ho : PE X o to) (he : PE X e t1) (m : M1 X o "get" apos e cpos) : PE X (.Call (.Attribute o "get" apos) [e] [] cpos) (tGetD X.K to t1 none) := by
  refine ⟨fun pins s σ H Q I h => ?_⟩
  refine wpAny_Call_method m.base m.few m.line PySem.F.plainAttrs_dict PySem.F.slot_dict_get PySem.F.type_dict_get (thn (ho.run pins s σ H _ I h) fun u s1 hh => ?_)
  obtain ⟨x, H1, I1, rx, G0, a, k0, ex, d0, q1⟩ := hh
  subst ex
  cases (show u = Value.ref a from rx)
  obtain ⟨t1, t2⟩ := ty_own I1 d0
  refine ⟨t1, t2, ?_⟩
  rw [m.trees]
  refine Calls.callWith_builtin rfl (Calls.evalArgs_plain (Calls.spliced_cons (thn (he.run pins s1 σ H1 _ I1 q1) fun iv s2 hh => Calls.spliced_nil ?_)))
  obtain ⟨y, H2, I2, ry, G, kvs, k, sub, dd, rk, ok, q2⟩ := hh
  exact run_dgetN O.u20 O.ww I2 sub dd rk ry ok fun v w' s3 I3 rd rv => ⟨v, H2, I3, rv, q2 v rd⟩
theorem pe_getD2 {to t1 t2 : TE} (O : Okc X) (ho : PE X o to) (he : PE X e t1) (hf : PE X f t2) (m : M2 X o "get" apos e f cpos) : PE X (.Call (.Attribute o "get" apos) [e, f] [] cpos) (tGetD X.K to t1 (some t2)) := by
  refine ⟨fun pins s σ H Q I h => ?_⟩
  refine wpAny_Call_method m.base m.few m.line PySem.F.plainAttrs_dict PySem.F.slot_dict_get PySem.F.type_dict_get (thn (ho.run pins s σ H _ I h) fun u s1 hh => ?_)
  obtain ⟨x, H1, I1, rx, G0, a, k0, ex, d0, q1⟩ := hh
  subst ex
  cases (show u = Value.ref a from rx)
  obtain ⟨t1, t2⟩ := ty_own I1 d0
  refine ⟨t1, t2, ?_⟩
  rw [m.trees]
  refine Calls.callWith_builtin rfl (Calls.evalArgs_plain (Calls.spliced_cons (thn (he.run pins s1 σ H1 _ I1 q1) fun iv s2 hh => Calls.spliced_cons ?_)))
  obtain ⟨y, H2, I2, ry, q2⟩ := hh
  refine thn (hf.run pins s2 σ H2 _ I2 q2) fun fv s3 hh => Calls.spliced_nil ?_
  obtain ⟨z, H3, I3, rz, G, kvs, k, d, sub, dd, rk, rd, ok, q3⟩ := hh
  exact run_dgetD O.u20 O.ww I3 sub dd rk ry rd rz ok fun v w' s4 I4 rd rv => ⟨v, H3, I4, rv, q3 v rd⟩
theorem de_get1A (O : Okc X) (ho : DE X o fa) (he : DE X e fb) (m : M1 X o "get" apos e cpos := by exact ⟨rfl, rfl, rfl, rfl⟩) : DE X (.Call (.Attribute o "get" apos) [e] [] cpos) (fM getA fa (fCons fb fNil)) := by
  obtain ⟨ta, pa, qa⟩ := ho
  obtain ⟨tb, pb, qb⟩ := he
  refine ⟨_, pe_getD1 O pa pb m, fun δ F own G H ρ γ σ d ρ' γ' Q R e k => ?_⟩
  obtain ⟨⟨x, ρ1, γ1⟩, e1, e⟩ := bind_some e
  obtain ⟨⟨ys, ρ4, γ4⟩, e2, e⟩ := bind_some e
  obtain ⟨z, e3, e⟩ := map_some e
  cases e
  obtain ⟨⟨y, ρ2, γ2⟩, e4, e2⟩ := bind_some e2
  obtain ⟨⟨ys', ρ3, γ3⟩, e5, e2⟩ := map_some e2
  cases e2
  cases e5
  have e3 : getA x [y] = some d := e3
  refine qa δ F own G H ρ γ σ x _ _ _ R e1 fun v G1 H1 R1 s1 r1 => ?_
  cases x with
  | dict kvs =>
    simp only [getA] at e3
    split at e3
    case isFalse => cases e3
    rename_i hk
    cases e3
    obtain ⟨a, rfl, ow⟩ := r1.own R1.sub (okKey_fn hk)
    refine ⟨G1, a, kvs, rfl, ow, qb δ F own G1 H1 _ _ σ y _ _ _ R1 e4 fun u G2 H2 R2 s2 r2 => ?_⟩
    obtain ⟨a', ea, ow2⟩ := (r1.mono s2).own R2.sub (okKey_fn hk)
    cases ea
    exact ⟨G2, kvs, y, R2.sub, ow2, r2, hk, fun v rv => k v G2 H2 R2 (s1.trans s2) rv⟩
  | _ => simp [getA] at e3
theorem de_get2A (O : Okc X) (ho : DE X o fa) (he : DE X e fb) (hf : DE X f fc) (m : M2 X o "get" apos e f cpos := by exact ⟨rfl, rfl, rfl, rfl⟩) : DE X (.Call (.Attribute o "get" apos) [e, f] [] cpos) (fM getA fa (fCons fb (fCons fc fNil))) := by
  obtain ⟨ta, pa, qa⟩ := ho
  obtain ⟨tb, pb, qb⟩ := he
  obtain ⟨tc, pc, qc⟩ := hf
  refine ⟨_, pe_getD2 O pa pb pc m, fun δ F own G H ρ γ σ d ρ' γ' Q R e k => ?_⟩
  obtain ⟨⟨x, ρ1, γ1⟩, e1, e⟩ := bind_some e
  obtain ⟨⟨ys, ρ4, γ4⟩, e2, e⟩ := bind_some e
  obtain ⟨z, e3, e⟩ := map_some e
  cases e
  obtain ⟨⟨y, ρ2, γ2⟩, e4, e2⟩ := bind_some e2
  obtain ⟨⟨ys', ρ3, γ3⟩, e5, e2⟩ := map_some e2
  cases e2
  obtain ⟨⟨y2, ρ5, γ5⟩, e6, e5⟩ := bind_some e5
  obtain ⟨⟨ys2, ρ6, γ6⟩, e7, e5⟩ := map_some e5
  cases e5
  cases e7
  have e3 : getA x [y, y2] = some d := e3
  refine qa δ F own G H ρ γ σ x _ _ _ R e1 fun v G1 H1 R1 s1 r1 => ?_
  cases x with
  | dict kvs =>
    simp only [getA] at e3
    split at e3
    case isFalse => cases e3
    rename_i hk
    cases e3
    obtain ⟨a, rfl, ow⟩ := r1.own R1.sub (okKey_fn hk)
    refine ⟨G1, a, kvs, rfl, ow, qb δ F own G1 H1 _ _ σ y _ _ _ R1 e4 fun u G2 H2 R2 s2 r2 => qc δ F own G2 H2 _ _ σ y2 _ _ _ R2 e6 fun w G3 H3 R3 s3 r3 => ?_⟩
    obtain ⟨a', ea, ow2⟩ := (r1.mono (s2.trans s3)).own R3.sub (okKey_fn hk)
    cases ea
    exact ⟨G3, kvs, y, y2, R3.sub, ow2, r2.mono s3, r3, hk, fun v rv => k v G3 H3 R3 ((s1.trans s2).trans s3) rv⟩
  | _ => simp [getA] at e3
theorem de_getM2 (O : Okc X) (hv : PE X (.Name x p) (tVar i)) (he : DE X e fb) (hf : DE X f fc) (m : M2 X (.Name x p) "get" apos e f cpos := by exact ⟨rfl, rfl, rfl, rfl⟩) : DE X (.Call (.Attribute (.Name x p) "get" apos) [e, f] [] cpos) (fGetM i (fCons fb (fCons fc fNil))) := by
  obtain ⟨tb, pb, qb⟩ := he
  obtain ⟨tc, pc, qc⟩ := hf
  refine ⟨_, pe_getD2 O hv pb pc m, fun δ F own G H ρ γ σ d ρ' γ' Q R e k => ?_⟩
  obtain ⟨k0, e0, e⟩ := bind_some e
  obtain ⟨⟨ys, ρ4, γ4⟩, e2, e⟩ := bind_some e
  obtain ⟨kvs, e8, e⟩ := bind_some e
  obtain ⟨z, e3, e⟩ := map_some e
  cases e
  obtain ⟨⟨y, ρ2, γ2⟩, e4, e2⟩ := bind_some e2
  obtain ⟨⟨ys', ρ3, γ3⟩, e5, e2⟩ := map_some e2
  cases e2
  obtain ⟨⟨y2, ρ5, γ5⟩, e6, e5⟩ := bind_some e5
  obtain ⟨⟨ys2, ρ6, γ6⟩, e7, e5⟩ := map_some e5
  cases e5
  cases e7
  have e3 : getA (.dict kvs) [y, y2] = some d := e3
  simp only [getA] at e3
  split at e3
  case isFalse => cases e3
  rename_i hk
  cases e3
  refine tvar_of (R.atM e0).1 ⟨G, own i, k0, rfl, (R.atM e0).2.1, qb δ F own G H _ _ σ y _ _ _ R e4 fun u G2 H2 R2 s2 r2 => qc δ F own G2 H2 _ _ σ y2 _ _ _ R2 e6 fun w G3 H3 R3 s3 r3 => ?_⟩
  obtain ⟨_, h2, _, _⟩ := R3.atM e8
  exact ⟨G3, kvs, y, y2, R3.sub, h2, r2.mono s3, r3, hk, fun v rv => k v G3 H3 R3 (s2.trans s3) rv⟩
theorem de_getM1 (O : Okc X) (hv : PE X (.Name x p) (tVar i)) (he : DE X e fb) (m : M1 X (.Name x p) "get" apos e cpos := by exact ⟨rfl, rfl, rfl, rfl⟩) : DE X (.Call (.Attribute (.Name x p) "get" apos) [e] [] cpos) (fGetM i (fCons fb fNil)) := by
  obtain ⟨tb, pb, qb⟩ := he
  refine ⟨_, pe_getD1 O hv pb m, fun δ F own G H ρ γ σ d ρ' γ' Q R e k => ?_⟩
  obtain ⟨k0, e0, e⟩ := bind_some e
  obtain ⟨⟨ys, ρ4, γ4⟩, e2, e⟩ := bind_some e
  obtain ⟨kvs, e8, e⟩ := bind_some e
  obtain ⟨z, e3, e⟩ := map_some e
  cases e
  obtain ⟨⟨y, ρ2, γ2⟩, e4, e2⟩ := bind_some e2
  obtain ⟨⟨ys', ρ3, γ3⟩, e5, e2⟩ := map_some e2
  cases e2
  cases e5
  have e3 : getA (.dict kvs) [y] = some d := e3
  simp only [getA] at e3
  split at e3
  case isFalse => cases e3
  rename_i hk
  cases e3
  refine tvar_of (R.atM e0).1 ⟨G, own i, k0, rfl, (R.atM e0).2.1, qb δ F own G H _ _ σ y _ _ _ R e4 fun u G2 H2 R2 s2 r2 => ?_⟩
  obtain ⟨_, h2, _, _⟩ := R2.atM e8
  exact ⟨G2, kvs, y, R2.sub, h2, r2, hk, fun v rv => k v G2 H2 R2 s2 rv⟩

def emptyO : Obj := { cls := .type "dict", data := .dict #[] }
def tNewD : TE := fun _ H Q => ∀ p, H p = none → (p == sysModules) = false → Q (.ref p) (upd H p (xO p emptyO))
theorem pe_newD : PE X (.Dict [] [] pos) tNewD := ⟨fun pins s σ H Q I h =>
  wpAny_Dict_empty ⟨.ref s.heap.objs.size, _, layO (t' := s.toks) I (fun _ _ q => Heap.get?_push_of_some _ q) (Nat.le_refl _) (Heap.get?_push_size _ rfl), rfl,
    h _ (I.hok.fresh (Nat.le_refl _)) (beq_eq_false_iff_ne.mpr (Ne.symm (Nat.ne_of_lt I.big)))⟩⟩
theorem keysOk_nil : KeysOk [] := ⟨Nat.zero_le _, List.nodup_nil, Or.inl fun _ h => nomatch h⟩
theorem own_empty {K : Fg} {G H : Hp} {a : Addr} (h : H a = some (xO a emptyO)) (m : (a == sysModules) = false) : OwnOk K G H a (.m []) :=
  ⟨emptyO, #[], 0, h, ⟨rfl, rfl, rfl⟩, rfl, m, keysOk_nil, .nil⟩
theorem dq_dict0 : DQ X (.Dict [] [] pos) qDict0 := by
  refine ⟨_, pe_newD, fun δ F own G H ρ γ σ s ρ' γ' Q R e k p hp hm => ?_⟩
  cases e
  have st := Step.own R.sub hp (xO p emptyO)
  exact k _ _ _ (R.step st) (Same.refl _) ⟨p, rfl, R.live hp, own_empty upd_same hm⟩
end
end DL

namespace DL
open PySem PySem.Spec PyProof.Rows L2
variable [WW]

section
variable {K : Fg} {δ : List Addr} {F : Fm} {own own' : Nat → Addr} {G H G' H' : Hp} {ρ ρ' : Row} {γ γ' : Bxs} {σ σ' : L2.St} {p : Addr} {o : HO}
/-- the frame that keeps the thing at p -/
def keepF (F : Fm) (p : Addr) (o : HO) : Fm := ⟨F.G, fun b => if b = p then some o else F.H b⟩
theorem Rel.keepP (r : Rel K δ F own G H ρ γ σ) (f : Free δ F own G ρ p) (hp : H p = some o) : Rel K δ (keepF F p o) own G H ρ γ σ where
  wd := r.wd
  g0 := r.g0
  len := r.len
  slot := r.slot
  inj := r.inj
  q0 b h1 h2 := by
    by_cases hb : b = p
    · rw [hb]; exact f.g
    · exact r.q0 b (by simpa [keepF, hb] using h1) h2
  h0 b u h1 h2 h3 := by
    by_cases hb : b = p
    · subst hb
      have : some o = some u := by simpa [keepF] using h1
      exact .inl (by rw [hp, this])
    · exact r.h0 b u (by simpa [keepF, hb] using h1) h2 h3
  ownd i xs hi := by
    obtain ⟨o1, o2, o3⟩ := r.ownd i xs hi
    exact ⟨o1, o2, by simpa [keepF, f.o i xs hi] using o3⟩
theorem Rel.unkeepP (g0 : Same F.G G) (f : Free δ F own G ρ p) (nt : ∀ ps, o ≠ .tbl ps) (r : Rel K δ (keepF F p o) own' G' H' ρ' γ' σ') : Rel K δ F own' G' H' ρ' γ' σ' ∧ Free δ F own' G' ρ' p ∧ H' p = some o := by
  have ne : ∀ {b}, F.H b ≠ none → b ≠ p := fun h z => h (by rw [z]; exact f.f)
  have up : ∀ {b}, b ≠ p → (keepF F p o).H b = F.H b := fun {b} hb => by simp [keepF, hb]
  have atp : (keepF F p o).H p = some o := by simp [keepF]
  have op : ∀ (i : Nat) (xs : OC), ρ'[i]? = some (.ow xs) → own' i ≠ p := fun i xs hi z => by
    have := (r.ownd i xs hi).2.2
    rw [z, atp] at this; cases this
  refine ⟨⟨r.wd, r.g0, fun b h1 h2 => r.q0 b (by rw [up (ne h1)]; exact h1) h2, fun b u h1 h2 h3 => r.h0 b u (by rw [up (ne (by rw [h1]; intro z; cases z))]; exact h1) h2 h3, r.len, r.slot, fun i xs hi => ?_, r.inj⟩,
    ⟨r.q0 p (by rw [atp]; intro z; cases z) (g0.free f.g), f.d, f.f, op⟩, (r.h0 p o atp (g0.free f.g) f.d).eq nt⟩
  obtain ⟨o1, o2, o3⟩ := r.ownd i xs hi
  exact ⟨o1, o2, by rw [up (op i xs hi)] at o3; exact o3⟩
/-- the thing at p becomes quiet -/
theorem Rel.quietP (r : Rel K δ F own G H ρ γ σ) (f : Free δ F own G ρ p) (hp : H p = some o) (nt : NT H p) : Same G (upd G p o) ∧ Rel K δ F own (upd G p o) H ρ γ σ := by
  have sg : Same G (upd G p o) := fun b u e => by rw [upd_ne (ne_of_none e f.g)]; exact e
  refine ⟨sg, ⟨⟨fun b u e => ?_, r.wd.len, r.wd.nd, fun a ha => ?_, fun n c hc => ?_, r.wd.tb.calm nt.1⟩, r.g0.trans sg, fun b h1 h2 => ?_, r.h0, r.len, fun i s hi => ?_, fun i xs hi => ?_, r.inj⟩⟩
  · by_cases hb : b = p
    · subst hb; rw [upd_same] at e; cases e; exact hp
    · rw [upd_ne hb] at e; exact r.sub _ _ e
  · rw [upd_ne (fun z => f.d (by rw [← z]; exact ha))]; exact r.wd.out a ha
  · obtain ⟨a, ws, h1, h2, h3⟩ := r.wd.cell n c hc
    exact ⟨a, ws, h1, h2, h3.mono sg⟩
  · rw [upd_ne (fun z => h1 (by rw [z]; exact f.f))]; exact r.q0 b h1 h2
  · have q := r.slot i s hi
    cases s with
    | un => trivial
    | d x => exact ⟨q.choose, q.choose_spec.1, q.choose_spec.2.mono sg⟩
    | bx n => exact q
    | ow ys => exact ⟨q.1, q.2.at sg fun _ z => z⟩
  · obtain ⟨o1, o2, o3⟩ := r.ownd i xs hi
    exact ⟨by rw [upd_ne (f.o i xs hi)]; exact o1, o2, o3⟩
end

/-- a tuple of the module -/
def CTup (K : Fg) (mg : Str → Option Value) (x : Str) (ds : List D) : Prop := ∃ a xs, mg x = some (.ref a) ∧ SqD K (fun _ => none) a xs ∧ Reps K (fun _ => none) xs ds

abbrev Fps := Row → Bxs → Option (List (D × D) × Row × Bxs)
def pNil : Fps := fun ρ γ => some ([], ρ, γ)
def pCons (fk fv : Fx) (fr : Fps) : Fps := fun ρ γ => (fk ρ γ).bind fun p => (fv p.2.1 p.2.2).bind fun q => (fr q.2.1 q.2.2).map fun r => ((p.1, q.1) :: r.1, r.2)
/-- {k: v, ..}, the keys ints and texts, all unlike -/
def okDisp (kvs : List (D × D)) : Bool := (kvs.all fun p => leafK p.1) && decide ((kvs.map fun p => nk p.1).Nodup) && decide (kvs.length ≤ 15)
def qDict (fp : Fps) : Fq := fun ρ γ => (fp ρ γ).bind fun p => if okDisp p.1 = true then some (.ow (.m p.1), p.2) else none
def fDict (fp : Fps) : Fx := fQ (qDict fp)
def fDict0 : Fx := fQ qDict0
def DPs (X : Cx) (pos : Pos) (keys : List (Option Expr)) (values : List Expr) (f : Fps) : Prop := ∃ trs, PPs X pos keys values trs ∧ ∀ (δ : List Addr) (F : Fm) (own : Nat → Addr) (G H : Hp) (ρ : Row) (γ : Bxs) (σ : L2.St) (ds : List (D × D)) (ρ' : Row) (γ' : Bxs) (Q : List (V × V) → Hp → Prop),
  Rel X.K δ F own G H ρ γ σ → f ρ γ = some (ds, ρ', γ') → (∀ ps G' H', Rel X.K δ F own G' H' ρ' γ' σ → Same G G' → Reps X.K G' (ps.map (·.1)) (ds.map (·.1)) → Reps X.K G' (ps.map (·.2)) (ds.map (·.2)) → Q ps H') → tPairs trs σ H Q
/-- the pairs, as the library takes them -/
theorem pairs_carry {K : Fg} {G : Hp} {P : Program} {w : World} : ∀ {kvs : List (D × D)} {ps : List (V × V)} {ws : List (Value × Value)}, VV ps ws → Reps K G (ps.map (·.1)) (kvs.map (·.1)) → Reps K G (ps.map (·.2)) (kvs.map (·.2)) → (∀ p ∈ kvs, leafK p.1 = true) →
    ∃ rs, Carries (mixKind P w) ws rs ∧ LR K G kvs rs
  | [], [], _, .nil, _, _, _ => ⟨[], True.intro, .nil⟩
  | [], _ :: _, _, _, h, _, _ => by cases h
  | _ :: _, [], _, _, h, _, _ => by cases h
  | (k, d) :: kvs, (x, y) :: ps, _, .cons h t, .cons a1 a2, .cons b1 b2, hl => by
    rename_i w1 ws
    obtain ⟨rs, c, l⟩ := pairs_carry (P := P) (w := w) t a2 b2 fun p hp => hl p (List.mem_cons_of_mem _ hp)
    have hk : leafK k = true := hl (k, d) List.mem_cons_self
    obtain ⟨h1, h2⟩ := h
    have ex : x = kV (toKey k) := leaf_rep hk a1
    have h1 : RelV x w1.1 := h1
    rw [ex] at h1
    exact ⟨(toKey k, w1.2) :: rs, ⟨kV_is h1, rfl, c⟩, .cons ⟨hk, rfl, y, h2, b1⟩ l⟩
def tDispX (K : Fg) (trs : List (TE × TE)) : TE := fun σ H Q => ∀ p, H p = none → (p == sysModules) = false → tPairs trs σ (upd H p (xO p emptyO)) fun ps H2 => H2 p = some (xO p emptyO) ∧ ∃ (G : Hp) (kvs : List (D × D)), Same G H2 ∧ G p = none ∧
  Reps K G (ps.map (·.1)) (kvs.map (·.1)) ∧ Reps K G (ps.map (·.2)) (kvs.map (·.2)) ∧ okDisp kvs = true ∧ ∀ ob, OwnOk K G (upd H2 p (xO p ob)) p (.m kvs) → Q (.ref p) (upd H2 p (xO p ob))
section
variable {X : Cx} {a b c e f o : Expr} {es : List Expr} {fa fb fc : Fx} {fs fr : Fs} {pos p apos cpos : Pos} {ks : List (Option Expr)} {vs : List Expr} {fp : Fps}
theorem CTup.de {x : Str} {ds : List D} (h : CTup X.K X.mg x ds) (hg : Gl X x) (hd : (x == ("__debug__" : Str)) = false := by decide) : DE X (.Name x pos) (fC (.tuple ds)) := by
  obtain ⟨a, xs, hm, hs, hr⟩ := h
  refine de_const (v := .ref a) (pe_glob hg hm ?_ hd) fun G => .tup (sqd_same (fun b u z => by cases z) hs) (hr.mono fun b u z => by cases z)
  exact rfl
theorem dps_nil : DPs X pos [] [] pNil := ⟨_, pps_nil, fun δ F own G H ρ γ σ d ρ' γ' Q R e k => by cases e; exact k _ G H R (Same.refl _) .nil .nil⟩
theorem dps_cons {k v : Expr} (hk : DE X k fa) (hv : DE X v fb) (hr : DPs X pos ks vs fp) : DPs X pos (some k :: ks) (v :: vs) (pCons fa fb fp) := by
  obtain ⟨ta, pa, qa⟩ := hk
  obtain ⟨tb, pb, qb⟩ := hv
  obtain ⟨tc, pc, qc⟩ := hr
  refine ⟨_, pps_cons pa pb pc, fun δ F own G H ρ γ σ d ρ' γ' Q R e k => ?_⟩
  obtain ⟨⟨x, ρ1, γ1⟩, e1, e⟩ := bind_some e
  obtain ⟨⟨y, ρ2, γ2⟩, e2, e⟩ := bind_some e
  obtain ⟨⟨z, ρ3, γ3⟩, e3, e⟩ := map_some e
  cases e
  exact qa δ F own G H ρ γ σ x _ _ _ R e1 fun v G1 H1 R1 s1 r1 => qb δ F own G1 H1 _ _ σ y _ _ _ R1 e2 fun u G2 H2 R2 s2 r2 => qc δ F own G2 H2 _ _ σ z _ _ _ R2 e3 fun ps G3 H3 R3 s3 ra rb =>
    k _ G3 H3 R3 ((s1.trans s2).trans s3) (.cons (r1.mono (s2.trans s3)) ra) (.cons (r2.mono s3) rb)
theorem de_dict0 : DE X (.Dict [] [] pos) fDict0 := de_q dq_dict0
theorem pe_dispX {trs : List (TE × TE)} (O : Okc X) (h : PPs X pos ks vs trs) (hall : ks.all (·.isSome) = true) (hl : ks.length = vs.length) (h0 : ks ≠ []) (h15 : ks.length ≤ 15) : PE X (.Dict ks vs pos) (tDispX X.K trs) := by
  refine ⟨fun pins s σ H Q I q => ?_⟩
  have hn := I.hok.fresh (Nat.le_refl s.heap.objs.size)
  have hm : (s.heap.objs.size == sysModules) = false := beq_eq_false_iff_ne.mpr (Ne.symm (Nat.ne_of_lt I.big))
  have I1 := layO (t' := s.toks) (h' := s.heap.push emptyO) (a := s.heap.objs.size) I (fun _ _ q => Heap.get?_push_of_some _ q) (Nat.le_refl _) (Heap.get?_push_size _ rfl)
  refine wpAny_Dict_walk (knd := mixKind X.prog X.w) hall hl h0 h15 (thn (h.run pins _ σ _ _ I1 (q _ hn hm)) fun ws s2 hh => ?_)
  obtain ⟨ps, H2, I2, rel, e, G, kvs, sub, gp, ra, rb, ok, q2⟩ := hh
  have ok' := ok
  unfold okDisp at ok'
  simp only [Bool.and_eq_true, List.all_eq_true, decide_eq_true_eq] at ok'
  obtain ⟨⟨ok1, ok2⟩, ok3⟩ := ok'
  obtain ⟨rs, c, l⟩ := pairs_carry (P := X.prog) (w := X.w) rel ra rb ok1
  have ow : OwnOk X.K G H2 s.heap.objs.size (.m []) := own_empty e hm
  obtain ⟨vs0, dv, l0, _, _⟩ := dict_leaf I2 O.ww ow fun _ z => nomatch z
  cases l0
  refine ⟨rs, c, dv, fun h' dd' hs => ?_⟩
  rw [merged_nil_of_nodup rs (by rw [lr_keys l]; exact leaf_nodup ok1 ok2)] at dd'
  obtain ⟨o', es', ep', h1, h2, h3, h4, h5, _⟩ := dd'
  have kp : KeysOk kvs := ⟨by rw [sizeLine_eq]; omega, ok2, Or.inl ok1⟩
  obtain ⟨I', ow'⟩ := dict_put (t' := s2.toks + ws.length) I2 sub ow hs h1 h2 h3 gp kp (leaf_ents O.ww h5 l fun e he => h4 e (by simpa using he))
  exact ⟨.ref s.heap.objs.size, _, I', rfl, q2 o' ow'⟩
theorem dq_dict (O : Okc X) (h : DPs X pos ks vs fp) (hall : ks.all (·.isSome) = true) (hl : ks.length = vs.length) (h0 : ks ≠ []) (h15 : ks.length ≤ 15) : DQ X (.Dict ks vs pos) (qDict fp) := by
  obtain ⟨trs, pa, qa⟩ := h
  refine ⟨_, pe_dispX O pa hall hl h0 h15, fun δ F own G H ρ γ σ s ρ' γ' Q R e k p hp hm => ?_⟩
  obtain ⟨⟨l, ρ1, γ1⟩, e1, e⟩ := bind_some e
  split at e
  case isFalse => cases e
  rename_i hc
  cases e
  have f0 := R.live hp
  have R0 := (R.updF (o := xO p emptyO) f0 (.none hp)).keepP f0 upd_same
  have nt : ∀ ps, xO p emptyO ≠ .tbl ps := fun ps z => by
    unfold xO at z
    cases z
  refine qa δ _ own G _ ρ γ σ l _ _ _ R0 e1 fun ps G1 H1 R1 s1 ra rb => ?_
  obtain ⟨R2, f2, h2⟩ := Rel.unkeepP R.g0 f0 nt R1
  refine ⟨h2, G1, l, R2.sub, f2.g, ra, rb, hc, fun ob ow => ?_⟩
  have nt2 : NT H1 p := (own_empty (K := X.K) (G := G1) h2 hm).not
  exact k _ G1 _ (R2.updF f2 nt2) s1 ⟨p, rfl, ⟨f2.g, f2.d, f2.f, f2.o⟩, ow⟩
theorem de_dict (O : Okc X) (h : DPs X pos ks vs fp) (hall : ks.all (·.isSome) = true) (hl : ks.length = vs.length) (h0 : ks ≠ []) (h15 : ks.length ≤ 15) : DE X (.Dict ks vs pos) (fDict fp) := de_q (dq_dict O h hall hl h0 h15)
end
end DL

namespace DL
open PySem PySem.Spec PyProof.Rows L2
variable [WW]

section
variable {X : Cx} {a b c e f o : Expr} {es : List Expr} {fa fb fc : Fx} {fs fr : Fs} {pos p apos cpos : Pos}
theorem m2_of {o e f : Expr} {apos cpos : Pos} {m : Str} (h1 : attributeBase o m X.env (eval o X.env) = eval o X.env) (h2 : ((backTo cpos (starEach [e, f] X.env)).all (fun x => !x.1) && (backToKw cpos (keywordEach [] X.env)).all (fun x => x.1.isSome)
    && decide (([e, f] : List Expr).length + ([] : List Keyword).length + (if ([] : List Keyword).isEmpty then 0 else 1) < 30)) = true) (h3 : (apos.endLine == cpos.line) = true) (h4 : backTo cpos (starEach [e, f] X.env) = [(false, eval e X.env), (false, eval f X.env)]) : M2 X o m apos e f cpos := ⟨h1, h2, h3, h4⟩
end
end DL

namespace DL
open PySem PySem.Spec PyProof.Rows L2
variable [WW]

/-- how many unlike ints there are -/
def cnt : List Int → Nat
  | [] => 0
  | k :: l => if k ∈ l then cnt l else cnt l + 1
theorem cnt_le : ∀ l : List Int, cnt l ≤ l.length
  | [] => Nat.le_refl _
  | k :: l => by
    have := cnt_le l
    unfold cnt
    split <;> simp <;> omega
/-- the set at a, of the ints of l -/
def SetL (w : World) (a : Addr) (l : List Int) : HO := SetO w a (fun j => decide (j ∈ l)) (cnt l)
theorem setL_nil (w : World) (a : Addr) : SetO w a (fun _ => false) 0 = SetL w a [] := by
  unfold SetL
  congr 1
theorem setL_cons (w : World) (a : Addr) (k : Int) (l : List Int) : SetO w a (fun j => decide (j ∈ l) || decide (j = k)) (if decide (k ∈ l) = true then cnt l else cnt l + 1) = SetL w a (k :: l) := by
  unfold SetL
  have e1 : (fun j => decide (j ∈ l) || decide (j = k)) = fun j => decide (j ∈ k :: l) := by
    funext j
    rw [Bool.eq_iff_iff]
    simp [or_comm]
  have e2 : (if decide (k ∈ l) = true then cnt l else cnt l + 1) = cnt (k :: l) := by
    simp only [decide_eq_true_eq, cnt]
  rw [e1, e2]
/-- the readings of such a comprehension -/
def tScI (w : World) (wi : TI) (g : TG) (tt : TT) (te : TE) (vs : List Nat) : TE := fun σ H Q => wi σ H fun J H1 => ∀ Z, H1 Z = none → ∃ W : Nat → Nat → Hp → Prop, (∃ m, W 0 m (upd H1 Z (SetL w Z []))) ∧ ∀ i m H, W i m H →
  (J.stop i H ∧ Q (.ref Z) H) ∨ (J.go i H ∧ ∃ Nx : Hp → Prop, (∀ H', Nx H' → ∃ m', m' < m ∧ W (i + 1) m' H') ∧
    ∀ x H', J.yld i H x H' → g x (wipe σ vs) H' fun σ2 H2 => wipe σ2 vs = wipe σ vs ∧ tt σ2 H2 fun b H3 => if b = true then te σ2 H3 fun y H4 => ∃ (c : Int) (l : List Int), y = .int c ∧ H4 Z = some (SetL w Z l) ∧ cnt l + 1 < scanBound ∧ Nx (upd H4 Z (SetL w Z (c :: l))) else Nx H3)
section
variable {X : Cx}
theorem addL_ok {pins : List (Addr × Obj)} {σ : L2.St} {H : Hp} {s : Shared} {E : Value → Shared → Prop} {Z : Addr} {l : List Int} {k : Int} {t : Tok} {Q : Value → Shared → Prop} (I : Inv X pins σ H s) (hZ : H Z = some (SetL X.w Z l)) (room : cnt l + 1 < scanBound)
    (h : ∀ s', Inv X pins σ (upd H Z (SetL X.w Z (k :: l))) s' → Q .none s') : wpAny (model X.prog X.w) X.A (call (.builtin "set.add") [.ref Z, .int k t]) Q E s := by
  refine setR_add (setO_get I hZ) room fun h' sb new => h _ ?_
  rw [← setL_cons]
  obtain ⟨u, _, _, _, hu, _⟩ := id new
  exact I.write (e := Z) (t' := s.toks + 1) (by rw [hZ]; trivial) (.inl rfl) (fun b u hb hu => (sb.2 b hb).trans hu) ⟨u, hu⟩ (setO_new new)
variable {elt tg iter : Expr} {ifs : List Expr} {scope : Scope} {own : List (Str × Nat)} {pos pos' spos py : Pos} {wi : TI} {g : TG} {tt : TT} {te : TE}
/-- the turns of it, in the block's own context -/
theorem scI_loop {pins : List (Addr × Obj)} {s3 : Shared} {σ : L2.St} {H3 : Hp} {ce : Env} {fp : List Addr} {it Z : Addr} {tn : Nat → Heap → Prop} {J : It} {R : Result → Shared → Prop} {s4 : Shared} {Q : VK} {m0 : Nat} {W : Nat → Nat → Hp → Prop}
    (hc : X.calm = true) (I3 : Inv X pins σ H3 s3) (T : Turn X.prog X.w X.K tg J fp it tn)
    (f3 : ∀ b ∈ fp, FpOk X pins H3 b ∧ b < s3.heap.objs.size) (pg : PG (X.blk s3 H3 scope ce fp) tg g) (pt : PTs (X.blk s3 H3 scope ce fp) ifs tt) (pe : PE (X.blk s3 H3 scope ce fp) elt te)
    (I4 : Inv (X.blk s3 H3 scope ce fp) [] (wipe σ (own.map (·.2))) H3 s4) (st4 : tn 0 s4.heap) (w0 : W 0 m0 H3)
    (turn : ∀ i m H, W i m H → (J.stop i H ∧ Q (.ref Z) H) ∨ (J.go i H ∧ ∃ Nx : Hp → Prop, (∀ H', Nx H' → ∃ m', m' < m ∧ W (i + 1) m' H') ∧
      ∀ x H', J.yld i H x H' → g x (wipe σ (own.map (·.2))) H' fun σ2 H2 => wipe σ2 (own.map (·.2)) = wipe σ (own.map (·.2)) ∧ tt σ2 H2 fun b H3 => if b = true then te σ2 H3 fun y H4 => ∃ (c : Int) (l : List Int), y = .int c ∧ H4 Z = some (SetL X.w Z l) ∧ cnt l + 1 < scanBound ∧ Nx (upd H4 Z (SetL X.w Z (c :: l))) else Nx H3))
    (fin : ∀ s6 H5, Inv X pins σ H5 s6 → Q (.ref Z) H5 → Inv (X.blk s3 H3 scope ce fp) [] (wipe σ (own.map (·.2))) H5 s6 → R (.ok .next) s6) :
    codeAny (model X.prog X.w) X.A (.compLoop (.SetComp elt [⟨tg, iter, ifs, 0⟩] scope pos) 0 (.ref it) (.ref Z) ce) R s4 := by
  have nfp : ∀ b ∈ fp, H3 b = none := fun b hb => (f3 b hb).1.1
  have live : ∀ {σ' : L2.St} {H' : Hp} {s' : Shared}, Inv (X.blk s3 H3 scope ce fp) [] σ' H' s' → (∀ b ∈ fp, H' b = none) → ∀ b ∈ fp, FpOk (X.blk s3 H3 scope ce fp) [] H' b := fun I' hn b hb =>
    ⟨hn b hb, (I'.ok.exf b hb).1, I'.ok.exfs b hb, .inl hb, fun x c e => (I'.ok.exf b hb).2 x c e, fun p hp => (by simp at hp)⟩
  refine PpSet.compLoopS_any (fun n s' => ∃ i H', Inv (X.blk s3 H3 scope ce fp) [] (wipe σ (own.map (·.2))) H' s' ∧ tn i s'.heap ∧ (∀ b ∈ fp, H' b = none) ∧ W i n H') ?_ m0 ⟨0, H3, I4, st4, nfp, w0⟩
  rintro n s5 ⟨i, H5, I5, st5, n5, w5⟩
  rcases turn i n H5 w5 with ⟨stop, qq⟩ | ⟨go, Nx, hNx, step⟩
  · refine thnF (T.done (X.blk s3 H3 scope ce fp) rfl rfl rfl hc i [] s5 _ H5 (fun _ _ => False) I5 (live I5 n5) st5 stop) fun r s6 ⟨hr, I6⟩ => ?_
    subst hr
    exact fin s6 H5 (I3.call' (ch := fp) I6.os I6.base I6.hok I6.bare fun b hb => let z := (f3 b hb).1; ⟨z.2.2.2.1, z.2.1, z.2.2.2.2.1, z.2.2.2.2.2⟩) qq I6
  · refine thnF (T.item (X.blk s3 H3 scope ce fp) rfl rfl rfl hc i [] s5 _ H5 (fun _ _ => False) I5 (live I5 n5) st5 go) fun r s6 ⟨u, hr, h6⟩ => ?_
    subst hr
    refine thnF h6 fun _ s7 ⟨x, H7, I7, r7, y7, st7, n7⟩ => ?_
    refine thnF (pg.run _ s7 _ H7 x u _ (I7.pinned (live I7 n7) (T.obj _ _ st7)) r7 (step x H7 y7)) fun _ s8 ⟨σ8, H8, I8, hw8, q8⟩ => thnF (pt.run _ s8 σ8 H8 _ I8 q8) fun b s9 ⟨H9, I9, q9⟩ => ?_
    have close : ∀ {s' : Shared} {H' : Hp}, Inv (X.blk s3 H3 scope ce fp) ([] ++ pinsAt fp s7.heap) σ8 H' s' → Nx H' → ∃ m, m < n ∧ ∃ i H', Inv (X.blk s3 H3 scope ce fp) [] (wipe σ (own.map (·.2))) H' s' ∧ tn i s'.heap ∧ (∀ b ∈ fp, H' b = none) ∧ W i m H' := by
      intro s' H' I' nx
      obtain ⟨m', hm, w'⟩ := hNx H' nx
      have pin' : ∀ b ∈ fp, ∀ o, s7.heap.get? b = some o → s'.heap.get? b = some o ∧ H' b = none := fun b hb o e =>
        have z := I'.pin (b, o) (List.mem_append_right _ (List.mem_append_right _ (mem_pinsAt hb e)))
        ⟨z.1, z.2.1⟩
      refine ⟨m', hm, i + 1, H', (I'.unpinned (pins := [])).weak (by rw [← hw8, wipe_length]) (fun j v e => by rw [← hw8] at e; exact (wipe_some e).1), T.keep _ _ _ st7 fun b hb o e => (pin' b hb o e).1, fun b hb => ?_, w'⟩
      obtain ⟨o, e, _⟩ := T.obj _ _ st7 b hb
      exact (pin' b hb o e).2
    cases b with
    | false => exact close I9 q9
    | true =>
      refine thnF (pe.run _ s9 σ8 H9 _ I9 q9) fun z s10 ⟨yv, H10, I10, r10, c, l, ey, hZ, hz, nx⟩ => ?_
      subst ey
      obtain ⟨t, rfl⟩ := r10
      exact addL_ok (X := X.blk s3 H3 scope ce fp) I10 hZ hz fun s11 I11 => close I11 nx
/-- y = {elt for tg in iter if ..}, the elements ints -/
theorem ps_setScI {i : Nat} {y : Str} (O : Okc X) (hy : X.N[i]? = some y) (hyl : X.env.scope.names.lookup y = some .local) (hsw : swapsWith (.SetComp elt [⟨tg, iter, ifs, 0⟩] scope pos) (some (.Name y py)) spos.line X.env = pure true)
    (hi : PI X tg iter wi) (ok : BlkOk X.N X.env.scope scope own)
    (hg : ∀ (s : Shared) (H : Hp) (C : Addr) (cl : List (Str × Addr)) (fp : List Addr), PG (X.blk s H scope (compEnvC scope cl C X.env) fp) tg g)
    (ht : ∀ (s : Shared) (H : Hp) (C : Addr) (cl : List (Str × Addr)) (fp : List Addr), PTs (X.blk s H scope (compEnvC scope cl C X.env) fp) ifs tt)
    (he : ∀ (s : Shared) (H : Hp) (C : Addr) (cl : List (Str × Addr)) (fp : List Addr), PE (X.blk s H scope (compEnvC scope cl C X.env) fp) elt te) (hs : ∀ x, foldedSetIterable iter X.env x = pure x) :
    PS X (.Assign [.Name y py] (.SetComp elt [⟨tg, iter, ifs, 0⟩] scope pos) spos) (tAsg (tScI X.w wi g tt te (own.map (·.2))) (gName i)) := by
  refine ⟨fun pins s σ H Dn I h => ?_⟩
  have h : tScI X.w wi g tt te (own.map (·.2)) σ H (fun x H1 => gName i x σ H1 Dn.nx) := h
  rw [exec_Assign_Name_used _ _ _ _ hsw]
  refine wpAny_bind (wpAny_standAt (wpAny_bind ?_))
  show wpAny _ X.A (do let _ ← comprehension (.SetComp elt [⟨tg, iter, ifs, 0⟩] scope pos) scope X.env (firstIterPos [⟨tg, iter, ifs, 0⟩] pos) (newSet (.type "set")) false (eval iter X.env) (some (assign (.Name y py) X.env))) _ _ s
  have free : ∀ z ∈ scope.names, z.2 = .free → ∃ c, X.env.cells.lookup z.1 = some c := fun z hz e => (ok.free z hz e).elim (fun k => I.ok.has _ (.inl k)) (fun k => I.ok.has _ (.inr k))
  refine wpAny_bind (thn (Q := fun _ s' => SP X pins Dn .next s') ?_ fun _ s' hq => wpAny_pure (wpAny_pure hq))
  refine wpAny_comprehension_free (use := some (assign (.Name y py) X.env)) rfl hs (closure_ok free) ok.kind (fun z hz e => by rw [ok.uniq z hz, e]) (thn (hi.run pins s σ H _ I h) fun xv s1 hx => thn hx fun itv s2 h2 => ?_)
  obtain ⟨it, fp, tn, J, H2, ei, I2, T, st2, f2, q⟩ := h2
  subst ei
  refine PpSet.newSet_ok (newEnv_comp ?_)
  obtain ⟨W, ⟨m0, w0⟩, turn⟩ := q s2.heap.objs.size (I2.hok.fresh (Nat.le_refl _))
  have I3 : Inv X pins σ (upd H2 s2.heap.objs.size (SetL X.w s2.heap.objs.size [])) { s2 with heap := s2.heap.push { cls := .type "set", dict := none, data := .set #[] 0 (.fresh 0 0 (!X.w.params.followText "set-order")) } } := by
    rw [← setL_nil]
    exact I2.laid (t' := s2.toks) (fun b o e => Heap.get?_push_of_some _ e) (Nat.le_refl _) (setO_new (setR_fresh X.w))
  generalize hZ : s2.heap.objs.size = Z at I3 w0 turn ⊢
  generalize hs3 : ({ s2 with heap := s2.heap.push { cls := .type "set", dict := none, data := .set #[] 0 (.fresh 0 0 (!X.w.params.followText "set-order")) } } : Shared) = s3 at I3 ⊢
  have h3 : s3.heap = s2.heap.push { cls := .type "set", dict := none, data := .set #[] 0 (.fresh 0 0 (!X.w.params.followText "set-order")) } := by rw [← hs3]
  have f3 : ∀ b ∈ fp, FpOk X pins (upd H2 Z (SetL X.w Z [])) b ∧ b < s3.heap.objs.size := fun b hb => by
    obtain ⟨o, e, _⟩ := T.obj _ _ st2 b hb
    have hlt := Heap.lt_size e
    refine ⟨⟨?_, (f2 b hb).2⟩, by rw [h3, Heap.size_push]; exact Nat.lt_succ_of_lt hlt⟩
    rw [upd_ne (by rw [← hZ]; exact Nat.ne_of_lt hlt)]
    exact (f2 b hb).1
  have st3 : tn 0 s3.heap := T.keep _ _ _ st2 fun b _ o e => by rw [h3]; exact Heap.get?_push_of_some _ e
  have I4 := block_start I3 ok O.nd f3
  generalize hcl : cellsFrom (s3.heap.objs.size + 1) scope.names (cloFrom X.env.cells scope.names []) = cl at I4 ⊢
  have pg := hg s3 (upd H2 Z (SetL X.w Z [])) s3.heap.objs.size cl fp
  have pt := ht s3 (upd H2 Z (SetL X.w Z [])) s3.heap.objs.size cl fp
  have pe := he s3 (upd H2 Z (SetL X.w Z [])) s3.heap.objs.size cl fp
  show codeAny _ _ (.compStart (.SetComp elt [⟨tg, iter, ifs, 0⟩] scope pos) 0 (.ref it) (.ref Z) (compEnvC scope cl s3.heap.objs.size X.env)) (compPost (model X.prog X.w) X.A X.xe (some (assign (.Name y py) X.env)) _ (.ref Z) s3.heap.objs.size) { s3 with heap := pushCells (s3.heap.push { cls := .type "dict", data := .dict #[] }) scope.names }
  generalize hce : compEnvC scope cl s3.heap.objs.size X.env = ce at I4 pg pt pe ⊢
  have cL : ce.locals = s3.heap.objs.size := by subst hce; rfl
  generalize hs4 : ({ s3 with heap := pushCells (s3.heap.push { cls := .type "dict", data := .dict #[] }) scope.names } : Shared) = s4 at I4 ⊢
  have st4 : tn 0 s4.heap := T.keep _ _ _ st3 fun b _ o e => by rw [← hs4]; exact pushCells_keeps _ _ _ _ (Heap.get?_push_of_some _ e)
  have loop := scI_loop (elt := elt) (iter := iter) (pos := pos) (R := compPost (model X.prog X.w) X.A X.xe (some (assign (.Name y py) X.env)) (fun _ s' => SP X pins Dn .next s') (.ref Z) s3.heap.objs.size) (Q := fun x H1 => gName i x σ H1 Dn.nx)
    O.calm I3 T f3 pg pt pe I4 st4 w0 turn fun s6 H5 I7 q I6 => ?_
  · exact PpSet.codeAny_compStart_set loop (T.self X.A 0 _ _ _ st4 loop)
  have nC : H5 s3.heap.objs.size = none := by
    have z : H5 ce.locals = none := I6.free
    rw [cL] at z
    exact z
  obtain ⟨m, hn, _⟩ := I6.loc
  have hn : s6.heap.Ns ce.locals m := hn
  rw [cL] at hn
  obtain ⟨f0, f1, f2, f3, f4, f5⟩ := I3.fpOk (Nat.le_refl _) nC
  show wpAny _ _ (assign (.Name y py) X.env (.ref Z)) _ _ _
  refine wpAny_assign_Name (store_ok2 (v := V.ref Z) I7 O.nd hy (.inl hyl) rfl (fun s7 I8 ⟨a, sb, ha⟩ => ?_) (.inr hyl))
  have haC : s3.heap.objs.size ≠ a := ha.elim (fun z => by rw [z]; exact f1) (fun z e => f4 y a z e.symm)
  exact ⟨m, hn.sameBut sb haC, fun h9 sb9 => ⟨_, H5, I8.turned (t' := s7.toks) (fun b o hb e => (sb9.2 b hb).trans e) f0 f1 f3 f4 f5, q⟩⟩
end
end DL

namespace DL
open PySem PySem.Spec PyProof.Rows L2
variable [WW]

def sSizes (i : Nat) (fi : Fs) (vs : List Nat) (g : Fg1) (ft : Ft) (fe : Fx) (n : Int) : Fst := fun ρ γ => (fi ρ γ).bind fun p => (lcL vs g ft fe p.1 [] (unS vs p.2.1) p.2.2).bind fun q => (intsOf q.1).bind fun ns =>
  if ns.length + 1 < scanBound ∧ i < q.2.1.length then some (.rt (.d (.bool (decide (((cnt ns.reverse : Nat) : Int) ≤ n)))) q.2.2) else none
theorem lcL_grows {vs : List Nat} {g : Fg1} {ft : Ft} {fe : Fx} : ∀ {ds acc : List D} {ρ : Row} {γ : Bxs} {res : List D} {ρ' : Row} {γ' : Bxs}, lcL vs g ft fe ds acc ρ γ = some (res, ρ', γ') → ∃ t, res = acc ++ t
  | [], acc, ρ, γ, res, ρ', γ', h => by cases h; exact ⟨[], by simp⟩
  | d :: ds, acc, ρ, γ, res, ρ', γ', h => by
    simp only [lcL] at h
    obtain ⟨ρ1, _, h⟩ := bind_some h
    obtain ⟨⟨b, ρ2, γ2⟩, _, h⟩ := bind_some h
    split at h
    · obtain ⟨⟨x, ρ3, γ3⟩, _, h⟩ := bind_some h
      split at h
      · obtain ⟨t, rfl⟩ := lcL_grows h
        exact ⟨x :: t, by simp⟩
      · cases h
    · exact lcL_grows h
theorem intsOf_app : ∀ {a b : List D} {ns : List Int}, intsOf (a ++ b) = some ns → ∃ n1 n2, intsOf a = some n1 ∧ intsOf b = some n2 ∧ ns = n1 ++ n2
  | [], b, ns, h => ⟨[], ns, rfl, h, rfl⟩
  | d :: a, b, ns, h => by
    rw [List.cons_append] at h
    simp only [intsOf] at h ⊢
    obtain ⟨i, e1, h⟩ := bind_some h
    obtain ⟨r, e2, h⟩ := map_some h
    obtain ⟨n1, n2, e3, e4, e5⟩ := intsOf_app e2
    cases h
    exact ⟨i :: n1, n2, by rw [e1, e3]; rfl, e4, by rw [e5]; rfl⟩
section
variable {K : Fg} {δ : List Addr} {F : Fm} {own : Nat → Addr} {G H : Hp} {ρ : Row} {γ : Bxs} {σ : L2.St}
theorem Rel.setU (r : Rel K δ F own G H ρ γ σ) (i : Nat) (v : V) : Rel K δ F own G H (ρ.set i .un) γ (σ.set i (some v)) := by
  have at_ : ∀ {j : Nat} {s : Sl}, (ρ.set i .un)[j]? = some s → s = .un ∨ (j ≠ i ∧ ρ[j]? = some s) := fun {j s} h => by
    by_cases e : i = j
    · subst e
      have hl : i < ρ.length := by
        have := (List.getElem?_eq_some_iff.mp h).1
        rw [List.length_set] at this; exact this
      rw [get_set_eq hl] at h
      exact Or.inl (Option.some.inj h).symm
    · rw [get_set_ne e] at h
      exact Or.inr ⟨fun z => e z.symm, h⟩
  refine ⟨r.wd, r.g0, r.q0, r.h0, by rw [List.length_set, List.length_set]; exact r.len, fun j s hj => ?_, fun j xs hj => ?_, fun j k xs ys hj hk => ?_⟩
  · rcases at_ hj with z | ⟨h1, h2⟩
    · subst z; trivial
    · rw [get_set_ne (fun z => h1 z.symm)]; exact r.slot j s h2
  · rcases at_ hj with z | ⟨h1, h2⟩
    · cases z
    · exact r.ownd j xs h2
  · rcases at_ hj with z | ⟨h1, h2⟩
    · cases z
    · rcases at_ hk with z | ⟨h3, h4⟩
      · cases z
      · exact r.inj j k xs ys h2 h4
theorem Free.setU {p : Addr} (f : Free δ F own G ρ p) (i : Nat) : Free δ F own G (ρ.set i .un) p :=
  ⟨f.g, f.d, f.f, fun j xs hj => by
    rcases set_ol hj with ⟨_, z⟩ | ⟨_, z⟩
    · cases z
    · exact f.o j xs z⟩
end
section
variable {X : Cx}
theorem cr_lenL : CallR X (.builtin "len") (fun xs H Q => ∃ a l, xs = [.ref a] ∧ H a = some (SetL X.w a l) ∧ Q (.int (cnt l)) H) := by
  intro pins s σ H xs us Q I r ⟨a, l, e, ha, q⟩
  subst e
  rw [Vals.ref1 r]
  obtain ⟨o, es, ep, t, ho, hex, hd, _, _, _, hsc, hf, hn, _⟩ := setO_get I ha
  have : (es.size : Int) < 2 ^ 63 := by
    have : es.size < 4096 := hsc
    omega
  exact call_len_set ho hex hd hf this ⟨.int (cnt l), H, I.tok _, ⟨_, by rw [hn]⟩, q⟩
variable {elt tg iter : Expr} {ifs : List Expr} {scope : Scope} {own : List (Str × Nat)} {pos spos py p2 pl pc p3 pq pr : Pos} {fi : Fs} {ts : List Nat} {g : Fg1} {ft : Ft} {fe : Fx}
theorem setL_nt {w : World} {H : Hp} {a : Addr} {l : List Int} (h : H a = some (SetL w a l)) : NT H a ∧ ∀ ps, SetL w a l ≠ .tbl ps := by
  refine ⟨⟨fun ps z => ?_, fun q z => ?_⟩, fun ps z => ?_⟩
  · rw [h] at z
    have z' : SetL w a l = .tbl ps := Option.some.inj z
    unfold SetL SetO at z'
    cases z'
  · rw [h] at z
    have z' : SetL w a l = LamX.CodeO a q := Option.some.inj z
    unfold SetL SetO at z'
    refine code_ext (fun hp e => ?_) z'
    obtain ⟨o, es, ep, t, ho, hex, hd, _⟩ := e
    exact ⟨o, ho, fun vs z => by rw [hd] at z; cases z⟩
  · unfold SetL SetO at z
    cases z
theorem q_scI {K : Fg} {w : World} {wi : TI} {g : TG} {tt : TT} {te : TE} {vs : List Nat} {fi : Fs} {gg : Fg1} {ts : List Nat} {ft : Ft} {fe : Fx} (hi : IR K wi fi) (hg : GR K g ts gg) (ht : TR K tt ft) (he : ER K te fe) (hv : ∀ i ∈ ts, i ∈ vs)
    {δ : List Addr} {F : Fm} {own : Nat → Addr} {G H : Hp} {ρ ρ1 ρ' : Row} {γ γ1 γ' : Bxs} {σ : L2.St} {ds res : List D} {ns : List Int} {Q : VK} (R : Rel K δ F own G H ρ γ σ) (e1 : fi ρ γ = some (ds, ρ1, γ1)) (e2 : lcL vs gg ft fe ds [] (unS vs ρ1) γ1 = some (res, ρ', γ'))
    (e3 : intsOf res = some ns) (hz : ns.length + 1 < scanBound) (k : ∀ Z G' H', Rel K δ F own G' H' ρ' γ' σ → Same G G' → Free δ F own G' ρ' Z → H' Z = some (SetL w Z ns.reverse) → Q (.ref Z) H') : tScI w wi g tt te vs σ H Q := by
  refine hi δ F own G H ρ γ σ ds _ _ _ R e1 fun J G1 H1 R1 s1 it => ?_
  intro Z hZ
  have f0 : Free δ F own G1 ρ1 Z := R1.live hZ
  have R1' := (R1.updF (o := SetL w Z []) f0 (.none hZ)).forget vs (σ' := σ) rfl fun _ _ => rfl
  refine ⟨fun i m H => m = ds.length - i ∧ i ≤ ds.length ∧ ∃ G ρ γ acc l, Rel K δ F own G H ρ γ σ ∧ Same G1 G ∧ Free δ F own G ρ Z ∧ H Z = some (SetL w Z l.reverse) ∧ intsOf acc = some l ∧ unS vs ρ = ρ ∧ lcL vs gg ft fe (ds.drop i) acc ρ γ = some (res, ρ', γ'),
    ⟨ds.length, by simp, Nat.zero_le _, G1, unS vs ρ1, γ1, [], [], R1', Same.refl _, f0.unS vs, upd_same, rfl, unS_unS vs ρ1, e2⟩, ?_⟩
  rintro i m H2 ⟨rfl, hle, G2, ρ2, γ2, acc, l, R2, s2, f2, h2, ha, eu, e4⟩
  by_cases hlt : i < ds.length
  · obtain ⟨d, hd, hdr⟩ := drop_at hlt
    rw [hdr] at e4
    obtain ⟨ρ3, e5, e6⟩ := bind_some e4
    obtain ⟨⟨b, ρ4, γ4⟩, e7, e8⟩ := bind_some e6
    obtain ⟨gn, gy⟩ := it.go G2 H2 s2 R2.sub i d hd
    refine Or.inr ⟨gn, fun H' => ∃ G ρ γ acc l, Rel K δ F own G H' ρ γ σ ∧ Same G1 G ∧ Free δ F own G ρ Z ∧ H' Z = some (SetL w Z l.reverse) ∧ intsOf acc = some l ∧ unS vs ρ = ρ ∧ lcL vs gg ft fe (ds.drop (i + 1)) acc ρ γ = some (res, ρ', γ'),
      fun H' h => ⟨ds.length - (i + 1), by omega, rfl, hlt, h⟩, fun x H3 y => ?_⟩
    obtain ⟨G3, st, rx⟩ := gy x H3 y
    have R3 := ((R2.keepP f2 h2).step st).wipe vs
    rw [eu] at R3
    refine hg δ _ own G3 H3 ρ2 γ2 (wipe σ vs) x d ρ3 _ R3 rx e5 fun σ4 R4 w4 => ?_
    have hw : wipe σ4 vs = wipe σ vs := by rw [w4 vs hv, wipe_wipe]
    have hlen : σ4.length = σ.length := by rw [← wipe_length σ4 vs, hw, wipe_length]
    refine ⟨hw, ht δ _ own G3 H3 ρ3 γ2 σ4 b _ _ _ R4 e7 fun G4 H4 R5 s5 => ?_⟩
    cases b with
    | false =>
      have e8 : lcL vs gg ft fe (ds.drop (i + 1)) acc (unS vs ρ4) γ4 = some (res, ρ', γ') := e8
      obtain ⟨R6, f6, h6⟩ := Rel.unkeepP R2.g0 f2 (setL_nt h2).2 R5
      exact iteF ⟨G4, unS vs ρ4, γ4, acc, l, R6.unwipe hlen hw, s2.trans (st.sg.trans s5), f6.unS vs, h6, ha, unS_unS _ _, e8⟩
    | true =>
      obtain ⟨⟨d', ρ5, γ5⟩, e9, e10⟩ := bind_some e8
      split at e10
      case isFalse => cases e10
      refine iteT (he δ _ own G4 H4 _ _ σ4 d' _ _ _ R5 e9 fun v G5 H5 R6 s6 r6 => ?_)
      obtain ⟨R7, f7, h7⟩ := Rel.unkeepP R2.g0 f2 (setL_nt h2).2 R6
      obtain ⟨t, et⟩ := lcL_grows e10
      have et : res = acc ++ [d'] ++ t := et
      rw [et] at e3
      obtain ⟨n1, n2, q1, q2, q3⟩ := intsOf_app e3
      obtain ⟨n3, n4, q4, q5, q6⟩ := intsOf_app q1
      rw [ha] at q4
      cases q4
      simp only [intsOf] at q5
      obtain ⟨c, c1, c2⟩ := bind_some q5
      cases c2
      rw [intOf_some c1] at r6
      cases r6.int_inv
      have room : cnt l.reverse + 1 < scanBound := by
        have h1 := cnt_le l.reverse
        have h3 : l.length ≤ ns.length := by rw [q3, q6]; simp only [List.length_append]; omega
        rw [List.length_reverse] at h1
        omega
      refine ⟨c, l.reverse, rfl, h7, room, G5, unS vs ρ5, γ5, acc ++ [d'], l ++ [c], (R7.updF f7 (setL_nt h7).1).unwipe hlen hw, s2.trans ((st.sg.trans s5).trans s6), f7.unS vs, ?_, ?_, unS_unS _ _, e10⟩
      · rw [upd_same, List.reverse_append]; rfl
      · rw [q1, q6]
  · have ei : i = ds.length := by omega
    subst ei
    rw [List.drop_length] at e4
    cases e4
    rw [ha] at e3
    cases e3
    exact Or.inl ⟨it.stop G2 H2 s2 R2.sub, k Z G2 H2 R2 (s1.trans s2) f2 h2⟩
theorem sw_trueS {elt : Expr} {gs : List Comprehension} {scope : Scope} {pos py : Pos} {y : Str} {l : Nat} {env : Env} (hk : env.scope.kind = .function) (hy : env.scope.names.lookup y = some .local) (hl : (py.line == pos.line) = true)
    (ha : (scope.names.any fun (n, k) => n == y && (k == .local || k == .cell)) = false) : swapsWith (.SetComp elt gs scope pos) (some (.Name y py)) l env = pure true := by
  have k1 : env.kindOf y = some .local := hy
  have k2 : env.blockKind = .function := by unfold Env.blockKind; rw [hk]; rfl
  unfold swapsWith
  simp only [k2, k1, ha, Expr.pos, hl]
  rfl
theorem db_sizes {i j : Nat} {y : Str} {n : Int} (O : Okc X) (hy : X.N[i]? = some y) (hyl : X.env.scope.names.lookup y = some .local) (hsw : swapsWith (.SetComp elt [⟨tg, iter, ifs, 0⟩] scope pos) (some (.Name y py)) spos.line X.env = pure true)
    (hi : DI X tg iter fi) (ok : BlkOk X.N X.env.scope scope own)
    (hg : ∀ (s : Shared) (H : Hp) (C : Addr) (cl : List (Str × Addr)) (fp : List Addr), DG (X.blk s H scope (compEnvC scope cl C X.env) fp) tg ts g)
    (ht : ∀ (s : Shared) (H : Hp) (C : Addr) (cl : List (Str × Addr)) (fp : List Addr), DTs (X.blk s H scope (compEnvC scope cl C X.env) fp) ifs ft)
    (he : ∀ (s : Shared) (H : Hp) (C : Addr) (cl : List (Str × Addr)) (fp : List Addr), DE (X.blk s H scope (compEnvC scope cl C X.env) fp) elt fe)
    (hv : ∀ i ∈ ts, i ∈ own.map (·.2)) (hvar : PE X (.Name y p2) (tVar i)) (hgl : Gl X "len") (hm : X.mg "len" = none) (hs : ∀ x, foldedSetIterable iter X.env x = pure x := by intro _; rfl)
    (he1 : starEach [.Name y p2] X.env = (false, eval (.Name y p2) X.env) :: starEach [] X.env := by rfl) (hpl : (backTo pc (starEach [] X.env)).any (·.1) = false := by rfl) (hmk : behindInMarks .LtE (.Constant (.int n) j p3) = false := by first | exact nobehind _ (by decide) (by decide) | rfl) :
    DB X [.Assign [.Name y py] (.SetComp elt [⟨tg, iter, ifs, 0⟩] scope pos) spos, .Return (some (.Compare (.Call (.Name "len" pl) [.Name y p2] [] pc) [.LtE] [.Constant (.int n) j p3] pq)) pr] (sSizes i fi (own.map (·.2)) g ft fe n) := by
  obtain ⟨wi, pi, qi⟩ := hi
  refine ⟨_, pss_cons (ps_setScI (g := tG X.K ts g) (tt := tT X.K ft) (te := tE X.K fe) O hy hyl hsw pi ok (fun s H C cl fp => (hg s H C cl fp).can) (fun s H C cl fp => (ht s H C cl fp).can) (fun s H C cl fp => (he s H C cl fp).can) hs)
    (pss_one (ps_ret (pe_cmpR od_le (pe_callB cr_lenL hgl hm (by decide +kernel) (pa_cons hvar pa_nil he1) (by decide) (by decide) he1 hpl) (pe_int (i := n)) hmk))), fun δ F ow G H ρ γ σ o E R e k => ?_⟩
  obtain ⟨⟨ds, ρ1, γ1⟩, e1, e⟩ := bind_some e
  obtain ⟨⟨res, ρ2, γ2⟩, e2, e⟩ := bind_some e
  obtain ⟨ns, e3, e⟩ := bind_some e
  split at e
  case isFalse => cases e
  rename_i hz
  obtain ⟨hz, hl⟩ := hz
  cases e
  unfold tSeq tAsg
  refine q_scI qi (gr_can X.K g) (tr_can X.K ft) (er_can X.K fe) hv R e1 e2 e3 hz fun Z G' H' R' sg f' hZ => ?_
  have hl : i < σ.length := R'.len ▸ hl
  refine ⟨.ref Z, get_set_eq hl, Z, ns.reverse, rfl, hZ, ?_⟩
  refine ⟨G', .int _, .int n, .bool (decide (((cnt ns.reverse : Nat) : Int) ≤ n)), R'.sub, .int _, .int _, rfl, fun v G2 H2 st r => ?_⟩
  exact k v G2 H2 ((R'.setU i (.ref Z)).step st).fin r
end
end DL

namespace DL
open PySem PySem.Spec PyProof.Rows L2
variable [WW]
section
variable {X : Cx} {a b c e tg : Expr} {fa fb fc : Fx} {fs : Fs} {pos p : Pos} {k : Nat} {f : Addr} {fd : FuncData} {ps : List Str} {fn : Fn} {x : Str}
theorem dt_chain {op op' : CmpOp} {g h : D → D → Option D} (ho : OpR X (compareOp op) (rD X.K g)) (ho' : OpR X (compareOp op') (rD X.K h)) (ha : DE X a fa) (hb : DE X b fb) (hc : DE X c fc)
    (hm : lastMarks [op, op'] [b, c] = false := by with_unfolding_all rfl) : DT X (.Compare a [op, op'] [b, c] pos) (fBl (fChain g h fa fb fc)) := by
  obtain ⟨ta, pa, qa⟩ := ha
  obtain ⟨tb, pb, qb⟩ := hb
  obtain ⟨tc, pc, qc⟩ := hc
  refine ⟨_, pt_chain ho ho' pa pb pc hm, fun δ F own G H ρ γ σ d ρ' γ' Q R e k => ?_⟩
  obtain ⟨⟨w, ρ9, γ9⟩, e0, e⟩ := bind_some e
  obtain ⟨⟨x, ρ1, γ1⟩, e1, e0⟩ := bind_some e0
  obtain ⟨⟨y, ρ2, γ2⟩, e2, e0⟩ := bind_some e0
  obtain ⟨z, e3, e0⟩ := bind_some e0
  have fin : ∀ {w : D} {ρ9 : Row} {γ9 : Bxs} {v : V} {G' H' : Hp}, (match w with | .bool q => some (q, ρ9, γ9) | _ => none) = some (d, ρ', γ') → Rel X.K δ F own G' H' ρ9 γ9 σ → Same G G' → Rep X.K G' v w → ∃ k, v = .bl k ∧ Q k H' := by
    intro w ρ9 γ9 v G' H' e R' s' r
    cases w <;> simp only [reduceCtorEq, Option.some.injEq] at e
    cases e
    exact ⟨_, r.bl_inv, k G' H' R' s'⟩
  refine qa δ F own G H ρ γ σ x _ _ _ R e1 fun v G1 H1 R1 s1 r1 => qb δ F own G1 H1 _ _ σ y _ _ _ R1 e2 fun u G2 H2 R2 s2 r2 => ?_
  refine ⟨G2, x, y, z, R2.sub, r1.mono s2, r2, e3, fun w' G3 H3 st r3 => ?_⟩
  split at e0
  · cases r3.bl_inv
    obtain ⟨⟨c', ρ4, γ4⟩, e4, e0⟩ := bind_some e0
    obtain ⟨d', e5, e0⟩ := map_some e0
    cases e0
    refine ⟨true, rfl, iteT (qc δ F own G3 H3 _ _ σ c' _ _ _ (R2.step st) e4 fun w' G4 H4 R4 s4 r4 => ?_)⟩
    exact ⟨G4, y, c', _, R4.sub, r2.mono (st.sg.trans s4), r4, e5, fun w2 G' H' st' r => fin e (R4.step st') ((((s1.trans s2).trans st.sg).trans s4).trans st'.sg) r⟩
  · cases r3.bl_inv
    cases e0
    cases e
    exact ⟨false, rfl, iteF ⟨false, rfl, k G3 H3 (R2.step st) ((s1.trans s2).trans st.sg)⟩⟩
  · cases e0
theorem dt_isN {j : Nat} {p' : Pos} (ha : DE X a fa) : DT X (.Compare a [.Is] [.Constant .none j p'] pos) (fBl (f1 isNoneD fa)) := by
  obtain ⟨ta, pa, qa⟩ := ha
  refine ⟨_, pt_cmp (pc_isN pa) rfl, fun δ F own G H ρ γ σ d ρ' γ' Q R e k => ?_⟩
  obtain ⟨⟨w, ρ9, γ9⟩, e0, e⟩ := bind_some e
  obtain ⟨⟨x, ρ1, γ1⟩, e1, e0⟩ := bind_some e0
  obtain ⟨z, e3, e0⟩ := map_some e0
  cases e0
  cases e3
  cases e
  refine qa δ F own G H ρ γ σ x _ _ _ R e1 fun v G1 H1 R1 s1 r1 => ?_
  have : decide (v = V.non) = isNone x := by cases r1 <;> simp [isNone]
  exact ⟨isNone x, by rw [this], k G1 H1 R1 s1⟩
theorem dt_notN {j : Nat} {p' : Pos} (ha : DE X a fa) : DT X (.Compare a [.IsNot] [.Constant .none j p'] pos) (fBl (f1 isNotNoneD fa)) := by
  obtain ⟨ta, pa, qa⟩ := ha
  refine ⟨_, pt_cmp (pc_notN pa) rfl, fun δ F own G H ρ γ σ d ρ' γ' Q R e k => ?_⟩
  obtain ⟨⟨w, ρ9, γ9⟩, e0, e⟩ := bind_some e
  obtain ⟨⟨x, ρ1, γ1⟩, e1, e0⟩ := bind_some e0
  obtain ⟨z, e3, e0⟩ := map_some e0
  cases e0
  cases e3
  cases e
  refine qa δ F own G H ρ γ σ x _ _ _ R e1 fun v G1 H1 R1 s1 r1 => ?_
  have : decide (v = V.non) = isNone x := by cases r1 <;> simp [isNone]
  exact ⟨!isNone x, by rw [this], k G1 H1 R1 s1⟩
theorem dq_call0 (O : Okc X) (F : Kp X.prog X.w X.K X.mg X.base k f fd [] fn) (hr : Room k X.A) (hg : Gl X x) (hm : X.mg x = some (.ref f)) (hk : PySem.W.keepIn X.K (.ref f) = true) (hb : Binds X.K fd [] []) (hdb : (x == ("__debug__" : Str)) = false := by decide) :
    DQ X (.Call (.Name x p) [] [] pos) (qCall fn aNil) := by
  refine ⟨fun σ H Q => ∃ (δ : List Addr) (G : Hp) (γ : Bxs) (r : Sl) (γ' : Bxs), Wd X.K δ γ G H ∧ fn [] γ = some (r, γ') ∧ ∀ v G' H', Fin X.K δ ⟨G, H⟩ γ' G' H' → RetV X.K δ ⟨G, H⟩ G' H' v r → Q v H', ⟨fun pins s σ H Q I h => ?_⟩, fun δ F' own G H ρ γ σ s ρ' γ' Q R e k => ?_⟩
  · obtain ⟨δ, G, γ, r, γ', wd, hf, q⟩ := h
    refine wpAny_Call_Name_kw (ld_glob I hg hm ?_ hdb)
    exact PySem.W.callWith_K0 I.kIn hk (run_kp (us := []) O F hr hb rfl I .nil wd .nil hf q)
  · obtain ⟨⟨as, ρ1, γ1⟩, e1, e⟩ := bind_some e
    obtain ⟨⟨r, γ2⟩, e2, e⟩ := map_some e
    cases e
    cases e1
    exact ⟨δ, G, γ, r, _, R.wd, e2, fun v G' H' fin rv => k v G' H' (R.called fin) fin.g0 (R.gave (fun j xs hj => ⟨xs, hj⟩) rv)⟩
end
end DL

namespace DL
open PySem PySem.Spec PyProof.Rows L2
variable [WW]

/-- what an exception keeps: under a name, a datum -/
abbrev Pl := Option (Str × D)
def PlOk (K : Fg) (G H : Hp) (d : Option Addr) : Pl → Prop
  | none => True
  | some (f, x) => ∃ dd fs v, d = some dd ∧ H dd = some (.xd fs) ∧ fs.lookup f = some v ∧ Rep K G v x
/-- what comes of an expression: a value, or an exception of a class that is named -/
inductive Re (α : Type) where
  | v (a : α) (ρ : Row) (γ : Bxs) | x (c : Str) (p : Pl) (ρ : Row) (γ : Bxs)
inductive Ox where
  | o (o : Oc) | x (c : Str) (p : Pl) (ρ : Row) (γ : Bxs)
abbrev Fex := Row → Bxs → Option (Re D)
abbrev Fqx := Row → Bxs → Option (Re Sl)
abbrev Fsx := Row → Bxs → Option Ox
/-- what a call comes to -/
inductive Rx where
  | ret (s : Sl) (γ : Bxs) | exc (c : Str) (p : Pl) (γ : Bxs)
abbrev Fnx := List Sl → Bxs → Option Rx

/-- the exception is as W wants it -/
def XcOk (X : Cx) (δ : List Addr) (F : Fm) (G : Hp) (W : WX) (c : Str) (p : Pl) (ρ : Row) (γ : Bxs) : Prop :=
  ∀ C, X.mg c = some (.ref C) → ∀ own G' H' σ d, Rel X.K δ F own G' H' ρ γ σ → Same G G' → PlOk X.K G' H' d p → W (.ref C) d σ H'
theorem XcOk.mono {X : Cx} {δ : List Addr} {F : Fm} {G G1 : Hp} {W : WX} {c : Str} {p : Pl} {ρ : Row} {γ : Bxs} (e : Same G G1) (h : XcOk X δ F G W c p ρ γ) : XcOk X δ F G1 W c p ρ γ :=
  fun C hC own G' H' σ d r s q => h C hC own G' H' σ d r (e.trans s) q
def ReD (X : Cx) (δ : List Addr) (F : Fm) (own : Nat → Addr) (G : Hp) (W : WX) (σ : L2.St) (Q : VK) : Re D → Prop
  | .v d ρ' γ' => ∀ v G' H', Rel X.K δ F own G' H' ρ' γ' σ → Same G G' → Rep X.K G' v d → Q v H'
  | .x c p ρ' γ' => XcOk X δ F G W c p ρ' γ'
def ReQ (X : Cx) (δ : List Addr) (F : Fm) (own : Nat → Addr) (G : Hp) (W : WX) (σ : L2.St) (Q : VK) : Re Sl → Prop
  | .v s ρ' γ' => ∀ v G' H', Rel X.K δ F own G' H' ρ' γ' σ → Same G G' → SlV X.K δ F own ρ' G' H' v s → Q v H'
  | .x c p ρ' γ' => XcOk X δ F G W c p ρ' γ'
def EndX (X : Cx) (δ : List Addr) (F : Fm) (G : Hp) (E : Ends) (W : WX) : Ox → Prop
  | .o o => EndOk X.K δ F G E o
  | .x c p ρ γ => XcOk X δ F G W c p ρ γ
theorem EndX.mono {X : Cx} {δ : List Addr} {F : Fm} {G G1 : Hp} {E : Ends} {W : WX} (e : Same G G1) : ∀ {o : Ox}, EndX X δ F G E W o → EndX X δ F G1 E W o
  | .o _, h => EndOk.mono e h
  | .x _ _ _ _, h => XcOk.mono e h

def DEx (X : Cx) (e : Expr) (f : Fex) : Prop := ∃ t : WX → TE, (∀ W, Takes X W → PE X e (t W)) ∧ ∀ (δ : List Addr) (F : Fm) (own : Nat → Addr) (G H : Hp) (ρ : Row) (γ : Bxs) (σ : L2.St) (o : Re D) (W : WX) (Q : VK),
  Rel X.K δ F own G H ρ γ σ → f ρ γ = some o → ReD X δ F own G W σ Q o → t W σ H Q
def DQx (X : Cx) (e : Expr) (f : Fqx) : Prop := ∃ t : WX → TE, (∀ W, Takes X W → PE X e (t W)) ∧ ∀ (δ : List Addr) (F : Fm) (own : Nat → Addr) (G H : Hp) (ρ : Row) (γ : Bxs) (σ : L2.St) (o : Re Sl) (W : WX) (Q : VK),
  Rel X.K δ F own G H ρ γ σ → f ρ γ = some o → ReQ X δ F own G W σ Q o → t W σ H Q
def DSx (X : Cx) (st : Stmt) (f : Fsx) : Prop := ∃ t : WX → TS, (∀ W, Takes X W → PS X st (t W)) ∧ ∀ (δ : List Addr) (F : Fm) (own : Nat → Addr) (G H : Hp) (ρ : Row) (γ : Bxs) (σ : L2.St) (o : Ox) (W : WX) (E : Ends),
  Rel X.K δ F own G H ρ γ σ → f ρ γ = some o → EndX X δ F G E W o → t W E σ H
def DBx (X : Cx) (sts : List Stmt) (f : Fsx) : Prop := ∃ t : WX → TS, (∀ W, Takes X W → PSs X sts (t W)) ∧ ∀ (δ : List Addr) (F : Fm) (own : Nat → Addr) (G H : Hp) (ρ : Row) (γ : Bxs) (σ : L2.St) (o : Ox) (W : WX) (E : Ends),
  Rel X.K δ F own G H ρ γ σ → f ρ γ = some o → EndX X δ F G E W o → t W E σ H

def eX (f : Fx) : Fex := fun ρ γ => (f ρ γ).map fun p => .v p.1 p.2.1 p.2.2
def qX (f : Fq) : Fqx := fun ρ γ => (f ρ γ).map fun p => .v p.1 p.2.1 p.2.2
def sX (f : Fst) : Fsx := fun ρ γ => (f ρ γ).map .o
def qxCall (fn : Fnx) (fa : Fa) : Fqx := fun ρ γ => (fa ρ γ).bind fun p => (fn p.1 p.2.2).map fun r => match r with
  | .ret s γ' => .v s p.2.1 γ'
  | .exc c q γ' => .x c q p.2.1 γ'
/-- data alone -/
def eXQ (f : Fqx) : Fex := fun ρ γ => (f ρ γ).bind fun r => match r with
  | .v (.d d) ρ' γ' => some (.v d ρ' γ')
  | .v _ _ _ => none
  | .x c p ρ' γ' => some (.x c p ρ' γ')
/-- a function of the value -/
def e1X (g : D → Option D) (f : Fex) : Fex := fun ρ γ => (f ρ γ).bind fun r => match r with
  | .v d ρ' γ' => (g d).map fun z => .v z ρ' γ'
  | .x c p ρ' γ' => some (.x c p ρ' γ')
def xRet (f : Fqx) : Fsx := fun ρ γ => (f ρ γ).map fun r => match r with
  | .v s _ γ' => .o (.rt s γ')
  | .x c p ρ' γ' => .x c p ρ' γ'
def xDrop (f : Fqx) : Fsx := fun ρ γ => (f ρ γ).map fun r => match r with
  | .v _ ρ' γ' => .o (.nx ρ' γ')
  | .x c p ρ' γ' => .x c p ρ' γ'
def xSet (i : Nat) (f : Fqx) : Fsx := fun ρ γ => (f ρ γ).map fun r => match r with
  | .v s ρ' γ' => .o (.nx (ρ'.set i s) γ')
  | .x c p ρ' γ' => .x c p ρ' γ'
def xSeq (f g : Fsx) : Fsx := fun ρ γ => (f ρ γ).bind fun o => match o with
  | .o (.nx ρ1 γ1) => g ρ1 γ1
  | o => some o
def xIf (c : Ft) (f g : Fsx) : Fsx := fun ρ γ => (c ρ γ).bind fun p => if p.1 = true then f p.2.1 p.2.2 else g p.2.1 p.2.2
def xFz (i : Nat) (f : Fsx) : Fsx := fun ρ γ => f (fzS i ρ) γ
def forX (g : Fg1) (fb : Fsx) : List D → Row → Bxs → Option Ox
  | [], ρ, γ => some (.o (.nx ρ γ))
  | d :: ds, ρ, γ => (g d ρ).bind fun ρ1 => (fb ρ1 γ).bind fun o => match o with
    | .o (.nx ρ2 γ2) => forX g fb ds ρ2 γ2
    | .o (.ct ρ2 γ2) => forX g fb ds ρ2 γ2
    | .o (.bk ρ2 γ2) => some (.o (.nx ρ2 γ2))
    | .o (.rt d γ2) => some (.o (.rt d γ2))
    | .x c p ρ2 γ2 => some (.x c p ρ2 γ2)
def xFor (fi : Fs) (g : Fg1) (fb : Fsx) : Fsx := fun ρ γ => (fi ρ γ).bind fun p => forX g fb p.1 p.2.1 p.2.2
def xRaise (c : Str) : Fsx := fun ρ γ => some (.x c none ρ γ)

section
variable {X : Cx} {e a b c : Expr} {es : List Expr} {st : Stmt} {sts : List Stmt} {f g : Fsx} {fe : Fex} {fq : Fqx} {ft : Ft} {pos p : Pos}
theorem dex_of {f : Fx} (h : DE X e f) : DEx X e (eX f) := by
  obtain ⟨t, pt, q⟩ := h
  refine ⟨fun _ => t, fun _ _ => pt, fun δ F own G H ρ γ σ o W Q R e k => ?_⟩
  obtain ⟨⟨d, ρ1, γ1⟩, e1, e⟩ := map_some e
  cases e
  exact q δ F own G H ρ γ σ d _ _ Q R e1 k
theorem dqx_of {f : Fq} (h : DQ X e f) : DQx X e (qX f) := by
  obtain ⟨t, pt, q⟩ := h
  refine ⟨fun _ => t, fun _ _ => pt, fun δ F own G H ρ γ σ o W Q R e k => ?_⟩
  obtain ⟨⟨d, ρ1, γ1⟩, e1, e⟩ := map_some e
  cases e
  exact q δ F own G H ρ γ σ d _ _ Q R e1 k
theorem dsx_of {f : Fst} (h : DS X st f) : DSx X st (sX f) := by
  obtain ⟨t, pt, q⟩ := h
  refine ⟨fun _ => t, fun _ _ => pt, fun δ F own G H ρ γ σ o W E R e k => ?_⟩
  obtain ⟨o1, e1, e⟩ := map_some e
  cases e
  exact q δ F own G H ρ γ σ o1 E R e1 k
theorem dbx_of {f : Fst} (h : DB X sts f) : DBx X sts (sX f) := by
  obtain ⟨t, pt, q⟩ := h
  refine ⟨fun _ => t, fun _ _ => pt, fun δ F own G H ρ γ σ o W E R e k => ?_⟩
  obtain ⟨o1, e1, e⟩ := map_some e
  cases e
  exact q δ F own G H ρ γ σ o1 E R e1 k
theorem dex_q (h : DQx X e fq) : DEx X e (eXQ fq) := by
  obtain ⟨t, pt, q⟩ := h
  refine ⟨t, pt, fun δ F own G H ρ γ σ o W Q R e k => ?_⟩
  obtain ⟨r, e1, e⟩ := bind_some e
  refine q δ F own G H ρ γ σ r W Q R e1 ?_
  cases r with
  | x c p ρ1 γ1 => cases e; exact k
  | v s ρ1 γ1 =>
    cases s with
    | d d => cases e; exact k
    | un => cases e
    | bx n => cases e
    | ow c => cases e
theorem dsx_ret (h : DQx X e fq) : DSx X (.Return (some e) pos) (xRet fq) := by
  obtain ⟨t, pt, q⟩ := h
  refine ⟨_, fun W tk => ps_ret (pt W tk), fun δ F own G H ρ γ σ o W E R e k => ?_⟩
  obtain ⟨r, e1, e⟩ := map_some e
  cases e
  refine q δ F own G H ρ γ σ r W _ R e1 ?_
  cases r with
  | x c p ρ1 γ1 => exact k
  | v s ρ1 γ1 => exact fun v G' H' R' sg r => k v G' H' R'.fin r.ret
theorem dsx_expr (h : DQx X e fq) (hs : swapsWith e none pos.line X.env = pure false := by rfl) : DSx X (.Expr e pos) (xDrop fq) := by
  obtain ⟨t, pt, q⟩ := h
  refine ⟨_, fun W tk => ps_expr (pt W tk) hs, fun δ F own G H ρ γ σ o W E R e k => ?_⟩
  obtain ⟨r, e1, e⟩ := map_some e
  cases e
  refine q δ F own G H ρ γ σ r W _ R e1 ?_
  cases r with
  | x c p ρ1 γ1 => exact k
  | v s ρ1 γ1 => exact fun v G' H' R' sg r => k own G' H' σ R' sg
theorem dsx_set {i : Nat} {x : Str} {pos' : Pos} (O : Okc X) (hi : X.N[i]? = some x) (hx : Loc X.env.scope x) (h : DQx X e fq) (hs : swapsWith e (some (.Name x pos')) pos.line X.env = pure false := by rfl) (hf : X.fn x = true ∨ X.env.scope.names.lookup x = some .local := by first | exact .inl rfl | exact .inr rfl | assumption) : DSx X (.Assign [.Name x pos'] e pos) (xSet i fq) := by
  obtain ⟨t, pt, q⟩ := h
  refine ⟨_, fun W tk => ps_set O.nd hi hx (pt W tk) hs hf, fun δ F own G H ρ γ σ o W E R e k => ?_⟩
  obtain ⟨r, e1, e⟩ := map_some e
  cases e
  refine q δ F own G H ρ γ σ r W _ R e1 ?_
  cases r with
  | x c p ρ1 γ1 => exact k
  | v s ρ1 γ1 =>
    intro v G' H' R' sg r
    obtain ⟨own', R2⟩ := R'.setV i r
    exact k own' G' H' _ R2 sg
theorem dbx_nil : DBx X [] (sX sNext) := dbx_of db_nil
theorem dbx_one (h : DSx X st f) : DBx X [st] f := by
  obtain ⟨t, pt, q⟩ := h
  exact ⟨t, fun W tk => pss_one (pt W tk), q⟩
theorem dbx_cons (h1 : DSx X st f) (h2 : DBx X sts g) : DBx X (st :: sts) (xSeq f g) := by
  obtain ⟨t, pt, q⟩ := h1
  obtain ⟨t2, p2, q2⟩ := h2
  refine ⟨_, fun W tk => pss_cons (pt W tk) (p2 W tk), fun δ F own G H ρ γ σ o W E R e k => ?_⟩
  obtain ⟨o1, e1, e⟩ := bind_some e
  refine q δ F own G H ρ γ σ o1 W _ R e1 ?_
  cases o1 with
  | x c p ρ1 γ1 => cases e; exact k
  | o o1 =>
    cases o1 with
    | nx ρ1 γ1 => exact fun own' G' H' σ' R' sg => q2 δ F own' G' H' ρ1 γ1 σ' o W E R' e (k.mono sg)
    | rt d γ1 => cases e; exact k
    | bk ρ1 γ1 => cases e; exact k
    | ct ρ1 γ1 => cases e; exact k
theorem dbx_fz (i : Nat) (h : DBx X sts f) : DBx X sts (xFz i f) := by
  obtain ⟨t, pt, q⟩ := h
  refine ⟨t, pt, fun δ F own G H ρ γ σ o W E R e k => ?_⟩
  obtain ⟨G', sg, R'⟩ := R.freeze i
  exact q δ F own G' H _ γ σ o W E R' e (k.mono sg)
theorem dsx_if {x y : List Stmt} (hc : DT X c ft) (ha : DBx X x f) (hb : DBx X y g) : DSx X (.If c x y pos) (xIf ft f g) := by
  obtain ⟨tc, pc, qc⟩ := hc
  obtain ⟨ta, pa, qa⟩ := ha
  obtain ⟨tb, pb, qb⟩ := hb
  refine ⟨_, fun W tk => ps_if pc (pa W tk) (pb W tk), fun δ F own G H ρ γ σ o W E R e k => ?_⟩
  obtain ⟨⟨z, ρ1, γ1⟩, e1, e⟩ := bind_some e
  refine qc δ F own G H ρ γ σ z _ _ _ R e1 fun G1 H1 R1 s1 => ?_
  cases z with
  | true => exact iteT (qa δ F own G1 H1 _ _ σ o W E R1 e (k.mono s1))
  | false => exact iteF (qb δ F own G1 H1 _ _ σ o W E R1 e (k.mono s1))
/-- raise C('..') -/
structure XcD (K : Fg) (mg : Str → Option Value) (x : Str) : Prop where
  ex : ∃ (C : Addr) (bmB : List Value) (B newId initId : String), ExcBaseFacts B newId initId bmB ∧ PySem.W.excIn K C bmB newId = true ∧ mg x = some (.ref C) ∧ PySem.W.keepIn K (.ref C) = true ∧
    PySem.W.subIn K (.ref C) (.type "BaseException") = some true ∧ PySem.W.typeIn K (.ref C) = some (.type "type")
theorem dsx_raise {x m : Str} {j : Nat} {p1 p2 p3 : Pos} (O : Okc X) (C : XcD X.K X.mg x) (hg : Gl X x) (hdb : (x == ("__debug__" : Str)) = false := by decide) : DSx X (.Raise (some (.Call (.Name x p1) [.Constant (.str m) j p2] [] p3)) none pos) (xRaise x) := by
  obtain ⟨C, bmB, B, newId, initId, F, q, gC, kC, sC, tC⟩ := C.ex
  refine ⟨fun W _ σ H => W (.ref C) none σ H, fun W tk => ps_raise O.calm tk (pmk_own F q gC kC (raises_own sC tC) hg hdb), fun δ F own G H ρ γ σ o W E R e k => ?_⟩
  cases e
  exact k C gC own G H σ none R (Same.refl _) trivial
theorem dsx_for {tg iter : Expr} {body : List Stmt} {fi : Fs} {g : Fg1} {ts : List Nat} {fb : Fsx} (O : Okc X) (hi : DI X tg iter fi) (hg : DG X tg ts g) (hb : DBx X body fb) (hs : ∀ x, foldedSetIterable iter X.env x = pure x := by intro _; rfl) : DSx X (.For tg iter body [] pos) (xFor fi g fb) := by
  obtain ⟨wi, pi, qi⟩ := hi
  obtain ⟨tg', pg, qg⟩ := hg
  obtain ⟨tb, pb, qb⟩ := hb
  refine ⟨_, fun W tk => ps_for O.pas O.calm pi pg (pb W tk) hs, fun δ F own G H ρ γ σ o W E R e k => ?_⟩
  obtain ⟨⟨ds, ρ1, γ1⟩, e1, e⟩ := bind_some e
  refine qi δ F own G H ρ γ σ ds _ _ _ R e1 fun J G1 H1 R1 s1 it => ?_
  have k1 := k.mono s1
  refine ⟨fun i m σ H => m = ds.length - i ∧ i ≤ ds.length ∧ ∃ own G ρ γ, Rel X.K δ F own G H ρ γ σ ∧ Same G1 G ∧ forX g fb (ds.drop i) ρ γ = some o, ⟨ds.length, by simp, Nat.zero_le _, own, G1, ρ1, γ1, R1, Same.refl _, e⟩, ?_⟩
  rintro i m σ2 H2 ⟨rfl, hi, own2, G2, ρ2, γ2, R2, s2, e2⟩
  by_cases hlt : i < ds.length
  · obtain ⟨d, hd, hdr⟩ := drop_at hlt
    rw [hdr] at e2
    obtain ⟨ρ3, e3, e2⟩ := bind_some e2
    obtain ⟨o3, e4, e5⟩ := bind_some e2
    obtain ⟨gn, gy⟩ := it.go G2 H2 s2 R2.sub i d hd
    refine Or.inr ⟨gn, fun σ' H' => ∃ own G ρ γ, Rel X.K δ F own G H' ρ γ σ' ∧ Same G1 G ∧ forX g fb (ds.drop (i + 1)) ρ γ = some o, fun σ' H' h => ⟨ds.length - (i + 1), by omega, rfl, hlt, h⟩, fun x H3 y => ?_⟩
    obtain ⟨G3, st, rx⟩ := gy x H3 y
    refine qg δ F own2 G3 H3 ρ2 γ2 σ2 x d ρ3 _ (R2.step st) rx e3 fun σ4 R4 _ => ?_
    refine qb δ F own2 G3 H3 ρ3 γ2 σ4 o3 W _ R4 e4 ?_
    cases o3 with
    | x c p ρ5 γ5 => cases e5; exact k1.mono (s2.trans st.sg)
    | o o3 =>
      cases o3 with
      | nx ρ5 γ5 => exact fun own5 G5 H5 σ5 R5 s5 => ⟨own5, G5, ρ5, γ5, R5, (s2.trans st.sg).trans s5, e5⟩
      | ct ρ5 γ5 => exact fun own5 G5 H5 σ5 R5 s5 => ⟨own5, G5, ρ5, γ5, R5, (s2.trans st.sg).trans s5, e5⟩
      | bk ρ5 γ5 =>
        cases e5
        exact fun own5 G5 H5 σ5 R5 s5 => k1 own5 G5 H5 σ5 R5 ((s2.trans st.sg).trans s5)
      | rt d5 γ5 =>
        cases e5
        exact k1
  · have ei : i = ds.length := by omega
    subst ei
    rw [List.drop_length] at e2
    cases e2
    exact Or.inl ⟨it.stop G2 H2 s2 R2.sub, k1 own2 G2 H2 σ2 R2 s2⟩
end

/-- what a call's caller asks -/
def RxOk (K : Fg) (mg : Str → Option Value) (δ : List Addr) (G H : Hp) (Q : VK) (E : XK) : Rx → Prop
  | .ret r γ' => ∀ v G' H', Fin K δ ⟨G, H⟩ γ' G' H' → RetV K δ ⟨G, H⟩ G' H' v r → Q v H'
  | .exc c p γ' => ∀ C, mg c = some (.ref C) → ∀ G' H' d, Fin K δ ⟨G, H⟩ γ' G' H' → PlOk K G' H' d p → E (.ref C) d H'
structure Kx (P : Program) (w : World) (K : Fg) (mg : Str → Option Value) (base : Heap) (k : Nat) (f : Addr) (fd : FuncData) (ps : List Str) (fn : Fnx) : Prop where
  run : ∀ (A : Around) (outer : List Env) (s : Shared) (H G : Hp) (args : Args) (us : List Value) (vs : List V) (δ : List Addr) (as : List Sl) (γ : Bxs) (r : Rx) (Q : VK) (E : XK), Room k A → A.guards = some [] → Env0 P w K mg base A outer s H →
    BindsTo s fd args (ps.zip us) → Vals vs us → vs.length = ps.length → Wd K δ γ G H → ArgOk K δ G vs as → fn as γ = some r →
    RxOk K mg δ G H Q E r → codeAny (model P w) A (.call (.ref f) args) (CR (L2.CX P w) outer P w H s Q E) s
def nX (fn : Fn) : Fnx := fun as γ => (fn as γ).map fun p => .ret p.1 p.2
/-- a def that never raises -/
theorem Kp.kx {P : Program} {w : World} {K : Fg} {mg : Str → Option Value} {base : Heap} {k : Nat} {f : Addr} {fd : FuncData} {ps : List Str} {fn : Fn} (h : Kp P w K mg base k f fd ps fn) : Kx P w K mg base k f fd ps (nX fn) := by
  refine ⟨fun A outer s H G args us vs δ as γ r Q E hr hg e0 hb rv hl wd ha e q => ?_⟩
  obtain ⟨⟨s1, γ1⟩, e1, e⟩ := map_some e
  cases e
  refine codeAny_mono (h.run A outer s H G args us vs δ as γ s1 γ1 Q hr hg e0 hb rv hl wd ha e1 q) fun z s' hq => ?_
  cases z with
  | error e => exact False.elim hq
  | ok fl => cases fl <;> exact hq
def doneX : Ox → Option Rx
  | .o (.rt s γ) => some (.ret s γ)
  | .o (.nx _ γ) => some (.ret (.d .none) γ)
  | .o _ => none
  | .x c p _ γ => some (.exc c p γ)
def fnX (n : Nat) (fb : Fsx) : Fnx := fun as γ => (fb (as ++ List.replicate (n - as.length) .un) γ).bind doneX
abbrev Cxx (P : Program) (w : World) (K : Fg) (mg : Str → Option Value) (base : Heap) (N : List Str) (qual : Str) (st : Stmt) (f : Addr) (cdv : Value) (A : Around) (outer : List Env) (s : Shared) (H : Hp) (E : XK) : Cx :=
  cxOf (L2.CX P w) P w K mg base N qual (defScope st) f cdv A outer s H E
section
variable {P : Program} {w : World} {K : Fg} {mg : Str → Option Value} {base : Heap}
theorem Kx.of {x qual : Str} {st : Stmt} {f : Addr} {fd : FuncData} {N ps : List Str} {k : Nat} {fb : Fsx} (F : Fun K x qual st f fd) (S : FnScope N ps (defScope st))
    (hb : ∀ (cdv : Value) (A : Around) (outer : List Env) (s : Shared) (H : Hp) (E : XK), Okc (Cxx P w K mg base N qual st f cdv A outer s H E) → Room (k + 1) (Cxx P w K mg base N qual st f cdv A outer s H E).A → DBx (Cxx P w K mg base N qual st f cdv A outer s H E) (defBody st) fb) (hW : WW.w = w := by rfl) :
    Kx P w K mg base (k + 2) f fd ps (fnX N.length fb) := by
  obtain ⟨oc, od, kV, doc, pm, an, cdv, ct, osl, rfl, lk, hcd⟩ := F.ex
  refine ⟨fun A outer s H G args us vs δ as γ r Q E hr hgd e0 hbn rv hl wd ha hfn hq => ?_⟩
  have lowB : ∀ b o, base.get? b = some o → s.heap.get? b = some o := fun b o z => (e0.bs b o z).1
  have KX : K.In s.heap := e0.mod.kin.keeps lowB
  have lim : s.heap.NoLimit := e0.mod.nolimit.keeps lowB
  have seen : ∀ y ∈ ps.zip us, (defScope st).names.lookup y.1 = some .local ∨ ((defScope st).names.lookup y.1 = some .cell ∧ ((cellsFrom (s.heap.objs.size + 1) (defScope st).names []).lookup y.1).isSome = true) := fun ⟨n, v⟩ hy =>
    (S.par n (List.of_mem_zip hy).1).imp id fun q => ⟨q, PySem.W.cellsFrom_some _ _ _ (Or.inl q)⟩
  have hpl : vs.length ≤ N.length := by
    have z := congrArg List.length S.pre
    rw [List.length_take] at z
    omega
  obtain ⟨o, eo, ed⟩ := bind_some hfn
  refine codeAny_call_function hr.depth (KX _ _ lk) rfl S.co S.gen rfl (PySem.W.codeRec_of KX hcd) (hbn _ _ _ _ ?_)
  refine wpAny_newFunctionEnv_cells S.kind seen fun env he s1 x => ?_
  subst he
  refine ⟨lim.keeps x.toInCall.keep, codeAny_func ?_⟩
  have O : Okc (Cxx P w K mg base N qual st f cdv A outer s H E) := ⟨(hr.mono (by omega : 2 ≤ k + 2)).deeper _, hgd, rfl, S.nd, passes_of rfl, hW⟩
  obtain ⟨t, ht, hd⟩ := hb cdv A outer s H E O (hr.deeper _)
  have I := inv_start (CX := L2.CX P w) (E := E) (mg := mg) (base := base) (P := P) (w := w) (cd := cdv) (f := f) (qual := qual) S hr.hd e0 hl rv x
  have R := rel_start (N := N) (ps := ps) wd ha hpl
  have tk : Takes (Cxx P w K mg base N qual st f cdv A outer s H E) (fun cls d _ H => E cls d H) := takes_of rfl rfl rfl rfl
  have back : ∀ {σ' : L2.St} {H' : Hp} {v : V} {u : Value} {s' : Shared}, Inv (Cxx P w K mg base N qual st f cdv A outer s H E) [] σ' H' s' → RelV v u → Q v H' → CE outer P w H s Q u s' :=
    fun {σ' H' v u s'} J rv q => ⟨v, H', J.os, J.bare, J.base, J.hok, rv, q⟩
  refine wpAny_mono ((ht _ tk).run [] s1 (L2.start N vs) H { nx := fun _ H' => Q .non H', rt := Q } I (hd δ ⟨G, H⟩ _ G H _ γ _ o _ _ R eo ?_)) (fun fl s' hs => ?_) fun e s' hs => hs
  · cases o with
    | x c p ρ1 γ1 =>
      cases ed
      exact fun C hC own' G' H' σ' d R' _ hp => hq C hC G' H' d R'.fin hp
    | o o =>
      cases o with
      | nx ρ1 γ1 =>
        cases ed
        exact fun own' G' H' σ' R' _ => hq .non G' H' R'.fin Rep.non
      | rt s1 γ1 =>
        cases ed
        exact fun v G' H' fin rv => hq v G' H' fin rv
      | bk ρ1 γ1 => cases ed
      | ct ρ1 γ1 => cases ed
  · cases fl with
    | ret u =>
      obtain ⟨v, σ', H', J, rv, q⟩ := hs
      exact back J rv q
    | next =>
      obtain ⟨σ', H', J, q⟩ := hs
      exact back (v := V.non) (u := Value.none) J rfl q
    | brk => obtain ⟨_, _, _, q⟩ := hs; exact False.elim q
    | cont => obtain ⟨_, _, _, q⟩ := hs; exact False.elim q
end

section
variable {X : Cx} {W : WX} {k : Nat} {f : Addr} {fd : FuncData} {ps : List Str} {fn : Fnx} {fr : Fa} {x : Str} {e : Expr} {es : List Expr} {pos p : Pos}
theorem run_kx {pins : List (Addr × Obj)} {σ : L2.St} {H G : Hp} {s : Shared} {Q : VK} {us : List Value} {vs : List V} {δ : List Addr} {as : List Sl} {γ : Bxs} {r : Rx} (O : Okc X) (tk : Takes X W) (F : Kx X.prog X.w X.K X.mg X.base k f fd ps fn) (hr : Room k X.A) (hb : Binds X.K fd ps []) (hl : vs.length = ps.length)
    (I : Inv X pins σ H s) (rv : Vals vs us) (wd : Wd X.K δ γ G H) (ha : ArgOk X.K δ G vs as) (e : fn as γ = some r) (h : RxOk X.K X.mg δ G H Q (WE W σ) r) :
    wpAny (model X.prog X.w) X.A (call (.ref f) us) (EP X pins σ Q) X.xe s := by
  have hu : (us ++ []).length = ps.length := by rw [List.append_nil, ← rv.length]; exact hl
  have bt := hb s us I.kIn hu
  rw [List.append_nil] at bt
  refine wpAny_call (codeAny_mono (F.run X.A X.stack s H G ⟨us, []⟩ us vs δ as γ r Q (WE W σ) hr O.hg I.env0 bt rv hl wd ha e h) fun z s' hq => ?_)
  cases z with
  | error e => exact passAt tk σ pins H s e s' I hq
  | ok fl =>
    cases fl with
    | ret u => exact I.after hq
    | next => exact False.elim hq
    | brk => exact False.elim hq
    | cont => exact False.elim hq
theorem dqx_call (O : Okc X) (F : Kx X.prog X.w X.K X.mg X.base k f fd ps fn) (hr : Room k X.A) (hg : Gl X x) (hm : X.mg x = some (.ref f)) (hk : PySem.W.keepIn X.K (.ref f) = true) (hb : Binds X.K fd ps []) (ha : DAr X (e :: es) fr)
    (hln : (e :: es).length = ps.length := by rfl) (hdb : (x == ("__debug__" : Str)) = false := by decide) (he : starEach (e :: es) X.env = (false, eval e X.env) :: starEach es X.env := by rfl) (hpl : (backTo pos (starEach es X.env)).any (·.1) = false := by rfl) : DQx X (.Call (.Name x p) (e :: es) [] pos) (qxCall fn fr) := by
  obtain ⟨la, ta, pa, qa⟩ := ha
  refine ⟨fun W σ H Q => ta σ H fun vs H1 => ∃ (δ : List Addr) (G : Hp) (as : List Sl) (γ : Bxs) (r : Rx), vs.length = ps.length ∧ Wd X.K δ γ G H1 ∧ ArgOk X.K δ G vs as ∧ fn as γ = some r ∧ RxOk X.K X.mg δ G H1 Q (WE W σ) r, fun W tk => ⟨fun pins s σ H Q I h => ?_⟩, fun δ F' own G H ρ γ σ o W Q R e k => ?_⟩
  · refine wpAny_Call_Name_kw (ld_glob I hg hm ?_ hdb)
    refine PySem.W.callWith_K (h₀ := X.base) I.ok.mod.kin hk (thn (pa.run pos pins s σ H _ I h) fun us s1 hh => ?_) he hpl
    obtain ⟨vs, H1, I1, r, δ, G, as, γ, rr, hl, wd, hA, hf, q⟩ := hh
    exact ⟨I1.kIn, run_kx O tk F hr hb hl I1 r wd hA hf q⟩
  · obtain ⟨⟨as, ρ1, γ1⟩, e1, e⟩ := bind_some e
    obtain ⟨r, e2, e⟩ := map_some e
    cases e
    refine qa δ F' own G H ρ γ σ as _ _ _ R e1 fun vs G1 H1 R1 s1 r1 => ⟨δ, G1, as, _, r, by rw [r1.length, la _ _ _ _ _ e1]; exact hln, R1.wd, r1, e2, ?_⟩
    cases r with
    | ret s γ2 => exact fun v G' H' fin rv => k v G' H' (R1.called fin) (s1.trans fin.g0) (R1.gave (fun j xs hj => ⟨xs, hj⟩) rv)
    | exc c q γ2 => exact fun C hC G' H' d fin hp => k C hC own G' H' σ d (R1.called fin) (s1.trans fin.g0) hp
end
end DL

namespace DL
open PySem PySem.Spec PyProof.Rows L2 LamX
variable [WW]

/-- a table has grown, a code object may be new, all else is as it was -/
structure Grew (P : Addr) (H H1 : Hp) : Prop where
  oth : ∀ b o, b ≠ P → H b = some o → H1 b = some o
  was : ∃ ps, H P = some (.tbl ps)
  now : ∃ ps, H1 P = some (.tbl ps)
  tabs : ∀ p ∈ WW.T, TabS H1 p.1 p.2
theorem Grew.kpt {P : Addr} {H H1 : Hp} (g : Grew P H H1) {b : Addr} {o : HO} (h : Kpt o (H b)) : Kpt o (H1 b) := by
  by_cases e : b = P
  · subst e
    obtain ⟨ps, h1⟩ := g.was
    obtain ⟨qs, h2⟩ := g.now
    rcases h with h | ⟨rs, _, h, _⟩
    · rw [h1] at h
      cases h
      exact .inr ⟨_, _, rfl, h2⟩
    · exact .inr ⟨_, _, h, h2⟩
  · exact h.sh fun u z => g.oth b u e z
section
variable {K : Fg} {δ : List Addr} {F : Fm} {own : Nat → Addr} {G H H1 : Hp} {ρ : Row} {γ : Bxs} {σ : L2.St} {P : Addr}
theorem Grew.at {q : Str} (g : Grew P H H1) (w : TbOk G H) (hP : (P, q) ∈ WW.T) {b : Addr} {u : HO} (n : ∀ ps, H b ≠ some (.tbl ps)) (h : H b = some u) : H1 b = some u :=
  g.oth b u (fun z => by
    obtain ⟨ps, h1⟩ := g.was
    exact n ps (by rw [z]; exact h1)) h
theorem Wd.grew {q : Str} (w : Wd K δ γ G H) (g : Grew P H H1) (hP : (P, q) ∈ WW.T) : Wd K δ γ G H1 := by
  have gP : G P = none := (w.tb (P, q) hP).2
  refine ⟨fun b u e => g.oth b u (fun z => by rw [z, gP] at e; cases e) (w.sub b u e), w.len, w.nd, w.out, fun n c hc => ?_, fun p hp => ⟨g.tabs p hp, (w.tb p hp).2⟩⟩
  obtain ⟨a, vs, h1, h2, h3⟩ := w.cell n c hc
  exact ⟨a, vs, h1, g.at w.tb hP (fun ps z => by rw [h2] at z; cases z) h2, h3⟩
theorem Rel.grew {q : Str} (r : Rel K δ F own G H ρ γ σ) (g : Grew P H H1) (hP : (P, q) ∈ WW.T) : Rel K δ F own G H1 ρ γ σ := by
  refine ⟨r.wd.grew g hP, r.g0, r.q0, fun b o h1 h2 h3 => g.kpt (r.h0 b o h1 h2 h3), r.len, fun i s hi => ?_, r.ownd, r.inj⟩
  have q1 := r.slot i s hi
  cases s with
  | un => trivial
  | d x => exact q1
  | bx n => exact q1
  | ow c => exact ⟨q1.1, q1.2.at (Same.refl _) fun u hu => g.at r.wd.tb hP q1.2.not.1 hu⟩
/-- one's own things are out of sight -/
def hideO : Row → Row := List.map fun s => match s with
  | .ow _ => .un
  | s => s
theorem hideO_at {i : Nat} {s : Sl} (h : (hideO ρ)[i]? = some s) : s = .un ∨ (ρ[i]? = some s ∧ ∀ c, s ≠ .ow c) := by
  unfold hideO at h
  rw [List.getElem?_map] at h
  cases e : ρ[i]? with
  | none => rw [e] at h; cases h
  | some s0 =>
    rw [e] at h
    cases s0 with
    | ow c => cases h; exact .inl rfl
    | un => cases h; exact .inl rfl
    | d x => cases h; exact .inr ⟨rfl, fun c z => nomatch z⟩
    | bx n => cases h; exact .inr ⟨rfl, fun c z => nomatch z⟩
/-- the state as a new frame sees it -/
theorem Rel.hide (r : Rel K δ F own G H ρ γ σ) : Rel K δ ⟨G, H⟩ own G H (hideO ρ) γ σ := by
  refine ⟨r.wd, Same.refl _, fun b _ h => h, fun b o h _ _ => .inl h, by unfold hideO; rw [List.length_map]; exact r.len, fun i s hi => ?_, fun i c hi => ?_, fun i j c d hi => ?_⟩
  · rcases hideO_at hi with z | ⟨z, _⟩
    · subst z; trivial
    · exact r.slot i s z
  · rcases hideO_at hi with z | ⟨_, z⟩
    · cases z
    · exact absurd rfl (z c)
  · rcases hideO_at hi with z | ⟨_, z⟩
    · cases z
    · exact absurd rfl (z c)
theorem hideO_none {i : Nat} {c : OC} : (hideO ρ)[i]? ≠ some (.ow c) := fun h => by
  rcases hideO_at h with z | ⟨_, z⟩
  · cases z
  · exact z c rfl
theorem Rel.anew (r : Rel K δ F own G H ρ γ σ) (n : ∀ (i : Nat) (c : OC), ρ[i]? ≠ some (Sl.ow c)) : Rel K δ ⟨G, H⟩ own G H ρ γ σ :=
  ⟨r.wd, Same.refl _, fun b _ h => h, fun b o h _ _ => .inl h, r.len, r.slot, fun i c hi => absurd hi (n i c), fun i j c d hi => absurd hi (n i c)⟩
end
theorem Fin.trans {K : Fg} {δ : List Addr} {γ γ1 : Bxs} {G H G1 H1 G2 H2 : Hp} (a : Fin K δ ⟨G, H⟩ γ G1 H1) (b : Fin K δ ⟨G1, H1⟩ γ1 G2 H2) : Fin K δ ⟨G, H⟩ γ1 G2 H2 := by
  have a0 : Same G G1 := a.g0
  refine ⟨b.wd, a0.trans b.g0, fun c h1 h2 => ?_, fun c o h1 h2 h3 => (a.h0 c o h1 h2 h3).trans fun u hu => b.h0 c u hu (a.q0 c (by rw [h1]; intro z; cases z) h2) h3⟩
  by_cases hd : c ∈ δ
  · exact b.wd.out c hd
  · cases q : H c with
    | none => exact absurd q h1
    | some o => exact b.q0 c (a.h0 c o q h2 hd).live (a.q0 c h1 h2)
theorem Un.into {fs fs' : List Addr} {H H1 H2 : Hp} {h h1 h2 : Heap} (a : Un fs [] H H1 h h1) (b : Un fs' [] H1 H2 h1 h2) (hf : ∀ c ∈ fs', c ∈ fs ∨ h.get? c = none) : Un fs [] H H2 h h2 where
  keep c o e n hc _ := b.keep c o (a.keep c o e n hc (fun z => nomatch z)) (a.free c o e n (fun z => nomatch z)) (fun z => by
    rcases hf c z with z | z
    · exact hc z
    · rw [e] at z; cases z) (fun z => nomatch z)
  slot c o e n hc _ := by
    obtain ⟨sl, e1⟩ := a.slot c o e n hc (fun z => nomatch z)
    obtain ⟨sl2, e2⟩ := b.any e1 (a.free c o e n (fun z => nomatch z)) (fun z => nomatch z)
    exact ⟨sl2, e2⟩
  free c o e n _ := by
    obtain ⟨o1, e1⟩ := a.there c o e (fun z => nomatch z)
    exact b.free c o1 e1 (a.free c o e n (fun z => nomatch z)) (fun z => nomatch z)
  there c o e _ := by
    obtain ⟨o1, e1⟩ := a.there c o e (fun z => nomatch z)
    exact b.there c o1 e1 (fun z => nomatch z)
  tups c xs e := b.tups c xs (a.tups c xs e)
  frzs c o u e := b.frzs c o u (a.frzs c o u e)
  tbls c ps e := by
    obtain ⟨m, e1⟩ := a.tbls c ps e
    obtain ⟨m2, e2⟩ := b.tbls c _ e1
    exact ⟨m ++ m2, by rw [e2, Array.append_assoc]⟩

/-- a thunk at f, as it stood over the frames fs in the heap h: called later, it comes to o -/
def Thk (P : Program) (w : World) (K : Fg) (mg : Str → Option Value) (base : Heap) (k : Nat) (f : Addr) (δ : List Addr) (γ : Bxs) (fs : List Addr) (G H : Hp) (h : Heap) (o : Rx) : Prop :=
  ∀ (A : Around) (outer : List Env) (s1 : Shared) (G1 H1 : Hp) (Q : VK) (E : XK), Room k A → A.guards = some [] → Env0 P w K mg base A outer s1 H1 → Un fs [] H H1 h s1.heap → Fin K δ ⟨G, H⟩ γ G1 H1 →
    RxOk K mg δ G1 H1 Q E o → codeAny (model P w) A (.call (.ref f) ⟨[], []⟩) (CR (L2.CX P w) outer P w H1 s1 Q E) s1
theorem Thk.nest {P : Program} {w : World} {K : Fg} {mg : Str → Option Value} {base : Heap} {k : Nat} {f : Addr} {δ : List Addr} {γ : Bxs} {fs fs' : List Addr} {G H G' H' : Hp} {h h' : Heap} {o : Rx} (t : Thk P w K mg base k f δ γ fs G H h o)
    (u : Un fs [] H H' h h') (fin : Fin K δ ⟨G, H⟩ γ G' H') (hf : ∀ c ∈ fs', c ∈ fs ∨ h.get? c = none) : Thk P w K mg base k f δ γ fs' G' H' h' o :=
  fun A outer s1 G1 H1 Q E hr hg e0 un fin1 q => t A outer s1 G1 H1 Q E hr hg e0 (Un.into u un hf) (fin.trans fin1) q
/-- there is a def at f -/
structure FnHere (fs : List Addr) (H : Hp) (h : Heap) (f : Addr) : Prop where
  at_ : PySem.W.FnAt f h
  n : H f = none
  fr : f ∉ fs
/-- a def that takes a thunk and never raises: hh tells what it makes of what the thunk comes to -/
structure Kl (P : Program) (w : World) (K : Fg) (mg : Str → Option Value) (base : Heap) (k j : Nat) (g : Addr) (fd : FuncData) (a : Str) (hh : Rx → Option (D × Bxs)) : Prop where
  run : ∀ (A : Around) (outer : List Env) (s : Shared) (H G : Hp) (args : Args) (f : Addr) (δ : List Addr) (γ : Bxs) (o : Rx) (z : D) (γ' : Bxs) (Q : VK), Room k A → A.guards = some [] → Env0 P w K mg base A outer s H →
    BindsTo s fd args ([a].zip [.ref f]) → FnHere (frs outer) H s.heap f → Wd K δ γ G H → Thk P w K mg base j f δ γ (frs outer) G H s.heap o → hh o = some (z, γ') →
    (∀ v G' H', Fin K δ ⟨G, H⟩ γ' G' H' → Rep K G' v z → Q v H') → codeAny (model P w) A (.call (.ref g) args) (CR CX0 outer P w H s Q E0) s

section
variable {X : Cx} {pins : List (Addr × Obj)} {σ : L2.St} {H : Hp} {s : Shared}
theorem lam_make3 {c P : Addr} {params : Arguments} {body : Expr} {scope : Scope} {pos : Pos} {E : Value → Shared → Prop} {Q : Value → Shared → Prop} (I : Inv X pins σ H s)
    (TB : TabB X.base X.mg c P) (hcode : X.env.code = .ref c) (hm : (P, X.env.qual ++ "<lambda>") ∈ WW.T) (hu : ∀ p ∈ WW.T, p.1 = P → p.2 = X.env.qual ++ "<lambda>") (hT : ∀ p ∈ WW.T, TabS H p.1 p.2)
    (hdef : defaultsOf params X.env = ([], [])) (hfree : ∀ y ∈ scope.names, y.2 = .free → ∃ c, X.env.cells.lookup y.1 = some c)
    (h : ∀ (f c' : Addr) (pm ctv : Value) (H1 : Hp) (s' : Shared), Inv X pins σ H1 s' → Grew P H H1 →
      s'.heap.get? f = some (PySem.W.kla_obj "<lambda>" (X.env.qual ++ "<lambda>") params body scope (cloFrom X.env.cells scope.names []) pm c' ctv) → H1 f = none → f ∉ frs X.stack →
      H1 c' = some (CodeO c' (X.env.qual ++ "<lambda>")) → Q (.ref f) s') : wpAny (model X.prog X.w) X.A (eval (.Lambda params body scope pos) X.env) Q E s := by
  obtain ⟨ps, hP, ht, ha⟩ := hT _ hm
  refine PySem.W.kla_eval hdef ?_
  have tableHere : s.heap.get? P = some { cls := .none, data := .fields ps } := I.hok P _ hP
  have fresh : ∀ f, s.heap.objs.size ≤ f → f ∉ frs X.stack := fun f hf z => by
    rcases List.mem_cons.mp (I.stkSub _ z) with e | e
    · have lt := I.lt
      rw [← e] at lt
      exact absurd (Nat.lt_of_lt_of_le lt hf) (Nat.lt_irrefl _)
    · exact I.nofs hf e
  cases hc : codeAmong pos ps.toList with
  | some cv =>
    obtain ⟨c', e, hco⟩ := ha pos cv hc
    subst e
    refine PySem.W.kla_makeFunctionHit (mg := X.mg) (c := c) (P := P) (ps := ps) (closure_ok hfree) I.ok.glob (I.mod.glob.keeps I.bk) hcode (TB.code.keeps I.bk) tableHere ht hc (TB.bm.keeps I.bk) fun ctv h' tk hx hsz => ?_
    exact h h'.objs.size c' ((X.mg "__name__").getD .none) ctv H _ (I.kept fun b o e => Heap.get?_push_of_some _ (hx b o e)) ⟨fun b o _ e => e, ⟨ps, hP⟩, ⟨ps, hP⟩, hT⟩ (Heap.get?_push_size _ rfl) (I.hok.fresh hsz) (fresh _ hsz) hco
  | none =>
    refine PySem.W.kla_makeFunction (mg := X.mg) (c := c) (P := P) (ps := ps) (closure_ok hfree) I.ok.glob (I.mod.glob.keeps I.bk) hcode (TB.code.keeps I.bk) tableHere ht hc TB.gP (TB.bm.keeps I.bk) fun c' ctv h' tk hx hge hlt hrec htb => ?_
    obtain ⟨c2, oc, vs, t, e2, hoc, hd, hv⟩ := hrec
    cases e2
    have nC : H c' = none := I.hok.fresh hge
    have bigger : s.heap.objs.size ≤ h'.objs.size := Nat.le_trans hge (Nat.le_of_lt hlt)
    have J := inv_table (t' := tk) (more := #[rawInt pos.line, rawInt pos.col, .ref c']) (h' := h'.push (PySem.W.kla_obj "<lambda>" (X.env.qual ++ "<lambda>") params body scope (cloFrom X.env.cells scope.names []) ((X.mg "__name__").getD .none) c' ctv))
      I hP (fun b o hb e => Heap.get?_push_of_some _ (hx b o hb e)) (Heap.get?_push_of_some _ htb) hge ⟨oc, vs, t, Heap.get?_push_of_some _ hoc, hd, hv⟩
    have oth : ∀ b o, b ≠ P → H b = some o → upd (upd H P (.tbl (ps ++ #[rawInt pos.line, rawInt pos.col, .ref c']))) c' (CodeO c' (X.env.qual ++ "<lambda>")) b = some o := fun b o hb e => by
      rw [upd_ne (ne_of_none e nC), upd_ne hb]; exact e
    have atP : upd (upd H P (.tbl (ps ++ #[rawInt pos.line, rawInt pos.col, .ref c']))) c' (CodeO c' (X.env.qual ++ "<lambda>")) P = some (.tbl (ps ++ #[rawInt pos.line, rawInt pos.col, .ref c'])) := by
      rw [upd_ne (ne_of_none hP nC), upd_same]
    have codes : ∀ {b : Addr} {q : Str}, H b = some (CodeO b q) → b ≠ P := fun {b q} e z => by
      rw [z, hP] at e
      exact codeO_ne ps (Option.some.inj e).symm
    have split : (ps ++ #[rawInt pos.line, rawInt pos.col, Value.ref c']).toList = ps.toList ++ [rawInt pos.line, rawInt pos.col, .ref c'] := by simp
    refine h h'.objs.size c' ((X.mg "__name__").getD .none) ctv _ _ J ⟨oth, ⟨ps, hP⟩, ⟨_, atP⟩, fun p hp => ?_⟩ (Heap.get?_push_size _ rfl) ?_ (fresh _ bigger) upd_same
    · by_cases hb : p.1 = P
      · rw [hu p hp hb, hb]
        refine ⟨_, atP, by rw [split]; exact PySem.TriplesOk_snoc _ _ _ _ ht, fun p' cv hcv => ?_⟩
        rw [split] at hcv
        rcases among_app _ ht hcv with z | z
        · obtain ⟨c0, e1, e2⟩ := ha p' cv z
          exact ⟨c0, e1, oth _ _ (codes e2) e2⟩
        · exact ⟨c', z, upd_same⟩
      · obtain ⟨ps', a1, a2, a3⟩ := hT p hp
        refine ⟨ps', oth _ _ hb a1, a2, fun p' cv hcv => ?_⟩
        obtain ⟨c0, e1, e2⟩ := a3 p' cv hcv
        exact ⟨c0, e1, oth _ _ (codes e2) e2⟩
    · have n1 : h'.objs.size ≠ c' := Nat.ne_of_gt hlt
      have n2 : h'.objs.size ≠ P := Nat.ne_of_gt (Nat.lt_of_lt_of_le (Heap.lt_size tableHere) bigger)
      rw [upd_ne n1, upd_ne n2]
      exact I.hok.fresh bigger

def toRx : Re D → Rx
  | .v d _ γ => .ret (.d d) γ
  | .x c p _ γ => .exc c p γ
/-- the lambda, made, is a thunk -/
theorem thunk_of {f c' : Addr} {pm ctv : Value} {params : Arguments} {body : Expr} {scope : Scope} {k : Nat} {fx : Fex} {δ : List Addr} {own : Nat → Addr} {G : Hp} {ρ : Row} {γ : Bxs} {o : Re D} (O : Okc X) (I : Inv X pins σ H s) (L : LamS X.env.scope scope)
    (hf : s.heap.get? f = some (PySem.W.kla_obj "<lambda>" (X.env.qual ++ "<lambda>") params body scope (cloFrom X.env.cells scope.names []) pm c' ctv)) (hfn : H f = none) (hfr : f ∉ frs X.stack)
    (hc : H c' = some (CodeO c' (X.env.qual ++ "<lambda>"))) (hbind : bindArgs (PySem.W.kla_fn "<lambda>" (X.env.qual ++ "<lambda>") params body scope (cloFrom X.env.cells scope.names []) pm (.ref c') ctv) ⟨[], []⟩ = pure [])
    (hbody : ∀ (A : Around) (outer : List Env) (s : Shared) (H : Hp) (E : XK), Okc (lamCx X A outer s H E scope f c') → Room k (lamCx X A outer s H E scope f c').A → DEx (lamCx X A outer s H E scope f c') body fx)
    (R : Rel X.K δ ⟨G, H⟩ own G H ρ γ σ) (no : ∀ (i : Nat) (c : OC), ρ[i]? ≠ some (Sl.ow c)) (e : fx ρ γ = some o) : Thk X.prog X.w X.K X.mg X.base (k + 2) f δ γ (frs X.stack) G H s.heap (toRx o) := by
  intro A outer s1 G1 H1 Q E hr hg e0 un fin q
  have hf1 : s1.heap.get? f = some (PySem.W.kla_obj "<lambda>" (X.env.qual ++ "<lambda>") params body scope (cloFrom X.env.cells scope.names []) pm c' ctv) := un.keep f _ hf hfn hfr (fun z => nomatch z)
  have hc1 : H1 c' = some (CodeO c' (X.env.qual ++ "<lambda>")) := by
    cases g : G c' with
    | some u =>
      have h1 := R.wd.sub _ _ g
      rw [hc] at h1
      cases h1
      exact fin.wd.sub _ _ (fin.g0 _ _ g)
    | none =>
      refine (fin.h0 c' _ hc g fun z => ?_).eq codeO_ne
      obtain ⟨n, hn⟩ := List.getElem?_of_mem z
      obtain ⟨a, vs, h1, h2, _⟩ := R.wd.cell n (γ[n]'(by rw [← R.wd.len]; exact (List.getElem?_eq_some_iff.mp hn).1)) (by simp)
      rw [hn] at h1
      cases h1
      rw [hc] at h2
      unfold CodeO at h2
      cases h2
  obtain ⟨⟨oc, vs, t, hoc, hdc, hvc⟩, _, _⟩ := e0.hok c' _ hc1
  refine PySem.W.kla_callFunE hr.depth hf1 rfl L.co L.gen rfl ⟨c', oc, vs, t, rfl, hoc, hdc, hvc⟩ ?_
  rw [hbind]
  have lim : s1.heap.NoLimit := e0.mod.nolimit.keeps fun b o z => (e0.bs b o z).1
  refine wpAny_pure (wpAny_newFunctionEnv (fun y hy => (L.own y hy).2) (fun y hy => absurd hy (by simp)) (fun h₁ hns hsb => ⟨lim.fresh _ hsb, ?_⟩) L.kind)
  show codeAny _ _ (.expr body (lamEnv X scope s1.heap.objs.size f c')) _ _
  have kp : ∀ b o, s1.heap.get? b = some o → h₁.get? b = some o := fun b o z => hsb.extBut b o (Nat.ne_of_lt (Heap.lt_size z)) (Heap.get?_push_of_some _ z)
  have J : Inv (lamCx X A outer s1 H1 E scope f c') [] σ H1 { s1 with heap := h₁, toks := s1.toks + ([] : List (Str × Value)).length } := lam_start2 I L e0 hr.hd un hns kp
  have O' : Okc (lamCx X A outer s1 H1 E scope f c') := ⟨(hr.mono (by omega : 2 ≤ k + 2)).deeper _, hg, rfl, O.nd, passes_of rfl, O.ww⟩
  have tk : Takes (lamCx X A outer s1 H1 E scope f c') (fun cls d _ H => E cls d H) := takes_of rfl rfl rfl rfl
  obtain ⟨tt, pt, qt⟩ := hbody A outer s1 H1 E O' ((hr.mono (by omega : k + 1 ≤ k + 2)).deeper _)
  have R1 : Rel X.K δ ⟨G1, H1⟩ own G1 H1 ρ γ σ := (R.called fin).anew no
  refine PySem.W.kla_codeExpr (wpAny_mono ((pt _ tk).run [] _ _ H1 Q J (qt δ ⟨G1, H1⟩ own G1 H1 ρ γ σ o _ Q R1 e ?_)) (fun v s' hq => ?_) fun e s' hq => hq)
  · cases o with
    | v d ρ2 γ2 => exact fun v G' H' R' _ rv => q v G' H' R'.fin rv
    | x c p ρ2 γ2 => exact fun C hC own' G' H' σ' d R' _ hp => q C hC G' H' d R'.fin hp
  · obtain ⟨w', H', J', rv, q'⟩ := hq
    exact ⟨w', H', J'.os, J'.bare, J'.base, J'.hok, rv, q'⟩

def fLam (hh : Rx → Option (D × Bxs)) (fx : Fex) : Fx := fun ρ γ => (fx (hideO ρ) γ).bind fun o => (hh (toRx o)).map fun z => (z.1, ρ, z.2)
theorem de_lam {hh : Rx → Option (D × Bxs)} {fx : Fex} {x a : Str} {g c P : Addr} {kk k : Nat} {fd : FuncData} {params : Arguments} {body : Expr} {scope : Scope} {p lpos pos : Pos} (O : Okc X) (F : Kl X.prog X.w X.K X.mg X.base kk (k + 2) g fd a hh) (hg : Gl X x) (hm : X.mg x = some (.ref g))
    (hk : PySem.W.keepIn X.K (.ref g) = true) (hb : Binds X.K fd [a] []) (TB : TabB X.base X.mg c P) (hcode : X.env.code = .ref c) (hmT : (P, X.env.qual ++ "<lambda>") ∈ WW.T) (hu : ∀ p ∈ WW.T, p.1 = P → p.2 = X.env.qual ++ "<lambda>") (hr : Room kk X.A)
    (L : LamS X.env.scope scope) (hdef : defaultsOf params X.env = ([], []))
    (hbind : ∀ (q : Str) (cl : List (Str × Addr)) (pm cv ctv : Value), bindArgs (PySem.W.kla_fn "<lambda>" q params body scope cl pm cv ctv) ⟨[], []⟩ = pure [])
    (hbody : ∀ (A : Around) (outer : List Env) (s : Shared) (H : Hp) (E : XK) (f c' : Addr), Okc (lamCx X A outer s H E scope f c') → Room k (lamCx X A outer s H E scope f c').A → DEx (lamCx X A outer s H E scope f c') body fx)
    (hdb : (x == ("__debug__" : Str)) = false := by decide) : DE X (.Call (.Name x p) [.Lambda params body scope lpos] [] pos) (fLam hh fx) := by
  refine ⟨fun σ H Q => ∃ (δ : List Addr) (own : Nat → Addr) (G : Hp) (ρ : Row) (γ : Bxs) (o : Re D) (z : D) (γ' : Bxs), Rel X.K δ ⟨G, H⟩ own G H ρ γ σ ∧ (∀ (i : Nat) (c : OC), ρ[i]? ≠ some (Sl.ow c)) ∧ fx ρ γ = some o ∧ hh (toRx o) = some (z, γ') ∧
      ∀ H1, Grew P H H1 → ∀ v G' H', Fin X.K δ ⟨G, H1⟩ γ' G' H' → Rep X.K G' v z → Q v H', ⟨fun pins s σ H Q I h => ?_⟩, fun δ F' own G H ρ γ σ d ρ' γ' Q R e kk => ?_⟩
  · obtain ⟨δ, own, G, ρ, γ, o, z, γ', R, no, ex, ez, h⟩ := h
    refine wpAny_Call_Name_kw (ld_glob I hg hm ?_ hdb)
    refine PySem.W.callWith_K (h₀ := X.base) I.ok.mod.kin hk ?_ (by rfl) (by rfl)
    show wpAny _ _ (spliced ((false, eval (.Lambda params body scope lpos) X.env) :: backTo pos (starEach [] X.env))) _ _ s
    refine Calls.spliced_cons (lam_make3 I TB hcode hmT hu (fun p hp => (R.wd.tb p hp).1) hdef (L.has I.ok) fun f c' pm ctv H1 s1 I1 gr hf hfn hfr hco => ?_)
    refine Calls.spliced_nil ⟨I1.kIn, ?_⟩
    have R1 : Rel X.K δ ⟨G, H1⟩ own G H1 ρ γ σ := (R.grew gr hmT).anew no
    have th := thunk_of (k := k) O I1 L hf hfn hfr hco (hbind _ _ _ _ _) (fun A outer s H E o1 o2 => hbody A outer s H E f c' o1 o2) R1 no ex
    have bt := hb s1 [.ref f] I1.kIn rfl
    refine wpAny_call (codeAny_mono (F.run X.A X.stack s1 H1 G ⟨[.ref f], []⟩ f δ γ (toRx o) z γ' Q hr O.hg I1.env0 bt ⟨⟨_, _, _, _, hf⟩, hfn, hfr⟩ R1.wd th ez (h H1 gr)) fun r s2 hq => ?_)
    cases r with
    | error e => exact False.elim hq
    | ok fl =>
      cases fl with
      | ret u => exact I1.after hq
      | next => exact False.elim hq
      | brk => exact False.elim hq
      | cont => exact False.elim hq
  · obtain ⟨o, e1, e⟩ := bind_some e
    obtain ⟨⟨z, γ2⟩, e2, e⟩ := map_some e
    cases e
    refine ⟨δ, own, G, hideO ρ, γ, o, z, γ2, R.hide, fun i c => hideO_none, e1, e2, fun H1 gr v G' H' fin rv => ?_⟩
    exact kk v G' H' ((R.grew gr hmT).called fin) fin.g0 rv
end
end DL

namespace DL
open PySem PySem.Spec PyProof.Rows L2 LamX
variable [WW]

/-- a clause: the class, the name's slot, the suite's reading -/
abbrev Cls := Value × Option Nat × (Addr → Value → Option Addr → TS)
def seenBy (i : Option Nat) (a : Addr) (σ : L2.St) : L2.St := match i with
  | none => σ
  | some i => σ.set i (some (.ref a))
def goneBy (i : Option Nat) (σ : L2.St) : L2.St := match i with
  | none => σ
  | some i => σ.set i none
def endsBy (i : Option Nat) (D : Ends) : Ends := { nx := fun σ H => D.nx (goneBy i σ) H, rt := D.rt, bk := fun σ H => D.bk (goneBy i σ) H, ct := fun σ H => D.ct (goneBy i σ) H }
/-- what the clauses wish of an exception of the body -/
def wAll (K : Fg) (Wout : WX) (D : Ends) : List Cls → WX
  | [] => Wout
  | (c, i, ts) :: r => fun cls d σ H => ∃ b, PySem.W.exmOne K cls c = some b ∧ (b = true → ∀ a, H a = none → ts a cls d (endsBy i D) (seenBy i a σ) H) ∧ (b = false → wAll K Wout D r cls d σ H)
inductive HdsA (X : Cx) : List ExceptHandler → List Cls → Prop
  | nil : HdsA X [] []
  | plain {x : Str} {c : Value} {ts : Addr → Value → Option Addr → TS} {b₀ : Stmt} {suite : List Stmt} {np pos' : Pos} {hds : List ExceptHandler} {l : List Cls} (hc : Names X x c)
      (hsu : ∀ (a : Addr) (oe : Obj) (cls : Value) (d : Option Addr) (pn : List (Addr × Obj)), Zc cls d oe → (∃ vs, oe.data = .fields vs) → PSs (X.suite a ((a, oe) :: pn)) (b₀ :: suite) (ts a cls d)) (r : HdsA X hds l) :
      HdsA X (.ExceptHandler (some (.Name x np)) none (b₀ :: suite) pos' :: hds) ((c, none, ts) :: l)
  | named {x n : Str} {i : Nat} {c : Value} {ts : Addr → Value → Option Addr → TS} {b₀ : Stmt} {suite : List Stmt} {np pos' : Pos} {hds : List ExceptHandler} {l : List Cls} (hc : Names X x c) (hi : X.N[i]? = some n) (hl : X.env.kindOf n = some .local)
      (hsu : ∀ (a : Addr) (oe : Obj) (cls : Value) (d : Option Addr) (pn : List (Addr × Obj)), Zc cls d oe → (∃ vs, oe.data = .fields vs) → PSs (X.suite a ((a, oe) :: pn)) (b₀ :: suite) (ts a cls d)) (r : HdsA X hds l) :
      HdsA X (.ExceptHandler (some (.Name x np)) (some n) (b₀ :: suite) pos' :: hds) ((c, some i, ts) :: l)
section
variable {X : Cx} {pins : List (Addr × Obj)} {Wout : WX} {D : Ends}
/-- an exception at ea has come down over the handler: J, the state without it -/
structure Down (X : Cx) (pins : List (Addr × Obj)) (B : Heap) (sI sX : Shared) (ea : Addr) (cls : Value) (d : Option Addr) (τ : L2.St) (Hx : Hp) : Prop where
  inv : Inv X pins τ Hx sI
  nb : ∀ b o, sI.heap.get? b = some o → b ∉ frs X.stack → B.get? b = some o
  up : sI.heap.UpToSlots sX.heap
  fly : HandSPX.FlyingZ B (X.env :: X.outer) ea (Zc cls d) sX.heap
  na : Hx ea = none
  os : sX.os = sI.os
  ag : AllBare sX.gens
  nL : ea ≠ X.env.locals
  nF : ea ∉ X.fs
theorem Down.lay {B : Heap} {sI sX : Shared} {ea : Addr} {cls : Value} {d : Option Addr} {τ : L2.St} {Hx : Hp} (w : Down X pins B sI sX ea cls d τ Hx) : Inv X pins τ Hx sX :=
  w.inv.landed w.nb w.fly.1 w.up w.os w.ag
theorem Down.run (hs : X.stack = X.env :: X.outer) (hf : X.env.frame = some X.env.locals) (hN : X.N.Nodup) (tk : Takes X Wout) {B : Heap} {sI sX : Shared} {ea : Addr} {cls : Value} {d : Option Addr} {τ : L2.St} {Hx : Hp} (w : Down X pins B sI sX ea cls d τ Hx) :
    ∀ {hds : List ExceptHandler} {l : List Cls}, HdsA X hds l → wAll X.K Wout D l cls d τ Hx → wpAny (model X.prog X.w) X.A (handleBy (.ref ea) X.env hds) (SP X pins D) X.xe sX := by
  have ok := w.inv.ok
  -- a clause's test
  have tests : ∀ {x : Str} {c : Value} {np : Pos} {b : Bool} {Q : Bool → Shared → Prop} {E : Value → Shared → Prop}, Names X x c → PySem.W.exmOne X.K cls c = some b → Q b sX →
      wpAny (model X.prog X.w) (X.A.mark (some (.ref ea))) (eval (.Name x np) X.env) (fun v s => wpAny (model X.prog X.w) (X.A.mark (some (.ref ea))) (excMatches (.ref ea) v) Q E s) E sX := by
    intro x c np b Q E hc hb q
    obtain ⟨oe, vs, he, hz, hd⟩ := w.fly.there
    have S := w.lay.suite he hd w.na w.nL w.nF
    have LT : PySem.W.Looks (model X.prog X.w) sX.heap (typeOf (.ref ea)) cls := fun A Q E s k q => wpAny_typeOf_ref (k _ _ he) (by rw [hz.1]; exact q)
    have LM := PySem.W.exm_one (M := model X.prog X.w) (w.lay.kIn) LT hb
    obtain ⟨hg, hdb, hm | ⟨hm, hv, hnn⟩⟩ := hc
    · exact ld_glob (X := X.suite ea ((ea, oe) :: (X.pn ++ pins))) S hg hm (LM.here q) hdb
    · exact ld_blt (X := X.suite ea ((ea, oe) :: (X.pn ++ pins))) S hg hm hv (LM.here q) hnn hdb
  intro hds l hk
  induction hk with
  | nil =>
    intro q
    refine wpAny_handleBy_nil ?_
    obtain ⟨_, _, _, oe, vs, T, oT, ts', he, hz, hd, h1, _⟩ := id w.fly
    unfold PySem.passOn
    refine wpAny_bind (wpAny_field he hd h1 ?_)
    rw [if_neg (show ¬ ((Value.ref T == Value.none) = true) from by simp)]
    have out : wpAny (model X.prog X.w) X.A (setFlight (.ref ea) X.env.frame) (fun _ s4 => wpAny (model X.prog X.w) X.A (throw (.ref ea) : Sem Flow) (SP X pins D) X.xe s4) X.xe sX := by
      rw [hf]
      refine HandSPX.setFlight_upZ w.fly fun h4 held up4 => wpAny_throw (tk _ _ ?_)
      exact ⟨ea, B, sI, pins, τ, Hx, cls, d, rfl, w.inv, w.nb, w.up.trans up4, .inr (.inr (by rw [hs]; exact held)), w.na, w.os, w.ag, q⟩
    first
      | exact wpAny_bind (wpAny_pure (wpAny_bind out))
      | exact wpAny_bind out
  | @plain x c ts b₀ suite np pos' hds2 l2 hc hsu r ih =>
    intro q
    obtain ⟨b, hb1, yes, no⟩ := q
    refine wpAny_handleBy_cons (codeAny_handlers_test ?_) (by intro q; cases q)
    refine tests hc hb1 ?_
    cases b with
    | false => exact ih (no rfl)
    | true =>
      refine codeAny_handlers_suite ?_
      refine HandSPX.lands_againZ w.fly fun h4 fl4 up4 => ?_
      have J4 : Inv X pins τ Hx { sX with heap := h4 } := w.inv.landed w.nb fl4.1 (w.up.trans up4) w.os w.ag
      obtain ⟨oe4, vs4, he4, hz4, hd4⟩ := fl4.there
      have S4 := J4.suite he4 hd4 w.na w.nL w.nF
      refine wpAny_mono ((hsu ea oe4 cls d (X.pn ++ pins) hz4 ⟨_, hd4⟩).run [] _ _ Hx _ S4 (yes rfl ea w.na)) (fun f s6 hsp => ?_) (fun _ _ z => False.elim z)
      cases f with
      | next => obtain ⟨τ6, H6, S6, q6⟩ := hsp; exact ⟨_, _, S6.unsuite ok, q6⟩
      | brk => obtain ⟨τ6, H6, S6, q6⟩ := hsp; exact ⟨_, _, S6.unsuite ok, q6⟩
      | cont => obtain ⟨τ6, H6, S6, q6⟩ := hsp; exact ⟨_, _, S6.unsuite ok, q6⟩
      | ret u => obtain ⟨v6, τ6, H6, S6, r6, q6⟩ := hsp; exact ⟨_, _, _, S6.unsuite ok, r6, q6⟩
  | @named x n i c ts b₀ suite np pos' hds2 l2 hc hi hl hsu r ih =>
    intro q
    obtain ⟨b, hb1, yes, no⟩ := q
    refine wpAny_handleBy_cons (codeAny_handlers_test ?_) (by intro q; cases q)
    refine tests hc hb1 ?_
    cases b with
    | false => exact ih (no rfl)
    | true =>
      refine codeAny_handlers_suite_as ?_
      refine HandSPX.lands_againZ w.fly fun h4 fl4 up4 => ?_
      have J4 : Inv X pins τ Hx { sX with heap := h4 } := w.inv.landed w.nb fl4.1 (w.up.trans up4) w.os w.ag
      obtain ⟨oe4, vs4, he4, hz4, hd4⟩ := fl4.there
      have S4 := J4.suite he4 hd4 w.na w.nL w.nF
      refine store_ok (X := X.suite ea ((ea, oe4) :: (X.pn ++ pins))) (v := .ref ea) S4 hN hi (.inl hl) rfl (fun s5 S5 => ?_) (.inr hl)
      refine wpAny_mono ((hsu ea oe4 cls d (X.pn ++ pins) hz4 ⟨_, hd4⟩).run [] s5 _ Hx _ S5 (yes rfl ea w.na)) (fun f s6 hsp => ?_) (fun _ _ z => False.elim z)
      have behind : ∀ {τ6 : L2.St} {H6 : Hp} {Q : Shared → Prop}, Inv (X.suite ea ((ea, oe4) :: (X.pn ++ pins))) [] τ6 H6 s6 → (∀ s7, Inv X pins (τ6.set i none) H6 s7 → Q s7) →
          wpAny (model X.prog X.w) X.A (do bindName X.env n .none; unbindBehindTheSuite X.env n pos') (fun _ s7 => Q s7) X.xe s6 := fun {τ6 H6 Q} S6 hq => gone_ok (S6.unsuite ok) hN hi hl hq
      cases f with
      | next => obtain ⟨τ6, H6, S6, q6⟩ := hsp; exact behind S6 fun s7 J7 => ⟨_, _, J7, q6⟩
      | brk => obtain ⟨τ6, H6, S6, q6⟩ := hsp; exact behind S6 fun s7 J7 => ⟨_, _, J7, q6⟩
      | cont => obtain ⟨τ6, H6, S6, q6⟩ := hsp; exact behind S6 fun s7 J7 => ⟨_, _, J7, q6⟩
      | ret u => obtain ⟨v6, τ6, H6, S6, r6, q6⟩ := hsp; exact behind S6 fun s7 J7 => ⟨_, _, _, J7, r6, q6⟩
theorem ps_try_all {body : List Stmt} {h₀ : ExceptHandler} {hds : List ExceptHandler} {l : List Cls} {pos : Pos} {tb : WX → TS} (hs : X.stack = X.env :: X.outer) (hf : X.env.frame = some X.env.locals) (hN : X.N.Nodup) (tk : Takes X Wout)
    (hb : ∀ (W : WX) (pn : List (Addr × Obj)) (xe : Value → Shared → Prop), Takes (X.tr pn xe) W → PassesOwn (model X.prog X.w) X.A X.env xe → PSs (X.tr pn xe) body (tb W))
    (hh : HdsA X (h₀ :: hds) l) : PS X (.Try body (h₀ :: hds) [] [] pos) (fun D σ H => tb (wAll X.K Wout D l) D σ H) := by
  refine ⟨fun pins s σ H D I h => wpAny_Try_except ?_⟩
  have ok := I.ok
  have frames : X.A.frames = some (X.env :: X.outer) := by rw [ok.frames, hs]
  refine wpAny_mono ((hb (wAll X.K Wout D l) (X.pn ++ pins) (fun e s₁ => wpAny (model X.prog X.w) X.A (noteFrame e X.env) (fun _ s₂ => wpAny (model X.prog X.w) X.A (setFlight e none) (fun _ s₃ =>
    wpAny (model X.prog X.w) X.A (handleBy e X.env (h₀ :: hds)) (SP X pins D) X.xe s₃) X.xe s₂) X.xe s₁) (fun u sX caught => ?_) PassesOwn.looking).run [] s σ H D (I.toTry _) h) (fun f s1 hsp => ?_) (fun e s1 he => he)
  · obtain ⟨ea, B, sI, pins', τ, Hx, cls, d, rfl, J', nb, up, sky, na, os, ag, wish⟩ := caught
    have skyB : Sky B (X.env :: X.outer) ea (Zc cls d) X.env.locals sX.heap := by rw [← hs]; exact sky
    show wpAny (model X.prog X.w) X.A (noteFrame (.ref ea) X.env) _ _ _
    refine Sky.land Zc.steady frames hf skyB fun h3 fl3 up3 => ?_
    have nfr : ea ∉ frs (X.env :: X.outer) := fun hm => by
      obtain ⟨oe, vs, he, _, hd⟩ := fl3.there
      obtain ⟨_, o', e', hnf⟩ := fl3.2.2.1.mem hm
      rw [he] at e'; cases e'
      exact hnf _ hd
    have dn : Down X pins B sI { sX with heap := h3 } ea cls d τ Hx := ⟨J'.ofTry ok, nb, up.trans up3, fl3, na, os, ag, fun z => nfr (List.mem_filterMap.mpr ⟨X.env, List.mem_cons_self, by rw [hf, z]⟩), fun hm => by
      obtain ⟨e, he, q⟩ := List.mem_filterMap.mp hm
      exact nfr (List.mem_filterMap.mpr ⟨e, List.mem_cons_of_mem _ he, q⟩)⟩
    exact dn.run hs hf hN tk hh wish
  · cases f with
    | next => obtain ⟨τ, H', J', q⟩ := hsp; exact wpAny_execs_nil ⟨τ, H', J'.ofTry ok, q⟩
    | brk => obtain ⟨τ, H', J', q⟩ := hsp; exact ⟨τ, H', J'.ofTry ok, q⟩
    | cont => obtain ⟨τ, H', J', q⟩ := hsp; exact ⟨τ, H', J'.ofTry ok, q⟩
    | ret u => obtain ⟨v, τ, H', J', r, q⟩ := hsp; exact ⟨v, τ, H', J'.ofTry ok, r, q⟩
end
end DL

namespace DL
open PySem PySem.Spec PyProof.Rows L2 LamX
variable [WW]

/-- the def was handed a thunk -/
structure ThY (P : Program) (w : World) (K : Fg) (mg : Str → Option Value) (base : Heap) (fs : List Addr) (H0 : Hp) (h0 : Heap) (k : Nat) (δ : List Addr) (γ : Bxs) (G : Hp) (f : Addr) (o : Rx) : Prop where
  here : FnHere fs H0 h0 f
  wd : Wd K δ γ G H0
  thk : Thk P w K mg base k f δ γ fs G H0 h0 o
abbrev ThX (X : Cx) (k : Nat) (δ : List Addr) (γ : Bxs) (G : Hp) (f : Addr) (o : Rx) : Prop := ThY X.prog X.w X.K X.mg X.base X.fs X.H_0 X.s_0.heap k δ γ G f o
def tThk (X : Cx) (k i : Nat) (W : WX) : TE := fun σ H Q => ∃ (f : Addr) (δ : List Addr) (γ : Bxs) (G G1 : Hp) (o : Rx), σ[i]? = some (some (.ref f)) ∧ ThX X k δ γ G f o ∧ Fin X.K δ ⟨G, X.H_0⟩ γ G1 H ∧ RxOk X.K X.mg δ G1 H Q (WE W σ) o
theorem FnHere.kept {fs fs' : List Addr} {H H' : Hp} {h h' : Heap} {f : Addr} (x : FnHere fs H h f) (u : Un fs [] H H' h h') (hf : ∀ c ∈ fs', c ∈ fs ∨ h.get? c = none) : FnHere fs' H' h' f := by
  obtain ⟨⟨oc, od, fd, sl, e⟩, n, fr⟩ := x
  refine ⟨⟨oc, od, fd, sl, u.keep f _ e n fr (fun z => nomatch z)⟩, u.free f _ e n (fun z => nomatch z), fun z => ?_⟩
  rcases hf f z with z | z
  · exact fr z
  · rw [e] at z; cases z
section
variable {X : Cx} {k i : Nat} {a x : Str} {p1 p2 pos : Pos}
/-- a(), a the thunk -/
theorem pe_thk {W : WX} (hr : Room k X.A) (hg : X.A.guards = some []) (hex : X.ex = []) (tk : Takes X W) (hN : X.N[i]? = some a) (hv : Vis X.env.scope a) (hd : (a == ("__debug__" : Str)) = false := by decide) (hcd : (a == ("__classdict__" : Str)) = false := by decide) :
    PE X (.Call (.Name a p1) [] [] p2) (tThk X k i W) := by
  refine ⟨fun pins s σ H Q I h => ?_⟩
  obtain ⟨f, δ, γ, G, G1, o, hs, T, fin, q⟩ := h
  refine wpAny_Call_Name_kw (thn ((pe_var (pos := p1) (i := i) hN hv hd hcd).run pins s σ H (fun v H1 => v = .ref f ∧ H1 = H) I ⟨.ref f, hs, rfl, rfl⟩) fun u s1 hh => ?_)
  obtain ⟨v, H1, I1, r1, ev, eH⟩ := hh
  subst ev
  rw [eH] at I1
  obtain rfl : u = Value.ref f := r1
  have un : Un X.fs [] X.H_0 H X.s_0.heap s1.heap := by
    have := I1.base
    rw [hex] at this; exact this
  obtain ⟨⟨oc, od, fd, sl, e⟩, n, fr⟩ := T.here
  refine PySem.W.callWith_F0 ⟨oc, od, fd, sl, un.keep f _ e n fr (fun z => nomatch z)⟩ ?_
  refine wpAny_call (codeAny_mono (T.thk X.A X.stack s1 G1 H Q (WE W σ) hr hg I1.env0 un fin q) fun r s' hq => ?_)
  cases r with
  | error e => exact passAt tk σ pins H s1 e s' I1 hq
  | ok fl =>
    cases fl with
    | ret u => exact I1.after hq
    | next => exact False.elim hq
    | brk => exact False.elim hq
    | cont => exact False.elim hq
theorem pe_thkT {W : WX} {pn : List (Addr × Obj)} {xe : Value → Shared → Prop} (hr : Room k X.A) (hg : X.A.guards = some []) (hex : X.ex = []) (tk : Takes (X.tr pn xe) W) (hN : X.N[i]? = some a) (hv : Vis X.env.scope a) (hd : (a == ("__debug__" : Str)) = false := by decide) (hcd : (a == ("__classdict__" : Str)) = false := by decide) :
    PE (X.tr pn xe) (.Call (.Name a p1) [] [] p2) (tThk X k i W) := pe_thk (X := X.tr pn xe) hr hg hex tk hN hv hd hcd
/-- x(a), a the thunk, x a def that takes one -/
theorem pe_thkCall {kk : Nat} {g : Addr} {fd : FuncData} {b : Str} {hh : Rx → Option (D × Bxs)} (F : Kl X.prog X.w X.K X.mg X.base kk k g fd b hh) (hr : Room kk X.A) (hgd : X.A.guards = some []) (hex : X.ex = []) (hg : Gl X x) (hm : X.mg x = some (.ref g)) (hk : PySem.W.keepIn X.K (.ref g) = true) (hb : Binds X.K fd [b] [])
    (hstk : ∀ c ∈ frs X.stack, c ∈ X.fs ∨ X.s_0.heap.get? c = none) (hN : X.N[i]? = some a) (hv : Vis X.env.scope a) (hdb : (x == ("__debug__" : Str)) = false := by decide) (hd : (a == ("__debug__" : Str)) = false := by decide) (hcd : (a == ("__classdict__" : Str)) = false := by decide) :
    PE X (.Call (.Name x p1) [.Name a p2] [] pos) (fun σ H Q => ∃ (f : Addr) (δ : List Addr) (γ : Bxs) (G G1 : Hp) (o : Rx) (z : D) (γ' : Bxs), σ[i]? = some (some (.ref f)) ∧ ThX X k δ γ G f o ∧ Fin X.K δ ⟨G, X.H_0⟩ γ G1 H ∧ hh o = some (z, γ') ∧
      ∀ v G' H', Fin X.K δ ⟨G1, H⟩ γ' G' H' → Rep X.K G' v z → Q v H') := by
  refine ⟨fun pins s σ H Q I h => ?_⟩
  obtain ⟨f, δ, γ, G, G1, o, z, γ', hs, T, fin, ez, q⟩ := h
  refine wpAny_Call_Name_kw (ld_glob I hg hm ?_ hdb)
  have pv : PE X (.Name a p2) (tVar i) := pe_var hN hv hd hcd
  refine PySem.W.callWith_K (h₀ := X.base) I.ok.mod.kin hk (thn ((pa_cons pv pa_nil rfl).run pos pins s σ H (fun vs H1 => vs = [V.ref f] ∧ H1 = H) I ⟨.ref f, hs, rfl, rfl⟩) fun us s1 hh => ?_) (by rfl) (by rfl)
  obtain ⟨vs, H1, I1, r, ev, eH⟩ := hh
  subst ev
  rw [eH] at I1
  rw [Vals.ref1 r]
  refine ⟨I1.kIn, ?_⟩
  have un : Un X.fs [] X.H_0 H X.s_0.heap s1.heap := by
    have := I1.base
    rw [hex] at this; exact this
  have bt := hb s1 [.ref f] I1.kIn rfl
  refine wpAny_call (codeAny_mono (F.run X.A X.stack s1 H G1 ⟨[.ref f], []⟩ f δ γ o z γ' Q hr hgd I1.env0 bt (T.here.kept un hstk) fin.wd (T.thk.nest un fin hstk) ez q) fun r s' hq => ?_)
  cases r with
  | error e => exact False.elim hq
  | ok fl =>
    cases fl with
    | ret u => exact I1.after hq
    | next => exact False.elim hq
    | brk => exact False.elim hq
    | cont => exact False.elim hq
end
/-- nothing is known of the slots -/
theorem Fin.rel {K : Fg} {δ : List Addr} {F : Fm} {γ : Bxs} {G H : Hp} (f : Fin K δ F γ G H) (σ : L2.St) : Rel K δ F (fun _ => 0) G H (List.replicate σ.length .un) γ σ := by
  have un : ∀ {i : Nat} {s : Sl}, (List.replicate σ.length Sl.un)[i]? = some s → s = .un := fun {i s} h => by
    rw [List.getElem?_replicate] at h
    split at h
    · exact (Option.some.inj h).symm
    · cases h
  refine ⟨f.wd, f.g0, f.q0, f.h0, by simp, fun i s hi => ?_, fun i c hi => ?_, fun i j c d hi => ?_⟩
  · rw [un hi]; trivial
  · have := un hi; cases this
  · have := un hi; cases this

/-- a clause's suite hands back data -/
structure Suite (X : Cx) (i : Option Nat) (suite : List Stmt) (x : Str) (hf : Pl → Option D) (ts : Addr → Value → Option Addr → TS) : Prop where
  run : ∀ (a : Addr) (oe : Obj) (cls : Value) (d : Option Addr) (pn : List (Addr × Obj)), Zc cls d oe → (∃ vs, oe.data = .fields vs) → PSs (X.suite a ((a, oe) :: pn)) suite (ts a cls d)
  val : ∀ (C : Addr), X.mg x = some (.ref C) → ∀ (δ : List Addr) (F : Fm) (own : Nat → Addr) (G H : Hp) (ρ : Row) (γ : Bxs) (σ : L2.St) (a : Addr) (d : Option Addr) (p : Pl) (z : D) (E : Ends), Rel X.K δ F own G H ρ γ σ → (∀ j, i = some j → σ[j]? = some (some (.ref a))) →
    PlOk X.K G H d p → hf p = some z → (∀ v G' H', Rel X.K δ F own G' H' ρ γ σ → Same G G' → Rep X.K G' v z → E.rt v H') → ts a (.ref C) d E σ H
inductive HdL (X : Cx) : List ExceptHandler → List (Str × (Pl → Option D)) → Prop
  | nil : HdL X [] []
  | plain {x : Str} {C : Addr} {hf : Pl → Option D} {ts : Addr → Value → Option Addr → TS} {b₀ : Stmt} {suite : List Stmt} {np pos' : Pos} {hds : List ExceptHandler} {l : List (Str × (Pl → Option D))} (hm : X.mg x = some (.ref C)) (hg : Gl X x) (hdb : (x == ("__debug__" : Str)) = false)
      (su : Suite X none (b₀ :: suite) x hf ts) (r : HdL X hds l) : HdL X (.ExceptHandler (some (.Name x np)) none (b₀ :: suite) pos' :: hds) ((x, hf) :: l)
  | named {x n : Str} {i : Nat} {C : Addr} {hf : Pl → Option D} {ts : Addr → Value → Option Addr → TS} {b₀ : Stmt} {suite : List Stmt} {np pos' : Pos} {hds : List ExceptHandler} {l : List (Str × (Pl → Option D))} (hm : X.mg x = some (.ref C)) (hg : Gl X x) (hdb : (x == ("__debug__" : Str)) = false)
      (hi : X.N[i]? = some n) (hl : X.env.kindOf n = some .local) (su : Suite X (some i) (b₀ :: suite) x hf ts) (r : HdL X hds l) : HdL X (.ExceptHandler (some (.Name x np)) (some n) (b₀ :: suite) pos' :: hds) ((x, hf) :: l)
/-- each clause takes its own class alone -/
def pick (c : Str) (p : Pl) : List (Str × (Pl → Option D)) → Option D
  | [] => none
  | (x, hf) :: r => if c = x then hf p else pick c p r
/-- the classes are unlike -/
def Apart (K : Fg) (mg : Str → Option Value) (xs : List Str) : Prop := ∀ c ∈ xs, ∀ x ∈ xs, ∀ C D, mg c = some (.ref C) → mg x = some (.ref D) → PySem.W.exmOne K (.ref C) (.ref D) = some (decide (c = x))
theorem HdL.wish {X : Cx} {xs : List Str} (ap : Apart X.K X.mg xs) {hds : List ExceptHandler} {l : List (Str × (Pl → Option D))} (h : HdL X hds l) (hx : ∀ q ∈ l, q.1 ∈ xs) : ∃ cl : List Cls, HdsA X hds cl ∧
    ∀ {c : Str} {C : Addr} {p : Pl} {z : D} {Wout : WX} {E : Ends} {δ : List Addr} {F : Fm} {G H : Hp} {γ : Bxs} {σ : L2.St} {d : Option Addr}, c ∈ xs → X.mg c = some (.ref C) → pick c p l = some z → Fin X.K δ F γ G H → X.N.length ≤ σ.length → PlOk X.K G H d p →
      (∀ v G' H', Fin X.K δ F γ G' H' → Same G G' → Rep X.K G' v z → E.rt v H') → wAll X.K Wout E cl (.ref C) d σ H := by
  induction h with
  | nil => exact ⟨[], .nil, fun hc hC hp => by cases hp⟩
  | @plain x Cx hf ts b₀ suite np pos' hds l hm hg hdb su r ih =>
    obtain ⟨cl, h1, h2⟩ := ih fun q hq => hx q (List.mem_cons_of_mem _ hq)
    refine ⟨(.ref Cx, none, ts) :: cl, .plain ⟨hg, hdb, .inl hm⟩ su.run h1, ?_⟩
    intro c C p z Wout E δ F G H γ σ d hc hC hp fin hl hpl hq
    refine ⟨decide (c = x), ap c hc x (hx (x, hf) List.mem_cons_self) C Cx hC hm, fun e a _ => ?_, fun e => ?_⟩
    · have e : c = x := of_decide_eq_true e
      subst e
      rw [hm] at hC
      cases hC
      have hp : hf p = some z := by simpa [pick] using hp
      exact su.val _ hm δ F _ G H _ γ σ a d p z _ (fin.rel σ) (fun j z => by cases z) hpl hp fun v G' H' R' sg rv => hq v G' H' R'.fin sg rv
    · have e : ¬ c = x := of_decide_eq_false e
      exact h2 hc hC (by simpa [pick, e] using hp) fin hl hpl hq
  | @named x n i Cx hf ts b₀ suite np pos' hds l hm hg hdb hi hl su r ih =>
    obtain ⟨cl, h1, h2⟩ := ih fun q hq => hx q (List.mem_cons_of_mem _ hq)
    refine ⟨(.ref Cx, some i, ts) :: cl, .named ⟨hg, hdb, .inl hm⟩ hi hl su.run h1, ?_⟩
    intro c C p z Wout E δ F G H γ σ d hc hC hp fin hlen hpl hq
    refine ⟨decide (c = x), ap c hc x (hx (x, hf) List.mem_cons_self) C Cx hC hm, fun e a _ => ?_, fun e => ?_⟩
    · have e : c = x := of_decide_eq_true e
      subst e
      rw [hm] at hC
      cases hC
      have hp : hf p = some z := by simpa [pick] using hp
      refine su.val _ hm δ F _ G H _ γ (seenBy (some i) a σ) a d p z _ (fin.rel _) (fun j z => ?_) hpl hp fun v G' H' R' sg rv => hq v G' H' R'.fin sg rv
      cases z
      have : i < σ.length := Nat.lt_of_lt_of_le (List.getElem?_eq_some_iff.mp hi).1 hlen
      exact get_set_eq this
    · have e : ¬ c = x := of_decide_eq_false e
      exact h2 hc hC (by simpa [pick, e] using hp) fin hlen hpl hq

/-- the body of a def that was handed a thunk, at once -/
def TBd (X : Cx) (k : Nat) (sts : List Stmt) (hh : Rx → Option (D × Bxs)) : Prop := ∃ t, PSs X sts t ∧ ∀ (f : Addr) (δ : List Addr) (γ : Bxs) (G : Hp) (o : Rx) (z : D) (γ' : Bxs) (E : Ends), ThX X k δ γ G f o → hh o = some (z, γ') →
  (∀ v G' H', Fin X.K δ ⟨G, X.H_0⟩ γ' G' H' → Rep X.K G' v z → E.rt v H') → t E (L2.start X.N [.ref f]) X.H_0
/-- what try: return a() except .. makes of the thunk -/
def hTryR (l : List (Str × (Pl → Option D))) (xs : List Str) : Rx → Option (D × Bxs)
  | .ret (.d d) γ => some (d, γ)
  | .ret _ _ => none
  | .exc c p γ => if c ∈ xs then (pick c p l).map fun z => (z, γ) else none
/-- try: a() except ..; the rest -/
def hTryE (n : Nat) (l : List (Str × (Pl → Option D))) (xs : List Str) (fb : Fst) : Rx → Option (D × Bxs)
  | .ret _ γ => (fb (List.replicate n .un) γ).bind fun o => match o with
    | .rt (.d z) γ' => some (z, γ')
    | _ => none
  | .exc c p γ => if c ∈ xs then (pick c p l).map fun z => (z, γ) else none
/-- told = x(a); the rest -/
def hThen (n j : Nat) (hh : Rx → Option (D × Bxs)) (fb : Fst) : Rx → Option (D × Bxs) := fun o => (hh o).bind fun p => (fb ((List.replicate n .un).set j (.d p.1)) p.2).bind fun o => match o with
  | .rt (.d z) γ' => some (z, γ')
  | _ => none
theorem start_len {N : List Str} {f : Addr} (h : 1 ≤ N.length) : (L2.start N [V.ref f]).length = N.length := by
  unfold L2.start
  simp only [List.length_append, List.length_map, List.length_replicate, List.length_singleton]
  omega
theorem start_at {N : List Str} {f : Addr} : (L2.start N [V.ref f])[0]? = some (some (V.ref f)) := rfl
section
variable {X : Cx} {k : Nat} {a : Str} {h₀ : ExceptHandler} {hds : List ExceptHandler} {l : List (Str × (Pl → Option D))} {xs : List Str} {p1 p2 p3 pos : Pos}
theorem Fin.here {X : Cx} {δ : List Addr} {γ : Bxs} {G : Hp} (w : Wd X.K δ γ G X.H_0) : Fin X.K δ ⟨G, X.H_0⟩ γ G X.H_0 := ⟨w, Same.refl _, fun _ _ h => h, fun _ _ h _ _ => .inl h⟩
theorem tb_tryR (hs : X.stack = X.env :: X.outer) (hf : X.env.frame = some X.env.locals) (hex : X.ex = []) (hnd : X.N.Nodup) (hr : Room k X.A) (hg : X.A.guards = some []) (hN : X.N[0]? = some a) (hv : Vis X.env.scope a) (ap : Apart X.K X.mg xs) (hl : HdL X (h₀ :: hds) l) (hx : ∀ q ∈ l, q.1 ∈ xs)
    (hd : (a == ("__debug__" : Str)) = false := by decide) (hcd : (a == ("__classdict__" : Str)) = false := by decide) : TBd X k [.Try [.Return (some (.Call (.Name a p1) [] [] p2)) p3] (h₀ :: hds) [] [] pos] (hTryR l xs) := by
  obtain ⟨cl, c1, c2⟩ := hl.wish ap hx
  refine ⟨_, pss_one (ps_try_all hs hf hnd (takes0 (X := X)) (fun W pn xe tk pas => pss_one (ps_ret (pe_thkT (X := X) (k := k) (i := 0) hr hg hex tk hN hv hd hcd))) c1), fun f δ γ G o z γ' E T e q => ?_⟩
  have fin : Fin X.K δ ⟨G, X.H_0⟩ γ G X.H_0 := Fin.here T.wd
  have len : X.N.length ≤ (L2.start X.N [V.ref f]).length := by
    rw [start_len]
    · exact Nat.le_refl _
    · exact Nat.lt_of_le_of_lt (Nat.zero_le _) (List.getElem?_eq_some_iff.mp hN).1
  refine ⟨f, δ, γ, G, G, o, start_at, T, fin, ?_⟩
  cases o with
  | ret s γ1 =>
    cases s with
    | d d => cases e; exact fun v G' H' fin' rv => q v G' H' fin' rv
    | un => cases e
    | bx n => cases e
    | ow c => cases e
  | exc c p γ1 =>
    simp only [hTryR] at e
    split at e
    case isFalse => cases e
    rename_i hc
    obtain ⟨z', e1, e⟩ := map_some e
    cases e
    exact fun C hC G' H' d fin' hp => c2 hc hC e1 fin' len hp fun v G2 H2 fin2 _ rv => q v G2 H2 fin2 rv
theorem tb_tryE {rest : List Stmt} {fb : Fst} (hs : X.stack = X.env :: X.outer) (hf : X.env.frame = some X.env.locals) (hex : X.ex = []) (hnd : X.N.Nodup) (hr : Room k X.A) (hg : X.A.guards = some []) (hN : X.N[0]? = some a) (hv : Vis X.env.scope a) (ap : Apart X.K X.mg xs) (hl : HdL X (h₀ :: hds) l) (hx : ∀ q ∈ l, q.1 ∈ xs)
    (hb : DB X rest fb) (hsw : ∀ pn xe, swapsWith (.Call (.Name a p1) [] [] p2) none p3.line (X.tr pn xe).env = pure false := by intro _ _; rfl) (hd : (a == ("__debug__" : Str)) = false := by decide) (hcd : (a == ("__classdict__" : Str)) = false := by decide) :
    TBd X k (.Try [.Expr (.Call (.Name a p1) [] [] p2) p3] (h₀ :: hds) [] [] pos :: rest) (hTryE X.N.length l xs fb) := by
  obtain ⟨cl, c1, c2⟩ := hl.wish ap hx
  obtain ⟨tr, pr, qr⟩ := hb
  refine ⟨_, pss_cons (ps_try_all hs hf hnd (takes0 (X := X)) (fun W pn xe tk pas => pss_one (ps_expr (pe_thkT (X := X) (k := k) (i := 0) hr hg hex tk hN hv hd hcd) (hsw pn xe))) c1) pr, fun f δ γ G o z γ' E T e q => ?_⟩
  have fin : Fin X.K δ ⟨G, X.H_0⟩ γ G X.H_0 := Fin.here T.wd
  have pos1 : 1 ≤ X.N.length := Nat.lt_of_le_of_lt (Nat.zero_le _) (List.getElem?_eq_some_iff.mp hN).1
  have len : X.N.length ≤ (L2.start X.N [V.ref f]).length := by rw [start_len pos1]; exact Nat.le_refl _
  refine ⟨f, δ, γ, G, G, o, start_at, T, fin, ?_⟩
  cases o with
  | ret s γ1 =>
    obtain ⟨o1, e1, e⟩ := bind_some e
    cases o1 with
    | nx ρ γ2 => cases e
    | bk ρ γ2 => cases e
    | ct ρ γ2 => cases e
    | rt s1 γ2 =>
      cases s1 with
      | un => cases e
      | bx n => cases e
      | ow c => cases e
      | d d =>
        cases e
        intro v G' H' fin' rv
        have R := fin'.rel (L2.start X.N [V.ref f])
        rw [start_len pos1] at R
        exact qr δ _ _ G' H' _ γ1 _ _ E R e1 fun v2 G2 H2 fin2 rv2 => q v2 G2 H2 fin2 rv2
  | exc c p γ1 =>
    simp only [hTryE] at e
    split at e
    case isFalse => cases e
    rename_i hc
    obtain ⟨z', e1, e⟩ := map_some e
    cases e
    exact fun C hC G' H' d fin' hp => c2 hc hC e1 fin' len hp fun v G2 H2 fin2 _ rv => q v G2 H2 fin2 rv
theorem tb_then {rest : List Stmt} {fb : Fst} {g : Addr} {fd : FuncData} {b x y : Str} {j kk : Nat} {hh : Rx → Option (D × Bxs)} {p4 : Pos} (O : Okc X) (F : Kl X.prog X.w X.K X.mg X.base kk k g fd b hh) (hr : Room kk X.A) (hex : X.ex = []) (hstk : ∀ c ∈ frs X.stack, c ∈ X.fs ∨ X.s_0.heap.get? c = none)
    (hg : Gl X x) (hm : X.mg x = some (.ref g)) (hk : PySem.W.keepIn X.K (.ref g) = true) (hbd : Binds X.K fd [b] []) (hN : X.N[0]? = some a) (hv : Vis X.env.scope a) (hj : X.N[j]? = some y) (hy : Loc X.env.scope y) (hb : DB X rest fb)
    (hsw : swapsWith (.Call (.Name x p1) [.Name a p2] [] p3) (some (.Name y p4)) pos.line X.env = pure false := by rfl) (hfn : X.fn y = true ∨ X.env.scope.names.lookup y = some .local := by first | exact .inl rfl | exact .inr rfl | assumption)
    (hdb : (x == ("__debug__" : Str)) = false := by decide) (hd : (a == ("__debug__" : Str)) = false := by decide) (hcd : (a == ("__classdict__" : Str)) = false := by decide) :
    TBd X k (.Assign [.Name y p4] (.Call (.Name x p1) [.Name a p2] [] p3) pos :: rest) (hThen X.N.length j hh fb) := by
  obtain ⟨tr, pr, qr⟩ := hb
  refine ⟨_, pss_cons (ps_set O.nd hj hy (pe_thkCall (i := 0) F hr O.hg hex hg hm hk hbd hstk hN hv hdb hd hcd) hsw hfn) pr, fun f δ γ G o z γ' E T e q => ?_⟩
  have fin : Fin X.K δ ⟨G, X.H_0⟩ γ G X.H_0 := Fin.here T.wd
  have pos1 : 1 ≤ X.N.length := Nat.lt_of_le_of_lt (Nat.zero_le _) (List.getElem?_eq_some_iff.mp hN).1
  obtain ⟨⟨z1, γ1⟩, e1, e⟩ := bind_some e
  obtain ⟨o1, e2, e⟩ := bind_some e
  cases o1 with
  | nx ρ γ2 => cases e
  | bk ρ γ2 => cases e
  | ct ρ γ2 => cases e
  | rt s1 γ2 =>
    cases s1 with
    | un => cases e
    | bx n => cases e
    | ow c => cases e
    | d d =>
      cases e
      refine ⟨f, δ, γ, G, G, o, z1, γ1, start_at, T, fin, e1, fun v G' H' fin' rv => ?_⟩
      have R := fin'.rel (L2.start X.N [V.ref f])
      rw [start_len pos1] at R
      exact qr δ _ _ G' H' _ γ1 _ _ E (R.setD (i := j) rv) e2 fun v2 G2 H2 fin2 rv2 => q v2 G2 H2 fin2 rv2
end
section
variable {P : Program} {w : World} {K : Fg} {mg : Str → Option Value} {base : Heap}
theorem Kl.of {x qual a : Str} {st : Stmt} {g : Addr} {fd : FuncData} {N : List Str} {k j : Nat} {hh : Rx → Option (D × Bxs)} (F : Fun K x qual st g fd) (S : FnScope N [a] (defScope st))
    (hb : ∀ (cdv : Value) (A : Around) (outer : List Env) (s : Shared) (H : Hp), Okc (Cxd P w K mg base N qual st g cdv A outer s H) → Room (k + 1) (Cxd P w K mg base N qual st g cdv A outer s H).A → TBd (Cxd P w K mg base N qual st g cdv A outer s H) j (defBody st) hh) (hW : WW.w = w := by rfl) :
    Kl P w K mg base (k + 2) j g fd a hh := by
  obtain ⟨oc, od, kV, doc, pm, an, cdv, ct, osl, rfl, lk, hcd⟩ := F.ex
  refine ⟨fun A outer s H G args f δ γ o z γ' Q hr hgd e0 hbn here wd th ez hq => ?_⟩
  have lowB : ∀ b o, base.get? b = some o → s.heap.get? b = some o := fun b o z => (e0.bs b o z).1
  have KX : K.In s.heap := e0.mod.kin.keeps lowB
  have lim : s.heap.NoLimit := e0.mod.nolimit.keeps lowB
  have seen : ∀ y ∈ [a].zip [Value.ref f], (defScope st).names.lookup y.1 = some .local ∨ ((defScope st).names.lookup y.1 = some .cell ∧ ((cellsFrom (s.heap.objs.size + 1) (defScope st).names []).lookup y.1).isSome = true) := fun ⟨n, v⟩ hy =>
    (S.par n (List.of_mem_zip hy).1).imp id fun q => ⟨q, PySem.W.cellsFrom_some _ _ _ (Or.inl q)⟩
  refine codeAny_call_function hr.depth (KX _ _ lk) rfl S.co S.gen rfl (PySem.W.codeRec_of KX hcd) (hbn _ _ _ _ ?_)
  refine wpAny_newFunctionEnv_cells S.kind seen fun env he s1 x => ?_
  subst he
  refine ⟨lim.keeps x.toInCall.keep, codeAny_func ?_⟩
  have O : Okc (Cxd P w K mg base N qual st g cdv A outer s H) := ⟨(hr.mono (by omega : 2 ≤ k + 2)).deeper _, hgd, rfl, S.nd, PassesOwn.never, hW⟩
  obtain ⟨t, ht, hd⟩ := hb cdv A outer s H O (hr.deeper _)
  have I := inv_start (CX := CX0) (E := E0) (mg := mg) (base := base) (P := P) (w := w) (cd := cdv) (f := g) (qual := qual) (vs := [.ref f]) S hr.hd e0 rfl (.cons rfl .nil) x
  have back : ∀ {σ' : L2.St} {H' : Hp} {v : V} {u : Value} {s' : Shared}, Inv (cxOf CX0 P w K mg base N qual (defScope st) g cdv A outer s H E0) [] σ' H' s' → RelV v u → Q v H' → CE outer P w H s Q u s' :=
    fun {σ' H' v u s'} J rv q => ⟨v, H', J.os, J.bare, J.base, J.hok, rv, q⟩
  refine wpAny_mono (ht.nox.run [] s1 (L2.start N [.ref f]) H { nx := fun _ _ => False, rt := Q } I (hd f δ γ G o z γ' _ ⟨here, wd, th⟩ ez hq)) (fun fl s' hs => ?_) fun e s' hs => hs
  cases fl with
  | ret u =>
    obtain ⟨v, σ', H', J, rv, q⟩ := hs
    exact back J rv q
  | next => obtain ⟨_, _, _, q⟩ := hs; exact False.elim q
  | brk => obtain ⟨_, _, _, q⟩ := hs; exact False.elim q
  | cont => obtain ⟨_, _, _, q⟩ := hs; exact False.elim q
end
end DL

namespace DL
open PySem PySem.Spec PyProof.Rows L2 LamX PySem.HandSPX

/-- newId, the __new__ of BN, over the classes of bmB -/
structure NewF (BN newId : String) (bmB : List Value) : Prop where
  ends : newId.endsWith ".__new__" = true
  owner : newId.dropRight 8 = BN
  entry : entryFor table newId = some Builtin.«BaseException.__new__»
  quiet : newId.startsWith "lifetime." = false
  star : (BN != "*") = true
  split : splitId newId = some (BN, "__new__")
  kind : builtinKind newId = some .builtinFn
  row : Manifest.signature? newId = some ⟨.any, BN, BN, .cls, [⟨"args", .varPos, false⟩, ⟨"kwargs", .varKw, false⟩]⟩
  has : bmB.contains (.type BN) = true
  attr : bmB.contains (.type "AttributeError") = false
  name : bmB.contains (.type "NameError") = false
  canon : Manifest.canonical newId = Manifest.canonical "BaseException.__new__"
/-- iniId, the __init__ of B -/
structure IniF (B iniId : String) : Prop where
  star : (B != "*") = true
  kind : builtinKind iniId = some .slot
  row : Manifest.signature? iniId = some ⟨.positional, "*", B, .self, [⟨"args", .varPos, false⟩]⟩
  slot : Slot B "__init__" iniId
  entry : entryFor table iniId = some Builtin.«BaseException.__init__»
theorem NewF.of {B newId iniId : String} {bmB : List Value} (F : ExcBaseFacts B newId iniId bmB) : NewF B newId bmB := ⟨F.ends, F.owner, F.entry, F.quiet, F.noStar, F.newSplit, F.newKind, F.newRow, F.hasB, F.noAttr, F.noName, F.canon⟩
theorem IniF.of {B newId iniId : String} {bmB : List Value} (F : ExcBaseFacts B newId iniId bmB) : IniF B iniId := ⟨F.noStar, F.initKind, F.initRow, F.init, F.initEntry⟩

section
variable {Mo : Model} {Ar : Around} {Er : Value → Shared → Prop} {hp : Heap} {gs : Array GenState} {dr : Drawn} {tk : Nat} {ost : OsState}
variable {cn cq : Str} {Ca Na : Addr} {bl ml bmB : List Value} {hdc : Bool} {snl : List Str} {sbl : List Value} {abf : Bool} {clf : Option Bool} {dix : Option Addr} {q0 q1 q2 q3 q5 : Option Value} {BN newId : String}
theorem nf_check (F : NewF BN newId bmB) (same : ∀ X : String, ml.contains (.type X) = bmB.contains (.type X)) {us : List Value} {Q : Unit → Shared → Prop}
    (atC : hp.get? Ca = some (excClassObj cn cq Ca Na bl ml hdc snl sbl abf clf dix q0 q1 q2 q3 q5 newId)) (go : Q () ⟨hp, gs, dr, tk, ost⟩) : wpAny Mo Ar (checkBuiltinCall newId ⟨.ref Ca :: us, []⟩) Q Er ⟨hp, gs, dr, tk, ost⟩ := by
  have isB : (Value.ref Ca :: ml).contains (.type BN) = true := by rw [List.contains_cons, same, F.has, Bool.or_true]
  have noS := F.star
  simp only [checkBuiltinCall, F.kind, F.split, F.row]
  repeat (first | refine wpAny_loadPart_at atC ?_ | (refine wpAny_isSubtype_exc atC ?_; rw [isB]) | refine wpAny_staticBase_exc atC ?_ | refine wpAny_madeBy_exc atC ?_ | simp only [bne_self_eq_false, Bool.false_eq_true, if_false] | wp_step)
  exact go
theorem nf_init {B iniId : String} (F : IniF B iniId) {ea : Addr} {eo : Obj} {us : List Value} {Q : Unit → Shared → Prop}
    (atC : hp.get? Ca = some (excClassObj cn cq Ca Na bl ml hdc snl sbl abf clf dix q0 q1 q2 q3 q5 newId)) (atE : hp.get? ea = some eo) (eC : eo.cls = .ref Ca) (go : Q () ⟨hp, gs, dr, tk, ost⟩) : wpAny Mo Ar (checkBoundCall iniId ⟨.ref ea :: us, []⟩) Q Er ⟨hp, gs, dr, tk, ost⟩ := by
  have noS := F.star
  simp only [checkBoundCall, F.kind, F.row]
  repeat (first | (with_reducible refine wpAny_loadPart_at atE ?_; rw [eC]) | with_reducible refine wpAny_loadPart_at atC ?_ | wp_step)
  refine wpAny_onRaise ?_
  have pass : ∀ (a b : String) (n : Nat), Bind.check ⟨.positional, "*", B, .self, [⟨"args", .varPos, false⟩]⟩ a b n (List.map (fun z => z.fst) ({ pos := Value.ref ea :: us } : Args).kw) = pure () := fun a b n => check_star_args _ _ _ _ _ _
  rw [pass]
  exact wpAny_pure go
end
section
variable {pg : Program} {wo : World} {Ar : Around} {Er : Value → Shared → Prop} {Rr : Result → Shared → Prop} {hp : Heap} {gs : Array GenState} {dr : Drawn} {tk : Nat} {ost : OsState}
variable {cn cq : Str} {Ca Na : Addr} {bl ml bmB : List Value} {hdc : Bool} {snl : List Str} {sbl : List Value} {abf : Bool} {clf : Option Bool} {dix : Option Addr} {q0 q1 q2 q3 q5 : Option Value} {BN newId : String}
theorem nf_new (F : NewF BN newId bmB) (same : ∀ X : String, ml.contains (.type X) = bmB.contains (.type X)) {us : List Value}
    (atC : hp.get? Ca = some (excClassObj cn cq Ca Na bl ml hdc snl sbl abf clf dix q0 q1 q2 q3 q5 newId))
    (go : Rr (.ok (.ret (.ref (hp.objs.size + 1)))) ⟨(hp.push (PySem.W.kdv_tup us)).push (excO Ca hp.objs.size), gs, dr, tk, ost⟩) (sz : us.length ≤ sizeLine) :
    codeAny (model pg wo) Ar (.builtin newId ⟨.ref Ca :: us, []⟩) Rr ⟨hp, gs, dr, tk, ost⟩ := by
  have theEnd := F.ends
  have isB : (Value.ref Ca :: ml).contains (.type BN) = true := by rw [List.contains_cons, same, F.has, Bool.or_true]
  have isA : (Value.ref Ca :: ml).contains (.type "AttributeError") = false := by rw [List.contains_cons, same, F.attr]; rfl
  have isN : (Value.ref Ca :: ml).contains (.type "NameError") = false := by rw [List.contains_cons, same, F.name]; rfl
  refine codeAny_builtinAt F.entry ?_
  unfold Builtin.«BaseException.__new__»
  refine PyProof.Rows.wpAt_bind ?_
  show PyProof.Rows.wpAt _ _ _ (stack >>= _) _ _ _
  refine PyProof.Rows.wpAt_bind (PyProof.Rows.wpAt_stack fun _ _ => wpAt_of_wpAny ?_)
  wp_walk
  refine wpAt_of_wpAny ?_
  rw [F.owner]
  repeat (first | with_reducible refine wpAny_madeHere_exc F.canon atC ?_ | with_reducible refine wpAny_loadPart_at atC ?_ | (with_reducible refine wpAny_isSubtype_exc atC ?_; first | rw [isB] | rw [isA] | rw [isN]) | wp_step)
  show Rr _ _
  rw [Heap.size_push]
  exact go
theorem nf_type (F : NewF BN newId bmB) (same : ∀ X : String, ml.contains (.type X) = bmB.contains (.type X)) {us : List Value} {fI : Addr} {Q : PySem.Fin → Shared → Prop}
    (atC : hp.get? Ca = some (excClassObj cn cq Ca Na bl ml hdc snl sbl abf clf dix q0 q1 q2 q3 q5 newId))
    (li : PySem.W.Looks (model pg wo) hp (typeLookup (.ref Ca) "__init__") (some (.ref fI))) (lb : ∀ slf, PySem.W.Looks (model pg wo) hp (bindSpecial (.ref fI) slf) (.ref fI, [slf])) (sz : us.length ≤ sizeLine)
    (go : codeAny (model pg wo) Ar (.call (.ref fI) ⟨.ref (hp.objs.size + 1) :: us, []⟩)
      (fun r s2 => match r with | .ok (.ret v) => v = .none ∧ Q (.done (.ret (.ref (hp.objs.size + 1)))) s2 | .ok _ => False | .error e => Er e s2)
      ⟨(hp.push (PySem.W.kdv_tup us)).push (excO Ca hp.objs.size), gs, dr, tk, ost⟩) :
    wpAny (model pg wo) Ar (Builtin.«type.__call__» ⟨.ref Ca :: us, []⟩) Q Er ⟨hp, gs, dr, tk, ost⟩ := by
  repeat (first | with_reducible refine wpAny_loadPart_at atC ?_ | with_reducible refine wpAny_madeBy_exc atC ?_ | wp_step)
  refine codeAny_call_builtin_code (Code.quiet_builtin _ F.quiet) (nf_check F same atC ?_)
  refine nf_new F same atC ?_ sz
  show wpAny _ _ _ _ _ _
  have up : ∀ b o, hp.get? b = some o → ((hp.push (PySem.W.kdv_tup us)).push (excO Ca hp.objs.size)).get? b = some o := fun b o e => Heap.get?_push_of_some _ (Heap.get?_push_of_some _ e)
  have atC1 := up _ _ atC
  have atE : ((hp.push (PySem.W.kdv_tup us)).push (excO Ca hp.objs.size)).get? (hp.objs.size + 1) = some (excO Ca hp.objs.size) := by heap_get
  have isC : (Value.ref Ca :: ml).contains (.ref Ca) = true := by simp
  have li1 := li.keeps up
  have lb1 := (lb (.ref (hp.objs.size + 1))).keeps up
  unfold isInstance
  repeat (first | with_reducible refine wpAny_loadPart_at atE ?_ | (with_reducible refine wpAny_isSubtype_exc atC1 ?_; rw [isC]) | wp_step)
  show wpAny _ _ (typeLookup (.ref Ca) _) _ _ _
  refine li1.at ?_
  refine wpAny_holding (wpAny_bind (lb1.at ?_))
  refine wpAny_bind (wpAny_call (codeAny_mono go fun r s2 z => ?_))
  rcases r with e | (v | _ | _ | _) <;> first | exact z | exact z.elim | skip
  obtain ⟨rfl, z⟩ := z
  first
    | exact wpAny_pure (wpAny_pure z)
    | (wp_walk; exact z)
theorem nf_call (F : NewF BN newId bmB) (same : ∀ X : String, ml.contains (.type X) = bmB.contains (.type X)) {us : List Value} {fI : Addr}
    (atC : hp.get? Ca = some (excClassObj cn cq Ca Na bl ml hdc snl sbl abf clf dix q0 q1 q2 q3 q5 newId))
    (li : PySem.W.Looks (model pg wo) hp (typeLookup (.ref Ca) "__init__") (some (.ref fI))) (lb : ∀ slf, PySem.W.Looks (model pg wo) hp (bindSpecial (.ref fI) slf) (.ref fI, [slf])) (sz : us.length ≤ sizeLine)
    (go : codeAny (model pg wo) (Ar.under (.builtin "type.__call__" ⟨.ref Ca :: us, []⟩)) (.call (.ref fI) ⟨.ref (hp.objs.size + 1) :: us, []⟩) (PySem.W.InitBack (hp.objs.size + 1) Rr)
      ⟨(hp.push (PySem.W.kdv_tup us)).push (excO Ca hp.objs.size), gs, dr, tk, ost⟩) :
    codeAny (model pg wo) Ar (.call (.ref Ca) ⟨us, []⟩) Rr ⟨hp, gs, dr, tk, ost⟩ := by
  have w1 := tc_lookup
  have w2 := tc_bind (.ref Ca)
  have tyC : (⟨hp, gs, dr, tk, ost⟩ : Shared).TypeIs (.ref Ca) "type" := ⟨_, atC, rfl⟩
  refine codeAny_of_tree ?_
  show wpAny _ _ (callAny (.ref Ca) _) _ _ _
  repeat (any_goals (first | assumption | with_reducible refine wpAny_loadPart_at atC ?_ | wp_step))
  refine ⟨rfl, ?_⟩
  refine codeAny_call_builtin_at (Code.quiet_builtin _ (by decide +kernel)) entry_typeCall (wpAny_check_type_call_sub atC (nf_type F same atC li lb sz ?_))
  refine codeAny_mono go fun r s2 z => ?_
  rcases r with e | (v | _ | _ | _) <;> exact z
end
section
variable {pg : Program} {wo : World} {Ar : Around} {Er : Value → Shared → Prop} {sh : Shared} {h₀ : Heap} {La : Addr} {mm : Str → Option Value} {nws : List (Addr × Obj)} {K : PySem.W.Frag} {xa Ca ua : Addr} {B iniId newId : String} {bmB : List Value}
open PySem.W in
/-- super().__init__(..), called -/
theorem nf_super {ta : Addr} {dvo : Option Addr} {cc2 : Value} {us : List Value} {nw : Obj → List (Addr × Obj)} {Q : Value → Shared → Prop} (FR : Fr h₀ La sh.heap mm) (X₀ : K.In h₀) (NW : News h₀ La sh.heap nws) (F : IniF B iniId) (q : excInitIn K Ca bmB newId = true) (hu : (ua, kxs_mw iniId xa) ∈ nws)
    (U : UpdF xa (excObj Ca ta dvo cc2) nws nw) (sz : us.length ≤ sizeLine)
    (go : ∀ t2 h2, Fr h₀ La h2 mm → News h₀ La h2 ((t2, excTup us) :: nw (excObj Ca t2 dvo cc2)) → (∀ p ∈ nws, p.1 < t2) → Q .none { sh with heap := h2 }) :
    wpAny (model pg wo) Ar (call (.ref ua) us) Q Er sh := by
  obtain ⟨nm, Nn, qn, bs, bm, hdct, sn, sub, ab, col, dd, k0, k1, k2, k3, k5, atC, _⟩ := excInit_of (X₀.keeps FR.keep) q
  have atU := (NW _ hu).1
  obtain ⟨pre, post, rfl, ng, na, nb⟩ := U.split
  have atX := (NW (xa, excObj Ca ta dvo cc2) (by simp)).1
  have below : ∀ p ∈ pre ++ (xa, excObj Ca ta dvo cc2) :: post, p.1 < sh.heap.objs.size := fun p hp => Heap.lt_size (NW p hp).1
  have fin : ∀ h2, (∀ b o, b ≠ xa → sh.heap.get? b = some o → h2.get? b = some o) → h2.get? xa = some (excObj Ca sh.heap.objs.size dvo cc2) → h2.get? sh.heap.objs.size = some (excTup us) → Q .none { sh with heap := h2 } := fun h2 kp eX eT => by
    obtain ⟨oL, es, ep, atL, rr⟩ := FR.ns
    have neL : La ≠ xa := fun z => (NW (xa, excObj Ca ta dvo cc2) (by simp)).2.1 z.symm
    have none0 : h₀.get? xa = none := (NW (xa, excObj Ca ta dvo cc2) (by simp)).2.2
    refine go sh.heap.objs.size h2 ⟨⟨oL, es, ep, kp _ _ neL atL, rr⟩, fun b o z => kp b o (fun y => by rw [y, none0] at z; cases z) (FR.keep b o z), FR.above⟩ ?_ below
    rw [ng]
    intro p hp
    rcases List.mem_cons.mp hp with rfl | hp
    · refine ⟨eT, fun z => ?_, ?_⟩
      · have y := Heap.lt_size (show sh.heap.get? La = some oL from atL)
        rw [← z] at y
        exact absurd y (Nat.lt_irrefl _)
      · cases z : h₀.get? sh.heap.objs.size with
        | none => rfl
        | some o => exact absurd (Heap.lt_size (FR.keep _ _ z)) (Nat.lt_irrefl _)
    rcases List.mem_append.mp hp with hp | hp
    · have y := NW p (List.mem_append_left _ hp)
      exact ⟨kp _ _ (na p hp) y.1, y.2⟩
    rcases List.mem_cons.mp hp with rfl | hp
    · exact ⟨eX, (NW (xa, excObj Ca ta dvo cc2) (by simp)).2⟩
    · have y := NW p (List.mem_append_right _ (.tail _ hp))
      exact ⟨kp _ _ (nb p hp) y.1, y.2⟩
  obtain ⟨hh, g, d, tk, os⟩ := sh
  refine wpAny_call (codeAny_of_tree ?_)
  show wpAny _ Ar.in1 (callAny (.ref ua) ⟨us, []⟩) _ _ _
  simp only [callAny]
  refine wpAny_bind (wpAny_load atU ?_)
  have mw : (Value.type "method-wrapper" == Value.type "method" || Value.type "method-wrapper" == Value.type "builtin_function_or_method" || Value.type "method-wrapper" == Value.type "method-wrapper") = true := by decide
  simp only [kxs_mw, mw, if_true]
  refine KFB.if_so (by decide) ?_
  refine wpAny_bind (nf_init F atC atX rfl ?_)
  refine wpAny_bind (wpAny_pure (wpAny_pure ?_))
  refine ⟨plainId_quiet F.slot.plain _, codeAny_builtin F.entry ?_⟩
  exact exc_init_tree (cls := .ref Ca) (t0 := ta) (dv := dvo) (c2 := cc2) (c3 := .none) (b4 := .bool false) atX sz fin
end
end DL

namespace DL
open PySem PySem.Spec PyProof.Rows L2 LamX

abbrev initBody (m slf v fld : Str) (j : Nat) (p0 p1 p2 p3 p4 p5 p6 p7 p8 p9 : Pos) : List Stmt :=
  [.Expr (.Call (.Attribute (.Call (.Name "super" p0) [] [] p1) "__init__" p2) [.Constant (.str m) j p3] [] p4) p5, .Assign [.Attribute (.Name slf p6) fld p7] (.Name v p8) p9]
/-- what must be seen of the class at C and of its __init__ at fI -/
structure InitOk (P : Program) (K : Fg) (mg : Str → Option Value) (C fI cc cda : Addr) (BN B newId initId : String) (bmB : List Value) (fld qual slf v : Str) (fd : FuncData) (scope : Scope) (body : List Stmt) : Prop where
  nwf : NewF BN newId bmB
  inf : IniF B initId
  sup : PySem.W.KxsFacts B initId
  sto : StoreFacts B bmB "object.__setattr__" "object"
  ini : PySem.W.excInitIn K C bmB newId = true
  ovr : PySem.W.excOver K C bmB = true
  hdi : PySem.W.hasDictIn K C = true
  tak : PySem.W.takerIn K C fld = some none
  sta : PySem.W.findIn K (.ref C) "__setattr__" = some (some (.builtin "object.__setattr__"))
  fun_ : ∃ oc od osl, K.lookup fI = some ⟨oc, od, .func fd, osl⟩
  fdt : ∃ name params dV kV doc pm an ct, fd = PySem.W.ksFn name qual params body scope dV kV doc pm an (.ref cda) ct cc ∧ ∃ ar : Arg, (params.posonlyargs ++ params.args).head? = some ar ∧ ar.arg = slf
  bod : ∃ m j p0 p1 p2 p3 p4 p5 p6 p7 p8 p9, body = initBody m slf v fld j p0 p1 p2 p3 p4 p5 p6 p7 p8 p9 ∧
    (∀ L, ∃ pl : Sem Bool, eval (.Call (.Attribute (.Call (.Name "super" p0) [] [] p1) "__init__" p2) [.Constant (.str m) j p3] [] p4) (PySem.W.ksEnv qual scope L fI (.ref cda) cc) = (do
      let ov ← attributeBase (.Call (.Name "super" p0) [] [] p1) "__init__" (PySem.W.ksEnv qual scope L fI (.ref cda) cc) (eval (.Call (.Name "super" p0) [] [] p1) (PySem.W.ksEnv qual scope L fI (.ref cda) cc))
      standAt p2.atName
      let (f, first) ← holding [ov] (getMethod ov "__init__" pl)
      callWith p4 f first (backTo p4 (starEach [.Constant (.str m) j p3] (PySem.W.ksEnv qual scope L fI (.ref cda) cc))) [])) ∧
    (∀ L, swapsWith (.Call (.Attribute (.Call (.Name "super" p0) [] [] p1) "__init__" p2) [.Constant (.str m) j p3] [] p4) none p5.line (PySem.W.ksEnv qual scope L fI (.ref cda) cc) = pure false) ∧
    (∀ L, swapsWith (.Name v p8) (some (.Attribute (.Name slf p6) fld p7)) p9.line (PySem.W.ksEnv qual scope L fI (.ref cda) cc) = pure false)
  cod : PySem.W.codeIn K (.ref cda) qual = true
  fil : ∃ ccl cdd ccs vs file tf, K.lookup cda = some ⟨ccl, cdd, .fields vs, ccs⟩ ∧ vs[2]? = some (.str file tf) ∧ ((P.main.file : Str) == file) = true
  cel : ∃ cl cld csl, K.lookup cc = some ⟨cl, cld, .cell (some (.ref C)), csl⟩
  mro : PySem.W.mroIn K C (.ref C) = some true
  spi : PySem.W.ks_superIn K C C "__init__" = some (some (.builtin initId))
  sbb : PySem.W.subIn K (.ref C) (.type B) = some true
  cst : PySem.W.nsIn K cStatics "thirdparty.any" = some none
  nos : mg "super" = none
  top : (P.main.scope.names.lookup ("super" : Str)).isSome = false
  sc1 : scope.names.lookup ("super" : Str) = some .globalImplicit
  sc2 : scope.names.lookup ("__class__" : Str) = some .free
  sc3 : scope.names.lookup slf = some .local
  sc4 : scope.names.lookup v = some .local
  sc5 : ∀ x ∈ scope.names, x.2 ≠ .cell
  kin : scope.kind = .function
  cor : scope.isCoroutine = false
  gen : scope.isGenerator = false
  ne : slf ≠ v
  db1 : (slf == ("__debug__" : Str)) = false
  db2 : (v == ("__debug__" : Str)) = false
/-- one entry -/
theorem ns1_one {h : Heap} {dx : Addr} {o : Obj} {hs : Int} {f : Str} {t : Tok} {u : Value} {n : Nat} (e : h.get? dx = some o) (d : o.data = .dict [(⟨hs, .str f t, u⟩ : DictEntry)].toArray n) : h.Ns1 dx fun y => if y = f then some u else none := by
  refine ⟨o, _, n, e, d, fun e he => ?_, ?_, fun y => ?_⟩
  · simp at he
    subst he
    exact ⟨f, t, rfl⟩
  · simp [UniqKeys]
  · simp only [nsFind, findBy, List.find?_toArray, List.find?_cons, List.find?_nil, Value.isStr]
    by_cases hy : y = f
    · subst hy; simp
    · have e : (f == y) = false := by simpa using Ne.symm hy
      simp [hy, e]
section
variable {P : Program} {w : World} {A : Around} {K : Fg} {mg mb : Str → Option Value} {C fI cc cda a t0 : Addr} {BN B newId initId : String} {bmB : List Value} {fld qual slf v : Str} {fd : FuncData} {scope : Scope} {body : List Stmt} {s : Shared} {u : Value} {R : Result → Shared → Prop}
theorem init_call (T : InitOk P K mg C fI cc cda BN B newId initId bmB fld qual slf v fd scope body) (X : K.In s.heap) (hgl : s.heap.Ns mainGlobals mg) (hbn : s.heap.Ns builtinsNs mb) (hbb : ∀ x : Str, x ≠ "__name__" → mb x = bootBuiltins x) (lim : s.heap.NoLimit)
    (hroom : A.depth < recursionLimit) (ha : s.heap.get? a = some (PySem.W.excObj C t0 none .none)) (hKa : K.lookup a = none) (hga : a ≠ mainGlobals) (hba : a ≠ builtinsNs) (hbind : BindsTo s fd ⟨[.ref a, u], []⟩ [(slf, .ref a), (v, u)])
    (h : ∀ h' tk dx t1, (∀ b o, b ≠ a → s.heap.get? b = some o → h'.get? b = some o) → h'.get? a = some (PySem.W.excObj C t1 (some dx) .none) → h'.Ns1 dx (fun y => if y = fld then some u else none) → a < dx →
      R (.ok (.ret .none)) { s with heap := h', toks := tk }) : codeAny (model P w) A (.call (.ref fI) ⟨[.ref a, u], []⟩) R s := by
  obtain ⟨oc, od, osl, hfI⟩ := T.fun_
  obtain ⟨name, params, dV, kV, doc, pm, an, ct, rfl, ar, har, hself⟩ := T.fdt
  obtain ⟨m, j, p0, p1, p2, p3, p4, p5, p6, p7, p8, p9, rfl, hmet, hsw1, hsw2⟩ := T.bod
  obtain ⟨ccl, cdd, ccs, vs, file, tf, hcode, hvs, hfile⟩ := T.fil
  obtain ⟨cl, cld, csl, hcell⟩ := T.cel
  refine ks_codeAny_call_defAt (fd := PySem.W.ksFn name qual params (initBody m slf v fld j p0 p1 p2 p3 p4 p5 p6 p7 p8 p9) scope dV kV doc pm an (.ref cda) ct cc) (body := initBody m slf v fld j p0 p1 p2 p3 p4 p5 p6 p7 p8 p9) (binds := [(slf, .ref a), (v, u)])
    hroom (X _ _ hfI) rfl lim (PySem.W.codeRec_of X T.cod) rfl hbind T.sc5 (fun y hy => ?_) (fun h₁ hns hk₁ => ?_) T.cor T.gen T.kin
  · rcases List.mem_cons.mp hy with rfl | hy
    · exact T.sc3
    · rcases List.mem_cons.mp hy with rfl | hy
      · exact T.sc4
      · exact nomatch hy
  generalize hG : PySem.W.hideAll s.heap [a] = g
  have gOf : ∀ b o, g.get? b = some o → s.heap.get? b = some o := fun b o e => by rw [← hG] at e; exact PySem.W.of_hideAll _ e
  have gAt : ∀ b o, b ≠ a → s.heap.get? b = some o → g.get? b = some o := fun b o hb e => by rw [← hG]; exact PySem.W.hideAll_get _ e (by simpa using hb)
  have gA : g.get? a = none := by rw [← hG]; exact PySem.W.hideAll_none _ (by simp)
  have gN : ∀ {b : Addr} {m : Str → Option Value}, b ≠ a → s.heap.Ns b m → g.Ns b m := fun {b m} hb ⟨o, es, ep, e, r⟩ => ⟨o, es, ep, gAt b o hb e, r⟩
  have F0 : Fr g s.heap.objs.size h₁ (fun x => [(slf, Value.ref a), (v, u)].reverse.lookup x) := ⟨hns, fun b o e => hk₁ b o (gOf b o e), by rw [← hG]; exact Nat.le_of_eq (PySem.W.hideAll_size _ _)⟩
  have N0 : News g s.heap.objs.size h₁ [(a, PySem.W.excObj C t0 none .none)] := fun p hp => by
    obtain rfl : p = (a, PySem.W.excObj C t0 none .none) := by simpa using hp
    exact ⟨hk₁ _ _ ha, Nat.ne_of_lt (Heap.lt_size ha), gA⟩
  have X0 : K.In g := fun b o e => gAt b o (fun z => by rw [z, hKa] at e; cases e) (X b o e)
  have hC := X0
  have boot : bootBuiltins "super" = some (.type "super") := by decide +kernel
  -- the class at C, as an object
  have clsC : ∃ cd, PySem.W.clsIn K C = some cd := by
    have q := T.mro
    unfold PySem.W.mroIn at q
    cases z : PySem.W.clsIn K C with
    | none => rw [z] at q; cases q
    | some cd => exact ⟨cd, rfl⟩
  obtain ⟨cd, hcd⟩ := clsC
  have objC : ∀ {h : Heap}, K.In h → ∃ oD, h.get? C = some oD ∧ oD.data = .cls cd := fun {h} k => by
    have q := hcd
    unfold PySem.W.clsIn at q
    split at q
    · rename_i c d cd' sl ho
      cases q
      exact ⟨_, k _ _ ho, rfl⟩
    · cases q
  have hv1 : ([(slf, Value.ref a), (v, u)].reverse.lookup slf) = some (.ref a) := by
    have e : (slf == v) = false := by simpa using T.ne
    simp [List.lookup, e]
  have hv2 : ([(slf, Value.ref a), (v, u)].reverse.lookup v) = some u := by simp [List.lookup]
  show PySem.wpAt (model P w) (A.deeper (PySem.W.ksEnv qual scope s.heap.objs.size fI (.ref cda) cc)) (.func _ (PySem.W.ksEnv qual scope s.heap.objs.size fI (.ref cda) cc)) (execs _ (PySem.W.ksEnv qual scope s.heap.objs.size fI (.ref cda) cc)) _ _ _
  obtain ⟨pl, hpl⟩ := hmet s.heap.objs.size
  have nint : interactive (PySem.W.ksEnv qual scope s.heap.objs.size fI (.ref cda) cc) = false := by
    unfold interactive
    simp [T.kin]
  refine ks_wpAt_execs_cons (ks_wpAt_Expr_any (ks_wpAt_MethodCall (pl := pl) ?_ hpl) nint (hsw1 _))
  refine ks_wpAt_super_base (env := PySem.W.ksEnv qual scope s.heap.objs.size fI (.ref cda) cc) T.sc1 T.sc2 (by decide) rfl (hk₁ _ _ (X _ _ hfI)) rfl har rfl (hk₁ _ _ (X _ _ hcode)) rfl hvs hfile T.top ?_
  refine PySem.W.ks_loadName_global T.kin T.sc1 (Calls.loadGlobal_builtin (env := PySem.W.ksEnv qual scope s.heap.objs.size fI (.ref cda) cc) ((gN (Ne.symm hga) hgl).keeps F0.keep) T.nos ((gN (Ne.symm hba) hbn).keeps F0.keep) ((hbb _ (by decide +kernel)).trans boot) ⟨rfl, ?_⟩)
  refine wpAny_loadName_free T.kin T.sc2 rfl ⟨_, hk₁ _ _ (X _ _ hcell), rfl⟩ ?_
  rw [hself]
  refine wpAny_loadName_local T.kin T.sc3 F0.ns hv1 ?_
  obtain ⟨oD, hD1, hD2⟩ := objC (X0.keeps F0.keep)
  refine ks_wpAny_isType_cls hD1 hD2 ⟨rfl, ?_⟩
  refine ks_wpAny_call_super (C := C) hD1 hD2 (hk₁ _ _ ha) rfl (fun c e => by cases e) (PySem.W.looks_mroIn (X0.keeps F0.keep) T.mro) (fun h2 e2 k2 => ?_)
  obtain ⟨F1, N1, lt1⟩ := PySem.W.ks_newsPush (s := ⟨h₁, s.gens, s.drawn, s.toks + [(slf, Value.ref a), (v, u)].length, s.os⟩) F0 N0 rfl e2 k2
  have I1 : PySem.W.InstAt h2 a (PySem.W.excObj C t0 none .none) C none := ⟨(N1 (a, PySem.W.excObj C t0 none .none) (by simp)).1, rfl, rfl, trivial⟩
  refine PySem.W.kxs_method (s := ⟨h2, s.gens, s.drawn, s.toks + [(slf, Value.ref a), (v, u)].length, s.os⟩) T.sup F1 X0 N1 (List.mem_cons_self ..) I1 T.cst T.spi T.sbb (by decide) fun q h3 F2 N2 lt2 => ?_
  refine PySem.W.kxs_callWith1 N2 (List.mem_cons_self ..) ?_
  show wpAny _ _ (spliced ((false, eval (.Constant (.str m) j p3) (PySem.W.ksEnv qual scope s.heap.objs.size fI (.ref cda) cc)) :: backTo p4 (starEach [] (PySem.W.ksEnv qual scope s.heap.objs.size fI (.ref cda) cc)))) _ _ _
  refine Calls.spliced_cons (Calls.Constant_str (Calls.spliced_nil ⟨PySem.W.kxs_at (h := h3) N2 (List.mem_cons_self ..), ?_⟩))
  have aq : a ≠ q := Nat.ne_of_lt (lt2 (a, PySem.W.excObj C t0 none .none) (by simp))
  have ah : a ≠ h₁.objs.size := Nat.ne_of_lt (lt1 (a, PySem.W.excObj C t0 none .none) (by simp))
  refine nf_super (ta := t0) (dvo := none) (cc2 := .none) F2 X0 N2 T.inf T.ini (List.mem_cons_self ..) (.tail (Ne.symm aq) (.tail (Ne.symm ah) (.head fun p hp => nomatch hp))) (by simp [sizeLine_eq]) fun t1 h4 F4 N4 lt4 => ?_
  refine ks_wpAt_execs_cons (ks_wpAt_Assign_Attr (wpAt_of_wpAny (wpAny_Name (wpAny_loadName_local T.kin T.sc4 F4.ns hv2 (wpAny_Name (wpAny_loadName_local T.kin T.sc3 F4.ns hv1 ?_) T.db1)) T.db2)) (hsw2 _))
  have at_a : a ≠ t1 := Nat.ne_of_lt (lt4 (a, PySem.W.excObj C t0 none .none) (by simp))
  refine PySem.W.set_exc0 (x := a) (t := t1) (c2 := .none) T.sto F4 X0 N4 (by simp) T.sta T.ovr T.tak T.hdi rfl (.tail (Ne.symm at_a) (.tail (Ne.symm aq) (.tail (Ne.symm ah) (.head fun p hp => nomatch hp)))) (by simp [PySem.W.putL]) fun dx h5 F5 N5 lt5 => ?_
  have n5 := N5 (dx, _) (List.mem_cons_self ..)
  have a5 := N5 (a, PySem.W.excObj C t1 (some dx) .none) (by simp)
  refine wpAt_of_wpAny (wpAny_execs_nil ?_)
  exact h h5 _ dx t1 (fun b o hb e => F5.keep b o (gAt b o hb e)) a5.1 (ns1_one n5.1 rfl) (lt5 (a, PySem.W.excObj C t1 none .none) (by simp))
end
variable [WW]
structure XcV (P : Program) (K : Fg) (mg : Str → Option Value) (x fld : Str) : Prop where
  ex : ∃ (C fI cc cda : Addr) (BN B newId initId : String) (bmB : List Value) (qual slf v : Str) (fd : FuncData) (scope : Scope) (body : List Stmt), InitOk P K mg C fI cc cda BN B newId initId bmB fld qual slf v fd scope body ∧
    mg x = some (.ref C) ∧ PySem.W.keepIn K (.ref C) = true ∧ PySem.W.subIn K (.ref C) (.type "BaseException") = some true ∧ PySem.W.typeIn K (.ref C) = some (.type "type") ∧
    PySem.W.findIn K (.ref C) "__init__" = some (some (.ref fI)) ∧ PySem.W.typeIn K (.ref fI) = some (.type "function") ∧ Binds K fd [slf, v] []
def xRaiseV (c fld : Str) (fe : Fx) : Fsx := fun ρ γ => (fe ρ γ).map fun p => .x c (some (fld, p.1)) p.2.1 p.2.2
section
variable {X : Cx}
def cRaiseV (X : Cx) (x fld : Str) (Q : XK) : List V → Hp → Prop
  | [y], H1 => ∀ C, X.mg x = some (.ref C) → ∀ dx, H1 dx = none → Q (.ref C) (some dx) (upd H1 dx (.xd [(fld, y)]))
  | _, _ => False
def tRaiseV (X : Cx) (x fld : Str) (te : TE) : L2.St → Hp → XK → Prop := fun σ H Q => te σ H fun y H1 => cRaiseV X x fld Q [y] H1
theorem pmk_v {x fld : Str} {e : Expr} {te : TE} {p pos : Pos} (T : XcV X.prog X.K X.mg x fld) (hr : Room 1 X.A) (hg : Gl X x) (he : PE X e te) (hdb : (x == ("__debug__" : Str)) = false := by decide) (hs : starEach [e] X.env = (false, eval e X.env) :: starEach [] X.env := by rfl) (hpl : (backTo pos (starEach [] X.env)).any (·.1) = false := by rfl) :
    PMk X (.Call (.Name x p) [e] [] pos) (tRaiseV X x fld te) := by
  intro pins s σ H Q I h
  obtain ⟨C, fI, cc, cda, BN, B, newId, initId, bmB, qual, slf, v, fd, scope, body, T, gC, kC, sC, tC, iC, tI, hb⟩ := T.ex
  refine wpAny_Call_Name_kw (ld_glob I hg gC ?_ hdb)
  refine PySem.W.callWith_K (h₀ := X.base) I.ok.mod.kin kC (thn ((pa_cons he pa_nil hs).run pos pins s σ H (cRaiseV X x fld Q) I h) fun us s1 hh => ?_) hs hpl
  obtain ⟨vs, H1, I1, r1, q⟩ := hh
  refine ⟨I1.kIn, ?_⟩
  cases r1 with
  | nil => exact q.elim
  | @cons y u ys us' ry r2 =>
  cases r2 with
  | cons r3 r4 => exact q.elim
  | nil =>
  have q : ∀ C, X.mg x = some (.ref C) → ∀ dx, H1 dx = none → Q (.ref C) (some dx) (upd H1 dx (.xd [(fld, y)])) := q
  obtain ⟨nm, N', qn, bs, bm, hdct, sn, sub, ab, col, dd, k0, k1, k2, k3, k5, hC, hT⟩ := PySem.W.excInit_of I1.kIn T.ini
  obtain ⟨hp, g, dr, tk, os⟩ := s1
  show wpAny _ _ (call (.ref C) [u]) _ _ _
  refine wpAny_call (nf_call T.nwf hT hC (PySem.W.looks_findIn I1.kIn iC) (fun self => PySem.W.bind_fn I1.kIn self tI) (by simp [sizeLine_eq]) ?_)
  have kk : ∀ b o, hp.get? b = some o → ((hp.push (PySem.W.kdv_tup [u])).push (PySem.HandSPX.excO C hp.objs.size)).get? b = some o := fun b o e => Heap.get?_push_of_some _ (Heap.get?_push_of_some _ e)
  have hget : ((hp.push (PySem.W.kdv_tup [u])).push (PySem.HandSPX.excO C hp.objs.size)).get? (hp.objs.size + 1) = some (PySem.HandSPX.excO C hp.objs.size) := by heap_get
  have low : ∀ b o, X.base.get? b = some o → hp.get? b = some o := fun b o z => (I1.env0.bs b o z).1
  obtain ⟨mb, hbn, hbb⟩ := I1.ok.mod.blt
  have up : ∀ {b : Addr} {m : Str → Option Value}, X.base.Ns b m → ((hp.push (PySem.W.kdv_tup [u])).push (PySem.HandSPX.excO C hp.objs.size)).Ns b m := fun {b m} ⟨o, es, ep, e, r⟩ => ⟨o, es, ep, kk _ _ (low _ _ e), r⟩
  have nolive : ∀ {b : Addr} {m : Str → Option Value}, X.base.Ns b m → hp.objs.size + 1 ≠ b := fun {b m} ⟨o, es, ep, e, r⟩ z => by
    have lt := Heap.lt_size (low _ _ e)
    rw [← z] at lt
    exact absurd lt (Nat.not_lt.mpr (Nat.le_succ _))
  have X2 : X.K.In ((hp.push (PySem.W.kdv_tup [u])).push (PySem.HandSPX.excO C hp.objs.size)) := fun b o e => kk _ _ (I1.kIn b o e)
  have hKa : X.K.lookup (hp.objs.size + 1) = none := by
    cases z : X.K.lookup (hp.objs.size + 1) with
    | none => rfl
    | some o =>
      exact absurd (Heap.lt_size (I1.kIn _ _ z)) (Nat.not_lt.mpr (Nat.le_succ _))
  have hbd := hb (⟨(hp.push (PySem.W.kdv_tup [u])).push (PySem.HandSPX.excO C hp.objs.size), g, dr, tk, os⟩ : Shared) [.ref (hp.objs.size + 1), u] X2 rfl
  refine init_call T X2 (up I1.ok.mod.glob) (up hbn) hbb (I1.ok.mod.nolimit.keeps fun b o z => kk _ _ (low _ _ z)) (hr.make C [u] []).depth hget hKa (nolive I1.ok.mod.glob) (nolive hbn) hbd fun h' tk' dx t1 keep ha hns hda => ?_
  refine ⟨rfl, ?_⟩
  -- the state without the exception
  obtain ⟨G, g1, g2⟩ := L2.restrict h' fun b => decide (b ≠ hp.objs.size + 1)
  have gk : ∀ b, b ≠ hp.objs.size + 1 → G.get? b = h'.get? b := fun b hb => g1 b (decide_eq_true hb)
  have ga : G.get? (hp.objs.size + 1) = none := g2 _ (by simp)
  have old : ∀ b o, hp.get? b = some o → G.get? b = some o := fun b o e => by
    have hb : b ≠ hp.objs.size + 1 := fun z => by
      have lt := Heap.lt_size e
      rw [z] at lt
      exact absurd lt (Nat.not_lt.mpr (Nat.le_succ _))
    rw [gk b hb]
    exact keep b o hb (kk _ _ e)
  have dle : hp.objs.size ≤ dx := Nat.le_of_lt (Nat.lt_of_le_of_lt (Nat.le_succ _) hda)
  have dn : H1 dx = none := I1.hok.fresh dle
  have hns' : G.Ns1 dx (fun y => if y = fld then some u else none) := hns.at fun o z => (gk dx (Ne.symm (Nat.ne_of_lt hda))).trans z
  have J : Inv X pins σ (upd H1 dx (.xd [(fld, y)])) ⟨G, g, dr, tk', os⟩ := I1.laid (t' := tk') (a := dx) (o := .xd [(fld, y)]) (h' := G) old dle ⟨_, hns', fun f => by
    by_cases e : f = fld
    · subst e
      have e1 : List.lookup f [(f, y)] = some y := by simp [List.lookup]
      rw [e1, if_pos rfl]
      exact ry
    · have e' : (f == fld) = false := by simpa using e
      simp [List.lookup, e', e, RelO]⟩
  refine ⟨hp.objs.size + 1, _, _, ⟨G, g, dr, tk', os⟩, _, .ref C, some dx, rfl, J, fun b o z => ?_, ga, ha, ⟨rfl, rfl⟩, rfl, rfl, ?_, rfl, I1.bare, raises_own sC tC, q C gC dx dn⟩
  · by_cases hb : b = hp.objs.size + 1
    · rw [hb, ga] at z; cases z
    · exact (gk b hb).symm.trans z
  · rw [upd_ne (Nat.ne_of_lt hda)]
    exact I1.hok.fresh (Nat.le_succ _)
theorem dsx_raiseV {x fld : Str} {e : Expr} {fe : Fx} {p1 p3 pos : Pos} (O : Okc X) (T : XcV X.prog X.K X.mg x fld) (hg : Gl X x) (he : DE X e fe) (hdb : (x == ("__debug__" : Str)) = false := by decide) (hs : starEach [e] X.env = (false, eval e X.env) :: starEach [] X.env := by rfl) (hpl : (backTo p3 (starEach [] X.env)).any (·.1) = false := by rfl) :
    DSx X (.Raise (some (.Call (.Name x p1) [e] [] p3)) none pos) (xRaiseV x fld fe) := by
  obtain ⟨t, pt, q⟩ := he
  refine ⟨fun W _ σ H => tRaiseV X x fld t σ H fun cls d H' => W cls d σ H', fun W tk => ps_raise O.calm tk (pmk_v T O.hr hg pt hdb hs hpl), fun δ F own G H ρ γ σ o W E R e k => ?_⟩
  obtain ⟨⟨z, ρ1, γ1⟩, e1, e⟩ := map_some e
  cases e
  refine q δ F own G H ρ γ σ z _ _ _ R e1 fun v G1 H1 R1 s1 r1 => fun C gC dx hn => ?_
  have st := Step.own R1.sub hn (.xd [(fld, v)])
  exact k C gC own G1 _ σ (some dx) (R1.step st) s1 ⟨dx, [(fld, v)], v, rfl, upd_same, by simp [List.lookup], r1⟩
end
end DL

namespace DL
open PySem PySem.Spec PyProof.Rows L2 LamX
variable [WW]

/-- an expression of a suite, by what the exception keeps under fld; i: the slot of its name -/
structure SE (X : Cx) (i : Nat) (x fld : Str) (e : Expr) (g : D → Option D) (ts : Addr → Value → Option Addr → TE) : Prop where
  run : ∀ (a : Addr) (oe : Obj) (cls : Value) (d : Option Addr) (pn : List (Addr × Obj)), Zc cls d oe → (∃ vs, oe.data = .fields vs) → PE (X.suite a ((a, oe) :: pn)) e (ts a cls d)
  val : ∀ (C : Addr), X.mg x = some (.ref C) → ∀ (δ : List Addr) (F : Fm) (own : Nat → Addr) (G H : Hp) (ρ : Row) (γ : Bxs) (σ : L2.St) (a : Addr) (d : Option Addr) (y z : D) (Q : VK), Rel X.K δ F own G H ρ γ σ → σ[i]? = some (some (.ref a)) →
    PlOk X.K G H d (some (fld, y)) → g y = some z → (∀ v G' H', Rel X.K δ F own G' H' ρ γ σ → Same G G' → PlOk X.K G' H' d (some (fld, y)) → Rep X.K G' v z → Q v H') → ts a (.ref C) d σ H Q
/-- the class's field is read -/
structure XcF (K : Fg) (mg : Str → Option Value) (x fld : Str) : Prop where
  ex : ∃ C, mg x = some (.ref C) ∧ xfB K C = true ∧ PySem.W.findIn K (.ref C) fld = some none
theorem PlOk.mono {K : Fg} {G H G' H' : Hp} {d : Option Addr} {p : Pl} (h : PlOk K G H d p) (s : Same G G') (t : Same H H') : PlOk K G' H' d p := by
  cases p with
  | none => trivial
  | some q =>
    obtain ⟨f, x⟩ := q
    obtain ⟨dd, fs, v, e1, e2, e3, e4⟩ := h
    exact ⟨dd, fs, v, e1, t _ _ e2, e3, e4.mono s⟩
section
variable {X : Cx} {i : Nat} {x fld n : Str} {e f : Expr} {g g2 : D → Option D} {ts ts2 : Addr → Value → Option Addr → TE} {pos p : Pos}
theorem se_str {m : Str} {j : Nat} : SE X i x fld (.Constant (.str m) j pos) (fun _ => some (.str m)) (fun _ _ _ => tC (.str m)) :=
  ⟨fun _ _ _ _ _ _ _ => pe_str, fun C hC δ F own G H ρ γ σ a d y z Q R hs hp e k => by cases e; exact k _ G H R (Same.refl _) hp (.str m)⟩
theorem se_fld (C : Addr) (hC : X.mg x = some (.ref C)) (hx : xfB X.K C = true) (hno : PySem.W.findIn X.K (.ref C) fld = some none) (hN : X.N[i]? = some n) (hv : Vis X.env.scope n) (hd : (n == ("__debug__" : Str)) = false := by decide) (hcd : (n == ("__classdict__" : Str)) = false := by decide)
    (hb : attributeBase (.Name n p) fld X.env (eval (.Name n p) X.env) = eval (.Name n p) X.env := by rfl) :
    SE X i x fld (.Attribute (.Name n p) fld pos) (fun y => some y) (fun a cls d => tXf a cls d C fld (tVar i)) := by
  refine ⟨fun a oe cls d pn hz hf => pe_xf (xfB_ok hx) hno hz hf (pe_var hN hv hd hcd) hb, fun C' hC' δ F own G H ρ γ σ a d y z Q R hs hp e k => ?_⟩
  cases e
  rw [hC] at hC'
  cases hC'
  obtain ⟨dd, fs, v, e1, e2, e3, e4⟩ := hp
  exact tvar_of hs ⟨rfl, rfl, dd, fs, v, e1, e2, e3, k v G H R (Same.refl _) ⟨dd, fs, v, e1, e2, e3, e4⟩ e4⟩
theorem se_repr (O : Okc X) (hg : Gl X "repr") (hm : X.mg "repr" = none) (he : SE X i x fld e g ts) (hs : starEach [e] X.env = (false, eval e X.env) :: starEach [] X.env := by rfl) :
    SE X i x fld (.Call (.Name "repr" p) [e] [] pos) (fun y => (g y).bind fun z => reprD [z]) (fun a cls d => tCB (rsD X.K reprD) (tCons (ts a cls d) tNil)) := by
  refine ⟨fun a oe cls d pn hz hf => ?_, fun C hC δ F own G H ρ γ σ a d y z Q R hs hp e k => ?_⟩
  · exact pe_callB (X := X.suite a ((a, oe) :: pn)) (cd_reprG (X := X.suite a ((a, oe) :: pn)) O.hg O.hr.units) hg hm (by decide +kernel) (pa_cons (he.run a oe cls d pn hz hf) pa_nil hs) (by decide) (by decide) hs rfl
  · obtain ⟨w, e1, e2⟩ := bind_some e
    refine he.val C hC δ F own G H ρ γ σ a d y w _ R hs hp e1 fun v G1 H1 R1 s1 p1 r1 => ?_
    exact ⟨G1, [w], z, R1.sub, .cons r1 .nil, e2, fun u G' H' st r => k u G' H' (R1.step st) (s1.trans st.sg) (p1.mono st.sg st.sh) r⟩
theorem se_pair {k' : Nat} (h1 : SE X i x fld e g ts) (h2 : SE X i x fld f g2 ts2) (hs : starEach [e, f] X.env = (false, eval e X.env) :: starEach [f] X.env := by rfl) (hs2 : starEach [f] X.env = (false, eval f X.env) :: starEach [] X.env := by rfl) :
    SE X i x fld (.Tuple [e, f] k' pos) (fun y => (g y).bind fun a => (g2 y).map fun b => .tuple [a, b]) (fun a cls d => tTupF (tCons (ts a cls d) (tCons (ts2 a cls d) tNil))) := by
  refine ⟨fun a oe cls d pn hz hf => ?_, fun C hC δ F own G H ρ γ σ a d y z Q R hs hp e k => ?_⟩
  · exact pe_tupF (X := X.suite a ((a, oe) :: pn)) (pa_cons (h1.run a oe cls d pn hz hf) (pa_cons (h2.run a oe cls d pn hz hf) pa_nil hs2) hs)
  · obtain ⟨w1, e1, e⟩ := bind_some e
    obtain ⟨w2, e2, e⟩ := map_some e
    cases e
    refine h1.val C hC δ F own G H ρ γ σ a d y w1 _ R hs hp e1 fun v G1 H1 R1 s1 p1 r1 => h2.val C hC δ F own G1 H1 ρ γ σ a d y w2 _ R1 hs p1 e2 fun u G2 H2 R2 s2 p2 r2 => ⟨by simp [sizeLine_eq], fun q us hq => ?_⟩
    have st := Step.new R2.sub hq (.frz (tupO us) (.tup [v, u]))
    exact k _ _ _ (R2.step st) ((s1.trans s2).trans st.sg) (p2.mono st.sg st.sh) (.tup (SqD.of upd_same rfl) ((Reps.cons (r1.mono s2) (.cons r2 .nil)).mono st.sg))
/-- what a suite makes of what the exception keeps -/
def hOf (fld : Str) (g : D → Option D) : Pl → Option D
  | some (f, y) => if f = fld then g y else none
  | none => none
theorem suite_ret (h : SE X i x fld e g ts) : Suite X (some i) [.Return (some e) pos] x (hOf fld g) (fun a cls d D σ H => ts a cls d σ H D.rt) := by
  refine ⟨fun a oe cls d pn hz hf => pss_one (ps_ret (h.run a oe cls d pn hz hf)), fun C hC δ F own G H ρ γ σ a d p z E R hs hp e k => ?_⟩
  cases p with
  | none => cases e
  | some q =>
    obtain ⟨f, y⟩ := q
    simp only [hOf] at e
    split at e
    case isFalse => cases e
    rename_i hf
    subst hf
    exact h.val C hC δ F own G H ρ γ σ a d y z _ R (hs i rfl) hp e fun v G' H' R' s' _ r => k v G' H' R' s' r
theorem suite_const {m : Str} {j : Nat} {p2 : Pos} {o : Option Nat} : Suite X o [.Return (some (.Constant (.str m) j p)) p2] x (fun _ => some (.str m)) (fun _ _ _ D σ H => tC (.str m) σ H D.rt) :=
  ⟨fun _ _ _ _ _ _ _ => pss_one (ps_ret pe_str), fun C hC δ F own G H ρ γ σ a d p z E R hs hp e k => by cases e; exact k _ G H R (Same.refl _) (.str m)⟩
theorem suite_bool {b : Bool} {j : Nat} {p2 : Pos} {o : Option Nat} : Suite X o [.Return (some (.Constant (.bool b) j p)) p2] x (fun _ => some (.bool b)) (fun _ _ _ D σ H => tC (.bl b) σ H D.rt) :=
  ⟨fun _ _ _ _ _ _ _ => pss_one (ps_ret pe_bl), fun C hC δ F own G H ρ γ σ a d p z E R hs hp e k => by cases e; exact k _ G H R (Same.refl _) (.bl b)⟩
end
end DL

namespace DL
open PySem PySem.Spec PyProof.Rows L2 LamX
variable [WW]
section
variable {P : Program} {w : World} {K : Fg} {mg mb : Str → Option Value} {k : Nat} {fa a : Addr} {fd : FuncData} {x : Str} {fn : Fn} {s₁ : Shared} {vs : List Value} {ns : List Int} {cs : List (Addr × Addr)}
theorem law_kpT (KX : K.In s₁.heap) (hns : s₁.heap.Ns mainGlobals mg) (hb : s₁.heap.Ns builtinsNs mb) (hbb : ∀ x : Str, x ≠ "__name__" → mb x = bootBuiltins x) (hlim : s₁.heap.NoLimit) (hg : s₁.gens = #[])
    (hT : ∀ p ∈ cs, s₁.heap.get? p.2 = some { cls := .none, data := .fields #[] }) (nT : ∀ p ∈ cs, K.lookup p.2 = none) (hC : ∀ p ∈ cs, PySem.W.CodeHd s₁.heap p.1 p.2) (hW : ∀ q ∈ WW.T, ∃ p ∈ cs, p.2 = q.1)
    (hbm : ∃ (bm : Addr) (ob : Obj), mg "__builtins__" = some (.ref bm) ∧ bm ≠ builtinsNs ∧ s₁.heap.get? bm = some ob ∧ ob.cls = .type "module" ∧ ob.dict = some builtinsNs ∧ ob.data = .plain)
    (ha : s₁.heap.get? a = some { cls := .type "list", data := .seq vs.toArray }) (hi : IntsAre vs ns) (hl : ns.length ≤ sizeLine) (hr : Room k callerA)
    (F : ∀ base : Heap, K.In base → base.Ns mainGlobals mg → (∀ p ∈ cs, TabB base mg p.1 p.2) → Kp P w K mg base k fa fd [x] fn) (hbind : ∀ (s : Shared) (u : Value), BindsTo s fd ⟨[u], []⟩ [(x, u)])
    (hfn : ∃ γ, fn [.d (.list (ns.map PyData.int))] [] = some (.d (.bool true), γ)) :
    codeAny (model P w) callerA (.call (.ref fa) ⟨[.ref a], []⟩) (fun r s' => r = .ok (.ret (.bool true)) ∧ OldK s₁.heap s'.heap ∧ s'.os = s₁.os ∧ AllBare s'.gens) s₁ := by
  have rv := vals_ints hi
  have lenV := hi.length
  obtain ⟨γ1, hfn⟩ := hfn
  -- what is a table, what is not
  have tabAt : ∀ {b : Addr}, b ∈ cs.map (·.2) → s₁.heap.get? b = some { cls := .none, data := .fields #[] } := fun {b} h => by
    obtain ⟨p, hp, e⟩ := List.mem_map.mp h
    rw [← e]; exact hT p hp
  have aNo : a ∉ cs.map (·.2) := fun z => by
    have q := tabAt z
    rw [ha] at q
    exact absurd (congrArg Obj.data (Option.some.inj q)) (fun z => nomatch z)
  have core : ∀ Gs : Hp, (∀ b o, Gs b = some o → b = a ∧ o = .frz { cls := .type "list", data := .seq vs.toArray } (.lst (ns.map V.int)) ∧ K.lookup a = none) → SqX K Gs a (ns.map V.int) →
      codeAny (model P w) callerA (.call (.ref fa) ⟨[.ref a], []⟩) (fun r s' => r = .ok (.ret (.bool true)) ∧ OldK s₁.heap s'.heap ∧ s'.os = s₁.os ∧ AllBare s'.gens) s₁ := by
    intro Gs hGs hS
    have gT : ∀ {b : Addr}, b ∈ cs.map (·.2) → Gs b = none := fun {b} h => by
      cases z : Gs b with
      | none => rfl
      | some o => exact absurd h (by rw [(hGs b o z).1]; exact aNo)
    obtain ⟨H, eH⟩ : ∃ H : Hp, H = fun b => if b ∈ cs.map (·.2) then some (.tbl #[]) else Gs b := ⟨_, rfl⟩
    have hTab : ∀ {b : Addr}, b ∈ cs.map (·.2) → H b = some (.tbl #[]) := fun {b} h => by rw [eH]; exact if_pos h
    have hNot : ∀ {b : Addr}, b ∉ cs.map (·.2) → H b = Gs b := fun {b} h => by rw [eH]; exact if_neg h
    have sub : Same Gs H := fun b o e => by
      rw [hNot (fun z => by rw [gT z] at e; cases e)]; exact e
    have hok : HOk P w H s₁.heap := fun b u z => by
      by_cases hb : b ∈ cs.map (·.2)
      · rw [hTab hb] at z
        cases z
        exact tabAt hb
      · rw [hNot hb] at z
        obtain ⟨rfl, rfl, _⟩ := hGs b u z
        exact ⟨ha, by rw [List.length_map]; exact hl, vs, _, rv, ha⟩
    have quiet : ∀ {b : Addr} {o : Obj}, s₁.heap.get? b = some o → (∀ us n, o.data ≠ .seq us n) → o.data ≠ .fields #[] → H b = none := fun {b o} e h1 h2 => by
      by_cases hb : b ∈ cs.map (·.2)
      · rw [tabAt hb] at e
        cases e
        exact absurd rfl h2
      · rw [hNot hb]
        cases z : Gs b with
        | none => rfl
        | some u =>
          rw [(hGs b u z).1, ha] at e
          cases e
          exact absurd rfl (h1 _ _)
    have inBase : ∀ {b : Addr} {o : Obj}, s₁.heap.get? b = some o → H b = none → (hidT s₁.heap H).get? b = some o := fun e n => hidT_get e n
    have names : ∀ {b : Addr} {m : Str → Option Value}, s₁.heap.Ns b m → (hidT s₁.heap H).Ns b m := fun {b m} ⟨o, es, ep, e, d, r⟩ =>
      ⟨o, es, ep, inBase e (quiet e (fun us n z => by rw [d] at z; cases z) (fun z => by rw [d] at z; cases z)), d, r⟩
    have inB : K.In (hidT s₁.heap H) := fun b o e => inBase (KX b o e) (by
      by_cases hb : b ∈ cs.map (·.2)
      · obtain ⟨p, hp, ep⟩ := List.mem_map.mp hb
        rw [← ep, nT p hp] at e
        cases e
      · rw [hNot hb]
        cases z : Gs b with
        | none => rfl
        | some u =>
          obtain ⟨e1, _, e3⟩ := hGs b u z
          rw [e1, e3] at e
          cases e)
    have hM : Mod K mg (hidT s₁.heap H) := ⟨inB, names hns, ⟨mb, names hb, hbb⟩, let ⟨mc, z1, z2⟩ := hlim; ⟨mc, names z1, z2⟩⟩
    have e0 : Env0 P w K mg (hidT s₁.heap H) callerA [] s₁ H := ⟨rfl, hM, fun b o e => of_hidT e, Nat.le_of_eq (hidT_size _ _), trivial, fun b hb => (nomatch hb), hok, .of_eq hg⟩
    have TB : ∀ p ∈ cs, TabB (hidT s₁.heap H) mg p.1 p.2 := fun p hp => by
      have here := hT p hp
      refine ⟨?_, ?_, fun z => ?_⟩
      · obtain ⟨o, us, file, tf, flags, tg, inF, text, tt, e1, r1, r2, r3, rest⟩ := hC p hp
        refine ⟨o, us, file, tf, flags, tg, inF, text, tt, inBase e1 (quiet e1 (fun us n z => ?_) fun z => ?_), r1, r2, r3, rest⟩
        · rw [r2] at z; cases z
        · rw [r2] at z
          cases z
          simp at r3
      · obtain ⟨bm, ob, b1, b2, b3, b4, b5, b6⟩ := hbm
        refine ⟨bm, ob, b1, b2, fun q => ?_, fun q => ?_, inBase b3 (quiet b3 (fun us n z => by rw [b6] at z; cases z) (fun z => by rw [b6] at z; cases z)), b4, b5, b6⟩
        · obtain ⟨o, es, ep, e, d, _⟩ := hns
          rw [q, e] at b3
          cases b3
          rw [d] at b6
          cases b6
        · rw [q, here] at b3
          cases b3
          cases b6
      · obtain ⟨o, es, ep, e, d, _⟩ := hns
        rw [z, here] at e
        cases e
        cases d
    have wd : Wd K [] [] Gs H := ⟨sub, rfl, List.nodup_nil, fun b hb => (nomatch hb), fun n c hc => by simp at hc, fun q hq => by
      obtain ⟨p, hp, e⟩ := hW q hq
      have hb : q.1 ∈ cs.map (·.2) := List.mem_map.mpr ⟨p, hp, e⟩
      exact ⟨TabS.nil (hTab hb), gT hb⟩⟩
    refine codeAny_mono ((F _ inB (names hns) TB).run callerA [] s₁ H Gs ⟨[.ref a], []⟩ [.ref a] [.ref a] [] [.d (.list (ns.map PyData.int))] [] (.d (.bool true)) γ1 (fun v _ => v = .bl true) hr rfl e0 (hbind s₁ (.ref a)) (.cons rfl .nil) rfl
      wd (.d (.lst hS (reps_script ns)) .nil) hfn fun v G' H' _ r => Rep.bl_inv r) fun r s' h => ?_
    cases r with
    | error e => exact False.elim h
    | ok fl =>
      cases fl with
      | next => exact False.elim h
      | brk => exact False.elim h
      | cont => exact False.elim h
      | ret u =>
        obtain ⟨v, H', os, bare, un, hok', r', q⟩ := h
        have q : v = .bl true := q
        subst q
        cases (show u = Value.bool true from r')
        have key : ∀ b o, b ∉ cs.map (·.2) → s₁.heap.get? b = some o → s'.heap.get? b = some o := fun b o nb e => by
          cases z : Gs b with
          | none => exact un.keep b o e (by rw [hNot nb]; exact z) (fun z => nomatch z) (fun z => nomatch z)
          | some u =>
            obtain ⟨_, eu, _⟩ := hGs b u z
            have z1 : H b = some (.frz { cls := .type "list", data := .seq vs.toArray } (.lst (ns.map V.int))) := by rw [hNot nb, z, eu]
            have e1 := (hok b _ z1).1
            have e2 := (hok' b _ (un.frzs b _ _ z1)).1
            rw [e] at e1
            cases e1
            exact e2
        have grown : ∀ p ∈ cs, ∃ more : Array Value, s'.heap.get? p.2 = some { cls := .none, data := .fields more } := fun p hp => by
          obtain ⟨more, z⟩ := un.tbls p.2 #[] (hTab (List.mem_map.mpr ⟨p, hp, rfl⟩))
          exact ⟨_, hok' p.2 _ z⟩
        refine ⟨rfl, ⟨fun b o e => ?_, fun b o e => ?_⟩, os, bare⟩
        · by_cases hb : b ∈ cs.map (·.2)
          · obtain ⟨p, hp, ep⟩ := List.mem_map.mp hb
            obtain ⟨more, hm⟩ := grown p hp
            rw [← ep, hT p hp] at e
            cases e
            rw [← ep]
            exact .inr (.inl ⟨((hC p hp).tab (hT p hp)).isCodeTable, rfl, #[], more, rfl, by rw [Array.empty_append]; exact hm⟩)
          · exact .inl (key b o hb e)
        · by_cases hb : b ∈ cs.map (·.2)
          · obtain ⟨p, hp, ep⟩ := List.mem_map.mp hb
            obtain ⟨more, hm⟩ := grown p hp
            exact ⟨_, by rw [← ep]; exact hm⟩
          · exact ⟨o, key b o hb e⟩
  cases hk : K.lookup a with
  | some o =>
    have e := KX a o hk
    rw [ha] at e
    cases e
    exact core (fun _ => none) (fun b o z => by cases z) (Or.inr ⟨vs.toArray, 0, hk, by rw [List.size_toArray, lenV]; exact hl, by simpa using rv⟩)
  | none =>
    refine core (fun b => if b = a then some (.frz { cls := .type "list", data := .seq vs.toArray } (.lst (ns.map V.int))) else none) (fun b u z => ?_) (Or.inl (Or.inr ⟨_, if_pos rfl⟩))
    by_cases h : b = a
    · have z := (if_pos h).symm.trans z
      exact ⟨h, (Option.some.inj z).symm, hk⟩
    · have z := (if_neg h).symm.trans z
      cases z
end
omit [WW] in
/-- the goal that the head leaves; T: the tables that are written, cs: their code objects -/
theorem walk_kpT {l : PySem.W.OpenLaw} {n k : Nat} {q : Program} {loose : List Str} {XP : (Str → Option Value) → Heap → Prop} {YP : World → Heap → Prop} {d : DefRec} {K : Params → Fg} {fn : Fn} {x : Str}
    (hn : l.most = some n) (hn2 : n ≤ sizeLine) (hdf : d.params.defaults = []) (hr : Room k callerA) (hY : ∀ (w : World) (h : Heap), YP w h → (K w.params).In h)
    (F : ∀ (w : World) (mg : Str → Option Value) (fa : Addr) (h : Heap), YP w h → (K w.params).In h → h.Ns mainGlobals mg → mg d.name = some (.ref fa) →
      ∃ (fd : FuncData) (T : List (Addr × Str)) (L : List Addr) (cs : List (Addr × Addr)), (∀ p ∈ cs, h.get? p.2 = some { cls := .none, data := .fields #[] }) ∧ (∀ p ∈ cs, (K w.params).lookup p.2 = none) ∧ (∀ p ∈ cs, PySem.W.CodeHd h p.1 p.2) ∧ (∀ q ∈ T, ∃ p ∈ cs, p.2 = q.1) ∧
        (∀ (s : Shared) (u : Value), BindsTo s fd ⟨[u], []⟩ [(x, u)]) ∧ ∀ base : Heap, (K w.params).In base → base.Ns mainGlobals mg → (∀ p ∈ cs, TabB base mg p.1 p.2) → @Kp (WW.mk w T L) l.prog w (K w.params) mg base k fa fd [x] fn)
    (hfn : ∀ ns : List Int, ns.length ≤ n → ∃ γ, fn [.d (.list (ns.map PyData.int))] [] = some (.d (.bool true), γ)) :
    PySem.W.WalkO q loose XP YP l.row.toRowW d [] (fun f vs => PySem.call f vs) := by
  refine Att.attach_call hn hdf fun w s₀ s₁ mg mb fa o pm cd doc a vs ns G Y ho hd hcd hmg hobj hints hlen hg => ?_
  have KX := hY w _ Y
  obtain ⟨fd, T, L, cs, hT, nT, hC, hW, hb, hF⟩ := F w mg fa _ Y KX G.T.g hmg
  letI : WW := WW.mk w T L
  exact law_kpT KX G.T.g G.T.b G.T.builtins G.T.nolimit hg hT nT hC hW G.T.bmain hobj hints (Nat.le_trans hlen hn2) hr hF hb (hfn ns hlen)
end DL

namespace DL
open PySem PySem.Spec PyProof.Rows L2 LamX
variable [WW]
theorem uniq_of {l : List (Addr × Str)} (h : (l.map (·.1)).Nodup) {p : Addr × Str} (hp : p ∈ l) : ∀ q ∈ l, q.1 = p.1 → q.2 = p.2 := by
  induction l with
  | nil => cases hp
  | cons a l ih =>
    rw [List.map_cons, List.nodup_cons] at h
    intro q hq e
    rcases List.mem_cons.mp hp with e1 | hp1
    · rcases List.mem_cons.mp hq with e2 | hq1
      · rw [e1, e2]
      · exact absurd (List.mem_map.mpr ⟨q, hq1, by rw [e, e1]⟩) h.1
    · rcases List.mem_cons.mp hq with e2 | hq1
      · exact absurd (List.mem_map.mpr ⟨p, hp1, by rw [← e, e2]⟩) h.1
      · exact ih h.2 hp1 q hq1 e
/-- the frames of a def's body: the callers', and a new one -/
theorem stk_ok {P : Program} {w : World} {K : Fg} {mg : Str → Option Value} {base : Heap} {N : List Str} {qual : Str} {st : Stmt} {f : Addr} {cdv : Value} {A : Around} {outer : List Env} {s : Shared} {H : Hp} :
    ∀ c ∈ frs (Cxd P w K mg base N qual st f cdv A outer s H).stack, c ∈ (Cxd P w K mg base N qual st f cdv A outer s H).fs ∨ (Cxd P w K mg base N qual st f cdv A outer s H).s_0.heap.get? c = none := by
  intro c hc
  have hc : c ∈ List.filterMap (·.frame) (envOfC qual (defScope st) s.heap.objs.size f cdv :: outer) := hc
  rw [List.filterMap_cons] at hc
  have e : (envOfC qual (defScope st) s.heap.objs.size f cdv).frame = some s.heap.objs.size := rfl
  rw [e] at hc
  rcases List.mem_cons.mp hc with z | z
  · refine .inr ?_
    show s.heap.get? c = none
    cases q : s.heap.get? c with
    | none => rfl
    | some o =>
      have := Heap.lt_size q
      rw [z] at this
      exact absurd this (Nat.lt_irrefl _)
  · exact .inl z
def qxIf (c : Ft) (fa fb : Fqx) : Fqx := fun ρ γ => (c ρ γ).bind fun p => if p.1 = true then fa p.2.1 p.2.2 else fb p.2.1 p.2.2
theorem dqx_if {X : Cx} {c a b : Expr} {ft : Ft} {fa fb : Fqx} {pos : Pos} (hc : DT X c ft) (ha : DQx X a fa) (hb : DQx X b fb) : DQx X (.IfExp c a b pos) (qxIf ft fa fb) := by
  obtain ⟨tc, pc, qc⟩ := hc
  obtain ⟨ta, pa, qa⟩ := ha
  obtain ⟨tb, pb, qb⟩ := hb
  refine ⟨_, fun W tk => pe_ifExp pc (pa W tk) (pb W tk), fun δ F own G H ρ γ σ o W Q R e k => ?_⟩
  obtain ⟨⟨z, ρ1, γ1⟩, e1, e⟩ := bind_some e
  have up : ∀ {G1 : Hp}, Same G G1 → ReQ X δ F own G1 W σ Q o := fun {G1} s => by
    cases o with
    | v s0 ρ2 γ2 => exact fun v G' H' R' sg r => k v G' H' R' (s.trans sg) r
    | x c p ρ2 γ2 => exact XcOk.mono s k
  refine qc δ F own G H ρ γ σ z _ _ _ R e1 fun G1 H1 R1 s1 => ?_
  cases z with
  | true => exact iteT (qa δ F own G1 H1 _ _ σ o W Q R1 e (up s1))
  | false => exact iteF (qb δ F own G1 H1 _ _ σ o W Q R1 e (up s1))
/-- a def of the text with lambdas in it: its code object is known -/
theorem Kp.ofC {P : Program} {w : World} {K : Fg} {mg : Str → Option Value} {base : Heap} {x qual : Str} {st : Stmt} {f c : Addr} {fd : FuncData} {N ps : List Str} {k : Nat} {fb : Fst} (F : Fun K x qual st f fd) (S : FnScope N ps (defScope st)) (hc : fd.code = .ref c)
    (hb : ∀ (A : Around) (outer : List Env) (s : Shared) (H : Hp), Okc (Cxd P w K mg base N qual st f (.ref c) A outer s H) → Room (k + 1) (Cxd P w K mg base N qual st f (.ref c) A outer s H).A → DB (Cxd P w K mg base N qual st f (.ref c) A outer s H) (defBody st) fb) (hW : WW.w = w := by rfl) :
    Kp P w K mg base (k + 2) f fd ps (fnOf N.length fb) := by
  refine Kp.ofG F S (fun cdv A outer s H e => ?_) hW
  rw [hc] at e
  subst e
  exact hb A outer s H
end DL

namespace DL
open PySem PySem.Spec PyProof.Rows L2 LamX

section
variable {K : PySem.W.Frag} {x t : Value} {H : Heap → Prop}
theorem ist_ans {c : Value} (ty : ∀ (M : Model) (h : Heap), H h → PySem.W.Looks M h (typeOf x) t) (e : PySem.W.kitOne K t c = some true) : PySem.Answers (fun s => K.In s.heap ∧ H s.heap) x c true := by
  intro dep tk prog w A R s hs
  obtain ⟨h0, g, d, tt, os⟩ := s
  obtain ⟨⟨X, p⟩, hq⟩ := hs
  have LT := ty (model prog w) h0 p
  unfold PySem.W.kitOne at e
  unfold Builtin.«isinstance.nested»
  refine wpAny_bind (LT.at ?_)
  by_cases q : (t == c) = true
  · rw [if_pos q]
    first
      | ((repeat lk); exact hq tt)
      | exact wpAny_bind (wpAny_rule (hq tt))
      | exact wpAny_bind (wpAny_rule (wpAny_pure (hq tt)))
  · rw [if_neg q] at e
    rw [if_neg q]
    obtain ⟨hty, his, hsub⟩ := PySem.W.kit_cls (M := model prog w) X e
    have LI : PySem.W.Looks (model prog w) h0 (isInstance x c) true := LT.andThen hsub
    refine wpAny_bind (hty.at ?_)
    rw [if_pos (by decide)]
    k_delta "plainIsInstance"
    refine wpAny_bind (wpAny_bind (his.at ?_))
    simp only [Bool.not_true, Bool.false_eq_true, if_false]
    refine wpAny_bind (LI.at ?_)
    first
      | exact wpAny_pure (wpAny_pure (hq tt))
      | (simp only [if_true]; first | exact wpAny_pure (wpAny_pure (hq tt)) | exact wpAny_pure (hq tt) | exact wpAny_bind (wpAny_pure (wpAny_pure (hq tt))))
theorem ist_one {prog : Program} {w : World} {A : Around} {E : Value → Shared → Prop} {s : Shared} {Q : Value → Shared → Prop} {c : Value} (ty : ∀ (M : Model) (h : Heap), H h → PySem.W.Looks M h (typeOf x) t) (X : K.In s.heap) (p : H s.heap) (e : PySem.W.kitOne K t c = some true) (hx : x ≠ .builtin "__main__.__loader__#opaque") (h : ∀ tk, Q (.bool true) { s with toks := tk }) :
    wpAny (model prog w) A (call (.builtin "isinstance") [x, c]) Q E s :=
  PySem.call_isinstance (S := fun _ R s => (K.In s.heap ∧ H s.heap) ∧ ∀ tk, R (.ok (.ret (.bool true))) { s with toks := tk })
    (fun prog w A R s hs => PySem.isinstance_outer (ist_ans ty e 0 _ prog w A R s hs) hx) ⟨⟨X, p⟩, h⟩
end
/-- isinstance(e, c), e the exception that the suite holds -/
def rIsT (K : PySem.W.Frag) (cls : Value) (a : Addr) : List V → Hp → VK → Prop := fun xs H Q => ∃ (c : V) (cv : Value), xs = [.ref a, c] ∧ (∀ u, RelV c u → u = cv) ∧ PySem.W.kitOne K cls cv = some true ∧ Q (.bl true) H
theorem call_isT {X : Cx} {a : Addr} {cls : Value} {d : Option Addr} {oe : Obj} {pn : List (Addr × Obj)} (hz : Zc cls d oe) (hf : ∃ vs, oe.data = .fields vs) : CallR (X.suite a ((a, oe) :: pn)) (.builtin "isinstance") (rIsT X.K cls a) := by
  intro pins s σ H xs us Q I r h
  obtain ⟨c, cv, rfl, hcv, e, q⟩ := h
  cases r with
  | cons rx rr =>
    cases rr with
    | cons rt rr =>
      cases rr
      cases rx
      have ec := hcv _ rt
      subst ec
      obtain ⟨hget, _⟩ := I.pin (a, oe) (List.mem_append.mpr (.inl List.mem_cons_self))
      exact ist_one (H := fun h => ∃ o, h.get? a = some o ∧ o.cls = cls) (fun M h p => by
        obtain ⟨o, h1, h2⟩ := p
        exact h2 ▸ (PySem.W.Looks.ld h1).andThen .now) I.kIn ⟨oe, hget, hz.1⟩ e (fun z => nomatch z) fun tk => ⟨.bl true, H, I.kept (t' := tk) fun _ _ z => z, rfl, q⟩

variable [WW]
theorem Okc.tr {X : Cx} (O : Okc X) {pn : List (Addr × Obj)} {xe : Value → Shared → Prop} (hp : PassesOwn (model X.prog X.w) X.A X.env xe) : Okc (X.tr pn xe) := ⟨O.hr, O.hg, O.calm, O.nd, hp, O.ww⟩

section
variable {X : Cx} {Wout : WX}
/-- as ps_try_all; the body's reading may go by where it stands -/
theorem ps_try_any {body : List Stmt} {h₀ : ExceptHandler} {hds : List ExceptHandler} {l : List Cls} {pos : Pos} (hs : X.stack = X.env :: X.outer) (hf : X.env.frame = some X.env.locals) (hN : X.N.Nodup) (tk : Takes X Wout)
    (tb : (pn : List (Addr × Obj)) → (xe : Value → Shared → Prop) → PassesOwn (model X.prog X.w) X.A X.env xe → WX → TS)
    (hb : ∀ (W : WX) (pn : List (Addr × Obj)) (xe : Value → Shared → Prop), Takes (X.tr pn xe) W → (hp : PassesOwn (model X.prog X.w) X.A X.env xe) → PSs (X.tr pn xe) body (tb pn xe hp W))
    (hh : HdsA X (h₀ :: hds) l) : PS X (.Try body (h₀ :: hds) [] [] pos) (fun D σ H => ∀ pn xe hp, tb pn xe hp (wAll X.K Wout D l) D σ H) := by
  refine ⟨fun pins s σ H D I h => wpAny_Try_except ?_⟩
  have ok := I.ok
  have frames : X.A.frames = some (X.env :: X.outer) := by rw [ok.frames, hs]
  refine wpAny_mono ((hb (wAll X.K Wout D l) (X.pn ++ pins) (fun e s₁ => wpAny (model X.prog X.w) X.A (noteFrame e X.env) (fun _ s₂ => wpAny (model X.prog X.w) X.A (setFlight e none) (fun _ s₃ =>
    wpAny (model X.prog X.w) X.A (handleBy e X.env (h₀ :: hds)) (SP X pins D) X.xe s₃) X.xe s₂) X.xe s₁) (fun u sX caught => ?_) PassesOwn.looking).run [] s σ H D (I.toTry _) (h _ _ _)) (fun f s1 hsp => ?_) (fun e s1 he => he)
  · obtain ⟨ea, B, sI, pins', τ, Hx, cls, d, rfl, J', nb, up, sky, na, os, ag, wish⟩ := caught
    have skyB : Sky B (X.env :: X.outer) ea (Zc cls d) X.env.locals sX.heap := by rw [← hs]; exact sky
    show wpAny (model X.prog X.w) X.A (noteFrame (.ref ea) X.env) _ _ _
    refine Sky.land Zc.steady frames hf skyB fun h3 fl3 up3 => ?_
    have nfr : ea ∉ frs (X.env :: X.outer) := fun hm => by
      obtain ⟨oe, vs, he, _, hd⟩ := fl3.there
      obtain ⟨_, o', e', hnf⟩ := fl3.2.2.1.mem hm
      rw [he] at e'; cases e'
      exact hnf _ hd
    have dn : Down X pins B sI { sX with heap := h3 } ea cls d τ Hx := ⟨J'.ofTry ok, nb, up.trans up3, fl3, na, os, ag, fun z => nfr (List.mem_filterMap.mpr ⟨X.env, List.mem_cons_self, by rw [hf, z]⟩), fun hm => by
      obtain ⟨e, he, q⟩ := List.mem_filterMap.mp hm
      exact nfr (List.mem_filterMap.mpr ⟨e, List.mem_cons_of_mem _ he, q⟩)⟩
    exact dn.run hs hf hN tk hh wish
  · cases f with
    | next => obtain ⟨τ, H', J', q⟩ := hsp; exact wpAny_execs_nil ⟨τ, H', J'.ofTry ok, q⟩
    | brk => obtain ⟨τ, H', J', q⟩ := hsp; exact ⟨τ, H', J'.ofTry ok, q⟩
    | cont => obtain ⟨τ, H', J', q⟩ := hsp; exact ⟨τ, H', J'.ofTry ok, q⟩
    | ret u => obtain ⟨v, τ, H', J', r, q⟩ := hsp; exact ⟨v, τ, H', J'.ofTry ok, r, q⟩
end

abbrev Hc := Str → Pl → Option D
def hK (z : D) : Hc := fun _ _ => some z
def hPair (g h : Hc) : Hc := fun c y => (g c y).bind fun a => (h c y).map fun b => .tuple [a, b]
def hIf (t g h : Hc) : Hc := fun c y => match t c y with | some (.bool true) => g c y | some (.bool false) => h c y | _ => none
def hFld (fld : Str) : Hc := fun _ p => match p with | some (f, y) => if f = fld then some y else none | none => none
/-- a clause's suite hands back data, for each of the classes cs -/
structure SuiteC (X : Cx) (i : Option Nat) (suite : List Stmt) (cs : List Str) (hf : Hc) (ts : Addr → Value → Option Addr → TS) : Prop where
  run : ∀ (a : Addr) (oe : Obj) (cls : Value) (d : Option Addr) (pn : List (Addr × Obj)), Zc cls d oe → (∃ vs, oe.data = .fields vs) → PSs (X.suite a ((a, oe) :: pn)) suite (ts a cls d)
  val : ∀ c ∈ cs, ∀ (C : Addr), X.mg c = some (.ref C) → ∀ (δ : List Addr) (F : Fm) (own : Nat → Addr) (G H : Hp) (ρ : Row) (γ : Bxs) (σ : L2.St) (a : Addr) (d : Option Addr) (p : Pl) (z : D) (E : Ends), Rel X.K δ F own G H ρ γ σ → (∀ j, i = some j → σ[j]? = some (some (.ref a))) →
    PlOk X.K G H d p → hf c p = some z → (∀ v G' H', Rel X.K δ F own G' H' ρ γ σ → Same G G' → Rep X.K G' v z → E.rt v H') → ts a (.ref C) d E σ H
/-- which class is which one's -/
def subL (prs : List (Str × Str)) (c x : Str) : Bool := decide (c = x) || decide ((c, x) ∈ prs)
inductive HdG (X : Cx) (cs : List Str) (sub : Str → Str → Bool) : List ExceptHandler → List (Str × Hc) → Prop
  | nil : HdG X cs sub [] []
  | plain {x : Str} {C : Addr} {ch : List Str} {hf : Hc} {ts : Addr → Value → Option Addr → TS} {b₀ : Stmt} {suite : List Stmt} {np pos' : Pos} {hds : List ExceptHandler} {l : List (Str × Hc)} (hm : X.mg x = some (.ref C)) (hg : Gl X x) (hdb : (x == ("__debug__" : Str)) = false)
      (hc : ∀ c ∈ cs, sub c x = true → c ∈ ch) (su : SuiteC X none (b₀ :: suite) ch hf ts) (r : HdG X cs sub hds l) : HdG X cs sub (.ExceptHandler (some (.Name x np)) none (b₀ :: suite) pos' :: hds) ((x, hf) :: l)
  | named {x n : Str} {i : Nat} {C : Addr} {ch : List Str} {hf : Hc} {ts : Addr → Value → Option Addr → TS} {b₀ : Stmt} {suite : List Stmt} {np pos' : Pos} {hds : List ExceptHandler} {l : List (Str × Hc)} (hm : X.mg x = some (.ref C)) (hg : Gl X x) (hdb : (x == ("__debug__" : Str)) = false)
      (hc : ∀ c ∈ cs, sub c x = true → c ∈ ch) (hi : X.N[i]? = some n) (hl : X.env.kindOf n = some .local) (su : SuiteC X (some i) (b₀ :: suite) ch hf ts) (r : HdG X cs sub hds l) : HdG X cs sub (.ExceptHandler (some (.Name x np)) (some n) (b₀ :: suite) pos' :: hds) ((x, hf) :: l)
def pickC (sub : Str → Str → Bool) (c : Str) (p : Pl) : List (Str × Hc) → Option D
  | [] => none
  | (x, hf) :: r => if sub c x = true then hf c p else pickC sub c p r
/-- the classes cs, against the clauses' classes xs -/
def Apt (K : Fg) (mg : Str → Option Value) (sub : Str → Str → Bool) (cs xs : List Str) : Prop := ∀ c ∈ cs, ∀ x ∈ xs, ∀ C D, mg c = some (.ref C) → mg x = some (.ref D) → PySem.W.exmOne K (.ref C) (.ref D) = some (sub c x)
theorem HdG.wish {X : Cx} {cs xs : List Str} {sub : Str → Str → Bool} (ap : Apt X.K X.mg sub cs xs) {hds : List ExceptHandler} {l : List (Str × Hc)} (h : HdG X cs sub hds l) (hx : ∀ q ∈ l, q.1 ∈ xs) : ∃ cl : List Cls, HdsA X hds cl ∧
    ∀ {c : Str} {C : Addr} {p : Pl} {z : D} {Wout : WX} {E : Ends} {δ : List Addr} {F : Fm} {G H : Hp} {γ : Bxs} {σ : L2.St} {d : Option Addr}, c ∈ cs → X.mg c = some (.ref C) → pickC sub c p l = some z → Fin X.K δ F γ G H → X.N.length ≤ σ.length → PlOk X.K G H d p →
      (∀ v G' H', Fin X.K δ F γ G' H' → Same G G' → Rep X.K G' v z → E.rt v H') → wAll X.K Wout E cl (.ref C) d σ H := by
  induction h with
  | nil => exact ⟨[], .nil, fun hc hC hp => by cases hp⟩
  | @plain x Cx ch hf ts b₀ suite np pos' hds l hm hg hdb hcc su r ih =>
    obtain ⟨cl, h1, h2⟩ := ih fun q hq => hx q (List.mem_cons_of_mem _ hq)
    refine ⟨(.ref Cx, none, ts) :: cl, .plain ⟨hg, hdb, .inl hm⟩ su.run h1, ?_⟩
    intro c C p z Wout E δ F G H γ σ d hc hC hp fin hl hpl hq
    refine ⟨sub c x, ap c hc x (hx (x, hf) List.mem_cons_self) C Cx hC hm, fun e a _ => ?_, fun e => ?_⟩
    · have hp : hf c p = some z := by simpa [pickC, e] using hp
      exact su.val c (hcc c hc e) C hC δ F _ G H _ γ σ a d p z _ (fin.rel σ) (fun j z => by cases z) hpl hp fun v G' H' R' sg rv => hq v G' H' R'.fin sg rv
    · exact h2 hc hC (by simpa [pickC, e] using hp) fin hl hpl hq
  | @named x n i Cx ch hf ts b₀ suite np pos' hds l hm hg hdb hcc hi hl su r ih =>
    obtain ⟨cl, h1, h2⟩ := ih fun q hq => hx q (List.mem_cons_of_mem _ hq)
    refine ⟨(.ref Cx, some i, ts) :: cl, .named ⟨hg, hdb, .inl hm⟩ hi hl su.run h1, ?_⟩
    intro c C p z Wout E δ F G H γ σ d hc hC hp fin hlen hpl hq
    refine ⟨sub c x, ap c hc x (hx (x, hf) List.mem_cons_self) C Cx hC hm, fun e a _ => ?_, fun e => ?_⟩
    · have hp : hf c p = some z := by simpa [pickC, e] using hp
      refine su.val c (hcc c hc e) C hC δ F _ G H _ γ (seenBy (some i) a σ) a d p z _ (fin.rel _) (fun j z => ?_) hpl hp fun v G' H' R' sg rv => hq v G' H' R'.fin sg rv
      cases z
      have : i < σ.length := Nat.lt_of_lt_of_le (List.getElem?_eq_some_iff.mp hi).1 hlen
      exact get_set_eq this
    · exact h2 hc hC (by simpa [pickC, e] using hp) fin hlen hpl hq
/-- what the statement does -/
def sTry (n : Nat) (cs : List Str) (sub : Str → Str → Bool) (l : List (Str × Hc)) (fb : Fsx) : Fst := fun ρ γ => (fb ρ γ).bind fun o => match o with
  | .o oc => some oc
  | .x c p ρ' γ' => if c ∈ cs ∧ n ≤ ρ'.length then (pickC sub c p l).map fun z => .rt (.d z) γ' else none
theorem ds_try {X : Cx} {cs xs : List Str} {sub : Str → Str → Bool} {body : List Stmt} {h₀ : ExceptHandler} {hds : List ExceptHandler} {l : List (Str × Hc)} {pos : Pos} {fb : Fsx} (O : Okc X) (hs : X.stack = X.env :: X.outer) (hf : X.env.frame = some X.env.locals) (ap : Apt X.K X.mg sub cs xs) (hl : HdG X cs sub (h₀ :: hds) l) (hx : ∀ q ∈ l, q.1 ∈ xs)
    (hb : ∀ pn xe, Okc (X.tr pn xe) → DBx (X.tr pn xe) body fb) : DS X (.Try body (h₀ :: hds) [] [] pos) (sTry X.N.length cs sub l fb) := by
  obtain ⟨cl, c1, c2⟩ := hl.wish ap hx
  refine ⟨_, ps_try_any hs hf O.nd (takes0 (X := X)) (fun pn xe hp => (hb pn xe (O.tr hp)).choose) (fun W pn xe tk hp => (hb pn xe (O.tr hp)).choose_spec.1 W tk) c1, fun δ F own G H ρ γ σ o E R e k pn xe hp => ?_⟩
  obtain ⟨o1, e1, e⟩ := bind_some e
  refine (hb pn xe (O.tr hp)).choose_spec.2 δ F own G H ρ γ σ o1 _ E R e1 ?_
  cases o1 with
  | o oc => cases e; exact k
  | x c p ρ' γ' =>
    have e : (if c ∈ cs ∧ X.N.length ≤ ρ'.length then (pickC sub c p l).map fun z => Oc.rt (.d z) γ' else none) = some o := e
    split at e
    case isFalse => cases e
    rename_i hc
    obtain ⟨z, e2, e⟩ := map_some e
    cases e
    intro C hC own' G' H' σ' d R' sg hpl
    exact c2 hc.1 hC e2 R'.fin (by rw [← R'.len]; exact hc.2) hpl fun v G2 H2 fin2 _ rv => k v G2 H2 fin2 rv

/-- an expression of a suite, by the class and what the exception keeps -/
structure SEc (X : Cx) (i : Option Nat) (cs : List Str) (e : Expr) (g : Hc) (ts : Addr → Value → Option Addr → TE) : Prop where
  run : ∀ (a : Addr) (oe : Obj) (cls : Value) (d : Option Addr) (pn : List (Addr × Obj)), Zc cls d oe → (∃ vs, oe.data = .fields vs) → PE (X.suite a ((a, oe) :: pn)) e (ts a cls d)
  val : ∀ c ∈ cs, ∀ (C : Addr), X.mg c = some (.ref C) → ∀ (δ : List Addr) (F : Fm) (own : Nat → Addr) (G H : Hp) (ρ : Row) (γ : Bxs) (σ : L2.St) (a : Addr) (d : Option Addr) (p : Pl) (z : D) (Q : VK), Rel X.K δ F own G H ρ γ σ → (∀ j, i = some j → σ[j]? = some (some (.ref a))) →
    PlOk X.K G H d p → g c p = some z → (∀ v G' H', Rel X.K δ F own G' H' ρ γ σ → Same G G' → PlOk X.K G' H' d p → Rep X.K G' v z → Q v H') → ts a (.ref C) d σ H Q
section
variable {X : Cx} {i : Nat} {io : Option Nat} {cs : List Str} {x fld n : Str} {e f c : Expr} {g g2 gc : Hc} {ts ts2 tsc : Addr → Value → Option Addr → TE} {pos p q : Pos}
theorem sc_int {m : Int} {j : Nat} : SEc X io cs (.Constant (.int m) j pos) (hK (.int m)) (fun _ _ _ => tC (.int m)) :=
  ⟨fun _ _ _ _ _ _ _ => pe_int, fun c hc C hC δ F own G H ρ γ σ a d p z Q R hs hp e k => by cases e; exact k _ G H R (Same.refl _) hp (.int m)⟩
theorem sc_bool {b : Bool} {j : Nat} : SEc X io cs (.Constant (.bool b) j pos) (hK (.bool b)) (fun _ _ _ => tC (.bl b)) :=
  ⟨fun _ _ _ _ _ _ _ => pe_bl, fun c hc C hC δ F own G H ρ γ σ a d p z Q R hs hp e k => by cases e; exact k _ G H R (Same.refl _) hp (.bl b)⟩
theorem sc_str {m : Str} {j : Nat} : SEc X io cs (.Constant (.str m) j pos) (hK (.str m)) (fun _ _ _ => tC (.str m)) :=
  ⟨fun _ _ _ _ _ _ _ => pe_str, fun c hc C hC δ F own G H ρ γ σ a d p z Q R hs hp e k => by cases e; exact k _ G H R (Same.refl _) hp (.str m)⟩
theorem sc_fld (C : Addr) (hC : X.mg x = some (.ref C)) (hx : xfB X.K C = true) (hno : PySem.W.findIn X.K (.ref C) fld = some none) (hN : X.N[i]? = some n) (hv : Vis X.env.scope n) (hd : (n == ("__debug__" : Str)) = false := by decide) (hcd : (n == ("__classdict__" : Str)) = false := by decide)
    (hb : attributeBase (.Name n p) fld X.env (eval (.Name n p) X.env) = eval (.Name n p) X.env := by rfl) :
    SEc X (some i) [x] (.Attribute (.Name n p) fld pos) (hFld fld) (fun a cls d => tXf a cls d C fld (tVar i)) := by
  refine ⟨fun a oe cls d pn hz hf => pe_xf (xfB_ok hx) hno hz hf (pe_var hN hv hd hcd) hb, fun c hc C' hC' δ F own G H ρ γ σ a d p z Q R hs hp e k => ?_⟩
  have ec : c = x := by simpa using hc
  subst ec
  rw [hC] at hC'
  cases hC'
  cases p with
  | none => cases e
  | some q =>
    obtain ⟨f, y⟩ := q
    have e : (if f = fld then some y else none) = some z := e
    split at e
    case isFalse => cases e
    rename_i hf
    cases e
    subst hf
    obtain ⟨dd, fs, v, e1, e2, e3, e4⟩ := hp
    exact tvar_of (hs i rfl) ⟨rfl, rfl, dd, fs, v, e1, e2, e3, k v G H R (Same.refl _) ⟨dd, fs, v, e1, e2, e3, e4⟩ e4⟩
/-- isinstance(e, T): True -/
def IsA (K : Fg) (mg : Str → Option Value) (T : String) (cs : List Str) : Prop := ∀ c ∈ cs, ∀ C, mg c = some (.ref C) → PySem.W.kitOne K (.ref C) (.type T) = some true
theorem sc_ist {T : String} {y : Str} (is : IsA X.K X.mg T cs) (hg : Gl X "isinstance") (hm : X.mg "isinstance" = none) (hgT : Gl X y) (hmT : X.mg y = none) (hT : bootBuiltins y = some (.type T)) (hN : X.N[i]? = some n) (hv : Vis X.env.scope n) (hd : (n == ("__debug__" : Str)) = false := by decide) (hcd : (n == ("__classdict__" : Str)) = false := by decide)
    (hn : y ≠ "__name__" := by decide) (hdT : (y == ("__debug__" : Str)) = false := by decide)
    (h1 : starEach [.Name n p, .Name y q] X.env = (false, eval (.Name n p) X.env) :: starEach [.Name y q] X.env := by rfl) (h2 : starEach [.Name y q] X.env = (false, eval (.Name y q) X.env) :: starEach [] X.env := by rfl)
    (hpl : (backTo pos (starEach [.Name y q] X.env)).any (·.1) = false := by rfl) {p' : Pos} :
    SEc X (some i) cs (.Call (.Name "isinstance" p') [.Name n p, .Name y q] [] pos) (hK (.bool true)) (fun a cls d => tCB (rIsT X.K cls a) (tCons (tVar i) (tCons (tC (.ty T)) tNil))) := by
  refine ⟨fun a oe cls d pn hz hf => ?_, fun c hc C hC δ F own G H ρ γ σ a d p z Q R hs hp e k => ?_⟩
  · exact pe_callB (X := X.suite a ((a, oe) :: pn)) (call_isT hz hf) hg hm (by decide +kernel) (pa_cons (pe_var hN hv hd hcd) (pa_cons (pe_bltn (v := .ty T) hgT hmT hT rfl hn hdT) pa_nil h2) h1) (by decide) (by decide) h1 hpl
  · cases e
    exact tvar_of (hs i rfl) ⟨.ty T, .type T, rfl, fun u r => r, is c hc C hC, k _ G H R (Same.refl _) hp (.bl true)⟩
theorem sc_pair {k' : Nat} (h1 : SEc X io cs e g ts) (h2 : SEc X io cs f g2 ts2) (hs : starEach [e, f] X.env = (false, eval e X.env) :: starEach [f] X.env := by rfl) (hs2 : starEach [f] X.env = (false, eval f X.env) :: starEach [] X.env := by rfl) :
    SEc X io cs (.Tuple [e, f] k' pos) (hPair g g2) (fun a cls d => tTupF (tCons (ts a cls d) (tCons (ts2 a cls d) tNil))) := by
  refine ⟨fun a oe cls d pn hz hf => ?_, fun c hc C hC δ F own G H ρ γ σ a d y z Q R hs hp e k => ?_⟩
  · exact pe_tupF (X := X.suite a ((a, oe) :: pn)) (pa_cons (h1.run a oe cls d pn hz hf) (pa_cons (h2.run a oe cls d pn hz hf) pa_nil hs2) hs)
  · obtain ⟨w1, e1, e⟩ := bind_some e
    obtain ⟨w2, e2, e⟩ := map_some e
    cases e
    refine h1.val c hc C hC δ F own G H ρ γ σ a d y w1 _ R hs hp e1 fun v G1 H1 R1 s1 p1 r1 => h2.val c hc C hC δ F own G1 H1 ρ γ σ a d y w2 _ R1 hs p1 e2 fun u G2 H2 R2 s2 p2 r2 => ⟨by simp [sizeLine_eq], fun q us hq => ?_⟩
    have st := Step.new R2.sub hq (.frz (tupO us) (.tup [v, u]))
    exact k _ _ _ (R2.step st) ((s1.trans s2).trans st.sg) (p2.mono st.sg st.sh) (.tup (SqD.of upd_same rfl) ((Reps.cons (r1.mono s2) (.cons r2 .nil)).mono st.sg))
/-- a if c else b, c a bool -/
theorem sc_if (hc : SEc X io cs c gc tsc) (h1 : SEc X io cs e g ts) (h2 : SEc X io cs f g2 ts2) (he : ∀ whole, isTrue c X.env whole = (do let v ← whole; standAt c.pos; holding [v] (truthy v)) := by intro _; rfl) :
    SEc X io cs (.IfExp c e f pos) (hIf gc g g2) (fun a cls d σ H Q => tB (tsc a cls d) σ H fun z H' => if z = true then ts a cls d σ H' Q else ts2 a cls d σ H' Q) := by
  refine ⟨fun a oe cls d pn hz hf => ?_, fun x hx C hC δ F own G H ρ γ σ a d y z Q R hs hp e k => ?_⟩
  · exact pe_ifExp (X := X.suite a ((a, oe) :: pn)) (pt_val (hc.run a oe cls d pn hz hf) he) (h1.run a oe cls d pn hz hf) (h2.run a oe cls d pn hz hf)
  · unfold hIf at e
    split at e
    · rename_i e0
      exact hc.val x hx C hC δ F own G H ρ γ σ a d y _ _ R hs hp e0 fun v G1 H1 R1 s1 p1 r1 => by
        rw [r1.bl_inv]
        exact ⟨true, rfl, iteT (h1.val x hx C hC δ F own G1 H1 ρ γ σ a d y z Q R1 hs p1 e fun v G2 H2 R2 s2 p2 r2 => k v G2 H2 R2 (s1.trans s2) p2 r2)⟩
    · rename_i e0
      exact hc.val x hx C hC δ F own G H ρ γ σ a d y _ _ R hs hp e0 fun v G1 H1 R1 s1 p1 r1 => by
        rw [r1.bl_inv]
        exact ⟨false, rfl, iteF (h2.val x hx C hC δ F own G1 H1 ρ γ σ a d y z Q R1 hs p1 e fun v G2 H2 R2 s2 p2 r2 => k v G2 H2 R2 (s1.trans s2) p2 r2)⟩
    · cases e
theorem suite_sc (h : SEc X io cs e g ts) : SuiteC X io [.Return (some e) pos] cs g (fun a cls d D σ H => ts a cls d σ H D.rt) :=
  ⟨fun a oe cls d pn hz hf => pss_one (ps_ret (h.run a oe cls d pn hz hf)), fun c hc C hC δ F own G H ρ γ σ a d p z E R hs hp e k =>
    h.val c hc C hC δ F own G H ρ γ σ a d p z _ R hs hp e fun v G' H' R' s' _ r => k v G' H' R' s' r⟩
/-- what does not go by the exception -/
def tAny {X : Cx} {e : Expr} {f : Fx} (h : ∀ a oe pn, DE (X.suite a ((a, oe) :: pn)) e f) : Addr → Value → Option Addr → TS := fun a _ _ E σ H => ∀ oe pn, (h a oe pn).choose σ H E.rt
theorem suite_de {f : Fx} {z : D} (h : ∀ a oe pn, DE (X.suite a ((a, oe) :: pn)) e f) (hf : ∀ ρ γ, f ρ γ = some (z, ρ, γ)) : SuiteC X io [.Return (some e) pos] cs (hK z) (tAny h) := by
  refine ⟨fun a oe cls d pn hz hv => ?_, fun c hc C hC δ F own G H ρ γ σ a d p z1 E R hs hp e k => ?_⟩
  · have q := pss_one (ps_ret (pos := pos) (h a oe pn).choose_spec.1)
    exact ⟨fun pins s σ H D I w => q.run pins s σ H D I (w oe pn)⟩
  · cases e
    intro oe pn
    exact (h a oe pn).choose_spec.2 δ F own G H ρ γ σ z _ _ _ R (hf ρ γ) fun v G' H' R' sg r => k v G' H' R' sg r
end
end DL

namespace DL
open PySem PySem.Spec PyProof.Rows L2
variable [WW]

/-- repr, of dicts of plain things too -/
def reprM : List D → Option D
  | [.dict kvs] => if PyData.plainAll (kvs.map (·.1)) ∧ PyData.plainAll (kvs.map (·.2)) ∧ (PyData.dict kvs).showable ∧ (PyData.dict kvs).depth ≤ 60 ∧ (PyData.dict kvs).shown.length ≤ 1000 then some (.str (PyData.dict kvs).shown) else none
  | l => reprD l
theorem ents_keys {K : Fg} {G : Hp} : ∀ {es : List DictEntry} {kvs : List (D × D)}, Ents K G es kvs → ∃ ks vs, Vals ks (es.map (·.key)) ∧ Reps K G ks (kvs.map (·.1)) ∧ Vals vs (es.map (·.val)) ∧ Reps K G vs (kvs.map (·.2))
  | _, _, .nil => ⟨[], [], .nil, .nil, .nil, .nil⟩
  | _, _, .cons h r k v d t => by
    obtain ⟨ks, vs, h1, h2, h3, h4⟩ := ents_keys t
    exact ⟨_ :: ks, _ :: vs, .cons r h1, .cons k h2, .cons v h3, .cons d h4⟩
theorem plainAll_mem : ∀ {ds : List D} {d : D}, PyData.plainAll ds = true → d ∈ ds → d.plain = true
  | e :: ds, d, h, m => by
    simp only [PyData.plainAll, Bool.and_eq_true] at h
    rcases List.mem_cons.mp m with z | z
    · rw [z]; exact h.1
    · exact plainAll_mem h.2 z
section
variable {X : Cx}
theorem cd_reprM (O : Okc X) : CallR X (.builtin "repr") (rsD X.K reprM) := by
  intro pins s σ H xs us Q I r hh
  obtain ⟨G, as, d, e, ra, hd, h⟩ := hh
  have old : reprD as = some d → wpAny (model X.prog X.w) X.A (call (.builtin "repr") us) (EP X pins σ Q) X.xe s := fun hd => cd_repr O pins s σ H xs us Q I r ⟨G, as, d, e, ra, hd, h⟩
  match as, hd with
  | [.dict kvs], hd =>
    obtain ⟨w, rfl, r1⟩ := one_inv ra
    simp only [reprM] at hd
    split at hd
    case isFalse => cases hd
    rename_i hc
    cases hd
    obtain ⟨p1, p2, hs, hdp, hw⟩ := hc
    obtain ⟨u, rfl, ru⟩ := Vals.one r
    have q := quiet_end e h (.str _)
    have hsz : (PyData.dict kvs).shown.length ≤ sizeLine := by rw [sizeLine_eq]; omega
    obtain ⟨a, rfl, dd⟩ := Rep.own e r1 (fnB_ok fun p hp z => by
      have := plainAll_mem p1 (List.mem_map.mpr ⟨p, hp, rfl⟩)
      rw [z] at this; simp [PyData.plain] at this)
    cases ru
    obtain ⟨o, es, ep, ha, h1, hx, hdat, hsys, ko, en⟩ := dict_at I dd
    obtain ⟨ks, vs, hk1, hk2, hv1, hv2⟩ := ents_keys en
    obtain ⟨a1, q1⟩ := Reps.reads I e _ ks _ p1 hk2 hk1
    obtain ⟨a2, q2⟩ := Reps.reads I e _ vs _ p2 hv2 hv1
    have hz' : (dictText (PyData.shownKv kvs)).length ≤ sizeLine := by simpa only [PyData.shown] using hsz
    obtain ⟨hs1, hs2⟩ := PyData.showableKv_split kvs (by simpa [PyData.showable] using hs)
    obtain ⟨b1, hb1, k1⟩ := ReprAllK.of_readsAll (prog := X.prog) (w := X.w) q1 hs1 (fun z => by rw [plains_nodict _ p1] at z; cases z) (fun t ht => let ⟨p, hp, hl⟩ := PyData.shownKv_key_le kvs t ht; Nat.le_trans hl (Nat.le_trans (dictText_mem_le hp) hz'))
    obtain ⟨b2, hb2, k2⟩ := ReprAllK.of_readsAll (prog := X.prog) (w := X.w) q2 hs2 (fun z => by rw [plains_nodict _ p2] at z; cases z) (fun t ht => let ⟨p, hp, hl⟩ := PyData.shownKv_val_le kvs t ht; Nat.le_trans hl (Nat.le_trans (dictText_mem_le hp) hz'))
    have hb : ReadAtMost s.heap (PyData.depthKv kvs) (b1 ++ b2) := (hb1.mono (PyData.depthAll_keys_le kvs)).append (hb2.mono (PyData.depthAll_vals_le kvs))
    have hna : a ∉ b1 ++ b2 := not_mem_of_deeper (.dict h1 hx.1 hdat q1 q2) (by simp only [PyData.depth]; omega) hb
    have u64 : X.A.units + 64 < cLine := O.hr.units
    refine call_repr_slot (T := "dict") (by omega) ⟨o, h1, hx.1⟩ F.slot_dict_repr ?_
    refine call_dict_reprK h1 hx.1 hdat hsys hna (ReprEntriesK.of_two es.toList _ _
      (k1.more_le (fun b hb => List.mem_append_left _ hb) (PyData.depthAll_keys_le kvs)) (k2.more_le (fun b hb => List.mem_append_right _ hb) (PyData.depthAll_vals_le kvs))) O.hg (fun b _ => Clear.nil b) ?_ (fun _ _ z => z) (fun h' t tk hk => ?_) (by rw [← PyData.shownKv_eq]; exact hz')
    · show X.A.units + 1 + _ < cLine
      simp only [PyData.depth] at hdp
      omega
    · rw [← PyData.shownKv_eq]
      refine ⟨_, _, rfl, .str _, H, I.kept hk, ⟨t, ?_⟩, q⟩
      simp only [PyData.shown]
  | [], hd => exact old hd
  | [.none], hd => exact old hd
  | [.bool _], hd => exact old hd
  | [.int _], hd => exact old hd
  | [.str _], hd => exact old hd
  | [.list _], hd => exact old hd
  | [.tuple _], hd => exact old hd
  | a :: b :: l, hd => exact old (by cases a <;> exact hd)

def okDispT : List (D × D) → Bool
  | [(k, _)] => tupK k
  | _ => false
def qDictT (fp : Fps) : Fq := fun ρ γ => (fp ρ γ).bind fun p => if okDispT p.1 = true then some (.ow (.m p.1), p.2) else none
def fDictT (fp : Fps) : Fx := fQ (qDictT fp)
theorem wpAny_Dict_rawH {prog : Program} {w : World} {K : Type} [DecidableEq K] {knd : HeapKind prog w K} {A : Around} {E : Value → Shared → Prop} {s : Shared} {env : Env} {keys : List (Option Expr)} {values : List Expr} {pos : Pos} {pairs : List (Sem Value × Sem Value)} {Q : Value → Shared → Prop} (hu : knd.room A)
    (hshape : (evalEachOpt keys env).zip ((evalEach values env).map fun v => do let x ← v; standAt pos; pure x) = pairs.map fun p => (some p.1, p.2)) (h0 : pairs ≠ []) (hlen : pairs.length ≤ 15)
    (h : wpAny (model prog w) A (evalPairs pairs) (fun vs s₁ => ∃ ps, CarriesH knd s₁.heap vs ps ∧ s₁.heap.DictOfH knd s.heap.objs.size [] ∧
      ∀ h' tk, h'.DictOfH knd s.heap.objs.size (storedAllH [] ps) → Heap.SameBut s.heap.objs.size s₁.heap h' → Q (.ref s.heap.objs.size) { s₁ with heap := h', toks := tk }) E
      { s with heap := s.heap.push { cls := .type "dict", data := .dict #[] } }) :
    wpAny (model prog w) A (eval (.Dict keys values pos) env) Q E s := by
  rw [arm_eval_Dict, hshape, dictDisplay_pairs pairs h0 (by omega)]
  exact wpAny_bind (wpAny_standAt (wpAny_bind (wpAny_subDictH (knd := knd) (Q := fun d s' => wpAny (model prog w) A (pure (Value.ref d)) Q E s') hu hlen
    (wpAny_mono h (fun vs s₁ h₁ => by obtain ⟨ps, hc, hm, hq⟩ := h₁; exact ⟨ps, hc, hm, fun h' tk a b => wpAny_pure (hq h' tk a b)⟩) fun _ _ e => e))))
def tDispT (K : Fg) (trs : List (TE × TE)) : TE := fun σ H Q => ∀ p, H p = none → (p == sysModules) = false → tPairs trs σ (upd H p (xO p emptyO)) fun ps H2 => H2 p = some (xO p emptyO) ∧ ∃ (G : Hp) (kvs : List (D × D)), Same G H2 ∧ G p = none ∧
  Reps K G (ps.map (·.1)) (kvs.map (·.1)) ∧ Reps K G (ps.map (·.2)) (kvs.map (·.2)) ∧ okDispT kvs = true ∧ ∀ ob, OwnOk K G (upd H2 p (xO p ob)) p (.m kvs) → Q (.ref p) (upd H2 p (xO p ob))
variable {ks : List (Option Expr)} {vs : List Expr} {fp : Fps} {pos : Pos}
theorem pe_dispT {trs : List (TE × TE)} (O : Okc X) (h : PPs X pos ks vs trs) (hall : ks.all (·.isSome) = true) (hl : ks.length = vs.length) (h0 : ks ≠ []) (h15 : ks.length ≤ 15) : PE X (.Dict ks vs pos) (tDispT X.K trs) := by
  refine ⟨fun pins s σ H Q I q => ?_⟩
  have hn := I.hok.fresh (Nat.le_refl s.heap.objs.size)
  have hm : (s.heap.objs.size == sysModules) = false := beq_eq_false_iff_ne.mpr (Ne.symm (Nat.ne_of_lt I.big))
  have I1 := layO (t' := s.toks) (h' := s.heap.push emptyO) (a := s.heap.objs.size) I (fun _ _ q => Heap.get?_push_of_some _ q) (Nat.le_refl _) (Heap.get?_push_size _ rfl)
  have hpl := pairTrees_length ks vs X.env pos hall hl
  refine wpAny_Dict_rawH (knd := nestedKind X.prog X.w) (pairs := pairTrees ks vs X.env pos) (show (nestedKind X.prog X.w).room X.A from by { show X.A.units + 8 < cLine; have := O.u20; omega }) (zip_pairTrees ks vs X.env pos hall hl) (fun z => by rw [z] at hpl; exact h0 (List.length_eq_zero_iff.mp hpl.symm)) (by rw [hpl]; exact h15) (thn (h.run pins _ σ _ _ I1 (q _ hn hm)) fun ws s2 hh => ?_)
  obtain ⟨ps, H2, I2, rel, e, G, kvs, sub, gp, ra, rb, ok, q2⟩ := hh
  have ow : OwnOk X.K G H2 s.heap.objs.size (.m []) := own_empty e hm
  obtain ⟨xs0, dv, l0, _, _⟩ := dict_tup I2 sub O.ww ow fun _ z => nomatch z
  cases l0
  match kvs, ok with
  | [(k, d)], ok =>
    have ok : tupK k = true := ok
    cases rel with
    | nil => cases ra
    | @cons p0 w0 ps1 ws1 r1 r2 =>
      cases ra with
      | cons ra1 ra2 =>
        cases rb with
        | cons rb1 rb2 =>
          cases r2 with
          | cons _ _ => cases ra2
          | nil =>
            obtain ⟨x, y⟩ := p0
            obtain ⟨w1, w2⟩ := w0
            obtain ⟨b, ex, ew⟩ := tup_ref ok ra1 r1.1
            have ex : x = .ref b := ex
            have ew : w1 = .ref b := ew
            subst ex ew
            have tr : TRl X.K G [(k, d)] [(nk k, b, w2)] := .cons ⟨ok, rfl, ra1, y, r1.2, rb1⟩ .nil
            refine ⟨[(nk k, b, w2)], ⟨rfl, rfl, rep_key I2 sub ok ra1, trivial⟩, dv, fun h' tk dd' hs => ?_⟩
            obtain ⟨o', es', ep', h1, h2, h3, h4, h5, _⟩ := dd'
            have kp : KeysOk [(k, d)] := ⟨by rw [sizeLine_eq]; simp, by simp, Or.inr (by simpa using ok)⟩
            have en := tup_ents (P := X.prog) (w := X.w) O.ww tr
            have h4' : es'.toList = [(nk k, b, w2)].map (entryOfKey (nestedKind X.prog X.w)) := h4
            rw [← h4'] at en
            obtain ⟨I', ow'⟩ := dict_put (t' := tk) I2 sub ow hs h1 h2 h3 gp kp en
            exact ⟨.ref s.heap.objs.size, _, I', rfl, q2 o' ow'⟩
theorem dq_dictT (O : Okc X) (h : DPs X pos ks vs fp) (hall : ks.all (·.isSome) = true) (hl : ks.length = vs.length) (h0 : ks ≠ []) (h15 : ks.length ≤ 15) : DQ X (.Dict ks vs pos) (qDictT fp) := by
  obtain ⟨trs, pa, qa⟩ := h
  refine ⟨_, pe_dispT O pa hall hl h0 h15, fun δ F own G H ρ γ σ s ρ' γ' Q R e k p hp hm => ?_⟩
  obtain ⟨⟨l, ρ1, γ1⟩, e1, e⟩ := bind_some e
  split at e
  case isFalse => cases e
  rename_i hc
  cases e
  have f0 := R.live hp
  have R0 := (R.updF (o := xO p emptyO) f0 (.none hp)).keepP f0 upd_same
  have nt : ∀ ps, xO p emptyO ≠ .tbl ps := fun ps z => by
    unfold xO at z
    cases z
  refine qa δ _ own G _ ρ γ σ l _ _ _ R0 e1 fun ps G1 H1 R1 s1 ra rb => ?_
  obtain ⟨R2, f2, h2⟩ := Rel.unkeepP R.g0 f0 nt R1
  refine ⟨h2, G1, l, R2.sub, f2.g, ra, rb, hc, fun ob ow => ?_⟩
  have nt2 : NT H1 p := (own_empty (K := X.K) (G := G1) h2 hm).not
  exact k _ G1 _ (R2.updF f2 nt2) s1 ⟨p, rfl, ⟨f2.g, f2.d, f2.f, f2.o⟩, ow⟩
theorem de_dictT (O : Okc X) (h : DPs X pos ks vs fp) (hall : ks.all (·.isSome) = true) (hl : ks.length = vs.length) (h0 : ks ≠ []) (h15 : ks.length ≤ 15) : DE X (.Dict ks vs pos) (fDictT fp) := de_q (dq_dictT O h hall hl h0 h15)
end
end DL

namespace DL
open PySem
abbrev keyTail : List Value := [.type "KeyError", .type "LookupError", .type "Exception", .type "BaseException", .type "object"]
theorem newF_KeyError : NewF "LookupError" "LookupError.__new__" keyTail :=
  have F := PySem.F.excBase_LookupError
  ⟨F.ends, F.owner, F.entry, F.quiet, F.noStar, F.newSplit, F.newKind, F.newRow, by decide +kernel, by decide +kernel, by decide +kernel, F.canon⟩
theorem iniF_KeyError : IniF "KeyError" "KeyError.__init__" :=
  have F := PyProof.Rows.excClass_KeyError
  ⟨by decide +kernel, by decide +kernel, by kernel_rfl, F.init, F.initEntry⟩
end DL
namespace PySem.F
theorem store_KeyError : StoreFacts "KeyError" DL.keyTail "object.__setattr__" "object" :=
  have G := store_ValueError
  { G with mro := by kernel_rfl, slot := .of (owner := "object") (n := "__setattr__") (by rw [typeLookup_type, builtinLookup_eq_fast]; kernel_rfl) (by decide +kernel) (by decide +kernel) (by decide +kernel) (by first | exact .inl (by decide +kernel) | exact .inr (by decide +kernel)) (by rw [isSubtype_type]; kernel_rfl), passes := fun self => by kernel_rfl }
end PySem.F
namespace PySem.W
theorem kxs_KeyError : KxsFacts "KeyError" "KeyError.__init__" := ⟨by { show builtinType _ = _; rw [builtinType_eq_fast]; kernel_rfl }, by first | kernel_rfl | rfl⟩
end PySem.W

namespace DL
open PySem PySem.Spec PyProof.Rows L2
variable [WW]

section
variable {K : Fg} {δ : List Addr} {F : Fm} {own : Nat → Addr} {G H : Hp} {ρ : Row} {γ : Bxs} {σ : L2.St}
/-- one slot more, of which nothing is known -/
theorem Rel.pad (r : Rel K δ F own G H ρ γ σ) (u : Option V) : Rel K δ F own G H (ρ ++ [.un]) γ (σ ++ [u]) := by
  have cut : ∀ {i : Nat} {s : Sl}, (ρ ++ [Sl.un])[i]? = some s → s ≠ .un → ρ[i]? = some s := fun {i s} h n => by
    by_cases hi : i < ρ.length
    · rwa [List.getElem?_append_left hi] at h
    · rw [List.getElem?_append_right (Nat.le_of_not_lt hi)] at h
      cases e : i - ρ.length with
      | zero => rw [e] at h; exact absurd (Option.some.inj h).symm n
      | succ k => rw [e] at h; cases h
  refine ⟨r.wd, r.g0, r.q0, r.h0, by simp [r.len], fun i s hi => ?_, fun i c hi => r.ownd i c (cut hi (fun z => nomatch z)), fun i j c d hi hj e => r.inj i j c d (cut hi (fun z => nomatch z)) (cut hj (fun z => nomatch z)) e⟩
  by_cases hs : s = .un
  · subst hs; trivial
  · have h := cut hi hs
    have lt := (List.getElem?_eq_some_iff.mp h).1
    have e : (σ ++ [u])[i]? = σ[i]? := List.getElem?_append_left (by rw [← r.len]; exact lt)
    rw [e]
    exact r.slot i s h
/-- the last slot forgotten -/
theorem Rel.unpad {s0 : Sl} {u : Option V} (r : Rel K δ F own G H (ρ ++ [s0]) γ (σ ++ [u])) : Rel K δ F own G H ρ γ σ := by
  have len : ρ.length = σ.length := by simpa using r.len
  have up : ∀ {i : Nat} {s : Sl}, ρ[i]? = some s → (ρ ++ [s0])[i]? = some s := fun {i s} h => by
    rw [List.getElem?_append_left (List.getElem?_eq_some_iff.mp h).1]; exact h
  refine ⟨r.wd, r.g0, r.q0, r.h0, len, fun i s hi => ?_, fun i c hi => r.ownd i c (up hi), fun i j c d hi hj e => r.inj i j c d (up hi) (up hj) e⟩
  have h := r.slot i s (up hi)
  have lt := (List.getElem?_eq_some_iff.mp hi).1
  have e : (σ ++ [u])[i]? = σ[i]? := List.getElem?_append_left (by rw [← len]; exact lt)
  rw [e] at h
  exact h
theorem Rel.own_eq {own' : Nat → Addr} (r : Rel K δ F own' G H ρ γ σ) (h : ∀ j c, ρ[j]? = some (.ow c) → own' j = own j) : Rel K δ F own G H ρ γ σ := by
  refine ⟨r.wd, r.g0, r.q0, r.h0, r.len, fun i s hi => ?_, fun i c hi => ?_, fun i j c d hi hj e => r.inj i j c d hi hj (by rw [h i c hi, h j d hj]; exact e)⟩
  · have q := r.slot i s hi
    cases s with
    | un => trivial
    | d x => exact q
    | bx n => exact q
    | ow c => rw [h i c hi] at q; exact q
  · rw [← h i c hi]; exact r.ownd i c hi
end
/-- the new list is lent to the call -/
def qCallF (fn : Fn) (fq : Fq) : Fq := fun ρ γ => (fq ρ γ).bind fun p => match p.1 with
  | .ow (.l xs) => (fn [.bx p.2.2.length] (p.2.2 ++ [xs])).bind fun q => match q.1 with
    | .d z => (q.2[p.2.2.length]?).map fun _ => (.d z, p.2.1, q.2.take p.2.2.length)
    | _ => none
  | _ => none
section
variable {X : Cx} {k : Nat} {f : Addr} {fd : FuncData} {ps : List Str} {fn : Fn} {fq : Fq} {x : Str} {e : Expr} {pos p : Pos}
theorem dq_callF (O : Okc X) (F : Kp X.prog X.w X.K X.mg X.base k f fd ps fn) (hr : Room k X.A) (hg : Gl X x) (hm : X.mg x = some (.ref f)) (hk : PySem.W.keepIn X.K (.ref f) = true) (hb : Binds X.K fd ps []) (ha : DQ X e fq)
    (hdb : (x == ("__debug__" : Str)) = false := by decide) (he : starEach [e] X.env = (false, eval e X.env) :: starEach [] X.env := by rfl) (hpl : (backTo pos (starEach [] X.env)).any (·.1) = false := by rfl) (hln : 1 = ps.length := by rfl) : DQ X (.Call (.Name x p) [e] [] pos) (qCallF fn fq) := by
  obtain ⟨ta, pa, qa⟩ := ha
  refine ⟨fun σ H Q => tCons ta tNil σ H fun vs H1 => ∃ (δ : List Addr) (G : Hp) (as : List Sl) (γ : Bxs) (r : Sl) (γ' : Bxs), vs.length = ps.length ∧ Wd X.K δ γ G H1 ∧ ArgOk X.K δ G vs as ∧ fn as γ = some (r, γ') ∧ ∀ v G' H', Fin X.K δ ⟨G, H1⟩ γ' G' H' → RetV X.K δ ⟨G, H1⟩ G' H' v r → Q v H', ⟨fun pins s σ H Q I h => ?_⟩, fun δ F' own G H ρ γ σ s ρ' γ' Q R e k => ?_⟩
  · refine wpAny_Call_Name_kw (ld_glob I hg hm ?_ hdb)
    refine PySem.W.callWith_K (h₀ := X.base) I.ok.mod.kin hk (thn ((pa_cons pa pa_nil he).run pos pins s σ H _ I h) fun us s1 ⟨vs, H1, I1, r, δ, G, as, γ, rr, γ', hl, wd, hA, hf, q⟩ => ⟨I1.kIn, ?_⟩) he hpl
    exact run_kp O F hr hb hl I1 r wd hA hf q
  · obtain ⟨⟨s0, ρ1, γ1⟩, e1, e⟩ := bind_some e
    cases s0 with
    | un => cases e
    | d z => cases e
    | bx n => cases e
    | ow c =>
    cases c with
    | m kvs => cases e
    | l xs =>
    obtain ⟨⟨r, γ2⟩, e2, e⟩ := bind_some e
    cases r with
    | un => cases e
    | bx n => cases e
    | ow c => cases e
    | d z =>
    obtain ⟨ys, e3, e⟩ := map_some e
    cases e
    refine qa δ F' own G H ρ γ σ _ ρ1 γ1 _ R e1 fun v G1 H1 R1 s1 rv => ?_
    obtain ⟨pa, ev, fp, oc⟩ := rv
    subst ev
    -- the new list in a slot of its own
    have fp' : Free δ F' own G1 (ρ1 ++ [.un]) pa := ⟨fp.g, fp.d, fp.f, fun j c hj => by
      by_cases hi : j < ρ1.length
      · rw [List.getElem?_append_left hi] at hj; exact fp.o j c hj
      · rw [List.getElem?_append_right (Nat.le_of_not_lt hi)] at hj
        cases e : j - ρ1.length with
        | zero => rw [e] at hj; cases hj
        | succ k => rw [e] at hj; cases hj⟩
    have R2 := (R1.pad none).setC (i := ρ1.length) fp' oc
    generalize eo : (fun j => if j = ρ1.length then pa else own j) = own2 at R2
    have hi : ((ρ1 ++ [Sl.un]).set ρ1.length (.ow (.l xs)))[ρ1.length]? = some (.ow (.l xs)) := by simp
    have hown : own2 ρ1.length = pa := by rw [← eo]; simp
    refine ⟨δ ++ [own2 ρ1.length], G1, [.bx γ1.length], γ1 ++ [xs], .d z, γ2, hln, R2.lend hi, .bx ?_ .nil, e2, fun v G' H' fin rv => ?_⟩
    · rw [hown, List.getElem?_append_right (by rw [R1.wd.len]; exact Nat.le_refl _), R1.wd.len, Nat.sub_self]; rfl
    · have R3 := R2.lent hi fin e3
      have eρ : ((ρ1 ++ [Sl.un]).set ρ1.length (.ow (.l xs))).set ρ1.length (.ow (.l ys)) = ρ1 ++ [.ow (.l ys)] := by simp
      have eσ : (σ ++ [none]).set ρ1.length (some (V.ref pa)) = σ ++ [some (.ref pa)] := by rw [R1.len]; simp
      rw [eρ, eσ] at R3
      have R4 := R3.unpad
      have R5 : Rel X.K δ F' own G' H' ρ1 (γ2.take γ1.length) σ := by
        refine R4.own_eq fun j c hj => ?_
        have lt := (List.getElem?_eq_some_iff.mp hj).1
        rw [← eo]
        exact if_neg (by omega)
      exact k v G' H' R5 (s1.trans fin.g0) rv
end
end DL

namespace DL
open PySem PySem.Spec PyProof.Rows L2
variable [WW]

def fnNo : D → Option Nat
  | .dict [(.dict [], .int n)] => some n.toNat
  | _ => none
theorem Rep.fn_inv {K : Fg} {G : Hp} {v : V} {n : Nat} (r : Rep K G v (fnD n)) : ∃ a, v = .ref a ∧ WW.fns[n]? = some a := by
  generalize hd : fnD n = d at r
  cases r with
  | dict h c d m k es =>
    cases hd
    rcases k.kd with z | z
    · have := z _ List.mem_cons_self; cases this
    · have := z _ List.mem_cons_self; cases this
  | @fn a m h =>
    have : n = m := by
      have := hd
      simp only [fnD, PyData.dict.injEq, List.cons.injEq, Prod.mk.injEq, PyData.int.injEq, and_true, true_and] at this
      omega
    subst this
    exact ⟨a, rfl, h⟩
  | _ => cases hd
theorem fnNo_some {d : D} {n : Nat} (h : fnNo d = some n) : ∃ m : Int, d = .dict [(.dict [], .int m)] ∧ m.toNat = n := by
  unfold fnNo at h
  split at h
  · exact ⟨_, rfl, Option.some.inj h⟩
  · cases h
section
variable {X : Cx} {k : Nat} {x y : Str} {pos p : Pos} {i : Nat} {es : List Expr} {fr : Fa} {fe : Fx}
/-- the name of a def, as a value -/
theorem de_fnv {n : Nat} {a : Addr} (h : WW.fns[n]? = some a) (hg : Gl X x) (hm : X.mg x = some (.ref a)) (hd : (x == ("__debug__" : Str)) = false := by decide) : DE X (.Name x pos) (fC (fnD n)) :=
  de_const (v := .ref a) (pe_glob hg hm (show RelV (V.ref a) (Value.ref a) from rfl) hd) fun G => .fn h
/-- the n-th def, as it may be called with m arguments -/
structure FnOk (X : Cx) (k m n : Nat) (fn : Fn) : Prop where
  ex : ∃ (f : Addr) (fd : FuncData) (ps : List Str), WW.fns[n]? = some f ∧ Kp X.prog X.w X.K X.mg X.base k f fd ps fn ∧ PySem.W.keepIn X.K (.ref f) = true ∧ Binds X.K fd ps [] ∧ ps.length = m
theorem Kp.lift {P : Program} {w : World} {K : Fg} {mg : Str → Option Value} {base : Heap} {k k' : Nat} {f : Addr} {fd : FuncData} {ps : List Str} {fn : Fn} (h : Kp P w K mg base k f fd ps fn) (e : k ≤ k') : Kp P w K mg base k' f fd ps fn :=
  ⟨fun A outer s H G args us vs δ as γ r γ' Q hr => h.run A outer s H G args us vs δ as γ r γ' Q (hr.mono e)⟩
def qCallOV (tab : List (Nat × Fn)) (fe : Fx) (i : Nat) (fa : Fa) : Fq := fun ρ γ => (fe ρ γ).bind fun p => (fnNo p.1).bind fun n => (tab.lookup n).bind fun fn => qCallO fn i fa p.2.1 p.2.2
theorem mem_of_lookup {α : Type} {n : Nat} {fn : α} : ∀ {l : List (Nat × α)}, l.lookup n = some fn → (n, fn) ∈ l
  | (m, g) :: l, h => by
    rw [List.lookup_cons] at h
    split at h
    · rename_i e
      cases h
      have : n = m := by simpa using e
      subst this
      exact List.mem_cons_self
    · exact List.mem_cons_of_mem _ (mem_of_lookup h)
/-- what a call with one's own list does -/
theorem callO_sem {K : Fg} {fn : Fn} {ta : L2.St → Hp → (List V → Hp → Prop) → Prop} (la : ∀ ρ γ as ρ' γ', fr ρ γ = some (as, ρ', γ') → as.length = es.length)
    (qa : ∀ (δ : List Addr) (F : Fm) (own : Nat → Addr) (G H : Hp) (ρ : Row) (γ : Bxs) (σ : L2.St) (as : List Sl) (ρ' : Row) (γ' : Bxs) (Q : List V → Hp → Prop), Rel K δ F own G H ρ γ σ → fr ρ γ = some (as, ρ', γ') → (∀ vs G' H', Rel K δ F own G' H' ρ' γ' σ → Same G G' → ArgOk K δ G' vs as → Q vs H') → ta σ H Q)
    {δ : List Addr} {F' : Fm} {own : Nat → Addr} {G H : Hp} {ρ : Row} {γ : Bxs} {σ : L2.St} {s : Sl} {ρ' : Row} {γ' : Bxs} {Q : VK} (R : Rel K δ F' own G H ρ γ σ) (e : qCallO fn i fr ρ γ = some (s, ρ', γ')) (k : ∀ v G' H', Rel K δ F' own G' H' ρ' γ' σ → Same G G' → SlV K δ F' own ρ' G' H' v s → Q v H') :
    tCons (tVar i) ta σ H fun vs H1 => ∃ (δ : List Addr) (G : Hp) (as : List Sl) (γ : Bxs) (r : Sl) (γ' : Bxs), vs.length = es.length + 1 ∧ Wd K δ γ G H1 ∧ ArgOk K δ G vs as ∧ fn as γ = some (r, γ') ∧ ∀ v G' H', Fin K δ ⟨G, H1⟩ γ' G' H' → RetV K δ ⟨G, H1⟩ G' H' v r → Q v H' := by
  unfold qCallO at e
  split at e
  case h_2 => cases e
  rename_i xs0 hi0
  obtain ⟨⟨as, ρ1, γ1⟩, e1, e⟩ := bind_some e
  dsimp only at e
  split at e
  case h_2 => cases e
  rename_i xs hi
  obtain ⟨⟨r, γ2⟩, e2, e⟩ := bind_some e
  obtain ⟨ys, e3, e⟩ := map_some e
  cases e
  have h0 := (R.slot i _ hi0).1
  refine tvar_of h0 (qa δ F' own G H ρ γ σ as ρ1 γ1 _ R e1 fun vs G1 H1 R1 s1 r1 => ?_)
  have lift : ∀ {ws : List V} {bs : List Sl}, ArgOk K δ G1 ws bs → ArgOk K (δ ++ [own i]) G1 ws bs := by
    intro ws bs h
    induction h with
    | nil => exact .nil
    | d a _ ih => exact .d a ih
    | bx a _ ih => exact .bx (by rw [List.getElem?_append_left (List.getElem?_eq_some_iff.mp a).1]; exact a) ih
  refine ⟨δ ++ [own i], G1, .bx γ1.length :: as, γ1 ++ [xs], r, γ2, by rw [List.length_cons, r1.length, la _ _ _ _ _ e1], R1.lend hi, .bx ?_ (lift r1), e2, fun v G' H' fin rv => ?_⟩
  · rw [List.getElem?_append_right (by rw [R1.wd.len]; exact Nat.le_refl _), R1.wd.len, Nat.sub_self]; rfl
  · have R2 := R1.lent hi fin e3
    refine k v G' H' R2 (s1.trans fin.g0) ?_
    have rv2 : RetV K δ ⟨G1, H1⟩ G' H' v r := by
      cases r with
      | un => exact rv
      | bx n => exact rv
      | d z => exact rv
      | ow zs =>
        obtain ⟨p, e, g, d, hn, hc⟩ := rv
        exact ⟨p, e, g, fun z => d (List.mem_append_left _ z), hn, hc⟩
    refine R1.gave (fun j zs hj => ?_) rv2
    rcases set_ol hj with ⟨z, _⟩ | ⟨_, z⟩
    · exact ⟨_, by rw [z]; exact hi⟩
    · exact ⟨zs, z⟩
theorem dq_callOV {tab : List (Nat × Fn)} {c0 : Expr} {c1 : List Expr} {c2 : List Keyword} {c3 : Pos} (O : Okc X) (ht : ∀ q ∈ tab, FnOk X k (es.length + 1) q.1 q.2) (hr : Room k X.A) (hc : DE X (.Call c0 c1 c2 c3) fe) (hv : PE X (.Name y p) (tVar i)) (ha : DAr X es fr)
    (he : starEach (.Name y p :: es) X.env = (false, eval (.Name y p) X.env) :: starEach es X.env := by rfl) (hpl : (backTo pos (starEach es X.env)).any (·.1) = false := by rfl) : DQ X (.Call (.Call c0 c1 c2 c3) (.Name y p :: es) [] pos) (qCallOV tab fe i fr) := by
  obtain ⟨la, ta, pa, qa⟩ := ha
  obtain ⟨tc, pc, qc⟩ := hc
  refine ⟨fun σ H Q => tc σ H fun v H0 => ∃ (f : Addr) (n : Nat) (fn : Fn), v = .ref f ∧ WW.fns[n]? = some f ∧ (n, fn) ∈ tab ∧ tCons (tVar i) ta σ H0 fun vs H1 => ∃ (δ : List Addr) (G : Hp) (as : List Sl) (γ : Bxs) (r : Sl) (γ' : Bxs), vs.length = es.length + 1 ∧ Wd X.K δ γ G H1 ∧ ArgOk X.K δ G vs as ∧ fn as γ = some (r, γ') ∧ ∀ v G' H', Fin X.K δ ⟨G, H1⟩ γ' G' H' → RetV X.K δ ⟨G, H1⟩ G' H' v r → Q v H', ⟨fun pins s σ H Q I h => ?_⟩, fun δ F' own G H ρ γ σ s ρ' γ' Q R e k => ?_⟩
  · have arm : eval (.Call (.Call c0 c1 c2 c3) (.Name y p :: es) [] pos) X.env = (do callWith pos (← eval (.Call c0 c1 c2 c3) X.env) [] (backTo pos (starEach (.Name y p :: es) X.env)) (backToKw pos (keywordEach [] X.env))) := rfl
    rw [arm]
    refine wpAny_bind (thn (pc.run pins s σ H _ I h) fun u s0 hh => ?_)
    obtain ⟨v, H0, I0, r0, f, n, fn, ev, hf, hmem, q⟩ := hh
    subst ev
    obtain rfl : u = Value.ref f := r0
    obtain ⟨f', fd, ps, hf', F, hk, hb, hl⟩ := (ht (n, fn) hmem).ex
    have ef : f' = f := Option.some.inj (hf'.symm.trans hf)
    subst ef
    refine PySem.W.callWith_K (h₀ := X.base) I0.ok.mod.kin hk (thn ((pa_cons hv pa he).run pos pins s0 σ H0 _ I0 q) fun us s1 ⟨vs, H1, I1, r, δ, G, as, γ, rr, γ', hl1, wd, hA, hf, q⟩ => ⟨I1.kIn, ?_⟩) he hpl
    exact run_kp O F hr hb (by rw [hl1, hl]) I1 r wd hA hf q
  · obtain ⟨⟨d, ρ1, γ1⟩, e1, e⟩ := bind_some e
    obtain ⟨n, e2, e⟩ := bind_some e
    obtain ⟨fn, e3, eF⟩ := bind_some e
    obtain ⟨m, rfl, hm⟩ := fnNo_some e2
    refine qc δ F' own G H ρ γ σ _ ρ1 γ1 _ R e1 fun v G1 H1 R1 s1 r1 => ?_
    have mem := mem_of_lookup e3
    have hm0 : ∃ m0 : Nat, m = m0 := by
      generalize hd : PyData.dict [(PyData.dict [], PyData.int m)] = d at r1
      cases r1 with
      | dict h c d m k es =>
        cases hd
        rcases k.kd with z | z
        · have := z _ List.mem_cons_self; cases this
        · have := z _ List.mem_cons_self; cases this
      | @fn a m1 h =>
        have : m = m1 := by
          simp only [PyData.dict.injEq, List.cons.injEq, Prod.mk.injEq, PyData.int.injEq, and_true, true_and] at hd
          exact hd
        exact ⟨m1, this⟩
      | _ => cases hd
    obtain ⟨m0, rfl⟩ := hm0
    have en : m0 = n := by simpa using hm
    subst en
    obtain ⟨a, rfl, ha⟩ := r1.fn_inv
    exact ⟨a, m0, fn, rfl, ha, mem, callO_sem la qa R1 eF fun v G' H' R' s' rv => k v G' H' R' (s1.trans s') rv⟩
end
end DL

namespace DL
open PySem PySem.Spec PyProof.Rows L2
section
variable {X : Cx}
theorem lc_coreI {pins : List (Addr × Obj)} {s : Shared} {σ : L2.St} {H : Hp} {Q : VK} {elt tg iter : Expr} {ifs : List Expr} {scope : Scope} {own : List (Str × Nat)} {pos pos' : Pos} {wi : TI} {g : TG} {tt : TT} {te : TE} {use : Option (Value → Sem Unit)} {Qf : Value → Shared → Prop}
    (kalm : X.calm = true) (nodN : X.N.Nodup) (Iv : Inv X pins σ H s) (hit : PI X tg iter wi) (bok : BlkOk X.N X.env.scope scope own)
    (htg : ∀ (s : Shared) (H : Hp) (C : Addr) (cl : List (Str × Addr)) (fp : List Addr), PG (X.blk s H scope (compEnvC scope cl C X.env) fp) tg g) (htt : ∀ (sB : Shared) (HB : Hp) (CB : Addr) (clB : List (Str × Addr)) (fpB : List Addr), Inv X pins σ HB sB → (∀ b ∈ fpB, FpOk X pins HB b ∧ b < sB.heap.objs.size) → ∀ (pinsB : List (Addr × Obj)) (sC : Shared) (σC : L2.St) (HC : Hp) (QC : Bool → Hp → Prop), wipe σC (own.map (·.2)) = wipe σ (own.map (·.2)) → Inv (X.blk sB HB scope (compEnvC scope clB CB X.env) fpB) pinsB σC HC sC → tt σC HC QC →
      wpAny (model X.prog X.w) X.A (forIn ifs true fun cB rB => if rB = true then do let okB ← isTrue cB (compEnvC scope clB CB X.env) (eval cB (compEnvC scope clB CB X.env)); pure (ForInStep.yield okB) else pure (ForInStep.yield rB)) (TP (X.blk sB HB scope (compEnvC scope clB CB X.env) fpB) pinsB σC QC) (fun _ _ => False) sC)
    (hel : ∀ (s : Shared) (H : Hp) (C : Addr) (cl : List (Str × Addr)) (fp : List Addr), PE (X.blk s H scope (compEnvC scope cl C X.env) fp) elt te) (hfs : ∀ x, foldedSetIterable iter X.env x = pure x)
    (hyp : tLc wi g tt te (own.map (·.2)) σ H Q)
    (hRRᵥ : ∀ Dᵥ C s' m H', Inv X pins σ H' s' → Q (.ref Dᵥ) H' → s'.heap.Ns C m → FpOk X pins H' C → compPost (model X.prog X.w) X.A X.xe use Qf (.ref Dᵥ) C (.ok .next) s') :
    wpAny (model X.prog X.w) X.A (comprehension (.ListComp elt [⟨tg, iter, ifs, 0⟩] scope pos) scope X.env pos' (newList []) false (eval iter X.env) use) Qf X.xe s := by
  have hfreeᵥ : ∀ y ∈ scope.names, y.2 = .free → ∃ c, X.env.cells.lookup y.1 = some c := fun y hyᵥ eᵥ => by
    rcases bok.free y hyᵥ eᵥ with k | k
    · exact Iv.ok.has _ (.inl k)
    · exact Iv.ok.has _ (.inr k)
  refine wpAny_comprehension_free (use := use) rfl hfs (closure_ok hfreeᵥ) bok.kind (fun y hyᵥ eᵥ => by rw [bok.uniq y hyᵥ, eᵥ])
    (thn (hit.run pins s σ H _ Iv hyp) fun xvᵥ s1ᵥ hxᵥ => thn hxᵥ fun itvᵥ s2ᵥ h2ᵥ => ?_)
  obtain ⟨it, fp, tnᵥ, J, H2ᵥ, eᵥ, I2ᵥ, Tᵥ, st2ᵥ, f2ᵥ, q⟩ := h2ᵥ
  subst eᵥ
  refine wpAny_newObj_type (newEnv_comp ?_) (by show 0 ≤ sizeLine; decide)
  generalize hDᵥ : s2ᵥ.heap.objs.size = Dᵥ
  have hDnᵥ : H2ᵥ Dᵥ = none := I2ᵥ.hok.fresh (Nat.le_of_eq hDᵥ)
  obtain ⟨Wᵥ, ⟨m0ᵥ, w0ᵥ⟩, turnᵥ⟩ := q Dᵥ hDnᵥ
  -- the new list
  generalize hs3ᵥ : ({ s2ᵥ with heap := s2ᵥ.heap.push { cls := .type "list", data := .seq ([] : List Value).toArray } } : Shared) = s3ᵥ
  have I3ᵥ : Inv X pins σ (upd H2ᵥ Dᵥ (.lst [])) s3ᵥ := by
    rw [← hs3ᵥ]
    refine I2ᵥ.laid (t' := s2ᵥ.toks) (fun b oᵥ eᵥ => Heap.get?_push_of_some _ eᵥ) (Nat.le_of_eq hDᵥ) ⟨Nat.zero_le _, [], 0, .nil, ?_⟩
    rw [← hDᵥ]
    exact Heap.get?_push_size _ rfl
  have h3ᵥ : s3ᵥ.heap = s2ᵥ.heap.push { cls := .type "list", data := .seq ([] : List Value).toArray } := by rw [← hs3ᵥ]
  have szᵥ : ∀ b ∈ fp, b < s2ᵥ.heap.objs.size := fun b hbᵥ => by
    obtain ⟨oᵥ, eᵥ, _⟩ := Tᵥ.obj _ _ st2ᵥ b hbᵥ
    exact Heap.lt_size eᵥ
  have f3ᵥ : ∀ b ∈ fp, FpOk X pins (upd H2ᵥ Dᵥ (.lst [])) b ∧ b < s3ᵥ.heap.objs.size := fun b hbᵥ => by
    have hltᵥ := szᵥ b hbᵥ
    refine ⟨⟨?_, (f2ᵥ b hbᵥ).2⟩, by rw [h3ᵥ, Heap.size_push]; exact Nat.lt_succ_of_lt hltᵥ⟩
    rw [upd_ne (by rw [← hDᵥ]; exact Nat.ne_of_lt hltᵥ)]
    exact (f2ᵥ b hbᵥ).1
  have st3ᵥ : tnᵥ 0 s3ᵥ.heap := Tᵥ.keep _ _ _ st2ᵥ fun b _ oᵥ eᵥ => by rw [h3ᵥ]; exact Heap.get?_push_of_some _ eᵥ
  have I4ᵥ := block_start I3ᵥ bok nodN f3ᵥ
  have pgᵥ := htg s3ᵥ (upd H2ᵥ Dᵥ (.lst [])) s3ᵥ.heap.objs.size (cellsFrom (s3ᵥ.heap.objs.size + 1) scope.names (cloFrom X.env.cells scope.names [])) fp
  have ptᵥ := htt s3ᵥ (upd H2ᵥ Dᵥ (.lst [])) s3ᵥ.heap.objs.size (cellsFrom (s3ᵥ.heap.objs.size + 1) scope.names (cloFrom X.env.cells scope.names [])) fp I3ᵥ f3ᵥ
  have peᵥ := hel s3ᵥ (upd H2ᵥ Dᵥ (.lst [])) s3ᵥ.heap.objs.size (cellsFrom (s3ᵥ.heap.objs.size + 1) scope.names (cloFrom X.env.cells scope.names [])) fp
  show codeAny _ _ (.compStart (.ListComp elt [⟨tg, iter, ifs, 0⟩] scope pos) 0 (.ref it) (.ref Dᵥ) (compEnvC scope (cellsFrom (s3ᵥ.heap.objs.size + 1) scope.names (cloFrom X.env.cells scope.names [])) s3ᵥ.heap.objs.size X.env)) (compPost (model X.prog X.w) X.A X.xe use Qf (.ref Dᵥ) s3ᵥ.heap.objs.size) { s3ᵥ with heap := pushCells (s3ᵥ.heap.push { cls := .type "dict", data := .dict #[] }) scope.names }
  have nfpᵥ : ∀ b ∈ fp, (upd H2ᵥ Dᵥ (.lst [])) b = none := fun b hbᵥ => (f3ᵥ b hbᵥ).1.1
  generalize hceᵥ : compEnvC scope (cellsFrom (s3ᵥ.heap.objs.size + 1) scope.names (cloFrom X.env.cells scope.names [])) s3ᵥ.heap.objs.size X.env = ceᵥ at I4ᵥ pgᵥ ptᵥ peᵥ ⊢
  have cLᵥ : ceᵥ.locals = s3ᵥ.heap.objs.size := by subst hceᵥ; rfl
  generalize hH3ᵥ : upd H2ᵥ Dᵥ (.lst []) = H3ᵥ at I3ᵥ I4ᵥ pgᵥ ptᵥ peᵥ w0ᵥ nfpᵥ f3ᵥ
  generalize hs4ᵥ : ({ s3ᵥ with heap := pushCells (s3ᵥ.heap.push { cls := .type "dict", data := .dict #[] }) scope.names } : Shared) = s4ᵥ at I4ᵥ ⊢
  have st4ᵥ : tnᵥ 0 s4ᵥ.heap := Tᵥ.keep _ _ _ st3ᵥ fun b _ oᵥ eᵥ => by rw [← hs4ᵥ]; exact pushCells_keeps _ _ _ _ (Heap.get?_push_of_some _ eᵥ)
  have statᵥ : ∀ {σ' : L2.St} {H' : Hp} {s' : Shared}, Inv (X.blk s3ᵥ H3ᵥ scope ceᵥ fp) [] σ' H' s' → (∀ b ∈ fp, H' b = none) → ∀ b ∈ fp, FpOk (X.blk s3ᵥ H3ᵥ scope ceᵥ fp) [] H' b := fun {σ' H' s'} I' hnᵥ b hbᵥ =>
    ⟨hnᵥ b hbᵥ, (I'.ok.exf b hbᵥ).1, I'.ok.exfs b hbᵥ, .inl hbᵥ, fun x c eᵥ => (I'.ok.exf b hbᵥ).2 x c eᵥ, fun p hp => absurd (show p ∈ ([] : List (Addr × Obj)) ++ [] from hp) (by simp)⟩
  have loopᵥ : codeAny (model X.prog X.w) X.A (.compLoop (.ListComp elt [⟨tg, iter, ifs, 0⟩] scope pos) 0 (.ref it) (.ref Dᵥ) ceᵥ) (compPost (model X.prog X.w) X.A X.xe use Qf (.ref Dᵥ) s3ᵥ.heap.objs.size) s4ᵥ := by
    refine compLoop_any (fun n s' => ∃ i H', Inv (X.blk s3ᵥ H3ᵥ scope ceᵥ fp) [] (wipe σ (own.map (·.2))) H' s' ∧ tnᵥ i s'.heap ∧ (∀ b ∈ fp, H' b = none) ∧ Wᵥ i n H') ?_ m0ᵥ ⟨0, H3ᵥ, I4ᵥ, st4ᵥ, nfpᵥ, w0ᵥ⟩
    rintro n s5ᵥ ⟨i, H5ᵥ, I5ᵥ, st5ᵥ, n5ᵥ, w5ᵥ⟩
    rcases turnᵥ i n H5ᵥ w5ᵥ with ⟨stopᵥ, qqᵥ⟩ | ⟨goᵥ, Nxᵥ, hNxᵥ, stepᵥ⟩
    · have tdᵥ := Tᵥ.done (X.blk s3ᵥ H3ᵥ scope ceᵥ fp) rfl rfl rfl kalm i [] s5ᵥ _ H5ᵥ (fun _ _ => False) I5ᵥ (statᵥ I5ᵥ n5ᵥ) st5ᵥ stopᵥ
      refine thnF tdᵥ fun r s6ᵥ ⟨hrᵥ, I6ᵥ⟩ => ?_
      subst hrᵥ
      -- back in the def's context
      have I7ᵥ : Inv X pins σ H5ᵥ s6ᵥ := I3ᵥ.call' (ch := fp) I6ᵥ.os I6ᵥ.base I6ᵥ.hok I6ᵥ.bare fun b hbᵥ => ⟨(f3ᵥ b hbᵥ).1.2.2.2.1, (f3ᵥ b hbᵥ).1.2.1, (f3ᵥ b hbᵥ).1.2.2.2.2.1, (f3ᵥ b hbᵥ).1.2.2.2.2.2⟩
      have nCᵥ : H5ᵥ s3ᵥ.heap.objs.size = none := by
        have zᵥ : H5ᵥ ceᵥ.locals = none := I6ᵥ.free
        rw [cLᵥ] at zᵥ
        exact zᵥ
      obtain ⟨m, hnᵥ, _⟩ := I6ᵥ.loc
      have hnᵥ : s6ᵥ.heap.Ns ceᵥ.locals m := hnᵥ
      rw [cLᵥ] at hnᵥ
      exact hRRᵥ Dᵥ s3ᵥ.heap.objs.size s6ᵥ m H5ᵥ I7ᵥ qqᵥ hnᵥ (I3ᵥ.fpOk (Nat.le_refl _) nCᵥ)
    · have tiᵥ := Tᵥ.item (X.blk s3ᵥ H3ᵥ scope ceᵥ fp) rfl rfl rfl kalm i [] s5ᵥ _ H5ᵥ (fun _ _ => False) I5ᵥ (statᵥ I5ᵥ n5ᵥ) st5ᵥ goᵥ
      refine thnF tiᵥ fun r s6ᵥ ⟨u, hrᵥ, h6ᵥ⟩ => ?_
      subst hrᵥ
      refine thnF h6ᵥ fun _ s7ᵥ ⟨x, H7ᵥ, I7ᵥ, r7ᵥ, y7ᵥ, st7ᵥ, n7ᵥ⟩ => ?_
      have I7' := I7ᵥ.pinned (statᵥ I7ᵥ n7ᵥ) (Tᵥ.obj _ _ st7ᵥ)
      refine thnF (pgᵥ.run _ s7ᵥ _ H7ᵥ x u _ I7' r7ᵥ (stepᵥ x H7ᵥ y7ᵥ)) fun _ s8ᵥ ⟨σ8ᵥ, H8ᵥ, I8ᵥ, hw8ᵥ, q8ᵥ⟩ => ?_
      refine thnF (ptᵥ _ s8ᵥ σ8ᵥ H8ᵥ _ hw8ᵥ I8ᵥ q8ᵥ) fun b s9ᵥ ⟨H9ᵥ, I9ᵥ, q9ᵥ⟩ => ?_
      -- the turn's end
      have finᵥ : ∀ {s' : Shared} {H' : Hp}, Inv (X.blk s3ᵥ H3ᵥ scope ceᵥ fp) ([] ++ pinsAt fp s7ᵥ.heap) σ8ᵥ H' s' → Nxᵥ H' → ∃ m, m < n ∧ ∃ i H', Inv (X.blk s3ᵥ H3ᵥ scope ceᵥ fp) [] (wipe σ (own.map (·.2))) H' s' ∧ tnᵥ i s'.heap ∧ (∀ b ∈ fp, H' b = none) ∧ Wᵥ i m H' := fun {s' H'} I' nxᵥ => by
        obtain ⟨m', hmᵥ, w_pᵥ⟩ := hNxᵥ H' nxᵥ
        have pin_pᵥ : ∀ b ∈ fp, ∀ oᵥ, s7ᵥ.heap.get? b = some oᵥ → s'.heap.get? b = some oᵥ ∧ H' b = none := fun b hbᵥ oᵥ eᵥ =>
          let zᵥ := I'.pin (b, oᵥ) (List.mem_append_right _ (List.mem_append_right _ (mem_pinsAt hbᵥ eᵥ)))
          ⟨zᵥ.1, zᵥ.2.1⟩
        have hlᵥ : (wipe σ (own.map (·.2))).length = σ8ᵥ.length := by rw [← hw8ᵥ, wipe_length]
        refine ⟨m', hmᵥ, i + 1, H', (I'.unpinned (pins := [])).weak hlᵥ (fun j v eᵥ => ?_), Tᵥ.keep _ _ _ st7ᵥ fun b hbᵥ oᵥ eᵥ => (pin_pᵥ b hbᵥ oᵥ eᵥ).1, fun b hbᵥ => ?_, w_pᵥ⟩
        · rw [← hw8ᵥ] at eᵥ
          exact (wipe_some eᵥ).1
        · obtain ⟨oᵥ, eᵥ, _⟩ := Tᵥ.obj _ _ st7ᵥ b hbᵥ
          exact (pin_pᵥ b hbᵥ oᵥ eᵥ).2
      cases b with
      | false =>
        simp only [Bool.false_eq_true, if_false] at q9ᵥ ⊢
        exact finᵥ I9ᵥ q9ᵥ
      | true =>
        simp only [if_true] at q9ᵥ ⊢
        refine thnF (peᵥ.run _ s9ᵥ σ8ᵥ H9ᵥ _ I9ᵥ q9ᵥ) fun zᵥ s10ᵥ ⟨yvᵥ, H10ᵥ, I10ᵥ, r10ᵥ, accᵥ, hD10ᵥ, hz10ᵥ, nxᵥ⟩ => ?_
        exact app_ok (X := X.blk s3ᵥ H3ᵥ scope ceᵥ fp) I10ᵥ hD10ᵥ hz10ᵥ r10ᵥ fun s11ᵥ I11ᵥ => finᵥ I11ᵥ nxᵥ
  exact codeAny_compStart_list loopᵥ (Tᵥ.self X.A 0 _ _ _ st4ᵥ loopᵥ)

theorem pe_lcI {elt tg iter : Expr} {ifs : List Expr} {scope : Scope} {own : List (Str × Nat)} {pos : Pos} {wi : TI} {g : TG} {tt : TT} {te : TE} (kalm : X.calm = true) (nodN : X.N.Nodup) (hit : PI X tg iter wi) (bok : BlkOk X.N X.env.scope scope own)
    (htg : ∀ (s0 : Shared) (H0 : Hp) (C0 : Addr) (cl0 : List (Str × Addr)) (fp0 : List Addr), PG (X.blk s0 H0 scope (compEnvC scope cl0 C0 X.env) fp0) tg g)
    (htt : ∀ (pins : List (Addr × Obj)) (σ : L2.St) (sB : Shared) (HB : Hp) (CB : Addr) (clB : List (Str × Addr)) (fpB : List Addr), Inv X pins σ HB sB → (∀ b ∈ fpB, FpOk X pins HB b ∧ b < sB.heap.objs.size) → ∀ (pinsB : List (Addr × Obj)) (sC : Shared) (σC : L2.St) (HC : Hp) (QC : Bool → Hp → Prop), wipe σC (own.map (·.2)) = wipe σ (own.map (·.2)) → Inv (X.blk sB HB scope (compEnvC scope clB CB X.env) fpB) pinsB σC HC sC → tt σC HC QC →
      wpAny (model X.prog X.w) X.A (forIn ifs true fun cB rB => if rB = true then do let okB ← isTrue cB (compEnvC scope clB CB X.env) (eval cB (compEnvC scope clB CB X.env)); pure (ForInStep.yield okB) else pure (ForInStep.yield rB)) (TP (X.blk sB HB scope (compEnvC scope clB CB X.env) fpB) pinsB σC QC) (fun _ _ => False) sC)
    (hel : ∀ (s0 : Shared) (H0 : Hp) (C0 : Addr) (cl0 : List (Str × Addr)) (fp0 : List Addr), PE (X.blk s0 H0 scope (compEnvC scope cl0 C0 X.env) fp0) elt te) (hfs : ∀ x, foldedSetIterable iter X.env x = pure x := by intro _; rfl) :
    PE X (.ListComp elt [⟨tg, iter, ifs, 0⟩] scope pos) (tLc wi g tt te (own.map (·.2))) := by
  refine ⟨fun pins s σ H Q Iv hyp => ?_⟩
  rw [eval_ListComp]
  refine lc_coreI kalm nodN Iv hit bok htg (htt pins σ) hel hfs hyp fun Dn Ca sE mE HE IE qE nE fE => ⟨mE, nE, fun hE sb => ?_⟩
  obtain ⟨f0, f1, f2, f3, f4, f5⟩ := fE
  exact ⟨.ref Dn, HE, IE.turned (t' := sE.toks) (fun b o hb e => (sb.2 b hb).trans e) f0 f1 f3 f4 f5, rfl, qE⟩
end
end DL

namespace DL
open PySem PySem.Spec PyProof.Rows L2 LamX
variable [WW]

abbrev lamQ (X : Cx) : Str := X.env.qual ++ "<lambda>"
/-- o is this lambda, made in X; its code object stands -/
def LamAt (X : Cx) (params : Arguments) (body : Expr) (scope : Scope) (H : Hp) (o : Obj) : Prop :=
  ∃ (pm : Value) (c' : Addr) (ctv : Value), o = PySem.W.kla_obj "<lambda>" (lamQ X) params body scope (cloFrom X.env.cells scope.names []) pm c' ctv ∧ H c' = some (CodeO c' (lamQ X))
def tLamO (X : Cx) (P : Addr) (params : Arguments) (body : Expr) (scope : Scope) : TE := fun σ H Q => (∀ p ∈ WW.T, TabS H p.1 p.2) ∧
  ∀ (f : Addr) (o : Obj) (H1 : Hp), Grew P H H1 → H f = none → H1 f = none → LamAt X params body scope H1 o → Q (.ref f) (upd H1 f (xO f o))
section
variable {X : Cx} {pins : List (Addr × Obj)} {σ : L2.St} {H : Hp} {s : Shared}
theorem lam_make4 {c P : Addr} {params : Arguments} {body : Expr} {scope : Scope} {pos : Pos} {E : Value → Shared → Prop} {Q : Value → Shared → Prop} (I : Inv X pins σ H s)
    (TB : TabB X.base X.mg c P) (hcode : X.env.code = .ref c) (hm : (P, lamQ X) ∈ WW.T) (hu : ∀ p ∈ WW.T, p.1 = P → p.2 = lamQ X) (hT : ∀ p ∈ WW.T, TabS H p.1 p.2)
    (hdef : defaultsOf params X.env = ([], [])) (hfree : ∀ y ∈ scope.names, y.2 = .free → ∃ c, X.env.cells.lookup y.1 = some c)
    (h : ∀ (f : Addr) (o : Obj) (H1 : Hp) (s' : Shared), Inv X pins σ (upd H1 f (xO f o)) s' → Grew P H H1 → H f = none → H1 f = none → LamAt X params body scope H1 o → Q (.ref f) s') : wpAny (model X.prog X.w) X.A (eval (.Lambda params body scope pos) X.env) Q E s := by
  obtain ⟨ps, hP, ht, ha⟩ := hT _ hm
  refine PySem.W.kla_eval hdef ?_
  have tableHere : s.heap.get? P = some { cls := .none, data := .fields ps } := I.hok P _ hP
  cases hc : codeAmong pos ps.toList with
  | some cv =>
    obtain ⟨c', e, hco⟩ := ha pos cv hc
    subst e
    refine PySem.W.kla_makeFunctionHit (mg := X.mg) (c := c) (P := P) (ps := ps) (closure_ok hfree) I.ok.glob (I.mod.glob.keeps I.bk) hcode (TB.code.keeps I.bk) tableHere ht hc (TB.bm.keeps I.bk) fun ctv h' tk hx hsz => ?_
    exact h h'.objs.size _ H _ (layO I (fun b o e => Heap.get?_push_of_some _ (hx b o e)) hsz (Heap.get?_push_size _ rfl)) ⟨fun b o _ e => e, ⟨ps, hP⟩, ⟨ps, hP⟩, hT⟩ (I.hok.fresh hsz) (I.hok.fresh hsz) ⟨(X.mg "__name__").getD .none, c', ctv, rfl, hco⟩
  | none =>
    refine PySem.W.kla_makeFunction (mg := X.mg) (c := c) (P := P) (ps := ps) (closure_ok hfree) I.ok.glob (I.mod.glob.keeps I.bk) hcode (TB.code.keeps I.bk) tableHere ht hc TB.gP (TB.bm.keeps I.bk) fun c' ctv h' tk hx hge hlt hrec htb => ?_
    obtain ⟨c2, oc, vs, t, e2, hoc, hd, hv⟩ := hrec
    cases e2
    have nC : H c' = none := I.hok.fresh hge
    have bigger : s.heap.objs.size ≤ h'.objs.size := Nat.le_trans hge (Nat.le_of_lt hlt)
    have J0 := inv_table (t' := tk) (more := #[rawInt pos.line, rawInt pos.col, .ref c']) (h' := h') I hP (fun b o hb e => hx b o hb e) htb hge ⟨oc, vs, t, hoc, hd, hv⟩
    have fr : (upd (upd H P (.tbl (ps ++ #[rawInt pos.line, rawInt pos.col, .ref c']))) c' (CodeO c' (lamQ X))) h'.objs.size = none := J0.hok.fresh (Nat.le_refl _)
    have J := layO (t' := tk) (h' := h'.push (PySem.W.kla_obj "<lambda>" (lamQ X) params body scope (cloFrom X.env.cells scope.names []) ((X.mg "__name__").getD .none) c' ctv)) (a := h'.objs.size) J0 (fun b o e => Heap.get?_push_of_some _ e) (Nat.le_refl _) (Heap.get?_push_size _ rfl)
    have oth : ∀ b o, b ≠ P → H b = some o → upd (upd H P (.tbl (ps ++ #[rawInt pos.line, rawInt pos.col, .ref c']))) c' (CodeO c' (lamQ X)) b = some o := fun b o hb e => by
      rw [upd_ne (ne_of_none e nC), upd_ne hb]; exact e
    have atP : upd (upd H P (.tbl (ps ++ #[rawInt pos.line, rawInt pos.col, .ref c']))) c' (CodeO c' (lamQ X)) P = some (.tbl (ps ++ #[rawInt pos.line, rawInt pos.col, .ref c'])) := by
      rw [upd_ne (ne_of_none hP nC), upd_same]
    have codes : ∀ {b : Addr} {q : Str}, H b = some (CodeO b q) → b ≠ P := fun {b q} e z => by
      rw [z, hP] at e
      exact codeO_ne ps (Option.some.inj e).symm
    have split : (ps ++ #[rawInt pos.line, rawInt pos.col, Value.ref c']).toList = ps.toList ++ [rawInt pos.line, rawInt pos.col, .ref c'] := by simp
    refine h h'.objs.size _ _ _ J ⟨oth, ⟨ps, hP⟩, ⟨_, atP⟩, fun p hp => ?_⟩ (I.hok.fresh bigger) fr ⟨(X.mg "__name__").getD .none, c', ctv, rfl, upd_same⟩
    by_cases hb : p.1 = P
    · rw [hu p hp hb, hb]
      refine ⟨_, atP, by rw [split]; exact PySem.TriplesOk_snoc _ _ _ _ ht, fun p' cv hcv => ?_⟩
      rw [split] at hcv
      rcases among_app _ ht hcv with z | z
      · obtain ⟨c0, e1, e2⟩ := ha p' cv z
        exact ⟨c0, e1, oth _ _ (codes e2) e2⟩
      · exact ⟨c', z, upd_same⟩
    · obtain ⟨ps', a1, a2, a3⟩ := hT p hp
      refine ⟨ps', oth _ _ hb a1, a2, fun p' cv hcv => ?_⟩
      obtain ⟨c0, e1, e2⟩ := a3 p' cv hcv
      exact ⟨c0, e1, oth _ _ (codes e2) e2⟩
theorem pe_lamO {c P : Addr} {params : Arguments} {body : Expr} {scope : Scope} {pos : Pos} (TB : TabB X.base X.mg c P) (hcode : X.env.code = .ref c) (hm : (P, lamQ X) ∈ WW.T) (hu : ∀ p ∈ WW.T, p.1 = P → p.2 = lamQ X)
    (hdef : defaultsOf params X.env = ([], [])) (L : LamS X.env.scope scope) : PE X (.Lambda params body scope pos) (tLamO X P params body scope) :=
  ⟨fun pins s σ H Q I h => lam_make4 I TB hcode hm hu h.1 hdef (L.has I.ok) fun f o H1 s' J gr n0 n1 la => ⟨.ref f, _, J, rfl, h.2 f o H1 gr n0 n1 la⟩⟩

def hidL (H : Hp) (fs : List Addr) : Hp := fun b => if b ∈ fs then none else H b
theorem objOk_sub {P : Program} {w : World} {H H' : Hp} {h : Heap} {a : Addr} (t : ∀ b xs, H b = some (.tup xs) → H' b = some (.tup xs)) (o : ∀ b x, H b = some (.own x) → H' b = some (.own x)) : ∀ {u : HO}, ObjOk P w H h a u → ObjOk P w H' h a u
  | .lst _, q => q
  | .tup _, q => q
  | .dK _, q => q
  | .dT _, ⟨q1, q2, xs, q3, q4⟩ => ⟨q1, q2, xs, q3.mono fun _ _ z => ⟨z.1, t _ _ z.2.1, z.2.2⟩, q4⟩
  | .set _ _, q => q
  | .ins _ _ _, ⟨q1, q2⟩ => ⟨o _ _ q1, q2⟩
  | .own _, q => q
  | .xd _, q => q
  | .rng _ _, q => q
  | .frz _ u, ⟨q1, q2⟩ => ⟨q1, objOk_sub t o (u := u) q2⟩
  | .tbl _, q => q
  | .met _ _, q => q
  | .ext _, q => q
/-- X with these objects pinned -/
abbrev Cx.pinned' (X : Cx) (ps : List (Addr × Obj)) : Cx := { X with pn := ps }
theorem Inv.hide (I : Inv X pins σ H s) {fs : List (Addr × Obj)} (hf : ∀ p ∈ fs, H p.1 = some (xO p.1 p.2) ∧ ∀ v, p.2.data ≠ .cell v) : Inv (Cx.pinned' X (fs ++ (X.pn ++ pins))) [] σ (hidL H (fs.map (·.1))) s := by
  have at_ : ∀ {b : Addr}, b ∈ fs.map (·.1) → ∃ o, H b = some (xO b o) := fun {b} hb => by
    obtain ⟨p, hp, e⟩ := List.mem_map.mp hb
    subst e
    exact ⟨_, (hf p hp).1⟩
  have up : ∀ {b : Addr} {u : HO}, H b = some u → (∀ o, u ≠ xO b o) → hidL H (fs.map (·.1)) b = some u := fun {b u} e n => by
    unfold hidL
    rw [if_neg fun hb => ?_]
    · exact e
    · obtain ⟨o, z⟩ := at_ hb
      rw [e] at z
      exact n o (Option.some.inj z)
  have none_ : ∀ {b : Addr}, H b = none → hidL H (fs.map (·.1)) b = none := fun {b} e => by
    unfold hidL
    split
    · rfl
    · exact e
  have nx : ∀ {b : Addr} {o : Obj} {u : HO}, (∀ φ, u ≠ .ext φ) → u ≠ xO b o := fun {b o u} n z => n _ z
  have ok := I.ok
  refine ⟨⟨ok.mod, ok.kind, ok.glob, ok.blt, ok.above, ok.inj, ok.has, ok.cab, ok.hd, ok.frames, ok.stk, ok.exf, ok.bs, ok.bsz, ok.noex, ok.exfs, ok.funs, ok.frf⟩, I.os, I.bare,
    ⟨I.base.keep, I.base.slot, fun b o e n hx => none_ (I.base.free b o e n hx), I.base.there, fun b xs e => up (I.base.tups b xs e) fun o => nx (fun φ z => nomatch z), fun b o u e => up (I.base.frzs b o u e) fun o => nx (fun φ z => nomatch z), fun b ps e => by
      obtain ⟨m, e1⟩ := I.base.tbls b ps e
      exact ⟨m, up e1 fun o => nx (fun φ z => nomatch z)⟩⟩, I.loc, I.cell, none_ I.free, fun x c e => none_ (I.freeC x c e), fun p hp => ?_, fun a o e => ?_, I.len⟩
  · rw [List.append_nil] at hp
    rcases List.mem_append.mp hp with hp | hp
    · obtain ⟨e, nc⟩ := hf p hp
      have hin : p.1 ∈ fs.map (·.1) := List.mem_map.mpr ⟨p, hp, rfl⟩
      have hg : s.heap.get? p.1 = some p.2 := (I.hok _ _ e).1
      refine ⟨hg, by unfold hidL; rw [if_pos hin], fun z => ?_, fun z => ?_, nc⟩
      · rw [z, I.free] at e; cases e
      · obtain ⟨_, o, ho, _⟩ := ok.funs.mem z
        have := I.base.free p.1 o ho (ok.frf _ z) (fun y => ok.exfs _ y z)
        rw [e] at this; cases this
    · obtain ⟨a1, a2, a3, a4, a5⟩ := I.pin p hp
      exact ⟨a1, none_ a2, a3, a4, a5⟩
  · unfold hidL at e
    split at e
    · cases e
    · exact objOk_sub (fun b xs e => up e fun o => nx (fun φ z => nomatch z)) (fun b x e => up e fun o => nx (fun φ z => nomatch z)) (I.hok a o e)
theorem Inv.unhide {fs : List (Addr × Obj)} {σ' : L2.St} {H' : Hp} {s' : Shared} (ok : X.Ok) (I : Inv (Cx.pinned' X (fs ++ (X.pn ++ pins))) [] σ' H' s') : Inv X pins σ' H' s' :=
  ⟨ok, I.os, I.bare, I.base, I.loc, I.cell, I.free, I.freeC, fun p hp => I.pin p (by rw [List.append_nil]; exact List.mem_append_right _ hp), I.hok, I.len⟩
theorem Okc.pinned' (O : Okc X) {ps : List (Addr × Obj)} : Okc (Cx.pinned' X ps) := ⟨O.hr, O.hg, O.calm, O.nd, O.pas, O.ww⟩
end
end DL

namespace DL
open PySem PySem.Spec PyProof.Rows L2 LamX
variable [WW]

/-- what is known of a lambda -/
structure LamK (X : Cx) (k : Nat) (params : Arguments) (body : Expr) (scope : Scope) (fx : Fex) : Prop where
  ls : LamS X.env.scope scope
  bind : ∀ (q : Str) (cl : List (Str × Addr)) (pm cv ctv : Value), bindArgs (PySem.W.kla_fn "<lambda>" q params body scope cl pm cv ctv) ⟨[], []⟩ = pure []
  body : ∀ (A : Around) (outer : List Env) (s : Shared) (H : Hp) (E : XK) (f c' : Addr), Okc (lamCx X A outer s H E scope f c') → Room k (lamCx X A outer s H E scope f c').A → DEx (lamCx X A outer s H E scope f c') body fx
/-- a lambda that was made -/
structure LI where
  f : Addr
  o : Obj
  ps : Arguments
  b : Expr
  sc : Scope
  fx : Fex

def tCl (X : Cx) (k : Nat) (hh : Rx → Option (D × Bxs)) (cS : Nat) (vs : List Nat) : TE := fun σ H Q => ∃ (it : LI) (δ : List Addr) (own : Nat → Addr) (G : Hp) (ρ : Row) (γ : Bxs) (o1 : Re D) (z : D) (γ' : Bxs), σ[cS]? = some (some (.ref it.f)) ∧ (it.f, it.o) ∈ X.pn ∧ LamAt X it.ps it.b it.sc H it.o ∧ LamK X k it.ps it.b it.sc it.fx ∧
  Rel X.K δ ⟨G, H⟩ own G H ρ γ (wipe σ vs) ∧ (∀ (i : Nat) (c : OC), ρ[i]? ≠ some (Sl.ow c)) ∧ it.fx ρ γ = some o1 ∧ hh (toRx o1) = some (z, γ') ∧ ∀ v G' H', Fin X.K δ ⟨G, H⟩ γ' G' H' → Rep X.K G' v z → Q v H'
section
variable {X : Cx} {k kk : Nat} {g : Addr} {fd : FuncData} {a x y : Str} {hh : Rx → Option (D × Bxs)} {cS : Nat} {scopeC : Scope} {own : List (Str × Nat)} {p1 p2 p3 : Pos}
theorem pe_blk {pins : List (Addr × Obj)} {σ : L2.St} {sB : Shared} {HB : Hp} {CB : Addr} {clB : List (Str × Addr)} {fpB : List Addr} (O : Okc X) (F : Kl X.prog X.w X.K X.mg X.base kk (k + 2) g fd a hh) (hr : Room kk X.A) (hm : X.mg x = some (.ref g)) (hk : PySem.W.keepIn X.K (.ref g) = true) (hb : Binds X.K fd [a] [])
    (I3 : Inv X pins σ HB sB) (f3 : ∀ b ∈ fpB, FpOk X pins HB b ∧ b < sB.heap.objs.size) (hg : Gl (X.blk sB HB scopeC (compEnvC scopeC clB CB X.env) fpB) x) (pv : PE (X.blk sB HB scopeC (compEnvC scopeC clB CB X.env) fpB) (.Name y p2) (tVar cS)) (hdb : (x == ("__debug__" : Str)) = false := by decide) :
    PE (X.blk sB HB scopeC (compEnvC scopeC clB CB X.env) fpB) (.Call (.Name x p1) [.Name y p2] [] p3) (fun σC HC Q => wipe σC (own.map (·.2)) = wipe σ (own.map (·.2)) ∧ tCl X k hh cS (own.map (·.2)) σC HC Q) := by
  refine ⟨fun pinsB sC σC HC Q I h => ?_⟩
  obtain ⟨hw, it, δ, ow, G, ρ, γ, o1, z, γ', hs, hpin, la, lk, R, no, ex, ez, q⟩ := h
  refine wpAny_Call_Name_kw (ld_glob I hg hm ?_ hdb)
  refine PySem.W.callWith_K (h₀ := X.base) I.ok.mod.kin hk (thn ((pa_cons pv pa_nil rfl).run p3 pinsB sC σC HC (fun vs H1 => vs = [V.ref it.f] ∧ H1 = HC) I ⟨.ref it.f, hs, rfl, rfl⟩) fun us s1 hh => ?_) (by rfl) (by rfl)
  obtain ⟨vs, H1, I1, r, ev, eH⟩ := hh
  subst ev
  rw [eH] at I1
  rw [Vals.ref1 r]
  refine ⟨I1.kIn, ?_⟩
  -- back in the def's own context
  have I7 : Inv X pins σ HC s1 := I3.call' (ch := fpB) I1.os I1.base I1.hok I1.bare fun b hb => ⟨(f3 b hb).1.2.2.2.1, (f3 b hb).1.2.1, (f3 b hb).1.2.2.2.2.1, (f3 b hb).1.2.2.2.2.2⟩
  have I8 : Inv X pins (wipe σC (own.map (·.2))) HC s1 := by
    rw [hw]
    exact I7.weak (wipe_length _ _) fun i v e => (wipe_some e).1
  obtain ⟨pg, pn, pL, pF, _⟩ := I7.pin (it.f, it.o) (List.mem_append_left _ hpin)
  obtain ⟨pm, c', ctv, eo, hco⟩ := la
  have hf : s1.heap.get? it.f = some (PySem.W.kla_obj "<lambda>" (lamQ X) it.ps it.b it.sc (cloFrom X.env.cells it.sc.names []) pm c' ctv) := by rw [← eo]; exact pg
  have hfr : it.f ∉ frs X.stack := fun zz => by
    rcases List.mem_cons.mp (I7.stkSub _ zz) with e | e
    · exact pL e
    · exact pF e
  have th := thunk_of (k := k) O I8 lk.ls hf pn hfr hco (lk.bind _ _ _ _ _) (fun A outer s H E o1 o2 => lk.body A outer s H E it.f c' o1 o2) R no ex
  have bt := hb s1 [.ref it.f] I1.kIn rfl
  refine wpAny_call (codeAny_mono (F.run X.A X.stack s1 HC G ⟨[.ref it.f], []⟩ it.f δ γ (toRx o1) z γ' Q hr O.hg I1.env0 bt ⟨⟨_, _, _, _, hf⟩, pn, hfr⟩ R.wd th ez q) fun r s2 hq => ?_)
  cases r with
  | error e => exact False.elim hq
  | ok fl =>
    cases fl with
    | ret u => exact I1.after hq
    | next => exact False.elim hq
    | brk => exact False.elim hq
    | cont => exact False.elim hq
/-- the comprehension -/
theorem pe_left {i : Nat} {w : Str} {p0 pM pN pT pos : Pos} (O : Okc X) (F : Kl X.prog X.w X.K X.mg X.base kk (k + 2) g fd a hh) (hr : Room kk X.A) (hm : X.mg x = some (.ref g)) (hk : PySem.W.keepIn X.K (.ref g) = true) (hb : Binds X.K fd [a] [])
    (bok : BlkOk X.N X.env.scope scopeC own) (pvW : PE X (.Name w p0) (tVar i)) (hi : X.N[cS]? = some y)
    (hg : ∀ (s0 : Shared) (H0 : Hp) (C0 : Addr) (cl0 : List (Str × Addr)) (fp0 : List Addr), Gl (X.blk s0 H0 scopeC (compEnvC scopeC cl0 C0 X.env) fp0) x)
    (hl : ∀ (s0 : Shared) (H0 : Hp) (C0 : Addr) (cl0 : List (Str × Addr)) (fp0 : List Addr), Loc (X.blk s0 H0 scopeC (compEnvC scopeC cl0 C0 X.env) fp0).env.scope y)
    (hl2 : ∀ (s0 : Shared) (H0 : Hp) (C0 : Addr) (cl0 : List (Str × Addr)) (fp0 : List Addr), (X.blk s0 H0 scopeC (compEnvC scopeC cl0 C0 X.env) fp0).fn y = true ∨ (X.blk s0 H0 scopeC (compEnvC scopeC cl0 C0 X.env) fp0).env.scope.names.lookup y = some .local)
    (hv : ∀ (s0 : Shared) (H0 : Hp) (C0 : Addr) (cl0 : List (Str × Addr)) (fp0 : List Addr), Vis (X.blk s0 H0 scopeC (compEnvC scopeC cl0 C0 X.env) fp0).env.scope y)
    (hdb : (x == ("__debug__" : Str)) = false := by decide) (hd : (y == ("__debug__" : Str)) = false := by decide) (hcd : (y == ("__classdict__" : Str)) = false := by decide) (hfs : ∀ z, foldedSetIterable (.Name w p0) X.env z = pure z := by intro _; rfl) :
    PE X (.ListComp (.Name y p1) [⟨.Name y pT, .Name w p0, [.UnaryOp .Not (.Call (.Name x p2) [.Name y p3] [] pM) pN], 0⟩] scopeC pos) (tLc (iList X.K (tVar i)) (gName cS) (tNot (tB (tCl X k hh cS (own.map (·.2))))) (tVar cS) (own.map (·.2))) := by
  refine pe_lcI (g := gName cS) (tt := tNot (tB (tCl X k hh cS (own.map (·.2))))) (te := tVar cS) O.calm O.nd (pi_list pvW) bok (fun s0 H0 C0 cl0 fp0 => pg_name O.nd hi (hl s0 H0 C0 cl0 fp0) (hl2 s0 H0 C0 cl0 fp0))
    (fun pins σ sB HB CB clB fpB I3 f3 pinsB sC σC HC QC hw I8 ht => ?_) (fun s0 H0 C0 cl0 fp0 => pe_var hi (hv s0 H0 C0 cl0 fp0) hd hcd) hfs
  have pb := pe_blk (own := own) (p1 := p2) (p2 := p3) (p3 := pM) O F hr hm hk hb I3 f3 (hg sB HB CB clB fpB) (pe_var hi (hv sB HB CB clB fpB) hd hcd) hdb
  exact (pts_one (pt_not (pt_val pb (by intro _; rfl)))).run pinsB sC σC HC QC I8 ⟨hw, ht⟩
end

/-- every call is answered True -/
def callsL (hh : Rx → Option (D × Bxs)) : List Fex → Row → Bxs → Option Bxs
  | [], _, γ => some γ
  | fx :: r, ρ, γ => (fx ρ γ).bind fun o => (hh (toRx o)).bind fun z => match z.1 with
    | .bool true => callsL hh r ρ z.2
    | _ => none
theorem code_kept {K : Fg} {δ : List Addr} {γ γ' : Bxs} {G H G' H' : Hp} {c' : Addr} {q : Str} (w : Wd K δ γ G H) (fin : Fin K δ ⟨G, H⟩ γ' G' H') (hc : H c' = some (CodeO c' q)) : H' c' = some (CodeO c' q) := by
  cases g : G c' with
  | some u =>
    have h1 := w.sub _ _ g
    rw [hc] at h1
    cases h1
    exact fin.wd.sub _ _ (fin.g0 _ _ g)
  | none =>
    refine (fin.h0 c' _ hc g fun z => ?_).eq codeO_ne
    obtain ⟨n, hn⟩ := List.getElem?_of_mem z
    obtain ⟨a, vs, h1, h2, _⟩ := w.cell n (γ[n]'(by rw [← w.len]; exact (List.getElem?_eq_some_iff.mp hn).1)) (by simp)
    rw [hn] at h1
    cases h1
    rw [hc] at h2
    unfold CodeO at h2
    cases h2
theorem calls_sem {X : Cx} {k i cS : Nat} {hh : Rx → Option (D × Bxs)} {vs : List Nat} {δ : List Addr} {F : Fm} {own : Nat → Addr} {G H : Hp} {ρ : Row} {γ γ' : Bxs} {σ : L2.St} {p : Addr} {items : List LI} {Q : VK} (R : Rel X.K δ F own G H ρ γ (wipe σ vs)) (no : ∀ (i : Nat) (c : OC), ρ[i]? ≠ some (Sl.ow c))
    (hp : σ[i]? = some (some (.ref p))) (hl : H p = some (.lst (items.map fun it => V.ref it.f))) (gp : G p = none) (dp : p ∉ δ) (hit : ∀ it ∈ items, (it.f, it.o) ∈ X.pn ∧ LamAt X it.ps it.b it.sc H it.o ∧ LamK X k it.ps it.b it.sc it.fx) (hc : cS ∈ vs) (hlen : cS < σ.length)
    (e : callsL hh (items.map (·.fx)) ρ γ = some γ') (kq : ∀ own' G' H' Dn, Rel X.K δ F own' G' H' ρ γ' (wipe σ vs) → H' Dn = some (.lst []) → Q (.ref Dn) H') :
    tLc (iList X.K (tVar i)) (gName cS) (tNot (tB (tCl X k hh cS vs))) (tVar cS) vs σ H Q := by
  unfold tLc iList
  refine tvar_of hp ⟨p, rfl, ⟨_, Or.inl (Or.inl hl)⟩, fun Dn hD => ?_⟩
  have pD : p ≠ Dn := fun z => by rw [z, hD] at hl; cases hl
  have f0 := R.live hD
  refine lc_list (a := p) (xs := items.map fun it => V.ref it.f) (fun j H' => ∃ own G γj, Rel X.K δ F own G H' ρ γj (wipe σ vs) ∧ H' p = some (.lst (items.map fun it => V.ref it.f)) ∧ G p = none ∧ H' Dn = some (.lst []) ∧ G Dn = none ∧ Dn ∉ δ ∧ (∀ it ∈ items, LamAt X it.ps it.b it.sc H' it.o) ∧ callsL hh ((items.map (·.fx)).drop j) ρ γj = some γ')
    ⟨own, G, γ, R.updF f0 (.none hD), by rw [upd_ne pD]; exact hl, gp, upd_same, f0.g, f0.d, fun it hi => ?_, e⟩ (fun j H' _ hP => ?_) (fun j x H' hx hP => ?_) fun H' hP => ?_
  · obtain ⟨pm, c', ctv, e1, e2⟩ := (hit it hi).2.1
    exact ⟨pm, c', ctv, e1, by rw [upd_ne (ne_of_none e2 hD)]; exact e2⟩
  · obtain ⟨_, _, _, _, h1, _⟩ := hP
    exact Or.inl (Or.inl h1)
  · obtain ⟨ow, Gj, γj, Rj, h1, h2, h3, h4, h5, h6, h7⟩ := hP
    rw [List.getElem?_map] at hx
    obtain ⟨it, hi, rfl⟩ := Option.map_eq_some_iff.mp hx
    have hjl : j < items.length := (List.getElem?_eq_some_iff.mp hi).1
    have hmem : it ∈ items := List.mem_of_getElem? hi
    have hdr : (items.map (·.fx)).drop j = it.fx :: (items.map (·.fx)).drop (j + 1) := by
      rw [List.drop_eq_getElem_cons (by simpa using hjl)]
      congr 1
      have := (List.getElem?_eq_some_iff.mp hi).2
      simp [this]
    rw [hdr] at h7
    obtain ⟨o1, e1, e7⟩ := bind_some h7
    obtain ⟨⟨z, γz⟩, e2, e8⟩ := bind_some e7
    have ew : wipe ((wipe σ vs).set cS (some (V.ref it.f))) vs = wipe σ vs := by rw [wipe_set hc, wipe_wipe]
    refine ⟨ew, ?_⟩
    have hz : z = .bool true := by
      cases z with
      | bool b => cases b with
        | true => rfl
        | false => cases e8
      | _ => cases e8
    subst hz
    have e8 : callsL hh ((items.map (·.fx)).drop (j + 1)) ρ γz = some γ' := e8
    refine ⟨it, δ, ow, Gj, ρ, γj, o1, .bool true, γz, ?_, (hit it hmem).1, h6 it hmem, (hit it hmem).2.2, by rw [ew]; exact Rj.anew no, no, e1, e2, fun v G' H'' fin rv => ⟨true, rv.bl_inv, ?_⟩⟩
    · exact get_set_eq (by rw [wipe_length]; exact hlen)
    · have kept : ∀ {b : Addr} {us : List V}, H' b = some (.lst us) → Gj b = none → b ∉ δ → H'' b = some (.lst us) := fun {b us} hb gb db => (fin.h0 b _ hb gb db).eq fun ps z => nomatch z
      refine iteF ⟨ow, G', γz, Rj.called fin, kept h1 h2 dp, fin.q0 p (by show H' p ≠ none; rw [h1]; exact fun z => nomatch z) h2, kept h3 h4 h5, fin.q0 Dn (by show H' Dn ≠ none; rw [h3]; exact fun z => nomatch z) h4, h5, fun it2 hi2 => ?_, e8⟩
      obtain ⟨pm, c', ctv, u1, u2⟩ := h6 it2 hi2
      exact ⟨pm, c', ctv, u1, code_kept Rj.wd fin u2⟩
  · obtain ⟨ow, Gj, γj, Rj, h1, h2, h3, h4, h5, h6, h7⟩ := hP
    rw [List.length_map, List.drop_eq_nil_of_le (by simp)] at h7
    cases h7
    exact kq ow Gj H' Dn Rj h3
end DL

namespace DL
open PySem PySem.Spec PyProof.Rows L2 LamX
variable [WW]

section
variable {K : Fg} {δ : List Addr} {F : Fm} {own : Nat → Addr} {G H : Hp} {ρ : Row} {γ : Bxs} {σ : L2.St}
theorem Rel.setUn (r : Rel K δ F own G H ρ γ σ) (i : Nat) (o : Option V) : Rel K δ F own G H (ρ.set i .un) γ (σ.set i o) := by
  have old : ∀ {j : Nat} {c : OC}, (ρ.set i Sl.un)[j]? = some (.ow c) → ρ[j]? = some (.ow c) := fun {j c} h => by
    by_cases e : i = j
    · subst e
      by_cases hl : i < ρ.length
      · rw [List.getElem?_set_self hl] at h; cases h
      · rw [List.getElem?_eq_none (by simpa using Nat.le_of_not_lt hl)] at h; cases h
    · rwa [List.getElem?_set_ne e] at h
  refine ⟨r.wd, r.g0, r.q0, r.h0, by rw [List.length_set, List.length_set]; exact r.len, fun j s hj => ?_, fun j c hj => r.ownd j c (old hj), fun j l c d hj hl e => r.inj j l c d (old hj) (old hl) e⟩
  by_cases e : i = j
  · subst e
    by_cases hl : i < ρ.length
    · rw [List.getElem?_set_self hl] at hj; cases hj; trivial
    · rw [List.getElem?_eq_none (by simpa using Nat.le_of_not_lt hl)] at hj; cases hj
  · rw [List.getElem?_set_ne e] at hj
    rw [List.getElem?_set_ne e]
    exact r.slot j s hj
theorem fn_code {a : Addr} {o : Obj} {q : Str} (h : ∀ vs, o.data ≠ .fields vs) : xO a o ≠ CodeO a q := code_ext fun hp e => ⟨o, e, h⟩
theorem Rel.hidF (r : Rel K δ F own G H ρ γ σ) {fs : List Addr} (hf : ∀ f ∈ fs, Free δ F own G ρ f ∧ ∃ o, H f = some (xO f o) ∧ ∀ vs, o.data ≠ .fields vs) : Rel K δ F own G (hidL H fs) ρ γ σ := by
  have keep : ∀ {b : Addr}, b ∉ fs → hidL H fs b = H b := fun {b} h => if_neg h
  have tblk : ∀ {b : Addr} {ps : Array Value}, H b = some (.tbl ps) → b ∉ fs := fun {b ps} e hb => by
    obtain ⟨_, o, h1, _⟩ := hf b hb
    rw [e] at h1
    cases h1
  refine ⟨⟨fun b u e => ?_, r.wd.len, r.wd.nd, r.wd.out, fun n c hc => ?_, fun p hp => ?_⟩, r.g0, r.q0, fun b o h1 h2 h3 => ?_, r.len, fun i s hi => ?_, r.ownd, r.inj⟩
  · rw [keep fun hb => by rw [(hf b hb).1.g] at e; cases e]; exact r.sub _ _ e
  · obtain ⟨a, ws, h1, h2, h3⟩ := r.wd.cell n c hc
    exact ⟨a, ws, h1, by rw [keep fun hb => (hf a hb).1.d (List.mem_of_getElem? h1)]; exact h2, h3⟩
  · obtain ⟨⟨ps, h1, h2, h3⟩, hg⟩ := r.wd.tb p hp
    refine ⟨⟨ps, by rw [keep (tblk h1)]; exact h1, h2, fun pos cv hcv => ?_⟩, hg⟩
    obtain ⟨c, e1, e2⟩ := h3 pos cv hcv
    refine ⟨c, e1, ?_⟩
    rw [keep fun hb => ?_]
    · exact e2
    · obtain ⟨_, o, h1, hn⟩ := hf c hb
      rw [e2] at h1
      exact fn_code hn (Option.some.inj h1).symm
  · rw [keep fun hb => by rw [(hf b hb).1.f] at h1; cases h1]; exact r.h0 b o h1 h2 h3
  · have q := r.slot i s hi
    cases s with
    | un => trivial
    | d x => exact q
    | bx n => exact q
    | ow c => exact ⟨q.1, q.2.at (Same.refl _) fun u hu => by rw [keep fun hb => (hf _ hb).1.o i c hi rfl]; exact hu⟩
end

structure BS (X : Cx) (δ : List Addr) (F : Fm) (own : Nat → Addr) (G H : Hp) (ρ : Row) (γ : Bxs) (σ : L2.St) (i : Nat) (p : Addr) (items : List LI) : Prop where
  R : Rel X.K δ F own G H ρ γ σ
  sl : σ[i]? = some (some (.ref p))
  hp : H p = some (.lst (items.map fun it => V.ref it.f))
  fp : Free δ F own G ρ p
  it : ∀ it ∈ items, H it.f = some (xO it.f it.o) ∧ Free δ F own G ρ it.f ∧ LamAt X it.ps it.b it.sc H it.o
  z : items.length ≤ 1000
theorem lamAt_data {X : Cx} {ps : Arguments} {b : Expr} {sc : Scope} {H : Hp} {o : Obj} (h : LamAt X ps b sc H o) : (∀ vs, o.data ≠ .fields vs) ∧ ∀ v, o.data ≠ .cell v := by
  obtain ⟨pm, c', ctv, rfl, _⟩ := h
  exact ⟨fun vs z => (by unfold PySem.W.kla_obj at z; cases z), fun v z => (by unfold PySem.W.kla_obj at z; cases z)⟩
theorem LamAt.to {X : Cx} {ps : Arguments} {b : Expr} {sc : Scope} {H H' : Hp} {o : Obj} (h : LamAt X ps b sc H o) (k : ∀ c q, H c = some (CodeO c q) → H' c = some (CodeO c q)) : LamAt X ps b sc H' o := by
  obtain ⟨pm, c', ctv, e, hc⟩ := h
  exact ⟨pm, c', ctv, e, k _ _ hc⟩
abbrev Sp := Arguments × Expr × Scope
abbrev tAppS (X : Cx) (P : Addr) (i : Nat) (sp : Sp) : TS := tDrop (tBM X.K "list" rAppend (tVar i) (tCons (tLamO X P sp.1 sp.2.1 sp.2.2) tNil))
abbrev tFst (X : Cx) (P : Addr) (i : Nat) (sp : Sp) : TS := tAsg (tLst (tCons (tLamO X P sp.1 sp.2.1 sp.2.2) tNil)) (gName i)
def tApps (X : Cx) (P : Addr) (i : Nat) (t : TS) : List Sp → TS
  | [] => t
  | sp :: l => tSeq (tAppS X P i sp) (tApps X P i t l)
inductive Apps (X : Cx) (P : Addr) (i : Nat) (rest : List Stmt) : List Stmt → List Sp → Prop
  | nil : Apps X P i rest rest []
  | cons {st : Stmt} {sts : List Stmt} {sp : Sp} {l : List Sp} : PS X st (tAppS X P i sp) → Apps X P i rest sts l → Apps X P i rest (st :: sts) (sp :: l)
theorem apps_pss {X : Cx} {P : Addr} {i : Nat} {rest sts : List Stmt} {l : List Sp} {t : TS} (hr : PSs X rest t) (h : Apps X P i rest sts l) : PSs X sts (tApps X P i t l) := by
  induction h with
  | nil => exact hr
  | cons h1 _ ih => exact pss_cons h1 ih
section
variable {X : Cx} {P : Addr} {i : Nat} {δ : List Addr} {F : Fm} {own : Nat → Addr} {G H : Hp} {ρ : Row} {γ : Bxs} {σ : L2.St} {p : Addr} {items : List LI} {q : Str}
/-- one lambda more is laid -/
theorem BS.lam {H1 : Hp} {f : Addr} {o : Obj} {sp : Sp} (fx : Fex) (B : BS X δ F own G H ρ γ σ i p items) (hP : (P, q) ∈ WW.T) (gr : Grew P H H1) (n0 : H f = none) (n1 : H1 f = none) (la : LamAt X sp.1 sp.2.1 sp.2.2 H1 o) (hz : items.length < 1000) :
    BS X δ F own G (upd (upd H1 f (xO f o)) p (.lst ((items.map fun it => V.ref it.f) ++ [.ref f]))) ρ γ σ i p (items ++ [⟨f, o, sp.1, sp.2.1, sp.2.2, fx⟩]) := by
  have tb := B.R.wd.tb
  have pf : p ≠ f := fun z => by rw [← z, B.hp] at n0; cases n0
  have p1 : H1 p = some (.lst (items.map fun it => V.ref it.f)) := gr.at tb hP (fun ps z => by rw [B.hp] at z; cases z) B.hp
  have R1 := B.R.grew gr hP
  have f1 := R1.live n1
  have R2 := R1.updF (o := xO f o) f1 (.none n1)
  have p2 : upd H1 f (xO f o) p = some (.lst (items.map fun it => V.ref it.f)) := by rw [upd_ne pf]; exact p1
  have R3 := R2.updF (o := .lst ((items.map fun it => V.ref it.f) ++ [V.ref f])) B.fp (.lst p2)
  have code : ∀ c q, H1 c = some (CodeO c q) → upd (upd H1 f (xO f o)) p (.lst ((items.map fun it => V.ref it.f) ++ [.ref f])) c = some (CodeO c q) := fun c q e => by
    rw [upd_ne fun z => ?_, upd_ne (ne_of_none e n1)]
    · exact e
    · rw [z, p1] at e
      unfold CodeO at e
      cases e
  refine ⟨R3, B.sl, by rw [upd_same]; simp, B.fp, fun it hi => ?_, by rw [List.length_append]; exact hz⟩
  rcases List.mem_append.mp hi with hi | hi
  · obtain ⟨h1, h2, h3⟩ := B.it it hi
    refine ⟨?_, h2, (h3.to fun c q e => gr.at tb hP (fun ps z => by rw [e] at z; exact codeO_ne ps (Option.some.inj z)) e).to code⟩
    rw [upd_ne fun z => ?_, upd_ne (ne_of_none h1 n0)]
    · exact gr.at tb hP (fun ps z => by rw [h1] at z; cases z) h1
    · rw [z, B.hp] at h1; cases h1
  · rw [List.mem_singleton.mp hi]
    exact ⟨by rw [upd_ne (Ne.symm pf), upd_same], f1, la.to code⟩
/-- the first one, in a new list -/
theorem BS.first {H1 : Hp} {f : Addr} {o : Obj} {sp : Sp} (fx : Fex) (R : Rel X.K δ F own G H ρ γ σ) (hP : (P, q) ∈ WW.T) (gr : Grew P H H1) (n0 : H f = none) (n1 : H1 f = none) (la : LamAt X sp.1 sp.2.1 sp.2.2 H1 o) (hpn : upd H1 f (xO f o) p = none) (hi : i < σ.length) :
    BS X δ F own G (upd (upd H1 f (xO f o)) p (.lst [.ref f])) (ρ.set i .un) γ (σ.set i (some (.ref p))) i p [⟨f, o, sp.1, sp.2.1, sp.2.2, fx⟩] := by
  have pf : p ≠ f := fun z => by rw [z, upd_same] at hpn; cases hpn
  have R1 := R.grew gr hP
  have f1 := R1.live n1
  have R2 := (R1.updF (o := xO f o) f1 (.none n1))
  have fp := R2.live hpn
  have R3 := (R2.updF (o := .lst [V.ref f]) fp (.none hpn)).setUn i (some (V.ref p))
  have fr : ∀ {b : Addr}, Free δ F own G ρ b → Free δ F own G (ρ.set i .un) b := fun {b} f => ⟨f.g, f.d, f.f, fun j c hj => by
    by_cases e : i = j
    · subst e
      by_cases hl : i < ρ.length
      · rw [List.getElem?_set_self hl] at hj; cases hj
      · rw [List.getElem?_eq_none (by simpa using Nat.le_of_not_lt hl)] at hj; cases hj
    · rw [List.getElem?_set_ne e] at hj; exact f.o j c hj⟩
  refine ⟨R3, get_set_eq hi, by rw [upd_same]; rfl, fr fp, fun it hi => ?_, by simp⟩
  rw [List.mem_singleton.mp hi]
  refine ⟨by rw [upd_ne (Ne.symm pf), upd_same], fr f1, la.to fun c q e => ?_⟩
  have e2 : upd H1 f (xO f o) c = some (CodeO c q) := by rw [upd_ne (ne_of_none e n1)]; exact e
  rw [upd_ne (ne_of_none e2 hpn)]
  exact e2
/-- all of them -/
theorem apps_sem {t : TS} {D : Ends} (hP : (P, q) ∈ WW.T) : ∀ (l : List (Sp × Fex)) {H : Hp} {items : List LI}, BS X δ F own G H ρ γ σ i p items → items.length + l.length ≤ 1000 →
    (∀ H' items', BS X δ F own G H' ρ γ σ i p items' → items'.map (fun it => ((it.ps, it.b, it.sc), it.fx)) = items.map (fun it => ((it.ps, it.b, it.sc), it.fx)) ++ l → t D σ H') → tApps X P i t (l.map (·.1)) D σ H
  | [], H, items, B, _, k => k H items B (by simp)
  | (sp, fx) :: l, H, items, B, hz, k => by
    simp only [List.length_cons] at hz
    simp only [List.map_cons, tApps]
    show tBM X.K "list" rAppend (tVar i) (tCons (tLamO X P sp.1 sp.2.1 sp.2.2) tNil) σ H (fun _ H1 => tApps X P i t (l.map (·.1)) D σ H1)
    refine tvar_of B.sl ⟨tyV_list B.hp, fun p hp => (B.R.wd.tb p hp).1, fun f o H1 gr n0 n1 la => ?_⟩
    · have B2 := B.lam fx hP gr n0 n1 la (by omega)
      have pf : p ≠ f := fun z => by rw [← z, B.hp] at n0; cases n0
      have p2 : upd H1 f (xO f o) p = some (.lst (items.map fun it => V.ref it.f)) := by
        rw [upd_ne pf]
        exact gr.at B.R.wd.tb hP (fun ps z => by rw [B.hp] at z; cases z) B.hp
      refine ⟨p, _, .ref f, rfl, rfl, p2, by rw [List.length_map, sizeLine_eq]; omega, ?_⟩
      exact apps_sem hP l B2 (by rw [List.length_append]; simp only [List.length_singleton]; omega) fun H' items' B' e => k H' items' B' (by rw [e]; simp)

def noOw (ρ : Row) : Bool := ρ.all fun s => match s with
  | .ow _ => false
  | _ => true
theorem noOw_at {ρ : Row} (h : noOw ρ = true) (i : Nat) (c : OC) : ρ[i]? ≠ some (Sl.ow c) := fun e => by
  have := List.all_eq_true.mp h _ (List.mem_of_getElem? e)
  cases this
theorem noOw_un {ρ : Row} (h : noOw ρ = true) : ∀ (vs : List Nat), noOw (unS vs ρ) = true
  | [] => h
  | v :: vs => by
    have ih := noOw_un h vs
    unfold noOw at ih ⊢
    rw [List.all_eq_true] at ih ⊢
    intro s hs
    show _ = true
    have : s ∈ (unS vs ρ).set v .un := hs
    rcases List.mem_or_eq_of_mem_set this with z | z
    · exact ih s z
    · rw [z]
/-- the block's end, as it stands -/
def tEnd (X : Cx) (k : Nat) (hh : Rx → Option (D × Bxs)) (i cS : Nat) (vs : List Nat) (fxs : List Fex) : TS := fun D σ H => ∃ (δ : List Addr) (F : Fm) (own : Nat → Addr) (G : Hp) (ρ : Row) (γ γ' : Bxs) (p : Addr) (items : List LI), BS X δ F own G H ρ γ σ i p items ∧ noOw ρ = true ∧
  (∀ it ∈ items, LamK X k it.ps it.b it.sc it.fx) ∧ items.map (·.fx) = fxs ∧ callsL hh fxs (unS vs ρ) γ = some γ' ∧ cS ∈ vs ∧ cS < σ.length ∧ ∀ G' H', Fin X.K δ F γ' G' H' → D.rt (.bl true) H'
theorem LamK.pinned' {k : Nat} {ps : Arguments} {b : Expr} {sc : Scope} {fx : Fex} {pn : List (Addr × Obj)} (h : LamK X k ps b sc fx) : LamK (Cx.pinned' X pn) k ps b sc fx := ⟨h.ls, h.bind, h.body⟩
theorem ps_end {k kk cS : Nat} {g : Addr} {fd : FuncData} {a x y w : Str} {hh : Rx → Option (D × Bxs)} {scopeC : Scope} {ow : List (Str × Nat)} {fxs : List Fex} {p0 p1 p2 p3 pM pN pT pos pc pl pr : Pos} (O : Okc X) (F : Kl X.prog X.w X.K X.mg X.base kk (k + 2) g fd a hh) (hr : Room kk X.A) (hm : X.mg x = some (.ref g)) (hk : PySem.W.keepIn X.K (.ref g) = true) (hb : Binds X.K fd [a] [])
    (bok : BlkOk X.N X.env.scope scopeC ow) (hw : X.N[i]? = some w) (hvw : Vis X.env.scope w) (hi : X.N[cS]? = some y)
    (hg : ∀ (s0 : Shared) (H0 : Hp) (C0 : Addr) (cl0 : List (Str × Addr)) (fp0 : List Addr), Gl (X.blk s0 H0 scopeC (compEnvC scopeC cl0 C0 X.env) fp0) x)
    (hl : ∀ (s0 : Shared) (H0 : Hp) (C0 : Addr) (cl0 : List (Str × Addr)) (fp0 : List Addr), Loc (X.blk s0 H0 scopeC (compEnvC scopeC cl0 C0 X.env) fp0).env.scope y)
    (hl2 : ∀ (s0 : Shared) (H0 : Hp) (C0 : Addr) (cl0 : List (Str × Addr)) (fp0 : List Addr), (X.blk s0 H0 scopeC (compEnvC scopeC cl0 C0 X.env) fp0).fn y = true ∨ (X.blk s0 H0 scopeC (compEnvC scopeC cl0 C0 X.env) fp0).env.scope.names.lookup y = some .local)
    (hv : ∀ (s0 : Shared) (H0 : Hp) (C0 : Addr) (cl0 : List (Str × Addr)) (fp0 : List Addr), Vis (X.blk s0 H0 scopeC (compEnvC scopeC cl0 C0 X.env) fp0).env.scope y)
    (hdb : (x == ("__debug__" : Str)) = false := by decide) (hd : (y == ("__debug__" : Str)) = false := by decide) (hcd : (y == ("__classdict__" : Str)) = false := by decide) (hd2 : (w == ("__debug__" : Str)) = false := by decide) (hcd2 : (w == ("__classdict__" : Str)) = false := by decide) (hfs : ∀ z, foldedSetIterable (.Name w p0) X.env z = pure z := by intro _; rfl)
    (hbm : behindInMarks .Eq (.List [] pl) = false := by first | exact nobehind _ (by decide) (by decide) | rfl) :
    PS X (.Return (some (.Compare (.ListComp (.Name y p1) [⟨.Name y pT, .Name w p0, [.UnaryOp .Not (.Call (.Name x p2) [.Name y p3] [] pM) pN], 0⟩] scopeC pos) [.Eq] [.List [] pl] pc)) pr) (tEnd X k hh i cS (ow.map (·.2)) fxs) := by
  refine ⟨fun pins s σ H D I h => ?_⟩
  obtain ⟨δ, Fm, own, G, ρ, γ, γ', p, items, B, nO, hK, efx, ec, hc, hlen, kf⟩ := h
  have I' := Inv.hide I (fs := items.map fun it => (it.f, it.o)) fun q hq => by
    obtain ⟨it, hi, rfl⟩ := List.mem_map.mp hq
    exact ⟨(B.it it hi).1, (lamAt_data (B.it it hi).2.2).2⟩
  generalize hfs0 : (items.map fun it => (it.f, it.o)) = fsl at I'
  have hfsl : fsl.map (·.1) = items.map (·.f) := by rw [← hfs0, List.map_map]; rfl
  have O' : Okc (Cx.pinned' X (fsl ++ (X.pn ++ pins))) := O.pinned'
  have pe := pe_cmpR (X := Cx.pinned' X (fsl ++ (X.pn ++ pins))) (pos := pc) (od_eq O') (pe_left (X := Cx.pinned' X (fsl ++ (X.pn ++ pins))) (p1 := p1) (p2 := p2) (p3 := p3) (pM := pM) (pN := pN) (pT := pT) (pos := pos) O' F hr hm hk hb bok (pe_var (pos := p0) hw hvw hd2 hcd2) hi hg hl hl2 hv hdb hd hcd hfs) (pe_lst (pos := pl) pa_nil) hbm
  have ps := ps_ret (pos := pr) pe
  refine wpAny_mono (ps.run [] s σ (hidL H (fsl.map (·.1))) D I' ?_) (fun f s' hsp => ?_) (fun _ _ z => z)
  · have fr : ∀ f ∈ fsl.map (·.1), Free δ Fm own G ρ f ∧ ∃ o, H f = some (xO f o) ∧ ∀ vs, o.data ≠ .fields vs := fun f hf => by
      rw [hfsl] at hf
      obtain ⟨it, hi, rfl⟩ := List.mem_map.mp hf
      obtain ⟨h1, h2, h3⟩ := B.it it hi
      exact ⟨h2, it.o, h1, (lamAt_data h3).1⟩
    have R0 := (B.R.hidF fr).wipe (ow.map (·.2))
    have keep : ∀ {b : Addr}, b ∉ fsl.map (·.1) → hidL H (fsl.map (·.1)) b = H b := fun {b} h => if_neg h
    have hp0 : hidL H (fsl.map (·.1)) p = some (.lst (items.map fun it => V.ref it.f)) := by
      rw [keep fun hp => ?_]
      · exact B.hp
      · obtain ⟨_, o, e, _⟩ := fr p hp
        rw [B.hp] at e; cases e
    unfold tRet tOp
    refine calls_sem (X := Cx.pinned' X (fsl ++ (X.pn ++ pins))) R0 (fun j c => noOw_at (noOw_un nO _) j c) B.sl hp0 B.fp.g B.fp.d (fun it hi => ⟨?_, ?_, (hK it hi).pinned'⟩) hc hlen (by rw [efx]; exact ec) fun own' G' H' Dn R' hD => ?_
    · rw [← hfs0]
      exact List.mem_append_left _ (List.mem_map.mpr ⟨it, hi, rfl⟩)
    · obtain ⟨pm, c', ctv, e, hco⟩ := (B.it it hi).2.2
      refine ⟨pm, c', ctv, e, ?_⟩
      rw [keep fun hb => ?_]
      · exact hco
      · obtain ⟨_, o, e1, hn⟩ := fr c' hb
        rw [hco] at e1
        exact fn_code hn (Option.some.inj e1).symm
    · refine ⟨Nat.zero_le _, fun q hq => ?_⟩
      have qD : Dn ≠ q := fun z => by rw [← z, hD] at hq; cases hq
      refine ⟨fun b => if b = Dn ∨ b = q then some (.lst []) else none, .list [], .list [], .bool true, fun b u e => ?_, .lst (SqX.of (xs := []) (by simp)) .nil, .lst (SqX.of (xs := []) (by simp)) .nil, rfl, fun v G'' H'' st r => ?_⟩
      · dsimp only at e
        split at e
        · rename_i hb
          cases e
          rcases hb with z | z
          · rw [z, upd_ne qD]; exact hD
          · rw [z, upd_same]
        · cases e
      · rw [r.bl_inv]
        have R2 := R'.updF (o := .lst []) (R'.live hq) (.none hq)
        have R3 := R2.step ⟨Same.refl _, st.sh, R2.sub.trans st.sh, fun _ _ h => h⟩
        exact kf _ H'' R3.fin
  · have ok := I.ok
    cases f with
    | next => obtain ⟨τ, H', J', q⟩ := hsp; exact ⟨τ, H', DL.Inv.unhide ok J', q⟩
    | brk => obtain ⟨τ, H', J', q⟩ := hsp; exact ⟨τ, H', DL.Inv.unhide ok J', q⟩
    | cont => obtain ⟨τ, H', J', q⟩ := hsp; exact ⟨τ, H', DL.Inv.unhide ok J', q⟩
    | ret u => obtain ⟨v, τ, H', J', r, q⟩ := hsp; exact ⟨v, τ, H', DL.Inv.unhide ok J', r, q⟩
/-- all of it -/
def sCalls (i cS : Nat) (vs : List Nat) (hh : Rx → Option (D × Bxs)) (fxs : List Fex) : Fst := fun ρ γ => if noOw (ρ.set i .un) = true ∧ i < ρ.length ∧ cS < ρ.length then (callsL hh fxs (unS vs (ρ.set i .un)) γ).map fun γ' => .rt (.d (.bool true)) γ' else none
theorem db_calls {k cS : Nat} {hh : Rx → Option (D × Bxs)} {vs : List Nat} {st0 ret : Stmt} {sts : List Stmt} {sp0 : Sp} {fx0 : Fex} {l : List (Sp × Fex)} (hP : (P, q) ∈ WW.T) (h0 : PS X st0 (tFst X P i sp0)) (hA : Apps X P i [ret] sts (l.map (·.1))) (hR : PS X ret (tEnd X k hh i cS vs (fx0 :: l.map (·.2)))) (hc : cS ∈ vs) (hl : l.length < 1000)
    (hK : ∀ s ∈ (sp0, fx0) :: l, LamK X k s.1.1 s.1.2.1 s.1.2.2 s.2) : DB X (st0 :: sts) (sCalls i cS vs hh (fx0 :: l.map (·.2))) := by
  refine ⟨_, pss_cons h0 (apps_pss (pss_one hR) hA), fun δ F own G H ρ γ σ o E R e kE => ?_⟩
  unfold sCalls at e
  split at e
  case isFalse => cases e
  rename_i hcond
  obtain ⟨h1, h2, h3⟩ := hcond
  obtain ⟨γ', e1, e⟩ := map_some e
  cases e
  show tLst (tCons (tLamO X P sp0.1 sp0.2.1 sp0.2.2) tNil) σ H fun v H1 => gName i v σ H1 _
  refine ⟨fun p hp => (R.wd.tb p hp).1, fun f o H1 gr n0 n1 la => ⟨by rw [sizeLine_eq]; simp, fun p hp => ?_⟩⟩
  have B := BS.first fx0 R hP gr n0 n1 la hp (by rw [← R.len]; exact h2)
  refine apps_sem hP l B (by simp only [List.length_singleton]; omega) fun H' items' B' ei => ?_
  refine ⟨δ, F, own, G, _, γ, γ', p, items', B', h1, fun it hi => ?_, ?_, e1, hc, by rw [List.length_set, ← R.len]; exact h3, fun G' H' fin => kE _ G' H' fin (.bl true)⟩
  · have hm : ((it.ps, it.b, it.sc), it.fx) ∈ (sp0, fx0) :: l := by
      have : ((it.ps, it.b, it.sc), it.fx) ∈ items'.map (fun it => ((it.ps, it.b, it.sc), it.fx)) := List.mem_map.mpr ⟨it, hi, rfl⟩
      rw [ei] at this
      exact (show ((it.ps, it.b, it.sc), it.fx) ∈ [(sp0, fx0)] ++ l from this)
    exact hK _ hm
  · have := congrArg (List.map (·.2)) ei
    simpa [List.map_map, Function.comp_def] using this
end
end DL

namespace KK
open PySem PySem.Spec PyProof.Rows L2 LamX DL
variable [WW]
def topS (i : Nat) : Stmt := PySem.Challenge.pw_loggedalike_k25_whole_leads_moved.main.body.getD i (.Pass ⟨0, 0, 0, 0⟩)
abbrev s_is_whole : Stmt := topS 6
abbrev s_is_pair : Stmt := topS 7
abbrev s_is_letters : Stmt := topS 8
abbrev s_common_length : Stmt := topS 10
abbrev s_divisor_of : Stmt := topS 18
abbrev s_is_share : Stmt := topS 19
abbrev s_is_move : Stmt := topS 20
abbrev s_is_value_in : Stmt := topS 21
abbrev s_lowered : Stmt := topS 22
abbrev s_multiplied : Stmt := topS 23
abbrev s_taken_back : Stmt := topS 24
abbrev s_shortened : Stmt := topS 25
abbrev s_lead_led : Stmt := topS 26
abbrev s_is_lead_in : Stmt := topS 27
abbrev s_lead_moved : Stmt := topS 29
abbrev s__law_dice : Stmt := topS 31
abbrev s__law_roll : Stmt := topS 32
abbrev s__law_pick : Stmt := topS 33
abbrev s__law_mixed : Stmt := topS 34
abbrev s__law_times : Stmt := topS 35
abbrev s__law_undone : Stmt := topS 36
abbrev s__law_parted : Stmt := topS 37
abbrev s__law_led : Stmt := topS 38
abbrev s__law_word : Stmt := topS 39
abbrev s__law_value : Stmt := topS 40
abbrev s__law_great : Stmt := topS 42
abbrev s__law_lead : Stmt := topS 41
abbrev s__law_is_refused : Stmt := topS 43
abbrev s__law_are_refused : Stmt := topS 44
abbrev s_law : Stmt := topS 45
def f_is_whole : Fst := (sRet (qE (fAnd (f1 (isD "int") (fV 0)) (fNot (f1 (isD "bool") (fV 0))))))
def F_is_whole : Fn := fnOf 1 f_is_whole
def f_is_pair : Fst := (sRet (qE (fAnd (f1 (isD "tuple") (fV 0)) (f2 eqD (fS lenD (fCons (fV 0) fNil)) (fC (.int 2))))))
def F_is_pair : Fn := fnOf 1 f_is_pair
def f_is_letters : Fst := (sRet (qE (fAnd (f1 (isD "str") (fV 0)) (fS allD (fCons (fQ (qLc (iE (fV 0)) [1] (gN 1) fYes (f2 inD (fV 1) (fC (.str "abcdefghijkl"))))) fNil)))))
def F_is_letters : Fn := fnOf 2 f_is_letters
def f_common_length : Fst := (sSeq (sPar 2 3 (qE (fC (.int 0))) (qE (fS min2D (fCons (fS lenD (fCons (fV 0) fNil)) (fCons (fS lenD (fCons (fV 1) fNil)) fNil)))))
  (sSeq (sW (fBl (f2 ltD (fV 2) (fV 3))) (sSeq (sSet 4 (qE (f2 fdivD (f2 addD (f2 addD (fV 2) (fV 3)) (fC (.int 1))) (fC (.int 2)))))
  (sIf (fBl (f2 eqD (fSl (fV 0) (fPt (fV 2)) (fPt (fV 4))) (fSl (fV 1) (fPt (fV 2)) (fPt (fV 4))))) (sSet 2 (qE (fV 4))) (sSet 3 (qE (f2 subD (fV 4) (fC (.int 1))))))))
  (sRet (qE (fV 2)))))
def F_common_length : Fn := fnOf 5 f_common_length
def f_divisor_of : Fst := (sSeq (sPar 2 3 (qE (fV 0)) (qE (fV 1)))
  (sSeq (sW (fBl (f2 gtD (fV 3) (fC (.int 0)))) (sPar 2 3 (qE (fV 3)) (qE (f2 modD (fV 2) (fV 3)))))
  (sRet (qE (fV 2)))))
def F_divisor_of : Fn := fnOf 4 f_divisor_of
def f_is_share : Fst := (sSeq (sIf (fOrT (fNotT (fTru (fQ (qCall F_is_pair (aE (fV 0) aNil))))) (fNotT (fTru (fS allD (fCons (fQ (qLc (iE (fV 0)) [1] (gN 1) fYes (fAnd (fQ (qCall F_is_whole (aE (fV 1) aNil))) (f2 geD (fV 1) (fC (.int 1)))))) fNil))))) (sRet (qE (fC (.bool false)))) sNext)
  (sRet (qE (f2 eqD (fQ (qCall F_divisor_of (aE (f2 ixD (fV 0) (fC (.int 0))) (aE (f2 ixD (fV 0) (fC (.int 1))) aNil)))) (fC (.int 1))))))
def F_is_share : Fn := fnOf 2 f_is_share
def f_is_move : Fst := (sSeq (sIf (fOrT (fNotT (fTru (f1 (isD "tuple") (fV 0)))) (fOrT (fNotT (fBl (fChain leD leD (fC (.int 1)) (fS lenD (fCons (fV 0) fNil)) (fC (.int 5))))) (fNotT (fTru (fS allD (fCons (fQ (qLc (iE (fV 0)) [1] (gN 1) fYes (fQ (qCall F_is_whole (aE (fV 1) aNil))))) fNil)))))) (sRet (qE (fC (.bool false)))) sNext)
  (sRet (qE (f2 eqD (fQ (qSrt (fV 0))) (fQ (qLR (fR1 (fS lenD (fCons (fV 0) fNil)))))))))
def F_is_move : Fn := fnOf 2 f_is_move
def f_is_value_in : Fst := (sSeq (sIf (fBl (f2 eqD (fV 0) (fC (.str "words")))) (sRet (qCall F_is_letters (aE (fV 1) aNil))) sNext)
  (sSeq (sIf (fBl (f2 eqD (fV 0) (fC (.str "sums")))) (sRet (qCall F_is_whole (aE (fV 1) aNil))) sNext)
  (sRet (qE (fIf (fBl (f2 eqD (fV 0) (fC (.str "shares")))) (fQ (qCall F_is_share (aE (fV 1) aNil))) (fQ (qCall F_is_move (aE (fV 1) aNil))))))))
def F_is_value_in : Fn := fnOf 2 f_is_value_in
def f_lowered : Fst := (sSeq (sSet 2 (qCall F_divisor_of (aE (fV 0) (aE (fV 1) aNil))))
  (sRet (qE (fTup (fCons (f2 fdivD (fV 0) (fV 2)) (fCons (f2 fdivD (fV 1) (fV 2)) fNil))))))
def F_lowered : Fn := fnOf 3 f_lowered
def f_multiplied : Fst := (sSeq (sIf (fBl (f2 inD (fV 0) (fTup (fCons (fC (.str "words")) (fCons (fC (.str "sums")) fNil))))) (sRet (qE (f2 addD (fV 1) (fV 2)))) sNext)
  (sSeq (sIf (fBl (f2 eqD (fV 0) (fC (.str "shares")))) (sRet (qCall F_lowered (aE (f2 mulD (f2 ixD (fV 1) (fC (.int 0))) (f2 ixD (fV 2) (fC (.int 0)))) (aE (f2 mulD (f2 ixD (fV 1) (fC (.int 1))) (f2 ixD (fV 2) (fC (.int 1)))) aNil)))) sNext)
  (sRet (qE (fTupO (fQ (qLc (iE (fV 1)) [3] (gN 3) fYes (f2 ixD (fV 2) (fV 3)))))))))
def F_multiplied : Fn := fnOf 4 f_multiplied
def f_taken_back : Fst := (sSeq (sIf (fBl (f2 eqD (fV 0) (fC (.str "sums")))) (sRet (qE (f1 negD (fV 1)))) sNext)
  (sSeq (sIf (fBl (f2 eqD (fV 0) (fC (.str "shares")))) (sRet (qE (fTup (fCons (f2 ixD (fV 1) (fC (.int 1))) (fCons (f2 ixD (fV 1) (fC (.int 0))) fNil))))) sNext)
  (sRet (qE (fTupO (fQ (qLc (iR range1D (fCons (fS lenD (fCons (fV 1) fNil)) fNil)) [2] (gN 2) fYes (fM indexD (fV 1) (fCons (fV 2) fNil)))))))))
def F_taken_back : Fn := fnOf 3 f_taken_back
def f_shortened : Fst := (sSeq (sSet 2 (qCall F_common_length (aE (fV 0) (aE (fV 1) aNil))))
  (sRet (qE (fTup (fCons (fSl (fV 0) (fPt (fV 2)) fNo) (fCons (fSl (fV 1) (fPt (fV 2)) fNo) fNil))))))
def F_shortened : Fn := fnOf 3 f_shortened
def f_lead_led : Fst := (sSeq (sIf (fBl (f2 eqD (fV 0) (fC (.str "words")))) (sRet (qCall F_shortened (aE (f2 addD (f2 ixD (fV 1) (fC (.int 0))) (fV 2)) (aE (f2 addD (f2 ixD (fV 1) (fC (.int 1))) (fV 3)) aNil)))) sNext)
  (sRet (qCall F_multiplied (aE (fV 0) (aE (fQ (qCall F_multiplied (aE (fV 0) (aE (fQ (qCall F_taken_back (aE (fV 0) (aE (fV 2) aNil)))) (aE (fV 1) aNil))))) (aE (fV 3) aNil))))))
def F_lead_led : Fn := fnOf 4 f_lead_led
def f_is_lead_in : Fst := (sSeq (sIf (fBl (f2 neD (fV 0) (fC (.str "words")))) (sRet (qCall F_is_value_in (aE (fV 0) (aE (fV 1) aNil)))) sNext)
  (sSeq (sIf (fOrT (fNotT (fTru (fQ (qCall F_is_pair (aE (fV 1) aNil))))) (fNotT (fTru (fS allD (fCons (fQ (qLc (iE (fV 1)) [2] (gN 2) fYes (fQ (qCall F_is_letters (aE (fV 2) aNil))))) fNil))))) (sRet (qE (fC (.bool false)))) sNext)
  (sRet (qE (fOr (f2 inD (fC (.str "")) (fV 1)) (f2 neD (f2 ixD (f2 ixD (fV 1) (fC (.int 0))) (fC (.int 0))) (f2 ixD (f2 ixD (fV 1) (fC (.int 1))) (fC (.int 0)))))))))
def F_is_lead_in : Fn := fnOf 3 f_is_lead_in
def f_lead_moved : Fst := (sSeq (sIf (fOrT (fNotT (fTru (f1 (isD "str") (fV 0)))) (fBl (f2 notInD (fV 0) (fC (.tuple [(.str "words"), (.str "sums"), (.str "shares"), (.str "moves")]))))) (fun _ _ => none) sNext)
  (sSeq (sIf (fOrT (fNotT (fTru (fQ (qCall F_is_lead_in (aE (fV 0) (aE (fV 1) aNil)))))) (fOrT (fNotT (fTru (fQ (qCall F_is_value_in (aE (fV 0) (aE (fV 2) aNil)))))) (fNotT (fTru (fQ (qCall F_is_value_in (aE (fV 0) (aE (fV 3) aNil)))))))) (fun _ _ => none) sNext)
  (sSeq (sIf (fAndT (fBl (f2 eqD (fV 0) (fC (.str "moves")))) (fNotT (fBl (fChain eqD eqD (fS lenD (fCons (fV 1) fNil)) (fS lenD (fCons (fV 2) fNil)) (fS lenD (fCons (fV 3) fNil)))))) (fun _ _ => none) sNext)
  (sRet (qCall F_lead_led (aE (fV 0) (aE (fV 1) (aE (fV 2) (aE (fV 3) aNil)))))))))
def F_lead_moved : Fn := fnOf 4 f_lead_moved
def fx_lead_moved : Fsx := (xSeq (xIf (fOrT (fNotT (fTru (f1 (isD "str") (fV 0)))) (fBl (f2 notInD (fV 0) (fC (.tuple [(.str "words"), (.str "sums"), (.str "shares"), (.str "moves")]))))) (xRaise "InvalidOperation") (sX sNext))
  (xSeq (xIf (fOrT (fNotT (fTru (fQ (qCall F_is_lead_in (aE (fV 0) (aE (fV 1) aNil)))))) (fOrT (fNotT (fTru (fQ (qCall F_is_value_in (aE (fV 0) (aE (fV 2) aNil)))))) (fNotT (fTru (fQ (qCall F_is_value_in (aE (fV 0) (aE (fV 3) aNil)))))))) (xRaise "InvalidOperation") (sX sNext))
  (xSeq (xIf (fAndT (fBl (f2 eqD (fV 0) (fC (.str "moves")))) (fNotT (fBl (fChain eqD eqD (fS lenD (fCons (fV 1) fNil)) (fS lenD (fCons (fV 2) fNil)) (fS lenD (fCons (fV 3) fNil)))))) (xRaise "InvalidOperation") (sX sNext))
  (sX (sRet (qCall F_lead_led (aE (fV 0) (aE (fV 1) (aE (fV 2) (aE (fV 3) aNil))))))))))
def FX_lead_moved : Fnx := fnX 4 fx_lead_moved
def f__law_dice : Fst := (sSeq (sSet 2 (qE (fIf (fBl (f2 ltD (fV 1) (fS lenD (fCons (fV 0) fNil)))) (fS intD (fCons (f2 ixD (fV 0) (fV 1)) fNil)) (f2 addD (f2 mulD (fC (.int 89)) (fV 1)) (fC (.int 23))))))
  (sSeq (sSet 3 (qE (f2 modD (fS max2D (fCons (fC (.int 0)) (fCons (f2 subD (fS absD (fCons (fV 2) fNil)) (f2 powD (fC (.int 10)) (fC (.int 16)))) fNil))) (f2 mulD (f2 powD (fC (.int 10)) (fC (.int 60))) (f2 powD (fC (.int 10)) (fC (.int 60)))))))
  (sRet (qL (fCons (fV 3) (fCons (f2 addD (f2 addD (f2 addD (f2 mulD (f2 modD (fS absD (fCons (fV 2) fNil)) (fC (.int 1152921504606846883))) (fC (.int 59))) (f2 mulD (fC (.int 1013)) (fV 1))) (f2 mulD (fC (.int 37)) (fS intD (fCons (f2 ltD (fV 2) (fC (.int 0))) fNil)))) (fC (.int 11))) (fCons (fC (.int 0)) fNil)))))))
def F__law_dice : Fn := fnOf 4 f__law_dice
def f__law_roll : Fst := (sSeq (sIf (fBl (f2 gtD (fIxO 0 (fC (.int 0))) (fC (.int 0)))) (sSeq (sSet 2 (qE (f2 modD (fS intD (fCons (fIxO 0 (fC (.int 0))) fNil)) (fV 1))))
  (sSeq (sSetO 0 (f2 fdivD (fIxO 0 (fC (.int 0))) (fV 1)) (fC (.int 0)))
  (sRet (qE (fV 2))))) sNext)
  (sSeq (sSetO 0 (f2 addD (fIxO 0 (fC (.int 2))) (fC (.int 1))) (fC (.int 2)))
  (sSeq (sSet 3 (qE (f2 modD (fS intD (fCons (f2 addD (fIxO 0 (fC (.int 1))) (f2 mulD (fC (.int 49979687)) (fIxO 0 (fC (.int 2))))) fNil)) (fC (.int 2305843009213693613)))))
  (sSeq (sSet 4 (qE (f2 addD (f2 mulD (f2 modD (fS intD (fCons (f2 addD (f2 mulD (fV 3) (fV 3)) (f2 mulD (fC (.int 89)) (fIxO 0 (fC (.int 2))))) fNil)) (fC (.int 1152921504606846697))) (fC (.int 6972593))) (fV 3))))
  (sRet (qE (f2 modD (fS intD (fCons (f2 fdivD (fV 4) (fC (.int 131072))) fNil)) (fV 1))))))))
def F__law_roll : Fn := fnOf 5 f__law_roll
def f__law_pick : Fst := (sRet (qE (f2 ixD (fV 1) (fQ (qCall F__law_roll (aB 0 (aE (fS lenD (fCons (fV 1) fNil)) aNil)))))))
def F__law_pick : Fn := fnOf 2 f__law_pick
def f__law_mixed : Fst := (sSeq (sPar 2 3 (qList (fV 1)) (qL fNil))
  (sSeq (sFor (iR range1D (fCons (fS lenD (fCons (fV 1) fNil)) fNil)) (gN 4) (sApp 3 (fPopAt 2 (fQ (qCall F__law_roll (aB 0 (aE (fLenO 2) aNil)))))))
  (sRetO 3)))
def F__law_mixed : Fn := fnOf 5 f__law_mixed
def f__law_times : Fst := (sSeq (sIf (fBl (f2 inD (fV 0) (fTup (fCons (fC (.str "words")) (fCons (fC (.str "sums")) fNil))))) (sRet (qE (f2 addD (fV 1) (fV 2)))) sNext)
  (sSeq (sIf (fBl (f2 eqD (fV 0) (fC (.str "moves")))) (sRet (qE (fTupO (fQ (qLc (iE (fV 1)) [3] (gN 3) fYes (f2 ixD (fV 2) (fV 3))))))) sNext)
  (sSeq (sPar 4 5 (qE (f2 mulD (f2 ixD (fV 1) (fC (.int 0))) (f2 ixD (fV 2) (fC (.int 0))))) (qE (f2 mulD (f2 ixD (fV 1) (fC (.int 1))) (f2 ixD (fV 2) (fC (.int 1))))))
  (sSeq (sPar 6 7 (qE (fV 4)) (qE (fV 5)))
  (sSeq (sW (fBl (f2 gtD (fV 7) (fC (.int 0)))) (sPar 6 7 (qE (fV 7)) (qE (f2 modD (fV 6) (fV 7)))))
  (sRet (qE (fTup (fCons (f2 fdivD (fV 4) (fV 6)) (fCons (f2 fdivD (fV 5) (fV 6)) fNil))))))))))
def F__law_times : Fn := fnOf 8 f__law_times
def f__law_undone : Fst := (sSeq (sIf (fBl (f2 eqD (fV 0) (fC (.str "sums")))) (sRet (qE (f2 subD (fC (.int 0)) (fV 1)))) sNext)
  (sRet (qE (fIf (fBl (f2 eqD (fV 0) (fC (.str "shares")))) (fTup (fCons (f2 ixD (fV 1) (fC (.int 1))) (fCons (f2 ixD (fV 1) (fC (.int 0))) fNil))) (fTupO (fQ (qLc (iR range1D (fCons (fS lenD (fCons (fV 1) fNil)) fNil)) [2] (gN 2) fYes (fM indexD (fV 1) (fCons (fV 2) fNil)))))))))
def F__law_undone : Fn := fnOf 3 f__law_undone
def f__law_parted : Fst := (sSeq (sSet 2 (qE (fC (.int 0))))
  (sSeq (sW (fAndT (fBl (f2 ltD (fV 2) (fS lenD (fCons (fV 0) fNil)))) (fAndT (fBl (f2 ltD (fV 2) (fS lenD (fCons (fV 1) fNil)))) (fBl (f2 eqD (f2 ixD (fV 0) (fV 2)) (f2 ixD (fV 1) (fV 2)))))) (sSet 2 (qE (f2 addD (fV 2) (fC (.int 1))))))
  (sRet (qE (fTup (fCons (fSl (fV 0) (fPt (fV 2)) fNo) (fCons (fSl (fV 1) (fPt (fV 2)) fNo) fNil)))))))
def F__law_parted : Fn := fnOf 3 f__law_parted
def f__law_led : Fst := (sSeq (sIf (fBl (f2 eqD (fV 0) (fC (.str "words")))) (sRet (qCall F__law_parted (aE (f2 addD (f2 ixD (fV 1) (fC (.int 0))) (fV 2)) (aE (f2 addD (f2 ixD (fV 1) (fC (.int 1))) (fV 3)) aNil)))) sNext)
  (sRet (qCall F__law_times (aE (fV 0) (aE (fQ (qCall F__law_times (aE (fV 0) (aE (fQ (qCall F__law_undone (aE (fV 0) (aE (fV 2) aNil)))) (aE (fV 1) aNil))))) (aE (fV 3) aNil))))))
def F__law_led : Fn := fnOf 4 f__law_led
def f__law_word : Fst := (sRet (qE (fM joinD (fC (.str "")) (fCons (fQ (qLc (iR range1D (fCons (fQ (qCall F__law_roll (aB 0 (aE (f2 addD (fV 2) (fC (.int 1))) aNil)))) fNil)) [3] (gN 3) fYes (fQ (qCall F__law_pick (aB 0 (aE (fV 1) aNil)))))) fNil))))
def F__law_word : Fn := fnOf 4 f__law_word
def f__law_value : Fst := (sSeq (sIf (fBl (f2 eqD (fV 1) (fC (.str "words")))) (sRet (qCall F__law_word (aB 0 (aE (fC (.str "ab")) (aE (fC (.int 2)) aNil))))) sNext)
  (sSeq (sIf (fBl (f2 eqD (fV 1) (fC (.str "sums")))) (sRet (qCall F__law_pick (aB 0 (aE (fLst (fCons (fC (.int 0)) (fCons (fC (.int 0)) (fCons (fC (.int 1)) (fCons (fC (.int 2)) (fCons (f1 negD (fC (.int 1))) (fCons (fC (.int 5)) fNil))))))) aNil)))) sNext)
  (sSeq (sIf (fBl (f2 eqD (fV 1) (fC (.str "shares")))) (sRet (qCall F__law_pick (aB 0 (aE (fLst (fCons (fTup (fCons (fC (.int 1)) (fCons (fC (.int 1)) fNil))) (fCons (fTup (fCons (fC (.int 1)) (fCons (fC (.int 1)) fNil))) (fCons (fTup (fCons (fC (.int 2)) (fCons (fC (.int 1)) fNil))) (fCons (fTup (fCons (fC (.int 1)) (fCons (fC (.int 2)) fNil))) (fCons (fTup (fCons (fC (.int 2)) (fCons (fC (.int 3)) fNil))) fNil)))))) aNil)))) sNext)
  (sRet (qE (fIf (fBl (f2 eqD (fQ (qCall F__law_roll (aB 0 (aE (fC (.int 2)) aNil)))) (fC (.int 0)))) (fTupO (fQ (qCall F__law_mixed (aB 0 (aE (fQ (qLR (fR1 (fV 2)))) aNil))))) (fTupR (fR1 (fV 2)))))))))
def F__law_value : Fn := fnOf 3 f__law_value
def f__law_great : Fst := (sSeq (sIf (fBl (f2 eqD (fV 1) (fC (.str "words")))) (sRet (qE (f2 mulD (fQ (qCall F__law_word (aB 0 (aE (fC (.str "abl")) (aE (fC (.int 9)) aNil))))) (f2 addD (fC (.int 1)) (fQ (qCall F__law_roll (aB 0 (aE (fC (.int 40)) aNil)))))))) sNext)
  (sSeq (sIf (fBl (f2 eqD (fV 1) (fC (.str "sums")))) (sRet (qE (f2 mulD (f2 mulD (fQ (qCall F__law_pick (aB 0 (aE (fLst (fCons (f1 negD (fC (.int 1))) (fCons (fC (.int 1)) fNil))) aNil)))) (f2 addD (f2 powD (fC (.int 10)) (fC (.int 59))) (fQ (qCall F__law_roll (aB 0 (aE (fC (.int 1000)) aNil)))))) (fQ (qCall F__law_pick (aB 0 (aE (fLst (fCons (fC (.int 1)) (fCons (f2 powD (fC (.int 10)) (fC (.int 20))) (fCons (f2 powD (fC (.int 10)) (fC (.int 60))) fNil)))) aNil))))))) sNext)
  (sSeq (sIf (fBl (f2 eqD (fV 1) (fC (.str "shares")))) (sRet (qCall F__law_times (aE (fV 1) (aE (fTup (fCons (f2 addD (fC (.int 3)) (fQ (qCall F__law_roll (aB 0 (aE (f2 powD (fC (.int 10)) (fC (.int 6))) aNil))))) (fCons (f2 addD (f2 powD (fC (.int 10)) (fC (.int 40))) (fQ (qCall F__law_roll (aB 0 (aE (fC (.int 99)) aNil))))) fNil))) (aE (fTup (fCons (fC (.int 1)) (fCons (fC (.int 1)) fNil))) aNil))))) sNext)
  (sRet (qCall F__law_value (aB 0 (aE (fV 1) (aE (fV 2) aNil))))))))
def F__law_great : Fn := fnOf 3 f__law_great
def f__law_lead : Fst := (sSeq (sIf (fBl (f2 eqD (fV 1) (fC (.str "words")))) (sSeq (sPar 3 4 (qCall F__law_word (aB 0 (aE (fC (.str "abc")) (aE (fC (.int 6)) aNil)))) (qCall F__law_word (aB 0 (aE (fC (.str "abc")) (aE (fC (.int 6)) aNil)))))
  (sRet (qCall F__law_parted (aE (fV 3) (aE (fV 4) aNil))))) sNext)
  (sRet (qE (fIf (fBl (f2 gtD (fQ (qCall F__law_roll (aB 0 (aE (fC (.int 3)) aNil)))) (fC (.int 0)))) (fQ (qCall F__law_value (aB 0 (aE (fV 1) (aE (fV 2) aNil))))) (fQ (qCall F__law_great (aB 0 (aE (fV 1) (aE (fV 2) aNil)))))))))
def F__law_lead : Fn := fnOf 5 f__law_lead
def hh__law_is_refused : Rx → Option (D × Bxs) := hTryE 1 [("InvalidOperation", (fun _ => some (.bool true)))] ["InvalidOperation"] (sRet (qE (fC (.bool false))))
def f__law_are_refused : Fst := (sSeq (sSet 5 (qE (fLst (fCons (fC .none) (fCons (fC (.str "m")) (fCons (fTup (fCons (fC (.int 1)) fNil)) (fCons (fLst (fCons (fC (.int 0)) fNil)) (fCons (fC (.bool true)) (fCons (fTup (fCons (fC (.int 0)) (fCons (fC (.int 0)) fNil))) (fCons (fTup (fCons (fC (.int 2)) (fCons (fC (.int 4)) fNil))) (fCons (fTup (fCons (fC (.int 0)) (fCons (fC (.int 2)) fNil))) (fCons (fTup (fCons (fC (.str "a")) (fCons (fC (.str "a")) fNil))) (fCons (fTup (fCons (fC (.str "a")) fNil)) (fCons fDict0 fNil))))))))))))))
  (sSeq (sIf (fBl (f2 eqD (fV 1) (fC (.str "moves")))) (sSet 5 (qE (f2 addD (fV 5) (fLst (fCons (fTupR (fR1 (f2 addD (fS lenD (fCons (fV 2) fNil)) (fC (.int 1))))) (fCons (fTup (fCons (fC (.int 0)) (fCons (fC (.int 0)) (fCons (fC (.int 1)) fNil)))) (fCons (fTupO (fSl (fQ (qList (fV 2))) fNo (fPt (f1 negD (fC (.int 1)))))) fNil))))))) sNext)
  (sSeq (sSet 6 (qCall F__law_pick (aB 0 (aE (fV 5) aNil))))
  (sCalls 7 8 [8] hh__law_is_refused [(eXQ (qxCall FX_lead_moved (aE (fQ (qCall F__law_pick (aB 0 (aE (fLst (fCons (fC .none) (fCons (fC (.str "")) (fCons (fC (.str "sum")) (fCons (fC (.int 0)) (fCons (fTup (fCons (fC (.str "words")) fNil)) fNil)))))) aNil)))) (aE (fV 2) (aE (fV 3) (aE (fV 4) aNil)))))), (eXQ (qxCall FX_lead_moved (aE (fV 1) (aE (fV 6) (aE (fV 3) (aE (fV 4) aNil)))))), (eXQ (qxCall FX_lead_moved (aE (fV 1) (aE (fV 2) (aE (fV 6) (aE (fV 4) aNil)))))), (eXQ (qxCall FX_lead_moved (aE (fV 1) (aE (fV 2) (aE (fV 3) (aE (fV 6) aNil))))))]))))
def F__law_are_refused : Fn := fnOf 9 f__law_are_refused
def f_law : Fst := (sSeq (sFor (iR range1D (fCons (fS max2D (fCons (fC (.int 1)) (fCons (fS min2D (fCons (fC (.int 5)) (fCons (fS lenD (fCons (fV 0) fNil)) fNil))) fNil))) fNil)) (gN 1) (sSeq (sSet 2 (qCall F__law_dice (aE (fV 0) (aE (fV 1) aNil))))
  (sFor (iE (fTup (fCons (fC (.str "words")) (fCons (fC (.str "sums")) (fCons (fC (.str "shares")) (fCons (fC (.str "moves")) fNil)))))) (gN 3) (sSeq (sSet 4 (qE (f2 addD (fC (.int 1)) (fQ (qCallO F__law_roll 2 (aE (fC (.int 5)) aNil))))))
  (sSeq (sPar 6 7 (qCallO F__law_lead 2 (aE (fV 3) (aE (fV 4) aNil))) (qCallO F__law_lead 2 (aE (fV 3) (aE (fV 4) aNil))))
  (sSeq (sAsg (fQ (qLc (iR range1D (fCons (fC (.int 2)) fNil)) [10] (gN 10) fYes (fQ (qCallOV [(0, F__law_value), (1, F__law_great)] (fQ (qCallO F__law_pick 2 (aE (fLst (fCons (fC (fnD 0)) (fCons (fC (fnD 1)) fNil))) aNil))) 2 (aE (fV 3) (aE (fV 4) aNil)))))) (gT 2 (gsC (gN 8) (gsC (gN 9) gsN))))
  (sSeq (sSet 5 (qCall F_lead_moved (aE (fV 3) (aE (fV 6) (aE (fV 8) (aE (fV 9) aNil))))))
  (sFz 5 (sSeq (sIf (fBl (f2 neD (fS reprM (fCons (fV 5) fNil)) (fS reprM (fCons (fQ (qCall F__law_led (aE (fV 3) (aE (fV 6) (aE (fV 8) (aE (fV 9) aNil)))))) fNil)))) (sRet (qE (fC (.bool false)))) sNext)
  (sSeq (sIf (fBl (f2 neD (f2 eqD (fQ (qCall F_lead_moved (aE (fV 3) (aE (fV 7) (aE (fV 8) (aE (fV 9) aNil)))))) (fV 5)) (f2 eqD (fV 7) (fV 6)))) (sRet (qE (fC (.bool false)))) sNext)
  (sIf (fNotT (fTru (fQ (qCallO F__law_are_refused 2 (aE (fV 3) (aE (fV 6) (aE (fV 8) (aE (fV 9) aNil)))))))) (sRet (qE (fC (.bool false)))) sNext)))))))))))
  (sSeq (sSet 5 (qL (fCons (fQ (qCall F_lead_moved (aE (fC (.str "words")) (aE (fTup (fCons (fC (.str "ab")) (fCons (fC (.str "")) fNil))) (aE (fC (.str "c")) (aE (fC (.str "abd")) aNil)))))) (fCons (fQ (qCall F_lead_moved (aE (fC (.str "words")) (aE (fTup (fCons (fC (.str "a")) (fCons (fC (.str "b")) fNil))) (aE (fC (.str "c")) (aE (fC (.str "d")) aNil)))))) fNil))))
  (sSeq (sApp 5 (fQ (qCall F_lead_moved (aE (fC (.str "sums")) (aE (f2 mulD (f2 powD (fC (.int 10)) (fC (.int 60))) (f2 powD (fC (.int 10)) (fC (.int 10)))) (aE (fC (.int 1)) (aE (f1 negD (fC (.int 2))) aNil)))))))
  (sSeq (sApp 5 (fQ (qCall F_lead_moved (aE (fC (.str "words")) (aE (fTup (fCons (fC (.str "")) (fCons (fC (.str "ab")) fNil))) (aE (f2 mulD (fC (.str "ab")) (fC (.int 300))) (aE (fC (.str "")) aNil)))))))
  (sFz 5 (sRet (qE (f2 eqD (fV 5) (fLst (fCons (fTup (fCons (fC (.str "c")) (fCons (fC (.str "d")) fNil))) (fCons (fTup (fCons (fC (.str "ac")) (fCons (fC (.str "bd")) fNil))) (fCons (f2 subD (f2 mulD (f2 powD (fC (.int 10)) (fC (.int 60))) (f2 powD (fC (.int 10)) (fC (.int 10)))) (fC (.int 3))) (fCons (fTup (fCons (f2 mulD (fC (.str "ab")) (fC (.int 299))) (fCons (fC (.str "")) fNil))) fNil)))))))))))))
def F_law : Fn := fnOf 11 f_law
abbrev qn__law_are_refused : Str := (envOfC "_law_are_refused" (defScope s__law_are_refused) 0 0 .none).qual ++ "<lambda>"
structure Txt (P : Program) (K : Fg) (mg : Str → Option Value) (ad : Nat → Addr) (fds : Nat → FuncData) (tb : Nat → Addr × Addr) : Prop where
  d_is_whole : DefOk K mg "is_whole" s_is_whole ["value"] (ad 0) (fds 0)
  d_is_pair : DefOk K mg "is_pair" s_is_pair ["value"] (ad 1) (fds 1)
  d_is_letters : DefOk K mg "is_letters" s_is_letters ["value"] (ad 2) (fds 2)
  d_common_length : DefOk K mg "common_length" s_common_length ["one", "other"] (ad 3) (fds 3)
  d_divisor_of : DefOk K mg "divisor_of" s_divisor_of ["one", "other"] (ad 4) (fds 4)
  d_is_share : DefOk K mg "is_share" s_is_share ["value"] (ad 5) (fds 5)
  d_is_move : DefOk K mg "is_move" s_is_move ["value"] (ad 6) (fds 6)
  d_is_value_in : DefOk K mg "is_value_in" s_is_value_in ["kind", "value"] (ad 7) (fds 7)
  d_lowered : DefOk K mg "lowered" s_lowered ["top", "bottom"] (ad 8) (fds 8)
  d_multiplied : DefOk K mg "multiplied" s_multiplied ["kind", "one", "other"] (ad 9) (fds 9)
  d_taken_back : DefOk K mg "taken_back" s_taken_back ["kind", "value"] (ad 10) (fds 10)
  d_shortened : DefOk K mg "shortened" s_shortened ["one", "other"] (ad 11) (fds 11)
  d_lead_led : DefOk K mg "lead_led" s_lead_led ["kind", "lead", "left", "right"] (ad 12) (fds 12)
  d_is_lead_in : DefOk K mg "is_lead_in" s_is_lead_in ["kind", "value"] (ad 13) (fds 13)
  d_lead_moved : DefOk K mg "lead_moved" s_lead_moved ["kind", "lead", "one", "other"] (ad 14) (fds 14)
  d__law_dice : DefOk K mg "_law_dice" s__law_dice ["script", "spot"] (ad 15) (fds 15)
  d__law_roll : DefOk K mg "_law_roll" s__law_roll ["dice", "total"] (ad 16) (fds 16)
  d__law_pick : DefOk K mg "_law_pick" s__law_pick ["dice", "items"] (ad 17) (fds 17)
  d__law_mixed : DefOk K mg "_law_mixed" s__law_mixed ["dice", "items"] (ad 18) (fds 18)
  d__law_times : DefOk K mg "_law_times" s__law_times ["kind", "one", "other"] (ad 19) (fds 19)
  d__law_undone : DefOk K mg "_law_undone" s__law_undone ["kind", "value"] (ad 20) (fds 20)
  d__law_parted : DefOk K mg "_law_parted" s__law_parted ["one", "other"] (ad 21) (fds 21)
  d__law_led : DefOk K mg "_law_led" s__law_led ["kind", "lead", "left", "right"] (ad 22) (fds 22)
  d__law_word : DefOk K mg "_law_word" s__law_word ["dice", "signs", "most"] (ad 23) (fds 23)
  d__law_value : DefOk K mg "_law_value" s__law_value ["dice", "kind", "size"] (ad 24) (fds 24)
  d__law_great : DefOk K mg "_law_great" s__law_great ["dice", "kind", "size"] (ad 25) (fds 25)
  d__law_lead : DefOk K mg "_law_lead" s__law_lead ["dice", "kind", "size"] (ad 26) (fds 26)
  d__law_is_refused : DefOk K mg "_law_is_refused" s__law_is_refused ["call"] (ad 27) (fds 27)
  d__law_are_refused : DefOk K mg "_law_are_refused" s__law_are_refused ["dice", "kind", "lead", "one", "other"] (ad 28) (fds 28)
  d_law : DefOk K mg "law" s_law ["script"] (ad 29) (fds 29)
  u__law_are_refused : (fds 28).code = .ref (tb 0).1
  v__law_are_refused : ((tb 0).2, qn__law_are_refused) ∈ WW.T
  w__law_are_refused : ∀ p ∈ WW.T, p.1 = (tb 0).2 → p.2 = qn__law_are_refused
  x_InvalidOperation : XcD K mg "InvalidOperation"
  m_InvalidOperation : ∃ C, mg "InvalidOperation" = some (.ref C)
  ap__law_is_refused : Apart K mg ["InvalidOperation"]
  fr__law_value : WW.fns[0]? = some (ad 24)
  fr__law_great : WW.fns[1]? = some (ad 25)
  b_abs : mg "abs" = none
  b_all : mg "all" = none
  b_bool : mg "bool" = none
  b_int : mg "int" = none
  b_isinstance : mg "isinstance" = none
  b_len : mg "len" = none
  b_list : mg "list" = none
  b_max : mg "max" = none
  b_min : mg "min" = none
  b_range : mg "range" = none
  b_repr : mg "repr" = none
  b_sorted : mg "sorted" = none
  b_str : mg "str" = none
  b_tuple : mg "tuple" = none
  c_KINDS : CTup K mg "KINDS" [(.str "words"), (.str "sums"), (.str "shares"), (.str "moves")]
  c_LETTERS : ∃ t, mg "LETTERS" = some (.str "abcdefghijkl" t)
  c_MOST_MOVED : ∃ t, mg "MOST_MOVED" = some (.int 5 t)
  c_MOVES : ∃ t, mg "MOVES" = some (.str "moves" t)
  c_PAIR_SIZE : ∃ t, mg "PAIR_SIZE" = some (.int 2 t)
  c_SHARES : ∃ t, mg "SHARES" = some (.str "shares" t)
  c_SUMS : ∃ t, mg "SUMS" = some (.str "sums" t)
  c_WORDS : ∃ t, mg "WORDS" = some (.str "words" t)
section
variable {P : Program} {K : Fg} {mg : Str → Option Value} {base : Heap} {ad : Nat → Addr} {fds : Nat → FuncData} {tb : Nat → Addr × Addr}
theorem sc_is_whole : FnScope ["value"] ["value"] (defScope s_is_whole) := ⟨rfl, rfl, rfl, by decide +kernel, rfl, by decide +kernel, by decide +kernel⟩
theorem kp_is_whole (T : Txt P K mg ad fds tb) (B : ∀ j, j < 1 → TabB base mg (tb j).1 (tb j).2) : Kp P WW.w K mg base 2 (ad 0) (fds 0) ["value"] F_is_whole := by
  have b_bool := T.b_bool
  have b_int := T.b_int
  have b_isinstance := T.b_isinstance
  exact Kp.of (k := 0) T.d_is_whole.fn sc_is_whole fun cdv A outer s H O hr => by
    unfold f_is_whole
    exact (db_one (ds_ret (dq_e (de_and (de_isi (de_var (pv 0)) (by rfl) b_isinstance (pe_bltn (v := .ty "int") (by rfl) b_int (by decide +kernel) rfl)) (de_one (de_not (de_isi (de_var (pv 0)) (by rfl) b_isinstance (pe_bltn (v := .ty "bool") (by rfl) b_bool (by decide +kernel) rfl))))))))
theorem sc_is_pair : FnScope ["value"] ["value"] (defScope s_is_pair) := ⟨rfl, rfl, rfl, by decide +kernel, rfl, by decide +kernel, by decide +kernel⟩
theorem kp_is_pair (T : Txt P K mg ad fds tb) (B : ∀ j, j < 1 → TabB base mg (tb j).1 (tb j).2) : Kp P WW.w K mg base 2 (ad 1) (fds 1) ["value"] F_is_pair := by
  have b_isinstance := T.b_isinstance
  have b_len := T.b_len
  have b_tuple := T.b_tuple
  obtain ⟨t_PAIR_SIZE, c_PAIR_SIZE⟩ := T.c_PAIR_SIZE
  exact Kp.of (k := 0) T.d_is_pair.fn sc_is_pair fun cdv A outer s H O hr => by
    unfold f_is_pair
    exact (db_one (ds_ret (dq_e (de_and (de_isi (de_var (pv 0)) (by rfl) b_isinstance (pe_bltn (v := .ty "tuple") (by rfl) b_tuple (by decide +kernel) rfl)) (de_one (de_cmp (od_eq O) (de_callB cd_len (by rfl) b_len (by decide +kernel) (da_cons (de_var (pv 0)) da_nil)) (de_const (v := .int 2) (pe_glob (by rfl) c_PAIR_SIZE ⟨_, rfl⟩) fun _ => .int _)))))))
theorem sc_is_letters : FnScope ["value", "letter"] ["value"] (defScope s_is_letters) := ⟨rfl, rfl, rfl, by decide +kernel, rfl, by decide +kernel, by decide +kernel⟩
theorem kp_is_letters (T : Txt P K mg ad fds tb) (B : ∀ j, j < 1 → TabB base mg (tb j).1 (tb j).2) : Kp P WW.w K mg base 2 (ad 2) (fds 2) ["value"] F_is_letters := by
  have b_all := T.b_all
  have b_isinstance := T.b_isinstance
  have b_str := T.b_str
  obtain ⟨t_LETTERS, c_LETTERS⟩ := T.c_LETTERS
  exact Kp.of (k := 0) T.d_is_letters.fn sc_is_letters fun cdv A outer s H O hr => by
    unfold f_is_letters
    exact (db_one (ds_ret (dq_e (de_and (de_isi (de_var (pv 0)) (by rfl) b_isinstance (pe_bltn (v := .ty "str") (by rfl) b_str (by decide +kernel) rfl)) (de_one (de_callB (cd_all O) (by rfl) b_all (by decide +kernel) (da_cons (de_q (dq_lc (own := [(("letter" : Str), 1)]) O (di_e (de_var (pv 0))) (blkOk_by (N := ["value", "letter"]) (sc := defScope s_is_letters) (by decide +kernel)) (fun s1 H1 C1 cl1 fp1 => (dg_name (i := 1) (O.blk s1 H1 C1 cl1 fp1) rfl (Or.inl rfl))) (fun s1 H1 C1 cl1 fp1 => dts_nil) (fun s1 H1 C1 cl1 fp1 => (de_cmp (od_in (O.blk s1 H1 C1 cl1 fp1)) (de_var (pv 1)) (de_const (v := .str "abcdefghijkl") (pe_glob (by rfl) c_LETTERS ⟨_, rfl⟩) fun _ => .str _))) (by decide))) da_nil)))))))
theorem sc_common_length : FnScope ["one", "other", "low", "high", "middle"] ["one", "other"] (defScope s_common_length) := ⟨rfl, rfl, rfl, by decide +kernel, rfl, by decide +kernel, by decide +kernel⟩
theorem kp_common_length (T : Txt P K mg ad fds tb) (B : ∀ j, j < 1 → TabB base mg (tb j).1 (tb j).2) : Kp P WW.w K mg base 2 (ad 3) (fds 3) ["one", "other"] F_common_length := by
  have b_len := T.b_len
  have b_min := T.b_min
  exact Kp.of (k := 0) T.d_common_length.fn sc_common_length fun cdv A outer s H O hr => by
    unfold f_common_length
    exact (db_cons (ds_par (i := 2) (j := 3) O rfl rfl (by decide) rfl rfl (dq_e de_int) (dq_e (de_callB (cd_min2 O) (by rfl) b_min (by decide +kernel) (da_cons (de_callB cd_len (by rfl) b_len (by decide +kernel) (da_cons (de_var (pv 0)) da_nil)) (da_cons (de_callB cd_len (by rfl) b_len (by decide +kernel) (da_cons (de_var (pv 1)) da_nil)) da_nil)))))
      (db_cons (ds_w O (dt_cmp od_lt (de_var (pv 2)) (de_var (pv 3))) (db_cons (ds_set (i := 4) O rfl (Or.inl rfl) (dq_e (de_bin od_fdiv (de_bin od_add (de_bin od_add (de_var (pv 2)) (de_var (pv 3))) de_int) de_int)))
      (db_one (ds_if (dt_cmp (od_eq O) (de_sl (de_var (pv 0)) (do_some (de_var (pv 2))) (do_some (de_var (pv 4)))) (de_sl (de_var (pv 1)) (do_some (de_var (pv 2))) (do_some (de_var (pv 4))))) (db_one (ds_set (i := 2) O rfl (Or.inl rfl) (dq_e (de_var (pv 4))))) (db_one (ds_set (i := 3) O rfl (Or.inl rfl) (dq_e (de_bin od_sub (de_var (pv 4)) de_int))))))))
      (db_one (ds_ret (dq_e (de_var (pv 2)))))))
theorem sc_divisor_of : FnScope ["one", "other", "left", "right"] ["one", "other"] (defScope s_divisor_of) := ⟨rfl, rfl, rfl, by decide +kernel, rfl, by decide +kernel, by decide +kernel⟩
theorem kp_divisor_of (T : Txt P K mg ad fds tb) (B : ∀ j, j < 1 → TabB base mg (tb j).1 (tb j).2) : Kp P WW.w K mg base 2 (ad 4) (fds 4) ["one", "other"] F_divisor_of := by
  exact Kp.of (k := 0) T.d_divisor_of.fn sc_divisor_of fun cdv A outer s H O hr => by
    unfold f_divisor_of
    exact (db_cons (ds_par (i := 2) (j := 3) O rfl rfl (by decide) rfl rfl (dq_e (de_var (pv 0))) (dq_e (de_var (pv 1))))
      (db_cons (ds_w O (dt_cmp od_gt (de_var (pv 3)) de_int) (db_one (ds_par (i := 2) (j := 3) O rfl rfl (by decide) rfl rfl (dq_e (de_var (pv 3))) (dq_e (de_bin od_mod (de_var (pv 2)) (de_var (pv 3)))))))
      (db_one (ds_ret (dq_e (de_var (pv 2)))))))
theorem sc_is_share : FnScope ["value", "one"] ["value"] (defScope s_is_share) := ⟨rfl, rfl, rfl, by decide +kernel, rfl, by decide +kernel, by decide +kernel⟩
theorem kp_is_share (T : Txt P K mg ad fds tb) (B : ∀ j, j < 1 → TabB base mg (tb j).1 (tb j).2) : Kp P WW.w K mg base 3 (ad 5) (fds 5) ["value"] F_is_share := by
  have b_all := T.b_all
  exact Kp.of (k := 1) T.d_is_share.fn sc_is_share fun cdv A outer s H O hr => by
    unfold f_is_share
    exact (db_cons (ds_if (dt_w (dw_or (dt_not (dt_tru (de_q (dq_call O (kp_is_pair T B) (hr.mono (by decide)) (by rfl) T.d_is_pair.m T.d_is_pair.fn.kp T.d_is_pair.b (dar_e (de_var (pv 0)) dar_nil))))) (dw_or1 (dt_not (dt_tru (de_callB (cd_all O) (by rfl) b_all (by decide +kernel) (da_cons (de_q (dq_lc (own := [(("one" : Str), 1)]) O (di_e (de_var (pv 0))) (blkOk_by (N := ["value", "one"]) (sc := defScope s_is_share) (by decide +kernel)) (fun s1 H1 C1 cl1 fp1 => (dg_name (i := 1) (O.blk s1 H1 C1 cl1 fp1) rfl (Or.inl rfl))) (fun s1 H1 C1 cl1 fp1 => dts_nil) (fun s1 H1 C1 cl1 fp1 => (de_and (de_q (dq_call (O.blk s1 H1 C1 cl1 fp1) (kp_is_whole T B) (hr.mono (by decide)) (by rfl) T.d_is_whole.m T.d_is_whole.fn.kp T.d_is_whole.b (dar_e (de_var (pv 1)) dar_nil))) (de_one (de_cmp od_ge (de_var (pv 1)) de_int)))) (by decide))) da_nil))))))) (db_one (ds_ret (dq_e de_bl))) db_nil)
      (db_one (ds_ret (dq_e (de_cmp (od_eq O) (de_q (dq_call O (kp_divisor_of T B) (hr.mono (by decide)) (by rfl) T.d_divisor_of.m T.d_divisor_of.fn.kp T.d_divisor_of.b (dar_e (de_ix (de_var (pv 0)) de_int) (dar_e (de_ix (de_var (pv 0)) de_int) dar_nil)))) de_int)))))
theorem sc_is_move : FnScope ["value", "one"] ["value"] (defScope s_is_move) := ⟨rfl, rfl, rfl, by decide +kernel, rfl, by decide +kernel, by decide +kernel⟩
theorem kp_is_move (T : Txt P K mg ad fds tb) (B : ∀ j, j < 1 → TabB base mg (tb j).1 (tb j).2) : Kp P WW.w K mg base 3 (ad 6) (fds 6) ["value"] F_is_move := by
  have b_all := T.b_all
  have b_isinstance := T.b_isinstance
  have b_len := T.b_len
  have b_list := T.b_list
  have b_range := T.b_range
  have b_sorted := T.b_sorted
  have b_tuple := T.b_tuple
  obtain ⟨t_MOST_MOVED, c_MOST_MOVED⟩ := T.c_MOST_MOVED
  exact Kp.of (k := 1) T.d_is_move.fn sc_is_move fun cdv A outer s H O hr => by
    unfold f_is_move
    exact (db_cons (ds_if (dt_w (dw_or (dt_not (dt_tru (de_isi (de_var (pv 0)) (by rfl) b_isinstance (pe_bltn (v := .ty "tuple") (by rfl) b_tuple (by decide +kernel) rfl)))) (dw_or (dt_not (dt_chain od_le od_le de_int (de_callB cd_len (by rfl) b_len (by decide +kernel) (da_cons (de_var (pv 0)) da_nil)) (de_const (v := .int 5) (pe_glob (by rfl) c_MOST_MOVED ⟨_, rfl⟩) fun _ => .int _))) (dw_or1 (dt_not (dt_tru (de_callB (cd_all O) (by rfl) b_all (by decide +kernel) (da_cons (de_q (dq_lc (own := [(("one" : Str), 1)]) O (di_e (de_var (pv 0))) (blkOk_by (N := ["value", "one"]) (sc := defScope s_is_move) (by decide +kernel)) (fun s1 H1 C1 cl1 fp1 => (dg_name (i := 1) (O.blk s1 H1 C1 cl1 fp1) rfl (Or.inl rfl))) (fun s1 H1 C1 cl1 fp1 => dts_nil) (fun s1 H1 C1 cl1 fp1 => (de_q (dq_call (O.blk s1 H1 C1 cl1 fp1) (kp_is_whole T B) (hr.mono (by decide)) (by rfl) T.d_is_whole.m T.d_is_whole.fn.kp T.d_is_whole.b (dar_e (de_var (pv 1)) dar_nil)))) (by decide))) da_nil)))))))) (db_one (ds_ret (dq_e de_bl))) db_nil)
      (db_one (ds_ret (dq_e (de_cmp (od_eq O) (de_q (dq_srt (de_var (pv 0)) (by rfl) b_sorted)) (de_q (dq_listRg (drg_1 (de_callB cd_len (by rfl) b_len (by decide +kernel) (da_cons (de_var (pv 0)) da_nil)) (by rfl) b_range) O (by rfl) b_list)))))))
theorem sc_is_value_in : FnScope ["kind", "value"] ["kind", "value"] (defScope s_is_value_in) := ⟨rfl, rfl, rfl, by decide +kernel, rfl, by decide +kernel, by decide +kernel⟩
theorem kp_is_value_in (T : Txt P K mg ad fds tb) (B : ∀ j, j < 1 → TabB base mg (tb j).1 (tb j).2) : Kp P WW.w K mg base 4 (ad 7) (fds 7) ["kind", "value"] F_is_value_in := by
  obtain ⟨t_SHARES, c_SHARES⟩ := T.c_SHARES
  obtain ⟨t_SUMS, c_SUMS⟩ := T.c_SUMS
  obtain ⟨t_WORDS, c_WORDS⟩ := T.c_WORDS
  exact Kp.of (k := 2) T.d_is_value_in.fn sc_is_value_in fun cdv A outer s H O hr => by
    unfold f_is_value_in
    exact (db_cons (ds_if (dt_cmp (od_eq O) (de_var (pv 0)) (de_const (v := .str "words") (pe_glob (by rfl) c_WORDS ⟨_, rfl⟩) fun _ => .str _)) (db_one (ds_ret (dq_call O (kp_is_letters T B) (hr.mono (by decide)) (by rfl) T.d_is_letters.m T.d_is_letters.fn.kp T.d_is_letters.b (dar_e (de_var (pv 1)) dar_nil)))) db_nil)
      (db_cons (ds_if (dt_cmp (od_eq O) (de_var (pv 0)) (de_const (v := .str "sums") (pe_glob (by rfl) c_SUMS ⟨_, rfl⟩) fun _ => .str _)) (db_one (ds_ret (dq_call O (kp_is_whole T B) (hr.mono (by decide)) (by rfl) T.d_is_whole.m T.d_is_whole.fn.kp T.d_is_whole.b (dar_e (de_var (pv 1)) dar_nil)))) db_nil)
      (db_one (ds_ret (dq_e (de_if (dt_cmp (od_eq O) (de_var (pv 0)) (de_const (v := .str "shares") (pe_glob (by rfl) c_SHARES ⟨_, rfl⟩) fun _ => .str _)) (de_q (dq_call O (kp_is_share T B) (hr.mono (by decide)) (by rfl) T.d_is_share.m T.d_is_share.fn.kp T.d_is_share.b (dar_e (de_var (pv 1)) dar_nil))) (de_q (dq_call O (kp_is_move T B) (hr.mono (by decide)) (by rfl) T.d_is_move.m T.d_is_move.fn.kp T.d_is_move.b (dar_e (de_var (pv 1)) dar_nil)))))))))
theorem sc_lowered : FnScope ["top", "bottom", "common"] ["top", "bottom"] (defScope s_lowered) := ⟨rfl, rfl, rfl, by decide +kernel, rfl, by decide +kernel, by decide +kernel⟩
theorem kp_lowered (T : Txt P K mg ad fds tb) (B : ∀ j, j < 1 → TabB base mg (tb j).1 (tb j).2) : Kp P WW.w K mg base 3 (ad 8) (fds 8) ["top", "bottom"] F_lowered := by
  exact Kp.of (k := 1) T.d_lowered.fn sc_lowered fun cdv A outer s H O hr => by
    unfold f_lowered
    exact (db_cons (ds_set (i := 2) O rfl (Or.inl rfl) (dq_call O (kp_divisor_of T B) (hr.mono (by decide)) (by rfl) T.d_divisor_of.m T.d_divisor_of.fn.kp T.d_divisor_of.b (dar_e (de_var (pv 0)) (dar_e (de_var (pv 1)) dar_nil))))
      (db_one (ds_ret (dq_e (de_tup (da_cons (de_bin od_fdiv (de_var (pv 0)) (de_var (pv 2))) (da_cons (de_bin od_fdiv (de_var (pv 1)) (de_var (pv 2))) da_nil)))))))
theorem sc_multiplied : FnScope ["kind", "one", "other", "place"] ["kind", "one", "other"] (defScope s_multiplied) := ⟨rfl, rfl, rfl, by decide +kernel, rfl, by decide +kernel, by decide +kernel⟩
theorem kp_multiplied (T : Txt P K mg ad fds tb) (B : ∀ j, j < 1 → TabB base mg (tb j).1 (tb j).2) : Kp P WW.w K mg base 4 (ad 9) (fds 9) ["kind", "one", "other"] F_multiplied := by
  have b_tuple := T.b_tuple
  obtain ⟨t_SHARES, c_SHARES⟩ := T.c_SHARES
  obtain ⟨t_SUMS, c_SUMS⟩ := T.c_SUMS
  obtain ⟨t_WORDS, c_WORDS⟩ := T.c_WORDS
  exact Kp.of (k := 2) T.d_multiplied.fn sc_multiplied fun cdv A outer s H O hr => by
    unfold f_multiplied
    exact (db_cons (ds_if (dt_cmp (od_in O) (de_var (pv 0)) (de_tup (da_cons (de_const (v := .str "words") (pe_glob (by rfl) c_WORDS ⟨_, rfl⟩) fun _ => .str _) (da_cons (de_const (v := .str "sums") (pe_glob (by rfl) c_SUMS ⟨_, rfl⟩) fun _ => .str _) da_nil)))) (db_one (ds_ret (dq_e (de_bin od_add (de_var (pv 1)) (de_var (pv 2)))))) db_nil)
      (db_cons (ds_if (dt_cmp (od_eq O) (de_var (pv 0)) (de_const (v := .str "shares") (pe_glob (by rfl) c_SHARES ⟨_, rfl⟩) fun _ => .str _)) (db_one (ds_ret (dq_call O (kp_lowered T B) (hr.mono (by decide)) (by rfl) T.d_lowered.m T.d_lowered.fn.kp T.d_lowered.b (dar_e (de_bin od_mul (de_ix (de_var (pv 1)) de_int) (de_ix (de_var (pv 2)) de_int)) (dar_e (de_bin od_mul (de_ix (de_var (pv 1)) de_int) (de_ix (de_var (pv 2)) de_int)) dar_nil))))) db_nil)
      (db_one (ds_ret (dq_e (de_tupOf (de_q (dq_lc (own := [(("place" : Str), 3)]) O (di_e (de_var (pv 1))) (blkOk_by (N := ["kind", "one", "other", "place"]) (sc := defScope s_multiplied) (by decide +kernel)) (fun s1 H1 C1 cl1 fp1 => (dg_name (i := 3) (O.blk s1 H1 C1 cl1 fp1) rfl (Or.inl rfl))) (fun s1 H1 C1 cl1 fp1 => dts_nil) (fun s1 H1 C1 cl1 fp1 => (de_ix (de_var (pv 2)) (de_var (pv 3)))) (by decide))) (by rfl) b_tuple))))))
theorem sc_taken_back : FnScope ["kind", "value", "place"] ["kind", "value"] (defScope s_taken_back) := ⟨rfl, rfl, rfl, by decide +kernel, rfl, by decide +kernel, by decide +kernel⟩
theorem kp_taken_back (T : Txt P K mg ad fds tb) (B : ∀ j, j < 1 → TabB base mg (tb j).1 (tb j).2) : Kp P WW.w K mg base 2 (ad 10) (fds 10) ["kind", "value"] F_taken_back := by
  have b_len := T.b_len
  have b_range := T.b_range
  have b_tuple := T.b_tuple
  obtain ⟨t_SHARES, c_SHARES⟩ := T.c_SHARES
  obtain ⟨t_SUMS, c_SUMS⟩ := T.c_SUMS
  exact Kp.of (k := 0) T.d_taken_back.fn sc_taken_back fun cdv A outer s H O hr => by
    unfold f_taken_back
    exact (db_cons (ds_if (dt_cmp (od_eq O) (de_var (pv 0)) (de_const (v := .str "sums") (pe_glob (by rfl) c_SUMS ⟨_, rfl⟩) fun _ => .str _)) (db_one (ds_ret (dq_e (de_neg (de_var (pv 1)))))) db_nil)
      (db_cons (ds_if (dt_cmp (od_eq O) (de_var (pv 0)) (de_const (v := .str "shares") (pe_glob (by rfl) c_SHARES ⟨_, rfl⟩) fun _ => .str _)) (db_one (ds_ret (dq_e (de_tup (da_cons (de_ix (de_var (pv 1)) de_int) (da_cons (de_ix (de_var (pv 1)) de_int) da_nil)))))) db_nil)
      (db_one (ds_ret (dq_e (de_tupOf (de_q (dq_lc (own := [(("place" : Str), 2)]) O (di_range1 (by rfl) b_range (da_cons (de_callB cd_len (by rfl) b_len (by decide +kernel) (da_cons (de_var (pv 1)) da_nil)) da_nil)) (blkOk_by (N := ["kind", "value", "place"]) (sc := defScope s_taken_back) (by decide +kernel)) (fun s1 H1 C1 cl1 fp1 => (dg_name (i := 2) (O.blk s1 H1 C1 cl1 fp1) rfl (Or.inl rfl))) (fun s1 H1 C1 cl1 fp1 => dts_nil) (fun s1 H1 C1 cl1 fp1 => (de_bmT PySem.F.slot_tuple_index PySem.F.type_tuple_index (md_index (O.blk s1 H1 C1 cl1 fp1)) indexD_tup (de_var (pv 1)) (da_cons (de_var (pv 2)) da_nil))) (by decide))) (by rfl) b_tuple))))))
theorem sc_shortened : FnScope ["one", "other", "many"] ["one", "other"] (defScope s_shortened) := ⟨rfl, rfl, rfl, by decide +kernel, rfl, by decide +kernel, by decide +kernel⟩
theorem kp_shortened (T : Txt P K mg ad fds tb) (B : ∀ j, j < 1 → TabB base mg (tb j).1 (tb j).2) : Kp P WW.w K mg base 3 (ad 11) (fds 11) ["one", "other"] F_shortened := by
  exact Kp.of (k := 1) T.d_shortened.fn sc_shortened fun cdv A outer s H O hr => by
    unfold f_shortened
    exact (db_cons (ds_set (i := 2) O rfl (Or.inl rfl) (dq_call O (kp_common_length T B) (hr.mono (by decide)) (by rfl) T.d_common_length.m T.d_common_length.fn.kp T.d_common_length.b (dar_e (de_var (pv 0)) (dar_e (de_var (pv 1)) dar_nil))))
      (db_one (ds_ret (dq_e (de_tup (da_cons (de_sl (de_var (pv 0)) (do_some (de_var (pv 2))) do_none) (da_cons (de_sl (de_var (pv 1)) (do_some (de_var (pv 2))) do_none) da_nil)))))))
theorem sc_lead_led : FnScope ["kind", "lead", "left", "right"] ["kind", "lead", "left", "right"] (defScope s_lead_led) := ⟨rfl, rfl, rfl, by decide +kernel, rfl, by decide +kernel, by decide +kernel⟩
theorem kp_lead_led (T : Txt P K mg ad fds tb) (B : ∀ j, j < 1 → TabB base mg (tb j).1 (tb j).2) : Kp P WW.w K mg base 5 (ad 12) (fds 12) ["kind", "lead", "left", "right"] F_lead_led := by
  obtain ⟨t_WORDS, c_WORDS⟩ := T.c_WORDS
  exact Kp.of (k := 3) T.d_lead_led.fn sc_lead_led fun cdv A outer s H O hr => by
    unfold f_lead_led
    exact (db_cons (ds_if (dt_cmp (od_eq O) (de_var (pv 0)) (de_const (v := .str "words") (pe_glob (by rfl) c_WORDS ⟨_, rfl⟩) fun _ => .str _)) (db_one (ds_ret (dq_call O (kp_shortened T B) (hr.mono (by decide)) (by rfl) T.d_shortened.m T.d_shortened.fn.kp T.d_shortened.b (dar_e (de_bin od_add (de_ix (de_var (pv 1)) de_int) (de_var (pv 2))) (dar_e (de_bin od_add (de_ix (de_var (pv 1)) de_int) (de_var (pv 3))) dar_nil))))) db_nil)
      (db_one (ds_ret (dq_call O (kp_multiplied T B) (hr.mono (by decide)) (by rfl) T.d_multiplied.m T.d_multiplied.fn.kp T.d_multiplied.b (dar_e (de_var (pv 0)) (dar_e (de_q (dq_call O (kp_multiplied T B) (hr.mono (by decide)) (by rfl) T.d_multiplied.m T.d_multiplied.fn.kp T.d_multiplied.b (dar_e (de_var (pv 0)) (dar_e (de_q (dq_call O (kp_taken_back T B) (hr.mono (by decide)) (by rfl) T.d_taken_back.m T.d_taken_back.fn.kp T.d_taken_back.b (dar_e (de_var (pv 0)) (dar_e (de_var (pv 2)) dar_nil)))) (dar_e (de_var (pv 1)) dar_nil))))) (dar_e (de_var (pv 3)) dar_nil)))))))
theorem sc_is_lead_in : FnScope ["kind", "value", "one"] ["kind", "value"] (defScope s_is_lead_in) := ⟨rfl, rfl, rfl, by decide +kernel, rfl, by decide +kernel, by decide +kernel⟩
theorem kp_is_lead_in (T : Txt P K mg ad fds tb) (B : ∀ j, j < 1 → TabB base mg (tb j).1 (tb j).2) : Kp P WW.w K mg base 5 (ad 13) (fds 13) ["kind", "value"] F_is_lead_in := by
  have b_all := T.b_all
  obtain ⟨t_WORDS, c_WORDS⟩ := T.c_WORDS
  exact Kp.of (k := 3) T.d_is_lead_in.fn sc_is_lead_in fun cdv A outer s H O hr => by
    unfold f_is_lead_in
    exact (db_cons (ds_if (dt_cmp (od_ne O) (de_var (pv 0)) (de_const (v := .str "words") (pe_glob (by rfl) c_WORDS ⟨_, rfl⟩) fun _ => .str _)) (db_one (ds_ret (dq_call O (kp_is_value_in T B) (hr.mono (by decide)) (by rfl) T.d_is_value_in.m T.d_is_value_in.fn.kp T.d_is_value_in.b (dar_e (de_var (pv 0)) (dar_e (de_var (pv 1)) dar_nil))))) db_nil)
      (db_cons (ds_if (dt_w (dw_or (dt_not (dt_tru (de_q (dq_call O (kp_is_pair T B) (hr.mono (by decide)) (by rfl) T.d_is_pair.m T.d_is_pair.fn.kp T.d_is_pair.b (dar_e (de_var (pv 1)) dar_nil))))) (dw_or1 (dt_not (dt_tru (de_callB (cd_all O) (by rfl) b_all (by decide +kernel) (da_cons (de_q (dq_lc (own := [(("one" : Str), 2)]) O (di_e (de_var (pv 1))) (blkOk_by (N := ["kind", "value", "one"]) (sc := defScope s_is_lead_in) (by decide +kernel)) (fun s1 H1 C1 cl1 fp1 => (dg_name (i := 2) (O.blk s1 H1 C1 cl1 fp1) rfl (Or.inl rfl))) (fun s1 H1 C1 cl1 fp1 => dts_nil) (fun s1 H1 C1 cl1 fp1 => (de_q (dq_call (O.blk s1 H1 C1 cl1 fp1) (kp_is_letters T B) (hr.mono (by decide)) (by rfl) T.d_is_letters.m T.d_is_letters.fn.kp T.d_is_letters.b (dar_e (de_var (pv 2)) dar_nil)))) (by decide))) da_nil))))))) (db_one (ds_ret (dq_e de_bl))) db_nil)
      (db_one (ds_ret (dq_e (de_or (de_cmp (od_in O) de_str (de_var (pv 1))) (de_one (de_cmp (od_ne O) (de_ix (de_ix (de_var (pv 1)) de_int) de_int) (de_ix (de_ix (de_var (pv 1)) de_int) de_int)))))))))
theorem sc_lead_moved : FnScope ["kind", "lead", "one", "other"] ["kind", "lead", "one", "other"] (defScope s_lead_moved) := ⟨rfl, rfl, rfl, by decide +kernel, rfl, by decide +kernel, by decide +kernel⟩
theorem kp_lead_moved (T : Txt P K mg ad fds tb) (B : ∀ j, j < 1 → TabB base mg (tb j).1 (tb j).2) : Kp P WW.w K mg base 6 (ad 14) (fds 14) ["kind", "lead", "one", "other"] F_lead_moved := by
  have b_isinstance := T.b_isinstance
  have b_len := T.b_len
  have b_str := T.b_str
  have c_KINDS := T.c_KINDS
  obtain ⟨t_MOVES, c_MOVES⟩ := T.c_MOVES
  exact Kp.of (k := 4) T.d_lead_moved.fn sc_lead_moved fun cdv A outer s H O hr => by
    unfold f_lead_moved
    exact (db_cons (ds_if (dt_w (dw_or (dt_not (dt_tru (de_isi (de_var (pv 0)) (by rfl) b_isinstance (pe_bltn (v := .ty "str") (by rfl) b_str (by decide +kernel) rfl)))) (dw_or1 (dt_cmp (od_notin O) (de_var (pv 0)) (c_KINDS.de (by rfl)))))) (db_one ds_never) db_nil)
      (db_cons (ds_if (dt_w (dw_or (dt_not (dt_tru (de_q (dq_call O (kp_is_lead_in T B) (hr.mono (by decide)) (by rfl) T.d_is_lead_in.m T.d_is_lead_in.fn.kp T.d_is_lead_in.b (dar_e (de_var (pv 0)) (dar_e (de_var (pv 1)) dar_nil)))))) (dw_or (dt_not (dt_tru (de_q (dq_call O (kp_is_value_in T B) (hr.mono (by decide)) (by rfl) T.d_is_value_in.m T.d_is_value_in.fn.kp T.d_is_value_in.b (dar_e (de_var (pv 0)) (dar_e (de_var (pv 2)) dar_nil)))))) (dw_or1 (dt_not (dt_tru (de_q (dq_call O (kp_is_value_in T B) (hr.mono (by decide)) (by rfl) T.d_is_value_in.m T.d_is_value_in.fn.kp T.d_is_value_in.b (dar_e (de_var (pv 0)) (dar_e (de_var (pv 3)) dar_nil)))))))))) (db_one ds_never) db_nil)
      (db_cons (ds_if (dt_w (dw_and (dt_cmp (od_eq O) (de_var (pv 0)) (de_const (v := .str "moves") (pe_glob (by rfl) c_MOVES ⟨_, rfl⟩) fun _ => .str _)) (dw_and1 (dt_not (dt_chain (od_eq O) (od_eq O) (de_callB cd_len (by rfl) b_len (by decide +kernel) (da_cons (de_var (pv 1)) da_nil)) (de_callB cd_len (by rfl) b_len (by decide +kernel) (da_cons (de_var (pv 2)) da_nil)) (de_callB cd_len (by rfl) b_len (by decide +kernel) (da_cons (de_var (pv 3)) da_nil))))))) (db_one ds_never) db_nil)
      (db_one (ds_ret (dq_call O (kp_lead_led T B) (hr.mono (by decide)) (by rfl) T.d_lead_led.m T.d_lead_led.fn.kp T.d_lead_led.b (dar_e (de_var (pv 0)) (dar_e (de_var (pv 1)) (dar_e (de_var (pv 2)) (dar_e (de_var (pv 3)) dar_nil))))))))))
theorem kx_lead_moved (T : Txt P K mg ad fds tb) (B : ∀ j, j < 1 → TabB base mg (tb j).1 (tb j).2) : Kx P WW.w K mg base 6 (ad 14) (fds 14) ["kind", "lead", "one", "other"] FX_lead_moved := by
  have b_isinstance := T.b_isinstance
  have b_len := T.b_len
  have b_str := T.b_str
  have c_KINDS := T.c_KINDS
  obtain ⟨t_MOVES, c_MOVES⟩ := T.c_MOVES
  exact Kx.of (k := 4) T.d_lead_moved.fn sc_lead_moved fun cdv A outer s H E O hr => by
    unfold fx_lead_moved
    exact (dbx_cons (dsx_if (dt_w (dw_or (dt_not (dt_tru (de_isi (de_var (pv 0)) (by rfl) b_isinstance (pe_bltn (v := .ty "str") (by rfl) b_str (by decide +kernel) rfl)))) (dw_or1 (dt_cmp (od_notin O) (de_var (pv 0)) (c_KINDS.de (by rfl)))))) (dbx_one (dsx_raise O T.x_InvalidOperation (by rfl))) (dbx_of db_nil))
      (dbx_cons (dsx_if (dt_w (dw_or (dt_not (dt_tru (de_q (dq_call O (kp_is_lead_in T B) (hr.mono (by decide)) (by rfl) T.d_is_lead_in.m T.d_is_lead_in.fn.kp T.d_is_lead_in.b (dar_e (de_var (pv 0)) (dar_e (de_var (pv 1)) dar_nil)))))) (dw_or (dt_not (dt_tru (de_q (dq_call O (kp_is_value_in T B) (hr.mono (by decide)) (by rfl) T.d_is_value_in.m T.d_is_value_in.fn.kp T.d_is_value_in.b (dar_e (de_var (pv 0)) (dar_e (de_var (pv 2)) dar_nil)))))) (dw_or1 (dt_not (dt_tru (de_q (dq_call O (kp_is_value_in T B) (hr.mono (by decide)) (by rfl) T.d_is_value_in.m T.d_is_value_in.fn.kp T.d_is_value_in.b (dar_e (de_var (pv 0)) (dar_e (de_var (pv 3)) dar_nil)))))))))) (dbx_one (dsx_raise O T.x_InvalidOperation (by rfl))) (dbx_of db_nil))
      (dbx_cons (dsx_if (dt_w (dw_and (dt_cmp (od_eq O) (de_var (pv 0)) (de_const (v := .str "moves") (pe_glob (by rfl) c_MOVES ⟨_, rfl⟩) fun _ => .str _)) (dw_and1 (dt_not (dt_chain (od_eq O) (od_eq O) (de_callB cd_len (by rfl) b_len (by decide +kernel) (da_cons (de_var (pv 1)) da_nil)) (de_callB cd_len (by rfl) b_len (by decide +kernel) (da_cons (de_var (pv 2)) da_nil)) (de_callB cd_len (by rfl) b_len (by decide +kernel) (da_cons (de_var (pv 3)) da_nil))))))) (dbx_one (dsx_raise O T.x_InvalidOperation (by rfl))) (dbx_of db_nil))
      (dbx_one (dsx_of (ds_ret (dq_call O (kp_lead_led T B) (hr.mono (by decide)) (by rfl) T.d_lead_led.m T.d_lead_led.fn.kp T.d_lead_led.b (dar_e (de_var (pv 0)) (dar_e (de_var (pv 1)) (dar_e (de_var (pv 2)) (dar_e (de_var (pv 3)) dar_nil)))))))))))
theorem sc__law_dice : FnScope ["script", "spot", "cell", "left"] ["script", "spot"] (defScope s__law_dice) := ⟨rfl, rfl, rfl, by decide +kernel, rfl, by decide +kernel, by decide +kernel⟩
theorem kp__law_dice (T : Txt P K mg ad fds tb) (B : ∀ j, j < 1 → TabB base mg (tb j).1 (tb j).2) : Kp P WW.w K mg base 2 (ad 15) (fds 15) ["script", "spot"] F__law_dice := by
  have b_abs := T.b_abs
  have b_int := T.b_int
  have b_len := T.b_len
  have b_max := T.b_max
  exact Kp.of (k := 0) T.d__law_dice.fn sc__law_dice fun cdv A outer s H O hr => by
    unfold f__law_dice
    exact (db_cons (ds_set (i := 2) O rfl (Or.inl rfl) (dq_e (de_if (dt_cmp od_lt (de_var (pv 1)) (de_callB cd_len (by rfl) b_len (by decide +kernel) (da_cons (de_var (pv 0)) da_nil))) (de_callT cd_int (by rfl) b_int (by decide +kernel) (da_cons (de_ix (de_var (pv 0)) (de_var (pv 1))) da_nil)) (de_bin od_add (de_bin od_mul de_int (de_var (pv 1))) de_int))))
      (db_cons (ds_set (i := 3) O rfl (Or.inl rfl) (dq_e (de_bin od_mod (de_callB (cd_max2 O) (by rfl) b_max (by decide +kernel) (da_cons de_int (da_cons (de_bin od_sub (de_callB cd_abs (by rfl) b_abs (by decide +kernel) (da_cons (de_var (pv 2)) da_nil)) (de_bin od_pow de_int de_int)) da_nil))) (de_bin od_mul (de_bin od_pow de_int de_int) (de_bin od_pow de_int de_int)))))
      (db_one (ds_ret (dq_lst (da_cons (de_var (pv 3)) (da_cons (de_bin od_add (de_bin od_add (de_bin od_add (de_bin od_mul (de_bin od_mod (de_callB cd_abs (by rfl) b_abs (by decide +kernel) (da_cons (de_var (pv 2)) da_nil)) de_int) de_int) (de_bin od_mul de_int (de_var (pv 1)))) (de_bin od_mul de_int (de_callT cd_int (by rfl) b_int (by decide +kernel) (da_cons (de_cmp od_lt (de_var (pv 2)) de_int) da_nil)))) de_int) (da_cons de_int da_nil))))))))
theorem sc__law_roll : FnScope ["dice", "total", "found", "one", "two"] ["dice", "total"] (defScope s__law_roll) := ⟨rfl, rfl, rfl, by decide +kernel, rfl, by decide +kernel, by decide +kernel⟩
theorem kp__law_roll (T : Txt P K mg ad fds tb) (B : ∀ j, j < 1 → TabB base mg (tb j).1 (tb j).2) : Kp P WW.w K mg base 2 (ad 16) (fds 16) ["dice", "total"] F__law_roll := by
  have b_int := T.b_int
  exact Kp.of (k := 0) T.d__law_roll.fn sc__law_roll fun cdv A outer s H O hr => by
    unfold f__law_roll
    exact (db_cons (ds_if (dt_cmp od_gt (de_ixO (pv 0) de_int) de_int) (db_cons (ds_set (i := 2) O rfl (Or.inl rfl) (dq_e (de_bin od_mod (de_callT cd_int (by rfl) b_int (by decide +kernel) (da_cons (de_ixO (pv 0) de_int) da_nil)) (de_var (pv 1)))))
      (db_cons (ds_setO (i := 0) (pv 0) (de_bin od_fdiv (de_ixO (pv 0) de_int) (de_var (pv 1))) de_int)
      (db_one (ds_ret (dq_e (de_var (pv 2))))))) db_nil)
      (db_cons (ds_setO (i := 0) (pv 0) (de_bin od_add (de_ixO (pv 0) de_int) de_int) de_int)
      (db_cons (ds_set (i := 3) O rfl (Or.inl rfl) (dq_e (de_bin od_mod (de_callT cd_int (by rfl) b_int (by decide +kernel) (da_cons (de_bin od_add (de_ixO (pv 0) de_int) (de_bin od_mul de_int (de_ixO (pv 0) de_int))) da_nil)) de_int)))
      (db_cons (ds_set (i := 4) O rfl (Or.inl rfl) (dq_e (de_bin od_add (de_bin od_mul (de_bin od_mod (de_callT cd_int (by rfl) b_int (by decide +kernel) (da_cons (de_bin od_add (de_bin od_mul (de_var (pv 3)) (de_var (pv 3))) (de_bin od_mul de_int (de_ixO (pv 0) de_int))) da_nil)) de_int) de_int) (de_var (pv 3)))))
      (db_one (ds_ret (dq_e (de_bin od_mod (de_callT cd_int (by rfl) b_int (by decide +kernel) (da_cons (de_bin od_fdiv (de_var (pv 4)) de_int) da_nil)) (de_var (pv 1))))))))))
theorem sc__law_pick : FnScope ["dice", "items"] ["dice", "items"] (defScope s__law_pick) := ⟨rfl, rfl, rfl, by decide +kernel, rfl, by decide +kernel, by decide +kernel⟩
theorem kp__law_pick (T : Txt P K mg ad fds tb) (B : ∀ j, j < 1 → TabB base mg (tb j).1 (tb j).2) : Kp P WW.w K mg base 3 (ad 17) (fds 17) ["dice", "items"] F__law_pick := by
  have b_len := T.b_len
  exact Kp.of (k := 1) T.d__law_pick.fn sc__law_pick fun cdv A outer s H O hr => by
    unfold f__law_pick
    exact (db_one (ds_ret (dq_e (de_ix (de_var (pv 1)) (de_q (dq_call O (kp__law_roll T B) (hr.mono (by decide)) (by rfl) T.d__law_roll.m T.d__law_roll.fn.kp T.d__law_roll.b (dar_b (pv 0) (dar_e (de_callB cd_len (by rfl) b_len (by decide +kernel) (da_cons (de_var (pv 1)) da_nil)) dar_nil))))))))
theorem sc__law_mixed : FnScope ["dice", "items", "left", "found", "turn"] ["dice", "items"] (defScope s__law_mixed) := ⟨rfl, rfl, rfl, by decide +kernel, rfl, by decide +kernel, by decide +kernel⟩
theorem kp__law_mixed (T : Txt P K mg ad fds tb) (B : ∀ j, j < 1 → TabB base mg (tb j).1 (tb j).2) : Kp P WW.w K mg base 3 (ad 18) (fds 18) ["dice", "items"] F__law_mixed := by
  have b_len := T.b_len
  have b_list := T.b_list
  have b_range := T.b_range
  exact Kp.of (k := 1) T.d__law_mixed.fn sc__law_mixed fun cdv A outer s H O hr => by
    unfold f__law_mixed
    exact (db_cons (ds_par (i := 2) (j := 3) O rfl rfl (by decide) rfl rfl (dq_list (de_var (pv 1)) (by rfl) b_list) (dq_lst da_nil))
      (db_cons (ds_for O (di_range1 (by rfl) b_range (da_cons (de_callB cd_len (by rfl) b_len (by decide +kernel) (da_cons (de_var (pv 1)) da_nil)) da_nil)) (dg_name (i := 4) O rfl (Or.inl rfl)) (db_one (ds_app (pv 3) (de_popAt (pv 2) (de_q (dq_call O (kp__law_roll T B) (hr.mono (by decide)) (by rfl) T.d__law_roll.m T.d__law_roll.fn.kp T.d__law_roll.b (dar_b (pv 0) (dar_e (de_lenO (pv 2) (by rfl) b_len) dar_nil))))))))
      (db_one (ds_retO (pv 3)))))
theorem sc__law_times : FnScope ["kind", "one", "other", "place", "top", "bottom", "left", "right"] ["kind", "one", "other"] (defScope s__law_times) := ⟨rfl, rfl, rfl, by decide +kernel, rfl, by decide +kernel, by decide +kernel⟩
theorem kp__law_times (T : Txt P K mg ad fds tb) (B : ∀ j, j < 1 → TabB base mg (tb j).1 (tb j).2) : Kp P WW.w K mg base 2 (ad 19) (fds 19) ["kind", "one", "other"] F__law_times := by
  have b_tuple := T.b_tuple
  exact Kp.of (k := 0) T.d__law_times.fn sc__law_times fun cdv A outer s H O hr => by
    unfold f__law_times
    exact (db_cons (ds_if (dt_cmp (od_in O) (de_var (pv 0)) (de_tup (da_cons de_str (da_cons de_str da_nil)))) (db_one (ds_ret (dq_e (de_bin od_add (de_var (pv 1)) (de_var (pv 2)))))) db_nil)
      (db_cons (ds_if (dt_cmp (od_eq O) (de_var (pv 0)) de_str) (db_one (ds_ret (dq_e (de_tupOf (de_q (dq_lc (own := [(("place" : Str), 3)]) O (di_e (de_var (pv 1))) (blkOk_by (N := ["kind", "one", "other", "place", "top", "bottom", "left", "right"]) (sc := defScope s__law_times) (by decide +kernel)) (fun s1 H1 C1 cl1 fp1 => (dg_name (i := 3) (O.blk s1 H1 C1 cl1 fp1) rfl (Or.inl rfl))) (fun s1 H1 C1 cl1 fp1 => dts_nil) (fun s1 H1 C1 cl1 fp1 => (de_ix (de_var (pv 2)) (de_var (pv 3)))) (by decide))) (by rfl) b_tuple)))) db_nil)
      (db_cons (ds_par (i := 4) (j := 5) O rfl rfl (by decide) rfl rfl (dq_e (de_bin od_mul (de_ix (de_var (pv 1)) de_int) (de_ix (de_var (pv 2)) de_int))) (dq_e (de_bin od_mul (de_ix (de_var (pv 1)) de_int) (de_ix (de_var (pv 2)) de_int))))
      (db_cons (ds_par (i := 6) (j := 7) O rfl rfl (by decide) rfl rfl (dq_e (de_var (pv 4))) (dq_e (de_var (pv 5))))
      (db_cons (ds_w O (dt_cmp od_gt (de_var (pv 7)) de_int) (db_one (ds_par (i := 6) (j := 7) O rfl rfl (by decide) rfl rfl (dq_e (de_var (pv 7))) (dq_e (de_bin od_mod (de_var (pv 6)) (de_var (pv 7)))))))
      (db_one (ds_ret (dq_e (de_tup (da_cons (de_bin od_fdiv (de_var (pv 4)) (de_var (pv 6))) (da_cons (de_bin od_fdiv (de_var (pv 5)) (de_var (pv 6))) da_nil)))))))))))
theorem sc__law_undone : FnScope ["kind", "value", "place"] ["kind", "value"] (defScope s__law_undone) := ⟨rfl, rfl, rfl, by decide +kernel, rfl, by decide +kernel, by decide +kernel⟩
theorem kp__law_undone (T : Txt P K mg ad fds tb) (B : ∀ j, j < 1 → TabB base mg (tb j).1 (tb j).2) : Kp P WW.w K mg base 2 (ad 20) (fds 20) ["kind", "value"] F__law_undone := by
  have b_len := T.b_len
  have b_range := T.b_range
  have b_tuple := T.b_tuple
  exact Kp.of (k := 0) T.d__law_undone.fn sc__law_undone fun cdv A outer s H O hr => by
    unfold f__law_undone
    exact (db_cons (ds_if (dt_cmp (od_eq O) (de_var (pv 0)) de_str) (db_one (ds_ret (dq_e (de_bin od_sub de_int (de_var (pv 1)))))) db_nil)
      (db_one (ds_ret (dq_e (de_if (dt_cmp (od_eq O) (de_var (pv 0)) de_str) (de_tup (da_cons (de_ix (de_var (pv 1)) de_int) (da_cons (de_ix (de_var (pv 1)) de_int) da_nil))) (de_tupOf (de_q (dq_lc (own := [(("place" : Str), 2)]) O (di_range1 (by rfl) b_range (da_cons (de_callB cd_len (by rfl) b_len (by decide +kernel) (da_cons (de_var (pv 1)) da_nil)) da_nil)) (blkOk_by (N := ["kind", "value", "place"]) (sc := defScope s__law_undone) (by decide +kernel)) (fun s1 H1 C1 cl1 fp1 => (dg_name (i := 2) (O.blk s1 H1 C1 cl1 fp1) rfl (Or.inl rfl))) (fun s1 H1 C1 cl1 fp1 => dts_nil) (fun s1 H1 C1 cl1 fp1 => (de_bmT PySem.F.slot_tuple_index PySem.F.type_tuple_index (md_index (O.blk s1 H1 C1 cl1 fp1)) indexD_tup (de_var (pv 1)) (da_cons (de_var (pv 2)) da_nil))) (by decide))) (by rfl) b_tuple))))))
theorem sc__law_parted : FnScope ["one", "other", "at"] ["one", "other"] (defScope s__law_parted) := ⟨rfl, rfl, rfl, by decide +kernel, rfl, by decide +kernel, by decide +kernel⟩
theorem kp__law_parted (T : Txt P K mg ad fds tb) (B : ∀ j, j < 1 → TabB base mg (tb j).1 (tb j).2) : Kp P WW.w K mg base 2 (ad 21) (fds 21) ["one", "other"] F__law_parted := by
  have b_len := T.b_len
  exact Kp.of (k := 0) T.d__law_parted.fn sc__law_parted fun cdv A outer s H O hr => by
    unfold f__law_parted
    exact (db_cons (ds_set (i := 2) O rfl (Or.inl rfl) (dq_e de_int))
      (db_cons (ds_w O (dt_w (dw_and (dt_cmp od_lt (de_var (pv 2)) (de_callB cd_len (by rfl) b_len (by decide +kernel) (da_cons (de_var (pv 0)) da_nil))) (dw_and (dt_cmp od_lt (de_var (pv 2)) (de_callB cd_len (by rfl) b_len (by decide +kernel) (da_cons (de_var (pv 1)) da_nil))) (dw_and1 (dt_cmp (od_eq O) (de_ix (de_var (pv 0)) (de_var (pv 2))) (de_ix (de_var (pv 1)) (de_var (pv 2)))))))) (db_one (ds_set (i := 2) O rfl (Or.inl rfl) (dq_e (de_bin od_add (de_var (pv 2)) de_int)))))
      (db_one (ds_ret (dq_e (de_tup (da_cons (de_sl (de_var (pv 0)) (do_some (de_var (pv 2))) do_none) (da_cons (de_sl (de_var (pv 1)) (do_some (de_var (pv 2))) do_none) da_nil))))))))
theorem sc__law_led : FnScope ["kind", "lead", "left", "right"] ["kind", "lead", "left", "right"] (defScope s__law_led) := ⟨rfl, rfl, rfl, by decide +kernel, rfl, by decide +kernel, by decide +kernel⟩
theorem kp__law_led (T : Txt P K mg ad fds tb) (B : ∀ j, j < 1 → TabB base mg (tb j).1 (tb j).2) : Kp P WW.w K mg base 3 (ad 22) (fds 22) ["kind", "lead", "left", "right"] F__law_led := by
  exact Kp.of (k := 1) T.d__law_led.fn sc__law_led fun cdv A outer s H O hr => by
    unfold f__law_led
    exact (db_cons (ds_if (dt_cmp (od_eq O) (de_var (pv 0)) de_str) (db_one (ds_ret (dq_call O (kp__law_parted T B) (hr.mono (by decide)) (by rfl) T.d__law_parted.m T.d__law_parted.fn.kp T.d__law_parted.b (dar_e (de_bin od_add (de_ix (de_var (pv 1)) de_int) (de_var (pv 2))) (dar_e (de_bin od_add (de_ix (de_var (pv 1)) de_int) (de_var (pv 3))) dar_nil))))) db_nil)
      (db_one (ds_ret (dq_call O (kp__law_times T B) (hr.mono (by decide)) (by rfl) T.d__law_times.m T.d__law_times.fn.kp T.d__law_times.b (dar_e (de_var (pv 0)) (dar_e (de_q (dq_call O (kp__law_times T B) (hr.mono (by decide)) (by rfl) T.d__law_times.m T.d__law_times.fn.kp T.d__law_times.b (dar_e (de_var (pv 0)) (dar_e (de_q (dq_call O (kp__law_undone T B) (hr.mono (by decide)) (by rfl) T.d__law_undone.m T.d__law_undone.fn.kp T.d__law_undone.b (dar_e (de_var (pv 0)) (dar_e (de_var (pv 2)) dar_nil)))) (dar_e (de_var (pv 1)) dar_nil))))) (dar_e (de_var (pv 3)) dar_nil)))))))
theorem sc__law_word : FnScope ["dice", "signs", "most", "turn"] ["dice", "signs", "most"] (defScope s__law_word) := ⟨rfl, rfl, rfl, by decide +kernel, rfl, by decide +kernel, by decide +kernel⟩
theorem kp__law_word (T : Txt P K mg ad fds tb) (B : ∀ j, j < 1 → TabB base mg (tb j).1 (tb j).2) : Kp P WW.w K mg base 4 (ad 23) (fds 23) ["dice", "signs", "most"] F__law_word := by
  have b_range := T.b_range
  exact Kp.of (k := 2) T.d__law_word.fn sc__law_word fun cdv A outer s H O hr => by
    unfold f__law_word
    exact (db_one (ds_ret (dq_e (de_bmS PySem.F.slot_str_join PySem.F.type_str_join md_join joinD_str de_str (da_cons (de_q (dq_lc (own := [(("turn" : Str), 3)]) O (di_range1 (by rfl) b_range (da_cons (de_q (dq_call O (kp__law_roll T B) (hr.mono (by decide)) (by rfl) T.d__law_roll.m T.d__law_roll.fn.kp T.d__law_roll.b (dar_b (pv 0) (dar_e (de_bin od_add (de_var (pv 2)) de_int) dar_nil)))) da_nil)) (blkOk_by (N := ["dice", "signs", "most", "turn"]) (sc := defScope s__law_word) (by decide +kernel)) (fun s1 H1 C1 cl1 fp1 => (dg_name (i := 3) (O.blk s1 H1 C1 cl1 fp1) rfl (Or.inl rfl))) (fun s1 H1 C1 cl1 fp1 => dts_nil) (fun s1 H1 C1 cl1 fp1 => (de_q (dq_call (O.blk s1 H1 C1 cl1 fp1) (kp__law_pick T B) (hr.mono (by decide)) (by rfl) T.d__law_pick.m T.d__law_pick.fn.kp T.d__law_pick.b (dar_b (pv 0) (dar_e (de_var (pv 1)) dar_nil))))) (by decide))) da_nil)))))
theorem sc__law_value : FnScope ["dice", "kind", "size"] ["dice", "kind", "size"] (defScope s__law_value) := ⟨rfl, rfl, rfl, by decide +kernel, rfl, by decide +kernel, by decide +kernel⟩
theorem kp__law_value (T : Txt P K mg ad fds tb) (B : ∀ j, j < 1 → TabB base mg (tb j).1 (tb j).2) : Kp P WW.w K mg base 5 (ad 24) (fds 24) ["dice", "kind", "size"] F__law_value := by
  have b_list := T.b_list
  have b_range := T.b_range
  have b_tuple := T.b_tuple
  exact Kp.of (k := 3) T.d__law_value.fn sc__law_value fun cdv A outer s H O hr => by
    unfold f__law_value
    exact (db_cons (ds_if (dt_cmp (od_eq O) (de_var (pv 1)) de_str) (db_one (ds_ret (dq_call O (kp__law_word T B) (hr.mono (by decide)) (by rfl) T.d__law_word.m T.d__law_word.fn.kp T.d__law_word.b (dar_b (pv 0) (dar_e de_str (dar_e de_int dar_nil)))))) db_nil)
      (db_cons (ds_if (dt_cmp (od_eq O) (de_var (pv 1)) de_str) (db_one (ds_ret (dq_call O (kp__law_pick T B) (hr.mono (by decide)) (by rfl) T.d__law_pick.m T.d__law_pick.fn.kp T.d__law_pick.b (dar_b (pv 0) (dar_e (de_lst (da_cons de_int (da_cons de_int (da_cons de_int (da_cons de_int (da_cons (de_neg de_int) (da_cons de_int da_nil))))))) dar_nil))))) db_nil)
      (db_cons (ds_if (dt_cmp (od_eq O) (de_var (pv 1)) de_str) (db_one (ds_ret (dq_call O (kp__law_pick T B) (hr.mono (by decide)) (by rfl) T.d__law_pick.m T.d__law_pick.fn.kp T.d__law_pick.b (dar_b (pv 0) (dar_e (de_lst (da_cons (de_tup (da_cons de_int (da_cons de_int da_nil))) (da_cons (de_tup (da_cons de_int (da_cons de_int da_nil))) (da_cons (de_tup (da_cons de_int (da_cons de_int da_nil))) (da_cons (de_tup (da_cons de_int (da_cons de_int da_nil))) (da_cons (de_tup (da_cons de_int (da_cons de_int da_nil))) da_nil)))))) dar_nil))))) db_nil)
      (db_one (ds_ret (dq_e (de_if (dt_cmp (od_eq O) (de_q (dq_call O (kp__law_roll T B) (hr.mono (by decide)) (by rfl) T.d__law_roll.m T.d__law_roll.fn.kp T.d__law_roll.b (dar_b (pv 0) (dar_e de_int dar_nil)))) de_int) (de_tupOf (de_q (dq_call O (kp__law_mixed T B) (hr.mono (by decide)) (by rfl) T.d__law_mixed.m T.d__law_mixed.fn.kp T.d__law_mixed.b (dar_b (pv 0) (dar_e (de_q (dq_listRg (drg_1 (de_var (pv 2)) (by rfl) b_range) O (by rfl) b_list)) dar_nil)))) (by rfl) b_tuple) (de_tupRg (drg_1 (de_var (pv 2)) (by rfl) b_range) O (by rfl) b_tuple))))))))
theorem sc__law_great : FnScope ["dice", "kind", "size"] ["dice", "kind", "size"] (defScope s__law_great) := ⟨rfl, rfl, rfl, by decide +kernel, rfl, by decide +kernel, by decide +kernel⟩
theorem kp__law_great (T : Txt P K mg ad fds tb) (B : ∀ j, j < 1 → TabB base mg (tb j).1 (tb j).2) : Kp P WW.w K mg base 6 (ad 25) (fds 25) ["dice", "kind", "size"] F__law_great := by
  exact Kp.of (k := 4) T.d__law_great.fn sc__law_great fun cdv A outer s H O hr => by
    unfold f__law_great
    exact (db_cons (ds_if (dt_cmp (od_eq O) (de_var (pv 1)) de_str) (db_one (ds_ret (dq_e (de_bin od_mul (de_q (dq_call O (kp__law_word T B) (hr.mono (by decide)) (by rfl) T.d__law_word.m T.d__law_word.fn.kp T.d__law_word.b (dar_b (pv 0) (dar_e de_str (dar_e de_int dar_nil))))) (de_bin od_add de_int (de_q (dq_call O (kp__law_roll T B) (hr.mono (by decide)) (by rfl) T.d__law_roll.m T.d__law_roll.fn.kp T.d__law_roll.b (dar_b (pv 0) (dar_e de_int dar_nil))))))))) db_nil)
      (db_cons (ds_if (dt_cmp (od_eq O) (de_var (pv 1)) de_str) (db_one (ds_ret (dq_e (de_bin od_mul (de_bin od_mul (de_q (dq_call O (kp__law_pick T B) (hr.mono (by decide)) (by rfl) T.d__law_pick.m T.d__law_pick.fn.kp T.d__law_pick.b (dar_b (pv 0) (dar_e (de_lst (da_cons (de_neg de_int) (da_cons de_int da_nil))) dar_nil)))) (de_bin od_add (de_bin od_pow de_int de_int) (de_q (dq_call O (kp__law_roll T B) (hr.mono (by decide)) (by rfl) T.d__law_roll.m T.d__law_roll.fn.kp T.d__law_roll.b (dar_b (pv 0) (dar_e de_int dar_nil)))))) (de_q (dq_call O (kp__law_pick T B) (hr.mono (by decide)) (by rfl) T.d__law_pick.m T.d__law_pick.fn.kp T.d__law_pick.b (dar_b (pv 0) (dar_e (de_lst (da_cons de_int (da_cons (de_bin od_pow de_int de_int) (da_cons (de_bin od_pow de_int de_int) da_nil)))) dar_nil)))))))) db_nil)
      (db_cons (ds_if (dt_cmp (od_eq O) (de_var (pv 1)) de_str) (db_one (ds_ret (dq_call O (kp__law_times T B) (hr.mono (by decide)) (by rfl) T.d__law_times.m T.d__law_times.fn.kp T.d__law_times.b (dar_e (de_var (pv 1)) (dar_e (de_tup (da_cons (de_bin od_add de_int (de_q (dq_call O (kp__law_roll T B) (hr.mono (by decide)) (by rfl) T.d__law_roll.m T.d__law_roll.fn.kp T.d__law_roll.b (dar_b (pv 0) (dar_e (de_bin od_pow de_int de_int) dar_nil))))) (da_cons (de_bin od_add (de_bin od_pow de_int de_int) (de_q (dq_call O (kp__law_roll T B) (hr.mono (by decide)) (by rfl) T.d__law_roll.m T.d__law_roll.fn.kp T.d__law_roll.b (dar_b (pv 0) (dar_e de_int dar_nil))))) da_nil))) (dar_e (de_tup (da_cons de_int (da_cons de_int da_nil))) dar_nil)))))) db_nil)
      (db_one (ds_ret (dq_call O (kp__law_value T B) (hr.mono (by decide)) (by rfl) T.d__law_value.m T.d__law_value.fn.kp T.d__law_value.b (dar_b (pv 0) (dar_e (de_var (pv 1)) (dar_e (de_var (pv 2)) dar_nil)))))))))
theorem sc__law_lead : FnScope ["dice", "kind", "size", "one", "other"] ["dice", "kind", "size"] (defScope s__law_lead) := ⟨rfl, rfl, rfl, by decide +kernel, rfl, by decide +kernel, by decide +kernel⟩
theorem kp__law_lead (T : Txt P K mg ad fds tb) (B : ∀ j, j < 1 → TabB base mg (tb j).1 (tb j).2) : Kp P WW.w K mg base 7 (ad 26) (fds 26) ["dice", "kind", "size"] F__law_lead := by
  exact Kp.of (k := 5) T.d__law_lead.fn sc__law_lead fun cdv A outer s H O hr => by
    unfold f__law_lead
    exact (db_cons (ds_if (dt_cmp (od_eq O) (de_var (pv 1)) de_str) (db_cons (ds_par (i := 3) (j := 4) O rfl rfl (by decide) rfl rfl (dq_call O (kp__law_word T B) (hr.mono (by decide)) (by rfl) T.d__law_word.m T.d__law_word.fn.kp T.d__law_word.b (dar_b (pv 0) (dar_e de_str (dar_e de_int dar_nil)))) (dq_call O (kp__law_word T B) (hr.mono (by decide)) (by rfl) T.d__law_word.m T.d__law_word.fn.kp T.d__law_word.b (dar_b (pv 0) (dar_e de_str (dar_e de_int dar_nil)))))
      (db_one (ds_ret (dq_call O (kp__law_parted T B) (hr.mono (by decide)) (by rfl) T.d__law_parted.m T.d__law_parted.fn.kp T.d__law_parted.b (dar_e (de_var (pv 3)) (dar_e (de_var (pv 4)) dar_nil)))))) db_nil)
      (db_one (ds_ret (dq_e (de_if (dt_cmp od_gt (de_q (dq_call O (kp__law_roll T B) (hr.mono (by decide)) (by rfl) T.d__law_roll.m T.d__law_roll.fn.kp T.d__law_roll.b (dar_b (pv 0) (dar_e de_int dar_nil)))) de_int) (de_q (dq_call O (kp__law_value T B) (hr.mono (by decide)) (by rfl) T.d__law_value.m T.d__law_value.fn.kp T.d__law_value.b (dar_b (pv 0) (dar_e (de_var (pv 1)) (dar_e (de_var (pv 2)) dar_nil))))) (de_q (dq_call O (kp__law_great T B) (hr.mono (by decide)) (by rfl) T.d__law_great.m T.d__law_great.fn.kp T.d__law_great.b (dar_b (pv 0) (dar_e (de_var (pv 1)) (dar_e (de_var (pv 2)) dar_nil))))))))))
theorem sc__law_is_refused : FnScope ["call"] ["call"] (defScope s__law_is_refused) := ⟨rfl, rfl, rfl, by decide +kernel, rfl, by decide +kernel, by decide +kernel⟩
theorem kl__law_is_refused (T : Txt P K mg ad fds tb) (B : ∀ j, j < 1 → TabB base mg (tb j).1 (tb j).2) : Kl P WW.w K mg base 9 8 (ad 27) (fds 27) "call" hh__law_is_refused := by
  obtain ⟨C_InvalidOperation, m_InvalidOperation⟩ := T.m_InvalidOperation
  obtain ⟨C_InvalidOperation, m_InvalidOperation⟩ := T.m_InvalidOperation
  exact Kl.of (k := 7) T.d__law_is_refused.fn sc__law_is_refused fun cdv A outer s H O hr => by
    unfold hh__law_is_refused
    exact (tb_tryE rfl rfl rfl O.nd (hr.mono (by decide)) O.hg rfl (Or.inl rfl) T.ap__law_is_refused (.plain m_InvalidOperation (by rfl) (by decide) suite_bool HdL.nil) (by decide) (db_one (ds_ret (dq_e de_bl))))
theorem sc__law_are_refused : FnScope ["dice", "kind", "lead", "one", "other", "odd", "wrong", "calls", "call"] ["dice", "kind", "lead", "one", "other"] (defScope s__law_are_refused) := ⟨rfl, rfl, rfl, by decide +kernel, rfl, by decide +kernel, by decide +kernel⟩
theorem kp__law_are_refused (T : Txt P K mg ad fds tb) (B : ∀ j, j < 1 → TabB base mg (tb j).1 (tb j).2) : Kp P WW.w K mg base 10 (ad 28) (fds 28) ["dice", "kind", "lead", "one", "other"] F__law_are_refused := by
  have b_len := T.b_len
  have b_list := T.b_list
  have b_range := T.b_range
  have b_tuple := T.b_tuple
  exact Kp.ofC (k := 8) (c := (tb 0).1) T.d__law_are_refused.fn sc__law_are_refused T.u__law_are_refused fun A outer s H O hr => by
    unfold f__law_are_refused
    exact (db_cons (ds_set (i := 5) O rfl (Or.inl rfl) (dq_e (de_lst (da_cons de_non (da_cons de_str (da_cons (de_tup (da_cons de_int da_nil)) (da_cons (de_lst (da_cons de_int da_nil)) (da_cons de_bl (da_cons (de_tup (da_cons de_int (da_cons de_int da_nil))) (da_cons (de_tup (da_cons de_int (da_cons de_int da_nil))) (da_cons (de_tup (da_cons de_int (da_cons de_int da_nil))) (da_cons (de_tup (da_cons de_str (da_cons de_str da_nil))) (da_cons (de_tup (da_cons de_str da_nil)) (da_cons de_dict0 da_nil))))))))))))))
      (db_cons (ds_if (dt_cmp (od_eq O) (de_var (pv 1)) de_str) (db_one (ds_set (i := 5) O rfl (Or.inl rfl) (dq_e (de_bin od_add (de_var (pv 5)) (de_lst (da_cons (de_tupRg (drg_1 (de_bin od_add (de_callB cd_len (by rfl) b_len (by decide +kernel) (da_cons (de_var (pv 2)) da_nil)) de_int) (by rfl) b_range) O (by rfl) b_tuple) (da_cons (de_tup (da_cons de_int (da_cons de_int (da_cons de_int da_nil)))) (da_cons (de_tupOf (de_sl (de_q (dq_list (de_var (pv 2)) (by rfl) b_list)) do_none (do_some (de_neg de_int))) (by rfl) b_tuple) da_nil)))))))) db_nil)
      (db_cons (ds_set (i := 6) O rfl (Or.inr rfl) (dq_call O (kp__law_pick T B) (hr.mono (by decide)) (by rfl) T.d__law_pick.m T.d__law_pick.fn.kp T.d__law_pick.b (dar_b (pv 0) (dar_e (de_var (pv 5)) dar_nil))))
      (db_calls (k := 6) (cS := 8) (vs := [8]) (hh := hh__law_is_refused) (sp0 := (_, _, _)) (fx0 := (eXQ (qxCall FX_lead_moved (aE (fQ (qCall F__law_pick (aB 0 (aE (fLst (fCons (fC .none) (fCons (fC (.str "")) (fCons (fC (.str "sum")) (fCons (fC (.int 0)) (fCons (fTup (fCons (fC (.str "words")) fNil)) fNil)))))) aNil)))) (aE (fV 2) (aE (fV 3) (aE (fV 4) aNil))))))) (l := [((_, _, _), (eXQ (qxCall FX_lead_moved (aE (fV 1) (aE (fV 6) (aE (fV 3) (aE (fV 4) aNil))))))), ((_, _, _), (eXQ (qxCall FX_lead_moved (aE (fV 1) (aE (fV 2) (aE (fV 6) (aE (fV 4) aNil))))))), ((_, _, _), (eXQ (qxCall FX_lead_moved (aE (fV 1) (aE (fV 2) (aE (fV 3) (aE (fV 6) aNil)))))))]) T.v__law_are_refused (ps_set O.nd (i := 7) rfl (Or.inl rfl) (pe_lst (pa_cons (pe_lamO (B 0 (by decide)) rfl T.v__law_are_refused T.w__law_are_refused rfl (lamS_by (sc := defScope s__law_are_refused) (by decide +kernel))) pa_nil))) (.cons (ps_expr (pe_bm PySem.F.plainAttrs_list PySem.F.slot_list_append PySem.F.type_list_append mt_append (pv 7) (pa_cons (pe_lamO (B 0 (by decide)) rfl T.v__law_are_refused T.w__law_are_refused rfl (lamS_by (sc := defScope s__law_are_refused) (by decide +kernel))) pa_nil))) (.cons (ps_expr (pe_bm PySem.F.plainAttrs_list PySem.F.slot_list_append PySem.F.type_list_append mt_append (pv 7) (pa_cons (pe_lamO (B 0 (by decide)) rfl T.v__law_are_refused T.w__law_are_refused rfl (lamS_by (sc := defScope s__law_are_refused) (by decide +kernel))) pa_nil))) (.cons (ps_expr (pe_bm PySem.F.plainAttrs_list PySem.F.slot_list_append PySem.F.type_list_append mt_append (pv 7) (pa_cons (pe_lamO (B 0 (by decide)) rfl T.v__law_are_refused T.w__law_are_refused rfl (lamS_by (sc := defScope s__law_are_refused) (by decide +kernel))) pa_nil))) .nil))) (by exact ps_end (kk := 9) (hh := hh__law_is_refused) (ow := [(("call" : Str), 8)]) O (kl__law_is_refused T B) (hr.mono (by decide)) T.d__law_is_refused.m T.d__law_is_refused.fn.kp T.d__law_is_refused.b (blkOk_by (N := ["dice", "kind", "lead", "one", "other", "odd", "wrong", "calls", "call"]) (sc := defScope s__law_are_refused) (by decide +kernel)) rfl (Or.inl rfl) rfl (fun _ _ _ _ _ => by rfl) (fun _ _ _ _ _ => Or.inl rfl) (fun _ _ _ _ _ => Or.inr rfl) (fun _ _ _ _ _ => Or.inl rfl)) (by decide) (by decide) (List.forall_mem_cons.mpr ⟨⟨lamS_by (sc := defScope s__law_are_refused) (by decide +kernel), fun _ _ _ _ _ => rfl, fun A outer s H E f c' OL hrL => (dex_q (dqx_call OL (kx_lead_moved T B) (hrL.mono (by decide)) (by rfl) T.d_lead_moved.m T.d_lead_moved.fn.kp T.d_lead_moved.b (dar_e (de_q (dq_call OL (kp__law_pick T B) (hrL.mono (by decide)) (by rfl) T.d__law_pick.m T.d__law_pick.fn.kp T.d__law_pick.b (dar_b (pv 0) (dar_e (de_lst (da_cons de_non (da_cons de_str (da_cons de_str (da_cons de_int (da_cons (de_tup (da_cons de_str da_nil)) da_nil)))))) dar_nil)))) (dar_e (de_var (pv 2)) (dar_e (de_var (pv 3)) (dar_e (de_var (pv 4)) dar_nil))))))⟩, (List.forall_mem_cons.mpr ⟨⟨lamS_by (sc := defScope s__law_are_refused) (by decide +kernel), fun _ _ _ _ _ => rfl, fun A outer s H E f c' OL hrL => (dex_q (dqx_call OL (kx_lead_moved T B) (hrL.mono (by decide)) (by rfl) T.d_lead_moved.m T.d_lead_moved.fn.kp T.d_lead_moved.b (dar_e (de_var (pv 1)) (dar_e (de_var (pv 6)) (dar_e (de_var (pv 3)) (dar_e (de_var (pv 4)) dar_nil))))))⟩, (List.forall_mem_cons.mpr ⟨⟨lamS_by (sc := defScope s__law_are_refused) (by decide +kernel), fun _ _ _ _ _ => rfl, fun A outer s H E f c' OL hrL => (dex_q (dqx_call OL (kx_lead_moved T B) (hrL.mono (by decide)) (by rfl) T.d_lead_moved.m T.d_lead_moved.fn.kp T.d_lead_moved.b (dar_e (de_var (pv 1)) (dar_e (de_var (pv 2)) (dar_e (de_var (pv 6)) (dar_e (de_var (pv 4)) dar_nil))))))⟩, (List.forall_mem_cons.mpr ⟨⟨lamS_by (sc := defScope s__law_are_refused) (by decide +kernel), fun _ _ _ _ _ => rfl, fun A outer s H E f c' OL hrL => (dex_q (dqx_call OL (kx_lead_moved T B) (hrL.mono (by decide)) (by rfl) T.d_lead_moved.m T.d_lead_moved.fn.kp T.d_lead_moved.b (dar_e (de_var (pv 1)) (dar_e (de_var (pv 2)) (dar_e (de_var (pv 3)) (dar_e (de_var (pv 6)) dar_nil))))))⟩, (fun _ h => nomatch h)⟩)⟩)⟩)⟩)))))
theorem sc_law : FnScope ["script", "spot", "dice", "kind", "size", "told", "lead", "far", "one", "other", "turn"] ["script"] (defScope s_law) := ⟨rfl, rfl, rfl, by decide +kernel, rfl, by decide +kernel, by decide +kernel⟩
theorem kp_law (T : Txt P K mg ad fds tb) (B : ∀ j, j < 1 → TabB base mg (tb j).1 (tb j).2) : Kp P WW.w K mg base 11 (ad 29) (fds 29) ["script"] F_law := by
  have b_len := T.b_len
  have b_max := T.b_max
  have b_min := T.b_min
  have b_range := T.b_range
  have b_repr := T.b_repr
  exact Kp.of (k := 9) T.d_law.fn sc_law fun cdv A outer s H O hr => by
    unfold f_law
    exact (db_cons (ds_for O (di_range1 (by rfl) b_range (da_cons (de_callB (cd_max2 O) (by rfl) b_max (by decide +kernel) (da_cons de_int (da_cons (de_callB (cd_min2 O) (by rfl) b_min (by decide +kernel) (da_cons de_int (da_cons (de_callB cd_len (by rfl) b_len (by decide +kernel) (da_cons (de_var (pv 0)) da_nil)) da_nil))) da_nil))) da_nil)) (dg_name (i := 1) O rfl (Or.inl rfl)) (db_cons (ds_set (i := 2) O rfl (Or.inr rfl) (dq_call O (kp__law_dice T B) (hr.mono (by decide)) (by rfl) T.d__law_dice.m T.d__law_dice.fn.kp T.d__law_dice.b (dar_e (de_var (pv 0)) (dar_e (de_var (pv 1)) dar_nil))))
      (db_one (ds_for O (di_e (de_tup (da_cons de_str (da_cons de_str (da_cons de_str (da_cons de_str da_nil)))))) (dg_name (i := 3) O rfl (Or.inr rfl)) (db_cons (ds_set (i := 4) O rfl (Or.inr rfl) (dq_e (de_bin od_add de_int (de_q (dq_callO O (kp__law_roll T B) (hr.mono (by decide)) (by rfl) T.d__law_roll.m T.d__law_roll.fn.kp T.d__law_roll.b (pv 2) (dar_e de_int dar_nil))))))
      (db_cons (ds_par (i := 6) (j := 7) O rfl rfl (by decide) rfl rfl (dq_callO O (kp__law_lead T B) (hr.mono (by decide)) (by rfl) T.d__law_lead.m T.d__law_lead.fn.kp T.d__law_lead.b (pv 2) (dar_e (de_var (pv 3)) (dar_e (de_var (pv 4)) dar_nil))) (dq_callO O (kp__law_lead T B) (hr.mono (by decide)) (by rfl) T.d__law_lead.m T.d__law_lead.fn.kp T.d__law_lead.b (pv 2) (dar_e (de_var (pv 3)) (dar_e (de_var (pv 4)) dar_nil))))
      (db_cons (ds_asg (de_q (dq_lc (own := [(("turn" : Str), 10)]) O (di_range1 (by rfl) b_range (da_cons de_int da_nil)) (blkOk_by (N := ["script", "spot", "dice", "kind", "size", "told", "lead", "far", "one", "other", "turn"]) (sc := defScope s_law) (by decide +kernel)) (fun s1 H1 C1 cl1 fp1 => (dg_name (i := 10) (O.blk s1 H1 C1 cl1 fp1) rfl (Or.inl rfl))) (fun s1 H1 C1 cl1 fp1 => dts_nil) (fun s1 H1 C1 cl1 fp1 => (de_q (dq_callOV (k := 6) (tab := [(0, F__law_value), (1, F__law_great)]) (O.blk s1 H1 C1 cl1 fp1) (List.forall_mem_cons.mpr ⟨⟨_, _, _, T.fr__law_value, (kp__law_value T B).lift (k' := 6) (by decide), T.d__law_value.fn.kp, T.d__law_value.b, rfl⟩, (List.forall_mem_cons.mpr ⟨⟨_, _, _, T.fr__law_great, (kp__law_great T B).lift (k' := 6) (by decide), T.d__law_great.fn.kp, T.d__law_great.b, rfl⟩, (fun _ h => nomatch h)⟩)⟩) (hr.mono (by decide)) (de_q (dq_callO (O.blk s1 H1 C1 cl1 fp1) (kp__law_pick T B) (hr.mono (by decide)) (by rfl) T.d__law_pick.m T.d__law_pick.fn.kp T.d__law_pick.b (pv 2) (dar_e (de_lst (da_cons (de_fnv (n := 0) T.fr__law_value (by rfl) T.d__law_value.m) (da_cons (de_fnv (n := 1) T.fr__law_great (by rfl) T.d__law_great.m) da_nil))) dar_nil))) (pv 2) (dar_e (de_var (pv 3)) (dar_e (de_var (pv 4)) dar_nil))))) (by decide))) (dg_tup O (dgs_cons (dg_name (i := 8) O rfl (Or.inl rfl)) (dgs_cons (dg_name (i := 9) O rfl (Or.inl rfl)) dgs_nil))))
      (db_cons (ds_set (i := 5) O rfl (Or.inl rfl) (dq_call O (kp_lead_moved T B) (hr.mono (by decide)) (by rfl) T.d_lead_moved.m T.d_lead_moved.fn.kp T.d_lead_moved.b (dar_e (de_var (pv 3)) (dar_e (de_var (pv 6)) (dar_e (de_var (pv 8)) (dar_e (de_var (pv 9)) dar_nil))))))
      (db_fz 5 (db_cons (ds_if (dt_cmp (od_ne O) (de_callB (cd_reprM O) (by rfl) b_repr (by decide +kernel) (da_cons (de_var (pv 5)) da_nil)) (de_callB (cd_reprM O) (by rfl) b_repr (by decide +kernel) (da_cons (de_q (dq_call O (kp__law_led T B) (hr.mono (by decide)) (by rfl) T.d__law_led.m T.d__law_led.fn.kp T.d__law_led.b (dar_e (de_var (pv 3)) (dar_e (de_var (pv 6)) (dar_e (de_var (pv 8)) (dar_e (de_var (pv 9)) dar_nil)))))) da_nil))) (db_one (ds_ret (dq_e de_bl))) db_nil)
      (db_cons (ds_if (dt_cmp (od_ne O) (de_cmp (od_eq O) (de_q (dq_call O (kp_lead_moved T B) (hr.mono (by decide)) (by rfl) T.d_lead_moved.m T.d_lead_moved.fn.kp T.d_lead_moved.b (dar_e (de_var (pv 3)) (dar_e (de_var (pv 7)) (dar_e (de_var (pv 8)) (dar_e (de_var (pv 9)) dar_nil)))))) (de_var (pv 5))) (de_cmp (od_eq O) (de_var (pv 7)) (de_var (pv 6)))) (db_one (ds_ret (dq_e de_bl))) db_nil)
      (db_one (ds_if (dt_not (dt_tru (de_q (dq_callO O (kp__law_are_refused T B) (hr.mono (by decide)) (by rfl) T.d__law_are_refused.m T.d__law_are_refused.fn.kp T.d__law_are_refused.b (pv 2) (dar_e (de_var (pv 3)) (dar_e (de_var (pv 6)) (dar_e (de_var (pv 8)) (dar_e (de_var (pv 9)) dar_nil)))))))) (db_one (ds_ret (dq_e de_bl))) db_nil)))))))))))))
      (db_cons (ds_set (i := 5) O rfl (Or.inl rfl) (dq_lst (da_cons (de_q (dq_call O (kp_lead_moved T B) (hr.mono (by decide)) (by rfl) T.d_lead_moved.m T.d_lead_moved.fn.kp T.d_lead_moved.b (dar_e de_str (dar_e (de_tup (da_cons de_str (da_cons de_str da_nil))) (dar_e de_str (dar_e de_str dar_nil)))))) (da_cons (de_q (dq_call O (kp_lead_moved T B) (hr.mono (by decide)) (by rfl) T.d_lead_moved.m T.d_lead_moved.fn.kp T.d_lead_moved.b (dar_e de_str (dar_e (de_tup (da_cons de_str (da_cons de_str da_nil))) (dar_e de_str (dar_e de_str dar_nil)))))) da_nil))))
      (db_cons (ds_app (pv 5) (de_q (dq_call O (kp_lead_moved T B) (hr.mono (by decide)) (by rfl) T.d_lead_moved.m T.d_lead_moved.fn.kp T.d_lead_moved.b (dar_e de_str (dar_e (de_bin od_mul (de_bin od_pow de_int de_int) (de_bin od_pow de_int de_int)) (dar_e de_int (dar_e (de_neg de_int) dar_nil)))))))
      (db_cons (ds_app (pv 5) (de_q (dq_call O (kp_lead_moved T B) (hr.mono (by decide)) (by rfl) T.d_lead_moved.m T.d_lead_moved.fn.kp T.d_lead_moved.b (dar_e de_str (dar_e (de_tup (da_cons de_str (da_cons de_str da_nil))) (dar_e (de_bin od_mul de_str de_int) (dar_e de_str dar_nil)))))))
      (db_fz 5 (db_one (ds_ret (dq_e (de_cmp (od_eq O) (de_var (pv 5)) (de_lst (da_cons (de_tup (da_cons de_str (da_cons de_str da_nil))) (da_cons (de_tup (da_cons de_str (da_cons de_str da_nil))) (da_cons (de_bin od_sub (de_bin od_mul (de_bin od_pow de_int de_int) (de_bin od_pow de_int de_int)) de_int) (da_cons (de_tup (da_cons (de_bin od_mul de_str de_int) (da_cons de_str da_nil))) da_nil))))))))))))))
end
end KK

namespace KK
open PySem PySem.Spec PyProof.Rows L2 LamX DL
section
variable {P : Program} {w : World} {K : Fg} {mg : Str → Option Value}
theorem all_mk {h : Heap} {fa f0 f1 f2 f3 f4 f5 f6 f7 f8 f9 f10 f11 f12 f13 f14 f15 f16 f17 f18 f19 f20 f21 f22 f23 f24 f25 f26 f27 f28 f29 : Addr} {od0 od1 od2 od3 od4 od5 od6 od7 od8 od9 od10 od11 od12 od13 od14 od15 od16 od17 od18 od19 od20 od21 od22 od23 od24 od25 od26 od27 od28 od29 an0 an1 an2 an3 an4 an5 an6 an7 an8 an9 an10 an11 an12 an13 an14 an15 an16 an17 an18 an19 an20 an21 an22 an23 an24 an25 an26 an27 an28 an29 : Option Addr} {sl0 sl1 sl2 sl3 sl4 sl5 sl6 sl7 sl8 sl9 sl10 sl11 sl12 sl13 sl14 sl15 sl16 sl17 sl18 sl19 sl20 sl21 sl22 sl23 sl24 sl25 sl26 sl27 sl28 sl29 : Array (Option Value)} {oc0 oc1 oc2 oc3 oc4 oc5 oc6 oc7 oc8 oc9 oc10 oc11 oc12 oc13 oc14 oc15 oc16 oc17 oc18 oc19 oc20 oc21 oc22 oc23 oc24 oc25 oc26 oc27 oc28 oc29 kV0 kV1 kV2 kV3 kV4 kV5 kV6 kV7 kV8 kV9 kV10 kV11 kV12 kV13 kV14 kV15 kV16 kV17 kV18 kV19 kV20 kV21 kV22 kV23 kV24 kV25 kV26 kV27 kV28 kV29 dc0 dc1 dc2 dc3 dc4 dc5 dc6 dc7 dc8 dc9 dc10 dc11 dc12 dc13 dc14 dc15 dc16 dc17 dc18 dc19 dc20 dc21 dc22 dc23 dc24 dc25 dc26 dc27 dc28 dc29 pm0 pm1 pm2 pm3 pm4 pm5 pm6 pm7 pm8 pm9 pm10 pm11 pm12 pm13 pm14 pm15 pm16 pm17 pm18 pm19 pm20 pm21 pm22 pm23 pm24 pm25 pm26 pm27 pm28 pm29 cd0 cd1 cd2 cd3 cd4 cd5 cd6 cd7 cd8 cd9 cd10 cd11 cd12 cd13 cd14 cd15 cd16 cd17 cd18 cd19 cd20 cd21 cd22 cd23 cd24 cd25 cd26 cd27 cd28 cd29 ct0 ct1 ct2 ct3 ct4 ct5 ct6 ct7 ct8 ct9 ct10 ct11 ct12 ct13 ct14 ct15 ct16 ct17 ct18 ct19 ct20 ct21 ct22 ct23 ct24 ct25 ct26 ct27 ct28 ct29 : Value} {cc0 pp0 : Addr} {lo0 : Value} {ld0 : Option Addr} {lv0 : Array Value} {lw0 : Array (Option Value)} {X_InvalidOperation : Addr} {g_KINDS : Addr} {n_KINDS : Nat} {sl_KINDS : Array (Option Value)} {t_KINDS_0 t_KINDS_1 t_KINDS_2 t_KINDS_3 : Tok} {t_LETTERS : Tok} {t_MOST_MOVED : Tok} {t_MOVES : Tok} {t_PAIR_SIZE : Tok} {t_SHARES : Tok} {t_SUMS : Tok} {t_WORDS : Tok} (X : K.In h) (G : h.Ns mainGlobals mg) (hfa : mg "law" = some (.ref fa))
    (a0 : PySem.W.nsIn K mainGlobals "is_whole" = some (some (.ref f0)))
    (l0 : K.lookup f0 = some ⟨oc0, od0, .func (PySem.W.fnOf "is_whole" "is_whole" (defArgs s_is_whole) (defBody s_is_whole) (defScope s_is_whole) .none kV0 dc0 pm0 an0 cd0 ct0), sl0⟩)
    (c0 : PySem.W.codeIn K cd0 "is_whole" = true)
    (k0 : PySem.W.keepIn K (.ref f0) = true)
    (a1 : PySem.W.nsIn K mainGlobals "is_pair" = some (some (.ref f1)))
    (l1 : K.lookup f1 = some ⟨oc1, od1, .func (PySem.W.fnOf "is_pair" "is_pair" (defArgs s_is_pair) (defBody s_is_pair) (defScope s_is_pair) .none kV1 dc1 pm1 an1 cd1 ct1), sl1⟩)
    (c1 : PySem.W.codeIn K cd1 "is_pair" = true)
    (k1 : PySem.W.keepIn K (.ref f1) = true)
    (a2 : PySem.W.nsIn K mainGlobals "is_letters" = some (some (.ref f2)))
    (l2 : K.lookup f2 = some ⟨oc2, od2, .func (PySem.W.fnOf "is_letters" "is_letters" (defArgs s_is_letters) (defBody s_is_letters) (defScope s_is_letters) .none kV2 dc2 pm2 an2 cd2 ct2), sl2⟩)
    (c2 : PySem.W.codeIn K cd2 "is_letters" = true)
    (k2 : PySem.W.keepIn K (.ref f2) = true)
    (a3 : PySem.W.nsIn K mainGlobals "common_length" = some (some (.ref f3)))
    (l3 : K.lookup f3 = some ⟨oc3, od3, .func (PySem.W.fnOf "common_length" "common_length" (defArgs s_common_length) (defBody s_common_length) (defScope s_common_length) .none kV3 dc3 pm3 an3 cd3 ct3), sl3⟩)
    (c3 : PySem.W.codeIn K cd3 "common_length" = true)
    (k3 : PySem.W.keepIn K (.ref f3) = true)
    (a4 : PySem.W.nsIn K mainGlobals "divisor_of" = some (some (.ref f4)))
    (l4 : K.lookup f4 = some ⟨oc4, od4, .func (PySem.W.fnOf "divisor_of" "divisor_of" (defArgs s_divisor_of) (defBody s_divisor_of) (defScope s_divisor_of) .none kV4 dc4 pm4 an4 cd4 ct4), sl4⟩)
    (c4 : PySem.W.codeIn K cd4 "divisor_of" = true)
    (k4 : PySem.W.keepIn K (.ref f4) = true)
    (a5 : PySem.W.nsIn K mainGlobals "is_share" = some (some (.ref f5)))
    (l5 : K.lookup f5 = some ⟨oc5, od5, .func (PySem.W.fnOf "is_share" "is_share" (defArgs s_is_share) (defBody s_is_share) (defScope s_is_share) .none kV5 dc5 pm5 an5 cd5 ct5), sl5⟩)
    (c5 : PySem.W.codeIn K cd5 "is_share" = true)
    (k5 : PySem.W.keepIn K (.ref f5) = true)
    (a6 : PySem.W.nsIn K mainGlobals "is_move" = some (some (.ref f6)))
    (l6 : K.lookup f6 = some ⟨oc6, od6, .func (PySem.W.fnOf "is_move" "is_move" (defArgs s_is_move) (defBody s_is_move) (defScope s_is_move) .none kV6 dc6 pm6 an6 cd6 ct6), sl6⟩)
    (c6 : PySem.W.codeIn K cd6 "is_move" = true)
    (k6 : PySem.W.keepIn K (.ref f6) = true)
    (a7 : PySem.W.nsIn K mainGlobals "is_value_in" = some (some (.ref f7)))
    (l7 : K.lookup f7 = some ⟨oc7, od7, .func (PySem.W.fnOf "is_value_in" "is_value_in" (defArgs s_is_value_in) (defBody s_is_value_in) (defScope s_is_value_in) .none kV7 dc7 pm7 an7 cd7 ct7), sl7⟩)
    (c7 : PySem.W.codeIn K cd7 "is_value_in" = true)
    (k7 : PySem.W.keepIn K (.ref f7) = true)
    (a8 : PySem.W.nsIn K mainGlobals "lowered" = some (some (.ref f8)))
    (l8 : K.lookup f8 = some ⟨oc8, od8, .func (PySem.W.fnOf "lowered" "lowered" (defArgs s_lowered) (defBody s_lowered) (defScope s_lowered) .none kV8 dc8 pm8 an8 cd8 ct8), sl8⟩)
    (c8 : PySem.W.codeIn K cd8 "lowered" = true)
    (k8 : PySem.W.keepIn K (.ref f8) = true)
    (a9 : PySem.W.nsIn K mainGlobals "multiplied" = some (some (.ref f9)))
    (l9 : K.lookup f9 = some ⟨oc9, od9, .func (PySem.W.fnOf "multiplied" "multiplied" (defArgs s_multiplied) (defBody s_multiplied) (defScope s_multiplied) .none kV9 dc9 pm9 an9 cd9 ct9), sl9⟩)
    (c9 : PySem.W.codeIn K cd9 "multiplied" = true)
    (k9 : PySem.W.keepIn K (.ref f9) = true)
    (a10 : PySem.W.nsIn K mainGlobals "taken_back" = some (some (.ref f10)))
    (l10 : K.lookup f10 = some ⟨oc10, od10, .func (PySem.W.fnOf "taken_back" "taken_back" (defArgs s_taken_back) (defBody s_taken_back) (defScope s_taken_back) .none kV10 dc10 pm10 an10 cd10 ct10), sl10⟩)
    (c10 : PySem.W.codeIn K cd10 "taken_back" = true)
    (k10 : PySem.W.keepIn K (.ref f10) = true)
    (a11 : PySem.W.nsIn K mainGlobals "shortened" = some (some (.ref f11)))
    (l11 : K.lookup f11 = some ⟨oc11, od11, .func (PySem.W.fnOf "shortened" "shortened" (defArgs s_shortened) (defBody s_shortened) (defScope s_shortened) .none kV11 dc11 pm11 an11 cd11 ct11), sl11⟩)
    (c11 : PySem.W.codeIn K cd11 "shortened" = true)
    (k11 : PySem.W.keepIn K (.ref f11) = true)
    (a12 : PySem.W.nsIn K mainGlobals "lead_led" = some (some (.ref f12)))
    (l12 : K.lookup f12 = some ⟨oc12, od12, .func (PySem.W.fnOf "lead_led" "lead_led" (defArgs s_lead_led) (defBody s_lead_led) (defScope s_lead_led) .none kV12 dc12 pm12 an12 cd12 ct12), sl12⟩)
    (c12 : PySem.W.codeIn K cd12 "lead_led" = true)
    (k12 : PySem.W.keepIn K (.ref f12) = true)
    (a13 : PySem.W.nsIn K mainGlobals "is_lead_in" = some (some (.ref f13)))
    (l13 : K.lookup f13 = some ⟨oc13, od13, .func (PySem.W.fnOf "is_lead_in" "is_lead_in" (defArgs s_is_lead_in) (defBody s_is_lead_in) (defScope s_is_lead_in) .none kV13 dc13 pm13 an13 cd13 ct13), sl13⟩)
    (c13 : PySem.W.codeIn K cd13 "is_lead_in" = true)
    (k13 : PySem.W.keepIn K (.ref f13) = true)
    (a14 : PySem.W.nsIn K mainGlobals "lead_moved" = some (some (.ref f14)))
    (l14 : K.lookup f14 = some ⟨oc14, od14, .func (PySem.W.fnOf "lead_moved" "lead_moved" (defArgs s_lead_moved) (defBody s_lead_moved) (defScope s_lead_moved) .none kV14 dc14 pm14 an14 cd14 ct14), sl14⟩)
    (c14 : PySem.W.codeIn K cd14 "lead_moved" = true)
    (k14 : PySem.W.keepIn K (.ref f14) = true)
    (a15 : PySem.W.nsIn K mainGlobals "_law_dice" = some (some (.ref f15)))
    (l15 : K.lookup f15 = some ⟨oc15, od15, .func (PySem.W.fnOf "_law_dice" "_law_dice" (defArgs s__law_dice) (defBody s__law_dice) (defScope s__law_dice) .none kV15 dc15 pm15 an15 cd15 ct15), sl15⟩)
    (c15 : PySem.W.codeIn K cd15 "_law_dice" = true)
    (k15 : PySem.W.keepIn K (.ref f15) = true)
    (a16 : PySem.W.nsIn K mainGlobals "_law_roll" = some (some (.ref f16)))
    (l16 : K.lookup f16 = some ⟨oc16, od16, .func (PySem.W.fnOf "_law_roll" "_law_roll" (defArgs s__law_roll) (defBody s__law_roll) (defScope s__law_roll) .none kV16 dc16 pm16 an16 cd16 ct16), sl16⟩)
    (c16 : PySem.W.codeIn K cd16 "_law_roll" = true)
    (k16 : PySem.W.keepIn K (.ref f16) = true)
    (a17 : PySem.W.nsIn K mainGlobals "_law_pick" = some (some (.ref f17)))
    (l17 : K.lookup f17 = some ⟨oc17, od17, .func (PySem.W.fnOf "_law_pick" "_law_pick" (defArgs s__law_pick) (defBody s__law_pick) (defScope s__law_pick) .none kV17 dc17 pm17 an17 cd17 ct17), sl17⟩)
    (c17 : PySem.W.codeIn K cd17 "_law_pick" = true)
    (k17 : PySem.W.keepIn K (.ref f17) = true)
    (a18 : PySem.W.nsIn K mainGlobals "_law_mixed" = some (some (.ref f18)))
    (l18 : K.lookup f18 = some ⟨oc18, od18, .func (PySem.W.fnOf "_law_mixed" "_law_mixed" (defArgs s__law_mixed) (defBody s__law_mixed) (defScope s__law_mixed) .none kV18 dc18 pm18 an18 cd18 ct18), sl18⟩)
    (c18 : PySem.W.codeIn K cd18 "_law_mixed" = true)
    (k18 : PySem.W.keepIn K (.ref f18) = true)
    (a19 : PySem.W.nsIn K mainGlobals "_law_times" = some (some (.ref f19)))
    (l19 : K.lookup f19 = some ⟨oc19, od19, .func (PySem.W.fnOf "_law_times" "_law_times" (defArgs s__law_times) (defBody s__law_times) (defScope s__law_times) .none kV19 dc19 pm19 an19 cd19 ct19), sl19⟩)
    (c19 : PySem.W.codeIn K cd19 "_law_times" = true)
    (k19 : PySem.W.keepIn K (.ref f19) = true)
    (a20 : PySem.W.nsIn K mainGlobals "_law_undone" = some (some (.ref f20)))
    (l20 : K.lookup f20 = some ⟨oc20, od20, .func (PySem.W.fnOf "_law_undone" "_law_undone" (defArgs s__law_undone) (defBody s__law_undone) (defScope s__law_undone) .none kV20 dc20 pm20 an20 cd20 ct20), sl20⟩)
    (c20 : PySem.W.codeIn K cd20 "_law_undone" = true)
    (k20 : PySem.W.keepIn K (.ref f20) = true)
    (a21 : PySem.W.nsIn K mainGlobals "_law_parted" = some (some (.ref f21)))
    (l21 : K.lookup f21 = some ⟨oc21, od21, .func (PySem.W.fnOf "_law_parted" "_law_parted" (defArgs s__law_parted) (defBody s__law_parted) (defScope s__law_parted) .none kV21 dc21 pm21 an21 cd21 ct21), sl21⟩)
    (c21 : PySem.W.codeIn K cd21 "_law_parted" = true)
    (k21 : PySem.W.keepIn K (.ref f21) = true)
    (a22 : PySem.W.nsIn K mainGlobals "_law_led" = some (some (.ref f22)))
    (l22 : K.lookup f22 = some ⟨oc22, od22, .func (PySem.W.fnOf "_law_led" "_law_led" (defArgs s__law_led) (defBody s__law_led) (defScope s__law_led) .none kV22 dc22 pm22 an22 cd22 ct22), sl22⟩)
    (c22 : PySem.W.codeIn K cd22 "_law_led" = true)
    (k22 : PySem.W.keepIn K (.ref f22) = true)
    (a23 : PySem.W.nsIn K mainGlobals "_law_word" = some (some (.ref f23)))
    (l23 : K.lookup f23 = some ⟨oc23, od23, .func (PySem.W.fnOf "_law_word" "_law_word" (defArgs s__law_word) (defBody s__law_word) (defScope s__law_word) .none kV23 dc23 pm23 an23 cd23 ct23), sl23⟩)
    (c23 : PySem.W.codeIn K cd23 "_law_word" = true)
    (k23 : PySem.W.keepIn K (.ref f23) = true)
    (a24 : PySem.W.nsIn K mainGlobals "_law_value" = some (some (.ref f24)))
    (l24 : K.lookup f24 = some ⟨oc24, od24, .func (PySem.W.fnOf "_law_value" "_law_value" (defArgs s__law_value) (defBody s__law_value) (defScope s__law_value) .none kV24 dc24 pm24 an24 cd24 ct24), sl24⟩)
    (c24 : PySem.W.codeIn K cd24 "_law_value" = true)
    (k24 : PySem.W.keepIn K (.ref f24) = true)
    (a25 : PySem.W.nsIn K mainGlobals "_law_great" = some (some (.ref f25)))
    (l25 : K.lookup f25 = some ⟨oc25, od25, .func (PySem.W.fnOf "_law_great" "_law_great" (defArgs s__law_great) (defBody s__law_great) (defScope s__law_great) .none kV25 dc25 pm25 an25 cd25 ct25), sl25⟩)
    (c25 : PySem.W.codeIn K cd25 "_law_great" = true)
    (k25 : PySem.W.keepIn K (.ref f25) = true)
    (a26 : PySem.W.nsIn K mainGlobals "_law_lead" = some (some (.ref f26)))
    (l26 : K.lookup f26 = some ⟨oc26, od26, .func (PySem.W.fnOf "_law_lead" "_law_lead" (defArgs s__law_lead) (defBody s__law_lead) (defScope s__law_lead) .none kV26 dc26 pm26 an26 cd26 ct26), sl26⟩)
    (c26 : PySem.W.codeIn K cd26 "_law_lead" = true)
    (k26 : PySem.W.keepIn K (.ref f26) = true)
    (a27 : PySem.W.nsIn K mainGlobals "_law_is_refused" = some (some (.ref f27)))
    (l27 : K.lookup f27 = some ⟨oc27, od27, .func (PySem.W.fnOf "_law_is_refused" "_law_is_refused" (defArgs s__law_is_refused) (defBody s__law_is_refused) (defScope s__law_is_refused) .none kV27 dc27 pm27 an27 cd27 ct27), sl27⟩)
    (c27 : PySem.W.codeIn K cd27 "_law_is_refused" = true)
    (k27 : PySem.W.keepIn K (.ref f27) = true)
    (a28 : PySem.W.nsIn K mainGlobals "_law_are_refused" = some (some (.ref f28)))
    (l28 : K.lookup f28 = some ⟨oc28, od28, .func (PySem.W.fnOf "_law_are_refused" "_law_are_refused" (defArgs s__law_are_refused) (defBody s__law_are_refused) (defScope s__law_are_refused) .none kV28 dc28 pm28 an28 cd28 ct28), sl28⟩)
    (c28 : PySem.W.codeIn K cd28 "_law_are_refused" = true)
    (k28 : PySem.W.keepIn K (.ref f28) = true)
    (a29 : PySem.W.nsIn K mainGlobals "law" = some (some (.ref f29)))
    (l29 : K.lookup f29 = some ⟨oc29, od29, .func (PySem.W.fnOf "law" "law" (defArgs s_law) (defBody s_law) (defScope s_law) .none kV29 dc29 pm29 an29 cd29 ct29), sl29⟩)
    (c29 : PySem.W.codeIn K cd29 "law" = true)
    (k29 : PySem.W.keepIn K (.ref f29) = true)
    (e0 : cd28 = .ref cc0)
    (q0 : K.lookup cc0 = some ⟨lo0, ld0, .fields lv0, lw0⟩)
    (r0 : lv0[11]? = some (.ref pp0))
    (h0 : PySem.W.codeHdIn K cc0 pp0 = true)
    (n0 : K.lookup pp0 = none)
    (t0 : h.get? pp0 = some { cls := .none, data := .fields #[] })
    (dj : ([pp0] : List Addr).Nodup)
    (xa_InvalidOperation : PySem.W.nsIn K mainGlobals "InvalidOperation" = some (some (.ref X_InvalidOperation)))
    (xk_InvalidOperation : PySem.W.keepIn K (.ref X_InvalidOperation) = true)
    (xb_InvalidOperation : PySem.W.subIn K (.ref X_InvalidOperation) (.type "BaseException") = some true)
    (xt_InvalidOperation : PySem.W.typeIn K (.ref X_InvalidOperation) = some (.type "type"))
    (xe_InvalidOperation : PySem.W.excIn K X_InvalidOperation [.type "ValueError", .type "Exception", .type "BaseException", .type "object"] "ValueError.__new__" = true)
    (z__law_is_refused_InvalidOperation_InvalidOperation : PySem.W.exmOne K (.ref X_InvalidOperation) (.ref X_InvalidOperation) = some true)
    (zz_abs : PySem.W.nsIn K mainGlobals "abs" = some none)
    (zz_all : PySem.W.nsIn K mainGlobals "all" = some none)
    (zz_bool : PySem.W.nsIn K mainGlobals "bool" = some none)
    (zz_int : PySem.W.nsIn K mainGlobals "int" = some none)
    (zz_isinstance : PySem.W.nsIn K mainGlobals "isinstance" = some none)
    (zz_len : PySem.W.nsIn K mainGlobals "len" = some none)
    (zz_list : PySem.W.nsIn K mainGlobals "list" = some none)
    (zz_max : PySem.W.nsIn K mainGlobals "max" = some none)
    (zz_min : PySem.W.nsIn K mainGlobals "min" = some none)
    (zz_range : PySem.W.nsIn K mainGlobals "range" = some none)
    (zz_repr : PySem.W.nsIn K mainGlobals "repr" = some none)
    (zz_sorted : PySem.W.nsIn K mainGlobals "sorted" = some none)
    (zz_str : PySem.W.nsIn K mainGlobals "str" = some none)
    (zz_tuple : PySem.W.nsIn K mainGlobals "tuple" = some none)
    (cn_KINDS : PySem.W.nsIn K mainGlobals "KINDS" = some (some (.ref g_KINDS)))
    (cl_KINDS : K.lookup g_KINDS = some ⟨.type "tuple", none, .seq #[.str "words" t_KINDS_0, .str "sums" t_KINDS_1, .str "shares" t_KINDS_2, .str "moves" t_KINDS_3] n_KINDS, sl_KINDS⟩)
    (cn_LETTERS : PySem.W.nsIn K mainGlobals "LETTERS" = some (some (.str "abcdefghijkl" t_LETTERS)))
    (cn_MOST_MOVED : PySem.W.nsIn K mainGlobals "MOST_MOVED" = some (some (.int 5 t_MOST_MOVED)))
    (cn_MOVES : PySem.W.nsIn K mainGlobals "MOVES" = some (some (.str "moves" t_MOVES)))
    (cn_PAIR_SIZE : PySem.W.nsIn K mainGlobals "PAIR_SIZE" = some (some (.int 2 t_PAIR_SIZE)))
    (cn_SHARES : PySem.W.nsIn K mainGlobals "SHARES" = some (some (.str "shares" t_SHARES)))
    (cn_SUMS : PySem.W.nsIn K mainGlobals "SUMS" = some (some (.str "sums" t_SUMS)))
    (cn_WORDS : PySem.W.nsIn K mainGlobals "WORDS" = some (some (.str "words" t_WORDS)))
    : ∃ (fd : FuncData) (T : List (Addr × Str)) (L : List Addr) (cs : List (Addr × Addr)), (∀ p ∈ cs, h.get? p.2 = some { cls := .none, data := .fields #[] }) ∧ (∀ p ∈ cs, K.lookup p.2 = none) ∧ (∀ p ∈ cs, PySem.W.CodeHd h p.1 p.2) ∧ (∀ q ∈ T, ∃ p ∈ cs, p.2 = q.1) ∧
      (∀ (s : Shared) (u : Value), BindsTo s fd ⟨[u], []⟩ [("script", u)]) ∧ ∀ base : Heap, K.In base → base.Ns mainGlobals mg → (∀ p ∈ cs, TabB base mg p.1 p.2) → @Kp (WW.mk w T L) P w K mg base 11 fa fd ["script"] F_law := by
  have e := hfa.symm.trans (PySem.W.mg_of X G a29)
  cases e
  subst e0
  have F0 := fun_mk (st := s_is_whole) l0 c0 k0
  have B0 := F0.binds (ps := ["value"]) fun _ _ _ _ _ _ us hl => match us, hl with | [_], _ => rfl
  have F1 := fun_mk (st := s_is_pair) l1 c1 k1
  have B1 := F1.binds (ps := ["value"]) fun _ _ _ _ _ _ us hl => match us, hl with | [_], _ => rfl
  have F2 := fun_mk (st := s_is_letters) l2 c2 k2
  have B2 := F2.binds (ps := ["value"]) fun _ _ _ _ _ _ us hl => match us, hl with | [_], _ => rfl
  have F3 := fun_mk (st := s_common_length) l3 c3 k3
  have B3 := F3.binds (ps := ["one", "other"]) fun _ _ _ _ _ _ us hl => match us, hl with | [_, _], _ => rfl
  have F4 := fun_mk (st := s_divisor_of) l4 c4 k4
  have B4 := F4.binds (ps := ["one", "other"]) fun _ _ _ _ _ _ us hl => match us, hl with | [_, _], _ => rfl
  have F5 := fun_mk (st := s_is_share) l5 c5 k5
  have B5 := F5.binds (ps := ["value"]) fun _ _ _ _ _ _ us hl => match us, hl with | [_], _ => rfl
  have F6 := fun_mk (st := s_is_move) l6 c6 k6
  have B6 := F6.binds (ps := ["value"]) fun _ _ _ _ _ _ us hl => match us, hl with | [_], _ => rfl
  have F7 := fun_mk (st := s_is_value_in) l7 c7 k7
  have B7 := F7.binds (ps := ["kind", "value"]) fun _ _ _ _ _ _ us hl => match us, hl with | [_, _], _ => rfl
  have F8 := fun_mk (st := s_lowered) l8 c8 k8
  have B8 := F8.binds (ps := ["top", "bottom"]) fun _ _ _ _ _ _ us hl => match us, hl with | [_, _], _ => rfl
  have F9 := fun_mk (st := s_multiplied) l9 c9 k9
  have B9 := F9.binds (ps := ["kind", "one", "other"]) fun _ _ _ _ _ _ us hl => match us, hl with | [_, _, _], _ => rfl
  have F10 := fun_mk (st := s_taken_back) l10 c10 k10
  have B10 := F10.binds (ps := ["kind", "value"]) fun _ _ _ _ _ _ us hl => match us, hl with | [_, _], _ => rfl
  have F11 := fun_mk (st := s_shortened) l11 c11 k11
  have B11 := F11.binds (ps := ["one", "other"]) fun _ _ _ _ _ _ us hl => match us, hl with | [_, _], _ => rfl
  have F12 := fun_mk (st := s_lead_led) l12 c12 k12
  have B12 := F12.binds (ps := ["kind", "lead", "left", "right"]) fun _ _ _ _ _ _ us hl => match us, hl with | [_, _, _, _], _ => rfl
  have F13 := fun_mk (st := s_is_lead_in) l13 c13 k13
  have B13 := F13.binds (ps := ["kind", "value"]) fun _ _ _ _ _ _ us hl => match us, hl with | [_, _], _ => rfl
  have F14 := fun_mk (st := s_lead_moved) l14 c14 k14
  have B14 := F14.binds (ps := ["kind", "lead", "one", "other"]) fun _ _ _ _ _ _ us hl => match us, hl with | [_, _, _, _], _ => rfl
  have F15 := fun_mk (st := s__law_dice) l15 c15 k15
  have B15 := F15.binds (ps := ["script", "spot"]) fun _ _ _ _ _ _ us hl => match us, hl with | [_, _], _ => rfl
  have F16 := fun_mk (st := s__law_roll) l16 c16 k16
  have B16 := F16.binds (ps := ["dice", "total"]) fun _ _ _ _ _ _ us hl => match us, hl with | [_, _], _ => rfl
  have F17 := fun_mk (st := s__law_pick) l17 c17 k17
  have B17 := F17.binds (ps := ["dice", "items"]) fun _ _ _ _ _ _ us hl => match us, hl with | [_, _], _ => rfl
  have F18 := fun_mk (st := s__law_mixed) l18 c18 k18
  have B18 := F18.binds (ps := ["dice", "items"]) fun _ _ _ _ _ _ us hl => match us, hl with | [_, _], _ => rfl
  have F19 := fun_mk (st := s__law_times) l19 c19 k19
  have B19 := F19.binds (ps := ["kind", "one", "other"]) fun _ _ _ _ _ _ us hl => match us, hl with | [_, _, _], _ => rfl
  have F20 := fun_mk (st := s__law_undone) l20 c20 k20
  have B20 := F20.binds (ps := ["kind", "value"]) fun _ _ _ _ _ _ us hl => match us, hl with | [_, _], _ => rfl
  have F21 := fun_mk (st := s__law_parted) l21 c21 k21
  have B21 := F21.binds (ps := ["one", "other"]) fun _ _ _ _ _ _ us hl => match us, hl with | [_, _], _ => rfl
  have F22 := fun_mk (st := s__law_led) l22 c22 k22
  have B22 := F22.binds (ps := ["kind", "lead", "left", "right"]) fun _ _ _ _ _ _ us hl => match us, hl with | [_, _, _, _], _ => rfl
  have F23 := fun_mk (st := s__law_word) l23 c23 k23
  have B23 := F23.binds (ps := ["dice", "signs", "most"]) fun _ _ _ _ _ _ us hl => match us, hl with | [_, _, _], _ => rfl
  have F24 := fun_mk (st := s__law_value) l24 c24 k24
  have B24 := F24.binds (ps := ["dice", "kind", "size"]) fun _ _ _ _ _ _ us hl => match us, hl with | [_, _, _], _ => rfl
  have F25 := fun_mk (st := s__law_great) l25 c25 k25
  have B25 := F25.binds (ps := ["dice", "kind", "size"]) fun _ _ _ _ _ _ us hl => match us, hl with | [_, _, _], _ => rfl
  have F26 := fun_mk (st := s__law_lead) l26 c26 k26
  have B26 := F26.binds (ps := ["dice", "kind", "size"]) fun _ _ _ _ _ _ us hl => match us, hl with | [_, _, _], _ => rfl
  have F27 := fun_mk (st := s__law_is_refused) l27 c27 k27
  have B27 := F27.binds (ps := ["call"]) fun _ _ _ _ _ _ us hl => match us, hl with | [_], _ => rfl
  have F28 := fun_mk (st := s__law_are_refused) l28 c28 k28
  have B28 := F28.binds (ps := ["dice", "kind", "lead", "one", "other"]) fun _ _ _ _ _ _ us hl => match us, hl with | [_, _, _, _, _], _ => rfl
  have F29 := fun_mk (st := s_law) l29 c29 k29
  have B29 := F29.binds (ps := ["script"]) fun _ _ _ _ _ _ us hl => match us, hl with | [_], _ => rfl
  refine ⟨(PySem.W.fnOf "law" "law" (defArgs s_law) (defBody s_law) (defScope s_law) .none kV29 dc29 pm29 an29 cd29 ct29), [(pp0, qn__law_are_refused)], [f24, f25], [(cc0, pp0)], (List.forall_mem_cons.mpr ⟨t0, (fun _ h => nomatch h)⟩), (List.forall_mem_cons.mpr ⟨n0, (fun _ h => nomatch h)⟩), (List.forall_mem_cons.mpr ⟨PySem.W.codeHd_of_K X h0, (fun _ h => nomatch h)⟩), (List.forall_mem_cons.mpr ⟨⟨(cc0, pp0), by simp, rfl⟩, (fun _ h => nomatch h)⟩), fun s v => .of_eq rfl, fun base _ _ TB => ?_⟩
  letI : WW := WW.mk w [(pp0, qn__law_are_refused)] [f24, f25]
  have un : ∀ {p : Addr × Str}, p ∈ WW.T → ∀ q ∈ WW.T, q.1 = p.1 → q.2 = p.2 := fun {p} hp => uniq_of (l := [(pp0, qn__law_are_refused)]) dj hp
  have T : Txt P K mg (fun i => [f0, f1, f2, f3, f4, f5, f6, f7, f8, f9, f10, f11, f12, f13, f14, f15, f16, f17, f18, f19, f20, f21, f22, f23, f24, f25, f26, f27, f28, fa].getD i 0) (fun i => [(PySem.W.fnOf "is_whole" "is_whole" (defArgs s_is_whole) (defBody s_is_whole) (defScope s_is_whole) .none kV0 dc0 pm0 an0 cd0 ct0), (PySem.W.fnOf "is_pair" "is_pair" (defArgs s_is_pair) (defBody s_is_pair) (defScope s_is_pair) .none kV1 dc1 pm1 an1 cd1 ct1), (PySem.W.fnOf "is_letters" "is_letters" (defArgs s_is_letters) (defBody s_is_letters) (defScope s_is_letters) .none kV2 dc2 pm2 an2 cd2 ct2), (PySem.W.fnOf "common_length" "common_length" (defArgs s_common_length) (defBody s_common_length) (defScope s_common_length) .none kV3 dc3 pm3 an3 cd3 ct3), (PySem.W.fnOf "divisor_of" "divisor_of" (defArgs s_divisor_of) (defBody s_divisor_of) (defScope s_divisor_of) .none kV4 dc4 pm4 an4 cd4 ct4), (PySem.W.fnOf "is_share" "is_share" (defArgs s_is_share) (defBody s_is_share) (defScope s_is_share) .none kV5 dc5 pm5 an5 cd5 ct5), (PySem.W.fnOf "is_move" "is_move" (defArgs s_is_move) (defBody s_is_move) (defScope s_is_move) .none kV6 dc6 pm6 an6 cd6 ct6), (PySem.W.fnOf "is_value_in" "is_value_in" (defArgs s_is_value_in) (defBody s_is_value_in) (defScope s_is_value_in) .none kV7 dc7 pm7 an7 cd7 ct7), (PySem.W.fnOf "lowered" "lowered" (defArgs s_lowered) (defBody s_lowered) (defScope s_lowered) .none kV8 dc8 pm8 an8 cd8 ct8), (PySem.W.fnOf "multiplied" "multiplied" (defArgs s_multiplied) (defBody s_multiplied) (defScope s_multiplied) .none kV9 dc9 pm9 an9 cd9 ct9), (PySem.W.fnOf "taken_back" "taken_back" (defArgs s_taken_back) (defBody s_taken_back) (defScope s_taken_back) .none kV10 dc10 pm10 an10 cd10 ct10), (PySem.W.fnOf "shortened" "shortened" (defArgs s_shortened) (defBody s_shortened) (defScope s_shortened) .none kV11 dc11 pm11 an11 cd11 ct11), (PySem.W.fnOf "lead_led" "lead_led" (defArgs s_lead_led) (defBody s_lead_led) (defScope s_lead_led) .none kV12 dc12 pm12 an12 cd12 ct12), (PySem.W.fnOf "is_lead_in" "is_lead_in" (defArgs s_is_lead_in) (defBody s_is_lead_in) (defScope s_is_lead_in) .none kV13 dc13 pm13 an13 cd13 ct13), (PySem.W.fnOf "lead_moved" "lead_moved" (defArgs s_lead_moved) (defBody s_lead_moved) (defScope s_lead_moved) .none kV14 dc14 pm14 an14 cd14 ct14), (PySem.W.fnOf "_law_dice" "_law_dice" (defArgs s__law_dice) (defBody s__law_dice) (defScope s__law_dice) .none kV15 dc15 pm15 an15 cd15 ct15), (PySem.W.fnOf "_law_roll" "_law_roll" (defArgs s__law_roll) (defBody s__law_roll) (defScope s__law_roll) .none kV16 dc16 pm16 an16 cd16 ct16), (PySem.W.fnOf "_law_pick" "_law_pick" (defArgs s__law_pick) (defBody s__law_pick) (defScope s__law_pick) .none kV17 dc17 pm17 an17 cd17 ct17), (PySem.W.fnOf "_law_mixed" "_law_mixed" (defArgs s__law_mixed) (defBody s__law_mixed) (defScope s__law_mixed) .none kV18 dc18 pm18 an18 cd18 ct18), (PySem.W.fnOf "_law_times" "_law_times" (defArgs s__law_times) (defBody s__law_times) (defScope s__law_times) .none kV19 dc19 pm19 an19 cd19 ct19), (PySem.W.fnOf "_law_undone" "_law_undone" (defArgs s__law_undone) (defBody s__law_undone) (defScope s__law_undone) .none kV20 dc20 pm20 an20 cd20 ct20), (PySem.W.fnOf "_law_parted" "_law_parted" (defArgs s__law_parted) (defBody s__law_parted) (defScope s__law_parted) .none kV21 dc21 pm21 an21 cd21 ct21), (PySem.W.fnOf "_law_led" "_law_led" (defArgs s__law_led) (defBody s__law_led) (defScope s__law_led) .none kV22 dc22 pm22 an22 cd22 ct22), (PySem.W.fnOf "_law_word" "_law_word" (defArgs s__law_word) (defBody s__law_word) (defScope s__law_word) .none kV23 dc23 pm23 an23 cd23 ct23), (PySem.W.fnOf "_law_value" "_law_value" (defArgs s__law_value) (defBody s__law_value) (defScope s__law_value) .none kV24 dc24 pm24 an24 cd24 ct24), (PySem.W.fnOf "_law_great" "_law_great" (defArgs s__law_great) (defBody s__law_great) (defScope s__law_great) .none kV25 dc25 pm25 an25 cd25 ct25), (PySem.W.fnOf "_law_lead" "_law_lead" (defArgs s__law_lead) (defBody s__law_lead) (defScope s__law_lead) .none kV26 dc26 pm26 an26 cd26 ct26), (PySem.W.fnOf "_law_is_refused" "_law_is_refused" (defArgs s__law_is_refused) (defBody s__law_is_refused) (defScope s__law_is_refused) .none kV27 dc27 pm27 an27 cd27 ct27), (PySem.W.fnOf "_law_are_refused" "_law_are_refused" (defArgs s__law_are_refused) (defBody s__law_are_refused) (defScope s__law_are_refused) .none kV28 dc28 pm28 an28 (.ref cc0) ct28), (PySem.W.fnOf "law" "law" (defArgs s_law) (defBody s_law) (defScope s_law) .none kV29 dc29 pm29 an29 cd29 ct29)].getD i (PySem.W.fnOf "is_whole" "is_whole" (defArgs s_is_whole) (defBody s_is_whole) (defScope s_is_whole) .none kV0 dc0 pm0 an0 cd0 ct0)) (fun j => ([(cc0, pp0)] : List (Addr × Addr)).getD j (0, 0)) := {
    d_is_whole := ⟨F0, PySem.W.mg_of X G a0, B0⟩
    d_is_pair := ⟨F1, PySem.W.mg_of X G a1, B1⟩
    d_is_letters := ⟨F2, PySem.W.mg_of X G a2, B2⟩
    d_common_length := ⟨F3, PySem.W.mg_of X G a3, B3⟩
    d_divisor_of := ⟨F4, PySem.W.mg_of X G a4, B4⟩
    d_is_share := ⟨F5, PySem.W.mg_of X G a5, B5⟩
    d_is_move := ⟨F6, PySem.W.mg_of X G a6, B6⟩
    d_is_value_in := ⟨F7, PySem.W.mg_of X G a7, B7⟩
    d_lowered := ⟨F8, PySem.W.mg_of X G a8, B8⟩
    d_multiplied := ⟨F9, PySem.W.mg_of X G a9, B9⟩
    d_taken_back := ⟨F10, PySem.W.mg_of X G a10, B10⟩
    d_shortened := ⟨F11, PySem.W.mg_of X G a11, B11⟩
    d_lead_led := ⟨F12, PySem.W.mg_of X G a12, B12⟩
    d_is_lead_in := ⟨F13, PySem.W.mg_of X G a13, B13⟩
    d_lead_moved := ⟨F14, PySem.W.mg_of X G a14, B14⟩
    d__law_dice := ⟨F15, PySem.W.mg_of X G a15, B15⟩
    d__law_roll := ⟨F16, PySem.W.mg_of X G a16, B16⟩
    d__law_pick := ⟨F17, PySem.W.mg_of X G a17, B17⟩
    d__law_mixed := ⟨F18, PySem.W.mg_of X G a18, B18⟩
    d__law_times := ⟨F19, PySem.W.mg_of X G a19, B19⟩
    d__law_undone := ⟨F20, PySem.W.mg_of X G a20, B20⟩
    d__law_parted := ⟨F21, PySem.W.mg_of X G a21, B21⟩
    d__law_led := ⟨F22, PySem.W.mg_of X G a22, B22⟩
    d__law_word := ⟨F23, PySem.W.mg_of X G a23, B23⟩
    d__law_value := ⟨F24, PySem.W.mg_of X G a24, B24⟩
    d__law_great := ⟨F25, PySem.W.mg_of X G a25, B25⟩
    d__law_lead := ⟨F26, PySem.W.mg_of X G a26, B26⟩
    d__law_is_refused := ⟨F27, PySem.W.mg_of X G a27, B27⟩
    d__law_are_refused := ⟨F28, PySem.W.mg_of X G a28, B28⟩
    d_law := ⟨F29, PySem.W.mg_of X G a29, B29⟩
    u__law_are_refused := rfl
    v__law_are_refused := (show (pp0, qn__law_are_refused) ∈ ([(pp0, qn__law_are_refused)] : List (Addr × Str)) by simp)
    w__law_are_refused := un (show (pp0, qn__law_are_refused) ∈ ([(pp0, qn__law_are_refused)] : List (Addr × Str)) by simp)
    x_InvalidOperation := ⟨X_InvalidOperation, _, _, _, _, PySem.F.excBase_ValueError, xe_InvalidOperation, PySem.W.mg_of X G xa_InvalidOperation, xk_InvalidOperation, xb_InvalidOperation, xt_InvalidOperation⟩
    m_InvalidOperation := ⟨X_InvalidOperation, PySem.W.mg_of X G xa_InvalidOperation⟩
    ap__law_is_refused := by
      intro c hc x hx C D e1 e2
      simp only [List.mem_cons, List.not_mem_nil, or_false] at hc hx
      rcases hc with rfl <;> rcases hx with rfl
      · rw [PySem.W.mg_of X G xa_InvalidOperation] at e1; rw [PySem.W.mg_of X G xa_InvalidOperation] at e2; cases e1; cases e2; rw [z__law_is_refused_InvalidOperation_InvalidOperation]; decide
    fr__law_value := rfl
    fr__law_great := rfl
    b_abs := PySem.W.mg_none_of X G zz_abs
    b_all := PySem.W.mg_none_of X G zz_all
    b_bool := PySem.W.mg_none_of X G zz_bool
    b_int := PySem.W.mg_none_of X G zz_int
    b_isinstance := PySem.W.mg_none_of X G zz_isinstance
    b_len := PySem.W.mg_none_of X G zz_len
    b_list := PySem.W.mg_none_of X G zz_list
    b_max := PySem.W.mg_none_of X G zz_max
    b_min := PySem.W.mg_none_of X G zz_min
    b_range := PySem.W.mg_none_of X G zz_range
    b_repr := PySem.W.mg_none_of X G zz_repr
    b_sorted := PySem.W.mg_none_of X G zz_sorted
    b_str := PySem.W.mg_none_of X G zz_str
    b_tuple := PySem.W.mg_none_of X G zz_tuple
    c_KINDS := ⟨g_KINDS, [.str "words", .str "sums", .str "shares", .str "moves"], PySem.W.mg_of X G cn_KINDS, Or.inr ⟨_, _, _, cl_KINDS, rfl, rfl, rfl, (show (4 : Nat) ≤ sizeLine by decide), (.cons ⟨_, rfl⟩ (.cons ⟨_, rfl⟩ (.cons ⟨_, rfl⟩ (.cons ⟨_, rfl⟩ .nil))))⟩, (Reps.cons (.str _) (Reps.cons (.str _) (Reps.cons (.str _) (Reps.cons (.str _) Reps.nil))))⟩
    c_LETTERS := ⟨_, PySem.W.mg_of X G cn_LETTERS⟩
    c_MOST_MOVED := ⟨_, PySem.W.mg_of X G cn_MOST_MOVED⟩
    c_MOVES := ⟨_, PySem.W.mg_of X G cn_MOVES⟩
    c_PAIR_SIZE := ⟨_, PySem.W.mg_of X G cn_PAIR_SIZE⟩
    c_SHARES := ⟨_, PySem.W.mg_of X G cn_SHARES⟩
    c_SUMS := ⟨_, PySem.W.mg_of X G cn_SUMS⟩
    c_WORDS := ⟨_, PySem.W.mg_of X G cn_WORDS⟩
  }
  have B : ∀ j, j < 1 → TabB base mg (([(cc0, pp0)] : List (Addr × Addr)).getD j (0, 0)).1 (([(cc0, pp0)] : List (Addr × Addr)).getD j (0, 0)).2 := fun j hj => match j, hj with
    | 0, _ => TB (cc0, pp0) (by simp)
    | n + 1, hj => absurd hj (by omega)
  exact kp_law T B
end
end KK

/-- for plain texts, in which no world stands -/
def DL.anyWW : DL.WW := ⟨⟨fun _ _ => 0, { strHash := fun _ => 0, shareClass := fun _ => 0, mergeTok := id, idOf := fun _ => 0, idOfShared := fun _ _ => 0, followText := fun _ => false, idOfImm := fun _ => 0 }⟩, [], []⟩
instance KK.iWW : DL.WW := DL.anyWW
namespace KK
abbrev W := List Nat
def cut : W → W → W × W
  | a :: x, b :: y => if a = b then cut x y else (a :: x, b :: y)
  | x, y => (x, y)
def lcp : W → W → Nat
  | a :: x, b :: y => if a = b then lcp x y + 1 else 0
  | _, _ => 0
theorem cut_nil (y : W) : cut [] y = ([], y) := by cases y <;> rfl
theorem cut_nil2 (x : W) : cut x [] = (x, []) := by cases x <;> rfl
theorem cut_same (a : Nat) (x y : W) : cut (a :: x) (a :: y) = cut x y := by rw [cut, if_pos rfl]
theorem cut_ne {a b : Nat} (x y : W) (h : a ≠ b) : cut (a :: x) (b :: y) = (a :: x, b :: y) := by rw [cut, if_neg h]
theorem cut_lcp : ∀ x y : W, cut x y = (x.drop (lcp x y), y.drop (lcp x y))
  | [], y => by rw [cut_nil]; cases y <;> rfl
  | a :: x, [] => rfl
  | a :: x, b :: y => by
    by_cases h : a = b
    · subst h; rw [cut_same, cut_lcp x y, lcp, if_pos rfl]; rfl
    · rw [cut_ne x y h, lcp, if_neg h]; rfl
theorem cut_swap : ∀ x y : W, cut y x = ((cut x y).2, (cut x y).1)
  | [], y => by rw [cut_nil, cut_nil2]
  | a :: x, [] => by rw [cut_nil, cut_nil2]
  | a :: x, b :: y => by
    by_cases h : a = b
    · subst h; rw [cut_same, cut_same, cut_swap x y]
    · rw [cut_ne x y h, cut_ne y x (Ne.symm h)]
theorem cut_app : ∀ x y u v : W, cut (x ++ u) (y ++ v) = cut ((cut x y).1 ++ u) ((cut x y).2 ++ v)
  | [], y, u, v => by rw [cut_nil]
  | a :: x, [], u, v => by rw [cut_nil2]
  | a :: x, b :: y, u, v => by
    by_cases h : a = b
    · subst h; rw [cut_same, List.cons_append, List.cons_append, cut_same, cut_app x y u v]
    · rw [cut_ne x y h]
theorem cut_cut : ∀ x y : W, cut (cut x y).1 (cut x y).2 = cut x y
  | [], y => by rw [cut_nil, cut_nil]
  | a :: x, [] => by rw [cut_nil2, cut_nil2]
  | a :: x, b :: y => by
    by_cases h : a = b
    · subst h; rw [cut_same, cut_cut x y]
    · rw [cut_ne x y h, cut_ne x y h]
theorem cut_eq_nil : ∀ {x y : W}, cut x y = ([], []) ↔ x = y
  | [], y => by rw [cut_nil]; constructor <;> intro h <;> simp_all
  | a :: x, [] => by rw [cut_nil2]; simp
  | a :: x, b :: y => by
    by_cases h : a = b
    · subst h; rw [cut_same, cut_eq_nil]; simp
    · rw [cut_ne x y h]; simp [h]
/-- neither begins with the other's first sign -/
def Red (l : W × W) : Prop := cut l.1 l.2 = l
theorem Red.of_cut (x y : W) : Red (cut x y) := cut_cut x y
theorem red_iff {x y : W} : Red (x, y) ↔ x = [] ∨ y = [] ∨ x.head? ≠ y.head? := by
  unfold Red
  cases x with
  | nil => simp [cut_nil]
  | cons a x =>
    cases y with
    | nil => simp [cut_nil2]
    | cons b y =>
      by_cases h : a = b
      · subst h
        simp only [cut_same, List.head?_cons, reduceCtorEq, ne_eq, not_true_eq_false, or_self, iff_false]
        intro z
        have : (cut x y).1.length ≤ x.length := by rw [cut_lcp]; simp
        rw [z] at this
        simp at this
        omega
      · simp [cut_ne x y h, h]
def led (l : W × W) (x y : W) : W × W := cut (l.1 ++ x) (l.2 ++ y)
theorem led_led (l : W × W) (x y z w : W) : led (led l x y) z w = led l (x ++ z) (y ++ w) := by
  unfold led
  rw [← cut_app, List.append_assoc, List.append_assoc]
theorem step_cases {l : W × W} (h : Red l) (c : Nat) : (cut (l.1 ++ [c]) l.2 = (l.1 ++ [c], l.2) ∧ ¬ (l.1 = [] ∧ l.2.head? = some c)) ∨ (l.1 = [] ∧ l.2 = c :: (cut (l.1 ++ [c]) l.2).2 ∧ (cut (l.1 ++ [c]) l.2).1 = []) := by
  obtain ⟨x, y⟩ := l
  rcases x with _ | ⟨a, x⟩
  · rcases y with _ | ⟨b, y⟩
    · exact Or.inl ⟨rfl, by simp⟩
    · by_cases e : c = b
      · subst e
        refine Or.inr ⟨rfl, ?_, ?_⟩
        · show c :: y = c :: (cut [c] (c :: y)).2
          rw [cut_same, cut_nil]
        · show (cut [c] (c :: y)).1 = []
          rw [cut_same, cut_nil]
      · refine Or.inl ⟨cut_ne [] y e, ?_⟩
        simp [Ne.symm e]
  · refine Or.inl ⟨?_, by simp⟩
    rcases y with _ | ⟨b, y⟩
    · rfl
    · have := red_iff.mp h
      simp at this
      exact cut_ne _ _ this
theorem step_inj {l m : W × W} (hl : Red l) (hm : Red m) {c : Nat} (e : cut (l.1 ++ [c]) l.2 = cut (m.1 ++ [c]) m.2) : l = m := by
  rcases step_cases hl c with ⟨h1, _⟩ | ⟨h1, h2, h3⟩ <;> rcases step_cases hm c with ⟨k1, _⟩ | ⟨k1, k2, k3⟩
  · rw [h1, k1] at e
    have e1 := congrArg Prod.fst e
    have e2 := congrArg Prod.snd e
    exact Prod.ext (List.append_cancel_right e1) e2
  · rw [h1] at e
    rw [← e] at k3
    simp at k3
  · rw [k1] at e
    rw [e] at h3
    simp at h3
  · rw [e] at h2
    exact Prod.ext (h1.trans k1.symm) (h2.trans k2.symm)
theorem led_inj1 : ∀ (x : W) {l m : W × W} (y : W), Red l → Red m → (∀ l m : W × W, Red l → Red m → cut l.1 (l.2 ++ y) = cut m.1 (m.2 ++ y) → l = m) → led l x y = led m x y → l = m
  | [], l, m, y, hl, hm, H, e => H l m hl hm (by simpa [led] using e)
  | c :: x, l, m, y, hl, hm, H, e => by
    have key : ∀ n : W × W, led n (c :: x) y = led (cut (n.1 ++ [c]) n.2) x y := fun n => by
      have := led_led n [c] [] x y
      simp only [led, List.append_nil, List.nil_append] at this ⊢
      rw [this]
      simp
    rw [key, key] at e
    exact step_inj hl hm (led_inj1 x y (Red.of_cut _ _) (Red.of_cut _ _) H e)
theorem Red.swap {l : W × W} (h : Red l) : Red (l.2, l.1) := by
  unfold Red at *
  show cut l.2 l.1 = _
  rw [cut_swap l.1 l.2, h]
theorem led_inj {l m : W × W} {x y : W} (hl : Red l) (hm : Red m) (e : led l x y = led m x y) : l = m := by
  refine led_inj1 x y hl hm (fun l m hl hm e => ?_) e
  have e' : led (l.2, l.1) y [] = led (m.2, m.1) y [] := by
    simp only [led, List.append_nil]
    rw [cut_swap l.1, cut_swap m.1, e]
  have := led_inj1 y [] hl.swap hm.swap (fun l m hl hm e => by
    rw [List.append_nil, List.append_nil] at e
    have h1 : cut l.1 l.2 = l := hl
    have h2 : cut m.1 m.2 = m := hm
    rw [h1, h2] at e
    exact e) e'
  have h1 := congrArg Prod.fst this
  have h2 := congrArg Prod.snd this
  exact Prod.ext h2 h1
/-- the leads that these values lead to the unit's -/
def dueW (x y : W) : List (W × W) :=
  if y.length ≤ x.length ∧ x.drop (x.length - y.length) = y then [([], x.take (x.length - y.length))]
  else if x.length ≤ y.length ∧ y.drop (y.length - x.length) = x then [(y.take (y.length - x.length), [])] else []
theorem dueW_iff {l : W × W} {x y : W} (h : Red l) : led l x y = ([], []) ↔ l ∈ dueW x y := by
  unfold led
  rw [cut_eq_nil]
  obtain ⟨p, q⟩ := l
  show p ++ x = q ++ y ↔ _
  unfold dueW
  have tk : ∀ {a b : W}, b.length ≤ a.length → a.drop (a.length - b.length) = b → a.take (a.length - b.length) ++ b = a := fun {a b} _ e => by
    conv => lhs; rw [← e]
    rw [e]
    conv => rhs; rw [← List.take_append_drop (a.length - b.length) a]
    rw [e]
  constructor
  · intro e
    have len := congrArg List.length e
    simp only [List.length_append] at len
    rcases red_iff.mp h with z | z | z
    · subst z
      simp only [List.nil_append, List.length_nil, Nat.zero_add] at e len
      have h1 : x.length - y.length = q.length := by omega
      rw [if_pos ⟨by omega, by rw [h1, e]; simp⟩, h1, e]
      simp
    · subst z
      simp only [List.nil_append, List.length_nil, Nat.zero_add] at e len
      have h1 : y.length - x.length = p.length := by omega
      by_cases hp : p = []
      · subst hp
        have e : x = y := e
        subst e
        simp
      · have : 0 < p.length := List.length_pos_iff.mpr hp
        rw [if_neg (by omega), if_pos ⟨by omega, by rw [h1, ← e]; simp⟩, h1, ← e]
        simp
    · rcases p with _ | ⟨a, p⟩
      · rcases q with _ | ⟨b, q⟩
        · simp at z
        · simp only [List.nil_append, List.length_nil, Nat.zero_add] at e len
          have h1 : x.length - y.length = (b :: q).length := by omega
          rw [if_pos ⟨by omega, by rw [h1, e]; simp⟩, h1, e]
          simp
      · rcases q with _ | ⟨b, q⟩
        · simp only [List.nil_append, List.length_nil, Nat.zero_add] at e len
          have h1 : y.length - x.length = (a :: p).length := by omega
          have : 0 < (a :: p).length := by simp
          rw [if_neg (by omega), if_pos ⟨by omega, by rw [h1, ← e]; simp⟩, h1, ← e]
          simp
        · simp at e z
          exact absurd e.1 z
  · intro hm
    split at hm
    · rename_i hc
      simp at hm
      obtain ⟨rfl, rfl⟩ := hm
      rw [List.nil_append, tk hc.1 hc.2]
    · split at hm
      · rename_i hc
        simp at hm
        obtain ⟨rfl, rfl⟩ := hm
        rw [List.nil_append, tk hc.1 hc.2]
      · simp at hm
theorem dueW_red {l : W × W} {x y : W} (h : l ∈ dueW x y) : Red l := by
  unfold dueW at h
  split at h
  · simp at h; subst h; exact red_iff.mpr (Or.inl rfl)
  · split at h
    · simp at h; subst h; exact red_iff.mpr (Or.inr (Or.inl rfl))
    · simp at h
end KK

namespace KK
structure Gp {G : Type} (ok : G → Prop) (mul : G → G → G) (inv : G → G) (one : G) : Prop where
  okm : ∀ {a b}, ok a → ok b → ok (mul a b)
  oki : ∀ {a}, ok a → ok (inv a)
  ok1 : ok one
  assoc : ∀ {a b c}, ok a → ok b → ok c → mul (mul a b) c = mul a (mul b c)
  onem : ∀ {a}, ok a → mul one a = a
  mone : ∀ {a}, ok a → mul a one = a
  invm : ∀ {a}, ok a → mul (inv a) a = one
  minv : ∀ {a}, ok a → mul a (inv a) = one
section
variable {G : Type} {ok : G → Prop} {mul : G → G → G} {inv : G → G} {one : G} (g : Gp ok mul inv one)
include g
theorem Gp.lcan {a b c : G} (ha : ok a) (hb : ok b) (hc : ok c) (e : mul a b = mul a c) : b = c := by
  have := congrArg (mul (inv a)) e
  rwa [← g.assoc (g.oki ha) ha hb, ← g.assoc (g.oki ha) ha hc, g.invm ha, g.onem hb, g.onem hc] at this
theorem Gp.rcan {a b c : G} (ha : ok a) (hb : ok b) (hc : ok c) (e : mul b a = mul c a) : b = c := by
  have : mul (mul b a) (inv a) = mul (mul c a) (inv a) := by rw [e]
  rwa [g.assoc hb ha (g.oki ha), g.assoc hc ha (g.oki ha), g.minv ha, g.mone hb, g.mone hc] at this
theorem Gp.invmul {a b : G} (ha : ok a) (hb : ok b) : inv (mul a b) = mul (inv b) (inv a) := by
  have hab := g.okm ha hb
  have ia := g.oki ha
  have ib := g.oki hb
  refine g.rcan hab (g.oki hab) (g.okm ib ia) ?_
  rw [g.invm hab, g.assoc ib ia hab, ← g.assoc ia ha hb, g.invm ha, g.onem hb, g.invm hb]
/-- a lead led on -/
def gled (mul : G → G → G) (inv : G → G) (l x y : G) : G := mul (mul (inv x) l) y
omit g in
theorem gled_ok (g : Gp ok mul inv one) {l x y : G} (hl : ok l) (hx : ok x) (hy : ok y) : ok (gled mul inv l x y) := g.okm (g.okm (g.oki hx) hl) hy
theorem Gp.led_led {l x y z w : G} (hl : ok l) (hx : ok x) (hy : ok y) (hz : ok z) (hw : ok w) : gled mul inv (gled mul inv l x y) z w = gled mul inv l (mul x z) (mul y w) := by
  have ix := g.oki hx
  have iz := g.oki hz
  have xl := g.okm ix hl
  unfold gled
  rw [g.invmul hx hz, ← g.assoc iz xl hy, g.assoc (g.okm iz xl) hy hw, g.assoc iz ix hl]
theorem Gp.led_inj {l m x y : G} (hl : ok l) (hm : ok m) (hx : ok x) (hy : ok y) (e : gled mul inv l x y = gled mul inv m x y) : l = m :=
  g.lcan (g.oki hx) hl hm (g.rcan hy (g.okm (g.oki hx) hl) (g.okm (g.oki hx) hm) e)
theorem Gp.led_one {x y : G} (hx : ok x) (hy : ok y) : gled mul inv one x y = mul (inv x) y := by
  unfold gled
  rw [g.mone (g.oki hx)]
theorem Gp.due {l x y : G} (hl : ok l) (hx : ok x) (hy : ok y) : gled mul inv l x y = one ↔ l = mul x (inv y) := by
  have h0 : gled mul inv (mul x (inv y)) x y = one := by
    unfold gled
    rw [← g.assoc (g.oki hx) hx (g.oki hy), g.invm hx, g.onem (g.oki hy), g.invm hy]
  constructor
  · intro e
    exact g.led_inj hl (g.okm hx (g.oki hy)) hx hy (e.trans h0.symm)
  · intro e
    rw [e]; exact h0
end

theorem gp_sums : Gp (G := Int) (fun _ => True) (· + ·) (fun a => -a) 0 := by
  refine ⟨fun _ _ => trivial, fun _ => trivial, trivial, fun _ _ _ => Int.add_assoc _ _ _, fun _ => Int.zero_add _, fun _ => Int.add_zero _, fun _ => ?_, fun _ => ?_⟩
  · exact Int.add_left_neg _
  · exact Int.add_right_neg _

abbrev Fr := Nat × Nat
def redP (a b : Nat) : Fr := (a / Nat.gcd a b, b / Nat.gcd a b)
structure Sh (x : Fr) : Prop where
  h1 : 0 < x.1
  h2 : 0 < x.2
  co : Nat.gcd x.1 x.2 = 1
/-- x is a / b -/
def Is (x : Fr) (a b : Nat) : Prop := x.1 * b = a * x.2
theorem redP_sh {a b : Nat} (ha : 0 < a) (hb : 0 < b) : Sh (redP a b) := by
  have g : 0 < Nat.gcd a b := Nat.gcd_pos_of_pos_left _ ha
  exact ⟨Nat.div_pos (Nat.le_of_dvd ha (Nat.gcd_dvd_left a b)) g, Nat.div_pos (Nat.le_of_dvd hb (Nat.gcd_dvd_right a b)) g, Nat.gcd_div_gcd_div_gcd_of_pos_left ha⟩
theorem redP_is (a b : Nat) : Is (redP a b) a b := by
  unfold Is redP
  obtain ⟨c, hc⟩ := Nat.gcd_dvd_left a b
  obtain ⟨d, hd⟩ := Nat.gcd_dvd_right a b
  show a / Nat.gcd a b * b = a * (b / Nat.gcd a b)
  rw [← Nat.mul_div_assoc a (Nat.gcd_dvd_right a b), Nat.mul_comm (a / Nat.gcd a b), ← Nat.mul_div_assoc b (Nat.gcd_dvd_left a b), Nat.mul_comm]
theorem Sh.uniq {x y : Fr} (hx : Sh x) (hy : Sh y) (e : x.1 * y.2 = y.1 * x.2) : x = y := by
  have d1 : x.1 ∣ y.1 := by
    have : x.1 ∣ y.1 * x.2 := ⟨y.2, e.symm⟩
    exact Nat.Coprime.dvd_of_dvd_mul_right hx.co this
  have d2 : y.1 ∣ x.1 := by
    have : y.1 ∣ x.1 * y.2 := ⟨x.2, e⟩
    exact Nat.Coprime.dvd_of_dvd_mul_right hy.co this
  have e1 : x.1 = y.1 := Nat.dvd_antisymm d1 d2
  have e2 : x.2 = y.2 := by
    rw [e1] at e
    exact (Nat.eq_of_mul_eq_mul_left hy.h1 e).symm
  exact Prod.ext e1 e2
theorem Sh.same {x y : Fr} {a b c d : Nat} (hx : Sh x) (hy : Sh y) (ix : Is x a b) (iy : Is y c d) (hb : 0 < b) (hd : 0 < d) (e : a * d = c * b) : x = y := by
  refine hx.uniq hy ?_
  unfold Is at ix iy
  have : (x.1 * y.2) * (b * d) = (y.1 * x.2) * (b * d) := by
    calc (x.1 * y.2) * (b * d) = (x.1 * b) * (y.2 * d) := by ac_rfl
      _ = (a * x.2) * (y.2 * d) := by rw [ix]
      _ = (a * d) * (x.2 * y.2) := by ac_rfl
      _ = (c * b) * (x.2 * y.2) := by rw [e]
      _ = (c * y.2) * (x.2 * b) := by ac_rfl
      _ = (y.1 * d) * (x.2 * b) := by rw [iy]
      _ = (y.1 * x.2) * (b * d) := by ac_rfl
  exact Nat.eq_of_mul_eq_mul_right (Nat.mul_pos hb hd) this
def shMul (x y : Fr) : Fr := redP (x.1 * y.1) (x.2 * y.2)
def shInv (x : Fr) : Fr := (x.2, x.1)
theorem shMul_sh {x y : Fr} (hx : Sh x) (hy : Sh y) : Sh (shMul x y) := redP_sh (Nat.mul_pos hx.h1 hy.h1) (Nat.mul_pos hx.h2 hy.h2)
theorem shMul_is {x y : Fr} {a b c d : Nat} (hx : Sh x) (hy : Sh y) (ix : Is x a b) (iy : Is y c d) : Is (shMul x y) (a * c) (b * d) := by
  have h := redP_is (x.1 * y.1) (x.2 * y.2)
  have e : (shMul x y).1 * (x.2 * y.2) = x.1 * y.1 * (shMul x y).2 := h
  unfold Is at *
  have : ((shMul x y).1 * (b * d)) * (x.2 * y.2) = (a * c * (shMul x y).2) * (x.2 * y.2) := by
    calc ((shMul x y).1 * (b * d)) * (x.2 * y.2) = ((shMul x y).1 * (x.2 * y.2)) * (b * d) := by ac_rfl
      _ = (x.1 * y.1 * (shMul x y).2) * (b * d) := by rw [e]
      _ = (x.1 * b) * (y.1 * d) * (shMul x y).2 := by ac_rfl
      _ = (a * x.2) * (c * y.2) * (shMul x y).2 := by rw [ix, iy]
      _ = (a * c * (shMul x y).2) * (x.2 * y.2) := by ac_rfl
  exact Nat.eq_of_mul_eq_mul_right (Nat.mul_pos hx.h2 hy.h2) this
theorem self_is (x : Fr) : Is x x.1 x.2 := rfl
theorem shInv_sh {x : Fr} (h : Sh x) : Sh (shInv x) := ⟨h.h2, h.h1, by have := h.co; rw [Nat.gcd_comm]; exact this⟩
theorem sh_one : Sh (1, 1) := ⟨by decide, by decide, by decide⟩
theorem gp_shares : Gp Sh shMul shInv (1, 1) where
  okm := shMul_sh
  oki := shInv_sh
  ok1 := sh_one
  assoc {a b c} ha hb hc := (shMul_sh (shMul_sh ha hb) hc).same (shMul_sh ha (shMul_sh hb hc)) (shMul_is (shMul_sh ha hb) hc (shMul_is ha hb (self_is a) (self_is b)) (self_is c)) (shMul_is ha (shMul_sh hb hc) (self_is a) (shMul_is hb hc (self_is b) (self_is c)))
    (Nat.mul_pos (Nat.mul_pos ha.h2 hb.h2) hc.h2) (Nat.mul_pos ha.h2 (Nat.mul_pos hb.h2 hc.h2)) (by ac_rfl)
  onem {a} ha := (shMul_sh sh_one ha).same ha (shMul_is sh_one ha (self_is _) (self_is a)) (self_is a) (Nat.mul_pos (by decide) ha.h2) ha.h2 (by simp)
  mone {a} ha := (shMul_sh ha sh_one).same ha (shMul_is ha sh_one (self_is a) (self_is _)) (self_is a) (Nat.mul_pos ha.h2 (by decide)) ha.h2 (by simp)
  invm {a} ha := (shMul_sh (shInv_sh ha) ha).same sh_one (shMul_is (shInv_sh ha) ha (self_is _) (self_is a)) (self_is _) (Nat.mul_pos ha.h1 ha.h2) (by decide) (by simp [shInv]; ac_rfl)
  minv {a} ha := (shMul_sh ha (shInv_sh ha)).same sh_one (shMul_is ha (shInv_sh ha) (self_is a) (self_is _)) (self_is _) (Nat.mul_pos ha.h2 ha.h1) (by decide) (by simp [shInv]; ac_rfl)

def IsP (n : Nat) (p : W) : Prop := p.Perm (List.range n)
def mvMul (a b : W) : W := a.map fun i => b.getD i 0
def mvInv (a : W) : W := (List.range a.length).map fun i => a.idxOf i
theorem IsP.len {n : Nat} {p : W} (h : IsP n p) : p.length = n := by
  have := h.length_eq
  simpa using this
theorem IsP.mem {n : Nat} {p : W} (h : IsP n p) {i : Nat} : i ∈ p ↔ i < n := by
  rw [h.mem_iff, List.mem_range]
theorem IsP.nd {n : Nat} {p : W} (h : IsP n p) : p.Nodup := h.nodup_iff.mpr List.nodup_range
theorem map_self {p : W} : (List.range p.length).map (fun i => p.getD i 0) = p := by
  apply List.ext_getElem
  · simp
  · intro i h1 h2
    simp at h1
    simp [h1]
theorem getD_map {a : W} {f : Nat → Nat} {i : Nat} (h : i < a.length) : (a.map f).getD i 0 = f (a.getD i 0) := by
  simp [h]
theorem get_idx? : ∀ {p : W} {i : Nat}, i ∈ p → p[p.idxOf i]? = some i
  | a :: p, i, h => by
    by_cases e : a = i
    · subst e; simp [List.idxOf_cons]
    · have hi : i ∈ p := (List.mem_cons.mp h).resolve_left (fun z => e z.symm)
      have := get_idx? hi
      rw [List.idxOf_cons]
      have eb : (a == i) = false := by simpa using e
      rw [eb]
      simpa using this
theorem get_idx {p : W} {i : Nat} (h : i ∈ p) : p.getD (p.idxOf i) 0 = i := by
  rw [List.getD_eq_getElem?_getD, get_idx? h]
  rfl
theorem nd_get' {p : W} (h : p.Nodup) {i j a : Nat} (hi : p[i]? = some a) (hj : p[j]? = some a) : i = j :=
  (List.getElem?_inj (List.getElem?_eq_some_iff.mp hi).1 h).mp (hi.trans hj.symm)
theorem idx_get {p : W} (h : p.Nodup) {i : Nat} (hi : i < p.length) : p.idxOf (p[i]) = i :=
  nd_get' h (get_idx? (List.getElem_mem hi)) (List.getElem?_eq_getElem hi)
theorem map_idx {p : W} (h : p.Nodup) : p.map (fun i => p.idxOf i) = List.range p.length := by
  apply List.ext_getElem
  · simp
  · intro i h1 h2
    simp at h1
    simp [idx_get h h1]
theorem gp_moves (n : Nat) : Gp (IsP n) mvMul mvInv (List.range n) where
  okm {a b} ha hb := by
    have h1 : (mvMul a b).Perm ((List.range n).map fun i => b.getD i 0) := List.Perm.map _ ha
    rw [← hb.len, map_self] at h1
    exact h1.trans hb
  oki {a} ha := by
    have h1 : (a.map fun i => a.idxOf i).Perm ((List.range n).map fun i => a.idxOf i) := List.Perm.map _ ha
    rw [map_idx ha.nd, ha.len] at h1
    unfold mvInv
    rw [ha.len]
    exact h1.symm
  ok1 := List.Perm.refl _
  assoc {a b c} ha hb hc := by
    unfold mvMul
    rw [List.map_map]
    apply List.map_congr_left
    intro i hi
    have := ha.mem.mp hi
    show c.getD (b.getD i 0) 0 = (b.map fun i => c.getD i 0).getD i 0
    rw [getD_map (by rw [hb.len]; exact this)]
  onem {a} ha := by
    unfold mvMul
    rw [← ha.len]
    exact map_self
  mone {a} ha := by
    unfold mvMul
    conv => rhs; rw [← List.map_id a]
    apply List.map_congr_left
    intro i hi
    have := ha.mem.mp hi
    simp [this]
  invm {a} ha := by
    unfold mvMul mvInv
    rw [List.map_map, ha.len]
    conv => rhs; rw [← List.map_id (List.range n)]
    apply List.map_congr_left
    intro i hi
    exact get_idx (ha.mem.mpr (List.mem_range.mp hi))
  minv {a} ha := by
    have h1 := map_idx ha.nd
    rw [ha.len] at h1
    rw [← h1]
    unfold mvMul mvInv
    apply List.map_congr_left
    intro i hi
    have := ha.mem.mp hi
    simp [ha.len, this]
end KK

namespace KK
open PySem L2 DL

@[simp] theorem e_fnOf (n : Nat) (fb : Fst) (as : List Sl) (γ : Bxs) : fnOf n fb as γ = (fb (as ++ List.replicate (n - as.length) .un) γ).bind doneO := rfl
@[simp] theorem e_ocl (xs : List D) : OC.d (.l xs) = .list xs := rfl
@[simp] theorem e_ocm (kvs : List (D × D)) : OC.d (.m kvs) = .dict kvs := rfl
@[simp] theorem e_rt (s : Sl) (γ : Bxs) : doneO (.rt s γ) = some (s, γ) := rfl
@[simp] theorem e_nx (ρ : Row) (γ : Bxs) : doneO (.nx ρ γ) = some (.d .none, γ) := rfl
@[simp] theorem e_gN (i : Nat) (d : D) (ρ : Row) : gN i d ρ = some (ρ.set i (.d d)) := rfl
@[simp] theorem e_sSeq (f g : Fst) (ρ : Row) (γ : Bxs) : (sSeq f g : _) ρ γ = ((f ρ γ).bind fun o => match o with | .nx ρ1 γ1 => g ρ1 γ1 | o => some o) := by
  first | rfl | (unfold sSeq; rfl)
@[simp] theorem e_sIf (c : Ft) (f g : Fst) (ρ : Row) (γ : Bxs) : (sIf c f g : _) ρ γ = ((c ρ γ).bind fun p => if p.1 = true then f p.2.1 p.2.2 else g p.2.1 p.2.2) := by
  first | rfl | (unfold sIf; rfl)
@[simp] theorem e_sRet (q : Fq) (ρ : Row) (γ : Bxs) : (sRet q : _) ρ γ = ((q ρ γ).map fun p => .rt p.1 p.2.2) := by
  first | rfl | (unfold sRet; rfl)
@[simp] theorem e_sSet (i : Nat) (q : Fq) (ρ : Row) (γ : Bxs) : (sSet i q : _) ρ γ = ((q ρ γ).map fun p => .nx (p.2.1.set i p.1) p.2.2) := by
  first | rfl | (unfold sSet; rfl)
@[simp] theorem e_sPar (i j : Nat) (q r : Fq) (ρ : Row) (γ : Bxs) : (sPar i j q r : _) ρ γ = ((q ρ γ).bind fun p => (r p.2.1 p.2.2).map fun s => .nx ((s.2.1.set i p.1).set j s.1) s.2.2) := by
  first | rfl | (unfold sPar; rfl)
@[simp] theorem e_sAsg (a : Fx) (g : Fg1) (ρ : Row) (γ : Bxs) : (sAsg a g : _) ρ γ = ((a ρ γ).bind fun p => (g p.1 p.2.1).map fun ρ1 => .nx ρ1 p.2.2) := by
  first | rfl | (unfold sAsg; rfl)
@[simp] theorem e_sDrop (a : Fx) (ρ : Row) (γ : Bxs) : (sDrop a : _) ρ γ = ((a ρ γ).map fun p => .nx p.2.1 p.2.2) := by
  first | rfl | (unfold sDrop; rfl)
@[simp] theorem e_sNext  (ρ : Row) (γ : Bxs) : (sNext : _) ρ γ = (some (.nx ρ γ)) := by
  first | rfl | (unfold sNext; rfl)
@[simp] theorem e_qE (a : Fx) (ρ : Row) (γ : Bxs) : (qE a : _) ρ γ = ((a ρ γ).map fun p => (.d p.1, p.2)) := by
  first | rfl | (unfold qE; rfl)
@[simp] theorem e_qL (a : Fs) (ρ : Row) (γ : Bxs) : (qL a : _) ρ γ = ((a ρ γ).bind fun p => if p.1.length ≤ sizeLine then some (.ow (.l p.1), p.2) else none) := by
  first | rfl | (unfold qL; rfl)
@[simp] theorem e_qCall (fn : Fn) (a : Fa) (ρ : Row) (γ : Bxs) : (qCall fn a : _) ρ γ = ((a ρ γ).bind fun p => (fn p.1 p.2.2).map fun q => (q.1, p.2.1, q.2)) := by
  first | rfl | (unfold qCall; rfl)
@[simp] theorem e_fQ (q : Fq) (ρ : Row) (γ : Bxs) : (fQ q : _) ρ γ = ((q ρ γ).bind fun p => match p.1 with | .ow c => some (c.d, p.2) | .d x => some (x, p.2) | _ => none) := by
  first | rfl | (unfold fQ; rfl)
@[simp] theorem e_fC (d : D) (ρ : Row) (γ : Bxs) : (fC d : _) ρ γ = (some (d, ρ, γ)) := by
  first | rfl | (unfold fC; rfl)
@[simp] theorem e_f1 (g : D → Option D) (a : Fx) (ρ : Row) (γ : Bxs) : (f1 g a : _) ρ γ = ((a ρ γ).bind fun p => (g p.1).map fun z => (z, p.2)) := by
  first | rfl | (unfold f1; rfl)
@[simp] theorem e_f2 (g : D → D → Option D) (a b : Fx) (ρ : Row) (γ : Bxs) : (f2 g a b : _) ρ γ = ((a ρ γ).bind fun p => (b p.2.1 p.2.2).bind fun q => (g p.1 q.1).map fun z => (z, q.2)) := by
  first | rfl | (unfold f2; rfl)
@[simp] theorem e_fS (g : List D → Option D) (a : Fs) (ρ : Row) (γ : Bxs) : (fS g a : _) ρ γ = ((a ρ γ).bind fun p => (g p.1).map fun z => (z, p.2)) := by
  first | rfl | (unfold fS; rfl)
@[simp] theorem e_fNil  (ρ : Row) (γ : Bxs) : (fNil : _) ρ γ = (some ([], ρ, γ)) := by
  first | rfl | (unfold fNil; rfl)
@[simp] theorem e_fCons (a : Fx) (r : Fs) (ρ : Row) (γ : Bxs) : (fCons a r : _) ρ γ = ((a ρ γ).bind fun p => (r p.2.1 p.2.2).map fun q => (p.1 :: q.1, q.2)) := by
  first | rfl | (unfold fCons; rfl)
@[simp] theorem e_fIf (c : Ft) (a b : Fx) (ρ : Row) (γ : Bxs) : (fIf c a b : _) ρ γ = ((c ρ γ).bind fun p => if p.1 = true then a p.2.1 p.2.2 else b p.2.1 p.2.2) := by
  first | rfl | (unfold fIf; rfl)
@[simp] theorem e_fTru (a : Fx) (ρ : Row) (γ : Bxs) : (fTru a : _) ρ γ = ((a ρ γ).bind fun p => (truD p.1).map fun z => (z, p.2)) := by
  first | rfl | (unfold fTru; rfl)
@[simp] theorem e_fBl (a : Fx) (ρ : Row) (γ : Bxs) : (fBl a : _) ρ γ = ((a ρ γ).bind fun p => match p.1 with | .bool b => some (b, p.2) | _ => none) := by
  first | rfl | (unfold fBl; rfl)
@[simp] theorem e_fAndT (a b : Ft) (ρ : Row) (γ : Bxs) : (fAndT a b : _) ρ γ = ((a ρ γ).bind fun p => if p.1 = true then b p.2.1 p.2.2 else some (false, p.2)) := by
  first | rfl | (unfold fAndT; rfl)
@[simp] theorem e_fOrT (a b : Ft) (ρ : Row) (γ : Bxs) : (fOrT a b : _) ρ γ = ((a ρ γ).bind fun p => if p.1 = true then some (true, p.2) else b p.2.1 p.2.2) := by
  first | rfl | (unfold fOrT; rfl)
@[simp] theorem e_fNotT (a : Ft) (ρ : Row) (γ : Bxs) : (fNotT a : _) ρ γ = ((a ρ γ).map fun p => (!p.1, p.2)) := by
  first | rfl | (unfold fNotT; rfl)
@[simp] theorem e_fNo  (ρ : Row) (γ : Bxs) : (fNo : _) ρ γ = (some (none, ρ, γ)) := by
  first | rfl | (unfold fNo; rfl)
@[simp] theorem e_fPt (a : Fx) (ρ : Row) (γ : Bxs) : (fPt a : _) ρ γ = ((a ρ γ).bind fun p => match p.1 with | .int i => some (some i, p.2) | _ => none) := by
  first | rfl | (unfold fPt; rfl)
@[simp] theorem e_fSl (a : Fx) (l h : Fo) (ρ : Row) (γ : Bxs) : (fSl a l h : _) ρ γ = ((a ρ γ).bind fun p => (l p.2.1 p.2.2).bind fun q => (h q.2.1 q.2.2).bind fun r => (slD p.1 q.1 r.1).map fun z => (z, r.2)) := by
  first | rfl | (unfold fSl; rfl)
@[simp] theorem e_fM (g : D → List D → Option D) (a : Fx) (r : Fs) (ρ : Row) (γ : Bxs) : (fM g a r : _) ρ γ = ((a ρ γ).bind fun p => (r p.2.1 p.2.2).bind fun q => (g p.1 q.1).map fun z => (z, q.2)) := by
  first | rfl | (unfold fM; rfl)
@[simp] theorem e_fTupO (a : Fx) (ρ : Row) (γ : Bxs) : (fTupO a : _) ρ γ = ((a ρ γ).bind fun p => match p.1 with | .list xs => some (.tuple xs, p.2) | .tuple xs => some (.tuple xs, p.2) | _ => none) := by
  first | rfl | (unfold fTupO; rfl)
@[simp] theorem e_aNil  (ρ : Row) (γ : Bxs) : (aNil : _) ρ γ = (some ([], ρ, γ)) := by
  first | rfl | (unfold aNil; rfl)
@[simp] theorem e_aE (a : Fx) (r : Fa) (ρ : Row) (γ : Bxs) : (aE a r : _) ρ γ = ((a ρ γ).bind fun p => (r p.2.1 p.2.2).map fun q => (.d p.1 :: q.1, q.2)) := by
  first | rfl | (unfold aE; rfl)
@[simp] theorem e_fTup (a : Fs) (ρ : Row) (γ : Bxs) : (fTup a : _) ρ γ = ((a ρ γ).bind fun p => (if p.1.length ≤ sizeLine then some (.tuple p.1) else none).map fun z => (z, p.2)) := by
  first | rfl | (unfold fTup; rfl)
@[simp] theorem e_fLst (a : Fs) (ρ : Row) (γ : Bxs) : (fLst a : _) ρ γ = ((a ρ γ).bind fun p => (if p.1.length ≤ sizeLine then some (.list p.1) else none).map fun z => (z, p.2)) := by
  first | rfl | (unfold fLst; rfl)
@[simp] theorem e_fV (i : Nat) (ρ : Row) (γ : Bxs) : fV i ρ γ = (match ρ[i]? with | some (.d x) => some (x, ρ, γ) | _ => none) := rfl

theorem log2_lt {i : Int} {k : Nat} (h : i.natAbs < 2 ^ k) (hk : 0 < k) : i.natAbs.log2 < k := by
  by_cases z : i.natAbs = 0
  · rw [z]; simpa using hk
  · exact (Nat.log2_lt z).mpr h
theorem mulD_ok {i j : Int} (hi : i.natAbs < 2 ^ 4000) (hj : j.natAbs < 2 ^ 4000) : mulD (.int i) (.int j) = some (.int (i * j)) := by
  have h1 := log2_lt hi (by decide)
  have h2 := log2_lt hj (by decide)
  simp only [mulD]
  rw [if_pos (by omega)]
theorem fdivD_ok {i j : Int} (h : 0 < j) (hj : j.natAbs < 2 ^ 4000) : fdivD (.int i) (.int j) = some (.int (i / j)) := by
  have h2 := log2_lt hj (by decide)
  simp only [fdivD]
  rw [if_pos ⟨h, by omega⟩]
theorem modD_ok {i j : Int} (h : 0 < j) : modD (.int i) (.int j) = some (.int (i % j)) := by
  simp only [modD]
  rw [if_pos h]
/-- small numbers -/
theorem sm {i : Int} (h0 : -(10 ^ 400) < i) (h1 : i < 10 ^ 400) : i.natAbs < 2 ^ 4000 := by
  have h2 : i.natAbs < 10 ^ 400 := by omega
  have h3 : (10 : Nat) ^ 400 ≤ 2 ^ 4000 := by decide +kernel
  exact Nat.lt_of_lt_of_le h2 h3
@[simp] theorem e_addI (i j : Int) : addD (.int i) (.int j) = some (.int (i + j)) := rfl
@[simp] theorem e_subI (i j : Int) : subD (.int i) (.int j) = some (.int (i - j)) := rfl
@[simp] theorem e_ltI (i j : Int) : ltD (.int i) (.int j) = some (.bool (decide (i < j))) := rfl
@[simp] theorem e_gtI (i j : Int) : gtD (.int i) (.int j) = some (.bool (decide (j < i))) := rfl
@[simp] theorem e_leI (i j : Int) : leD (.int i) (.int j) = some (.bool (decide (i ≤ j))) := rfl
@[simp] theorem e_geI (i j : Int) : geD (.int i) (.int j) = some (.bool (decide (j ≤ i))) := rfl
@[simp] theorem e_negI (i : Int) : negD (.int i) = some (.int (-i)) := rfl
@[simp] theorem e_intI (i : Int) : intD [.int i] = some (.int i) := rfl
@[simp] theorem e_intB (b : Bool) : intD [.bool b] = some (.int (if b then 1 else 0)) := rfl
@[simp] theorem e_truB (b : Bool) : truD (.bool b) = some b := rfl

/-- the dice have been rolled at most n times -/
def Dc (n : Nat) (γ : Bxs) : Prop := ∃ a b c : Int, γ = [[.int a, .int b, .int c]] ∧ 0 ≤ a ∧ a < 10 ^ 120 ∧ 0 ≤ b ∧ b < 10 ^ 30 ∧ 0 ≤ c ∧ c ≤ n
theorem Dc.mono {n m : Nat} {γ : Bxs} (h : Dc n γ) (e : n ≤ m) : Dc m γ := by
  obtain ⟨a, b, c, h1, h2, h3, h4, h5, h6, h7⟩ := h
  exact ⟨a, b, c, h1, h2, h3, h4, h5, h6, by omega⟩
theorem roll {n : Nat} {γ : Bxs} {t : Int} (h : Dc n γ) (hn : n ≤ 1000000) (ht : 0 < t) (ht2 : t < 10 ^ 100) :
    ∃ (r : Int) (γ' : Bxs), F__law_roll [.bx 0, .d (.int t)] γ = some (.d (.int r), γ') ∧ 0 ≤ r ∧ r < t ∧ Dc (n + 1) γ' := by
  obtain ⟨a, b, c, rfl, a0, a1, b0, b1, c0, c1⟩ := h
  have tt : t.natAbs < 2 ^ 4000 := sm (by omega) (by omega)
  by_cases ha : 0 < a
  · refine ⟨a % t, [[.int (a / t), .int b, .int c]], ?_, Int.emod_nonneg _ (by omega), Int.emod_lt_of_pos _ ht, a / t, b, c, rfl, Int.ediv_nonneg a0 (by omega), ?_, b0, b1, c0, by omega⟩
    · simp [F__law_roll, f__law_roll, List.replicate_succ, fIxO, sSetO, ctO, putO, ixD, atI, ixN, ha, modD_ok ht, fdivD_ok ht tt, intOf]
    · exact Int.lt_of_le_of_lt (Int.ediv_le_self _ a0) a1
  · have m1 : mulD (.int 49979687) (.int (c + 1)) = some (.int (49979687 * (c + 1))) := mulD_ok (by decide) (sm (by omega) (by omega))
    generalize hx : (b + 49979687 * (c + 1)) % 2305843009213693613 = x
    have x0 : 0 ≤ x := by rw [← hx]; exact Int.emod_nonneg _ (by decide)
    have x1 : x < 2305843009213693613 := by rw [← hx]; exact Int.emod_lt_of_pos _ (by decide)
    have m2 : mulD (.int x) (.int x) = some (.int (x * x)) := mulD_ok (sm (by omega) (by omega)) (sm (by omega) (by omega))
    have m3 : mulD (.int 89) (.int (c + 1)) = some (.int (89 * (c + 1))) := mulD_ok (by decide) (sm (by omega) (by omega))
    generalize hy : (x * x + 89 * (c + 1)) % 1152921504606846697 = y
    have y0 : 0 ≤ y := by rw [← hy]; exact Int.emod_nonneg _ (by decide)
    have y1 : y < 1152921504606846697 := by rw [← hy]; exact Int.emod_lt_of_pos _ (by decide)
    have m4 : mulD (.int y) (.int 6972593) = some (.int (y * 6972593)) := mulD_ok (sm (by omega) (by omega)) (by decide)
    have d1 : ∀ i : Int, fdivD (.int i) (.int 131072) = some (.int (i / 131072)) := fun i => fdivD_ok (by decide) (by decide)
    have q1 : ∀ i : Int, modD (.int i) (.int 2305843009213693613) = some (.int (i % 2305843009213693613)) := fun i => modD_ok (by decide)
    have q2 : ∀ i : Int, modD (.int i) (.int 1152921504606846697) = some (.int (i % 1152921504606846697)) := fun i => modD_ok (by decide)
    refine ⟨(y * 6972593 + x) / 131072 % t, [[.int a, .int b, .int (c + 1)]], ?_, Int.emod_nonneg _ (by omega), Int.emod_lt_of_pos _ ht, a, b, c + 1, rfl, a0, a1, b0, b1, by omega, by omega⟩
    simp [F__law_roll, f__law_roll, List.replicate_succ, fIxO, sSetO, ctO, putO, ixD, atI, ixN, ha, modD_ok ht, q1, q2, d1, intOf, m1, m3, hx, m2, hy, m4]
end KK

namespace KK
open PySem L2 DL

theorem unS_one {i : Nat} {ρ : Row} (h : ρ.set i .un = ρ) (x : Sl) : unS [i] (ρ.set i x) = ρ := by
  show (ρ.set i x).set i .un = ρ
  rw [List.set_set]; exact h
/-- a comprehension with an invariant -/
theorem lcL_inv {i : Nat} {ft : Ft} {fe : Fx} {ρ : Row} (hρ : ρ.set i .un = ρ) (P : Nat → Bxs → List D → Prop) : ∀ (ds : List D) (k : Nat) (acc : List D) (γ : Bxs),
    (∀ j d acc γ, ds[j]? = some d → P (k + j) γ acc → ∃ b γ1, ft (ρ.set i (.d d)) γ = some (b, ρ.set i (.d d), γ1) ∧ (b = false → P (k + j + 1) γ1 acc) ∧
      (b = true → ∃ v γ2, fe (ρ.set i (.d d)) γ1 = some (v, ρ.set i (.d d), γ2) ∧ P (k + j + 1) γ2 (acc ++ [v]))) →
    P k γ acc → acc.length + ds.length ≤ sizeLine → ∃ res γ', lcL [i] (gN i) ft fe ds acc ρ γ = some (res, ρ, γ') ∧ P (k + ds.length) γ' res
  | [], k, acc, γ, _, h0, _ => ⟨acc, γ, rfl, h0⟩
  | d :: ds, k, acc, γ, H, h0, hz => by
    simp only [List.length_cons] at hz
    obtain ⟨b, γ1, h1, h2, h3⟩ := H 0 d acc γ rfl h0
    have next : ∀ (acc' : List D) (γ' : Bxs), P (k + 1) γ' acc' → acc'.length ≤ acc.length + 1 → ∃ res γ'', lcL [i] (gN i) ft fe ds acc' ρ γ' = some (res, ρ, γ'') ∧ P (k + (d :: ds).length) γ'' res := fun acc' γ' hp hl => by
      have := lcL_inv hρ P ds (k + 1) acc' γ' (fun j e acc γ hj hp => by
        have := H (j + 1) e acc γ (by simpa using hj) (by rw [show k + (j + 1) = k + 1 + j by omega]; exact hp)
        rw [show k + (j + 1) = k + 1 + j by omega] at this
        exact this) hp (by omega)
      rw [show k + (d :: ds).length = k + 1 + ds.length by simp; omega]
      exact this
    cases b with
    | false =>
      obtain ⟨res, γ', e, p⟩ := next acc γ1 (h2 rfl) (by omega)
      exact ⟨res, γ', by simp [lcL, h1, unS_one hρ, e], p⟩
    | true =>
      obtain ⟨v, γ2, h4, h5⟩ := h3 rfl
      obtain ⟨res, γ', e, p⟩ := next _ γ2 h5 (by simp)
      refine ⟨res, γ', ?_, p⟩
      simp only [lcL, e_gN, Option.bind_some, h1, if_true, h4, unS_one hρ]
      rw [if_pos (by omega)]
      exact e
/-- one that rolls no dice -/
theorem lcL_pure {i : Nat} {ft : Ft} {fe : Fx} {ρ : Row} {γ : Bxs} (hρ : ρ.set i .un = ρ) (p : D → Bool) (h : D → D) : ∀ (ds acc : List D),
    (∀ d ∈ ds, ft (ρ.set i (.d d)) γ = some (p d, ρ.set i (.d d), γ) ∧ (p d = true → fe (ρ.set i (.d d)) γ = some (h d, ρ.set i (.d d), γ))) →
    acc.length + ds.length ≤ sizeLine → lcL [i] (gN i) ft fe ds acc ρ γ = some (acc ++ (ds.filter p).map h, ρ, γ)
  | [], acc, _, _ => by simp [lcL]
  | d :: ds, acc, H, hz => by
    simp only [List.length_cons] at hz
    obtain ⟨h1, h2⟩ := H d List.mem_cons_self
    have H' : ∀ e ∈ ds, _ := fun e he => H e (List.mem_cons_of_mem _ he)
    cases hp : p d with
    | false =>
      rw [hp] at h1
      have := lcL_pure hρ p h ds acc H' (by omega)
      simp [lcL, h1, unS_one hρ, this, hp]
    | true =>
      rw [hp] at h1
      have h3 := h2 hp
      have := lcL_pure hρ p h ds (acc ++ [h d]) H' (by simp; omega)
      simp only [lcL, e_gN, Option.bind_some, h1, if_true, h3, unS_one hρ]
      rw [if_pos (by omega), this]
      simp [hp]
/-- a for with an invariant, each turn ending in its place -/
theorem forL_inv {i : Nat} {fb : Fst} (P : Nat → Row → Bxs → Prop) : ∀ (ds : List D) (k : Nat) (ρ : Row) (γ : Bxs),
    (∀ j d ρ γ, ds[j]? = some d → P (k + j) ρ γ → ∃ ρ' γ', fb (ρ.set i (.d d)) γ = some (.nx ρ' γ') ∧ P (k + j + 1) ρ' γ') →
    P k ρ γ → ∃ ρ' γ', forL (gN i) fb ds ρ γ = some (.nx ρ' γ') ∧ P (k + ds.length) ρ' γ'
  | [], k, ρ, γ, _, h0 => ⟨ρ, γ, rfl, h0⟩
  | d :: ds, k, ρ, γ, H, h0 => by
    obtain ⟨ρ1, γ1, h1, h2⟩ := H 0 d ρ γ rfl h0
    obtain ⟨ρ2, γ2, h3, h4⟩ := forL_inv P ds (k + 1) ρ1 γ1 (fun j e ρ γ hj hp => by
      have := H (j + 1) e ρ γ (by simpa using hj) (by rw [show k + (j + 1) = k + 1 + j by omega]; exact hp)
      rw [show k + (j + 1) = k + 1 + j by omega] at this
      exact this) h2
    refine ⟨ρ2, γ2, ?_, by rw [show k + (d :: ds).length = k + 1 + ds.length by simp; omega]; exact h4⟩
    simp [forL, h1, h3]
theorem whL_mono {c : Ft} {fb : Fst} : ∀ {n : Nat} {ρ : Row} {γ : Bxs} {o : Oc} (k : Nat), whL c fb n ρ γ = some o → whL c fb (n + k) ρ γ = some o
  | 0, ρ, γ, o, k, h => by cases h
  | n + 1, ρ, γ, o, k, h => by
    rw [show n + 1 + k = (n + k) + 1 by omega]
    simp only [whL] at h ⊢
    obtain ⟨p, h1, h⟩ := bind_some h
    rw [h1]
    simp only [Option.bind_some]
    split at h
    · rename_i hp
      rw [if_pos hp]
      obtain ⟨q, h2, h⟩ := bind_some h
      rw [h2]
      simp only [Option.bind_some]
      cases q with
      | nx a b => exact whL_mono k h
      | ct a b => exact whL_mono k h
      | bk a b => exact h
      | rt a b => exact h
    · rename_i hp
      rw [if_neg hp]
      exact h
theorem big_le {n : Nat} (h : n < 2 ^ 4000) : n ≤ BIG := by
  have : (2 : Nat) ^ 4000 ≤ BIG := by unfold BIG; exact Nat.pow_le_pow_right (by decide) (by decide)
  omega
theorem sW_of {c : Ft} {fb : Fst} {n : Nat} {ρ : Row} {γ : Bxs} {o : Oc} (h : whL c fb n ρ γ = some o) (hn : n < 2 ^ 4000) : sW c fb ρ γ = some o := by
  have := whL_mono (BIG - n) h
  rwa [Nat.add_sub_cancel' (big_le hn)] at this
theorem whL_go {c : Ft} {fb : Fst} {n : Nat} {ρ ρ' : Row} {γ γ' : Bxs} (h1 : c ρ γ = some (true, ρ, γ)) (h2 : fb ρ γ = some (.nx ρ' γ')) : whL c fb (n + 1) ρ γ = whL c fb n ρ' γ' := by
  simp [whL, h1, h2]
theorem whL_end {c : Ft} {fb : Fst} {n : Nat} {ρ : Row} {γ : Bxs} (h1 : c ρ γ = some (false, ρ, γ)) : whL c fb (n + 1) ρ γ = some (.nx ρ γ) := by
  simp [whL, h1]

@[simp] theorem e_lenS (w : W) (h : w.length ≤ sizeLine) : lenD [.str (S w)] = some (.int w.length) := by
  have : (S w).length = w.length := S_len w
  simp only [lenD, this]
  rw [if_pos h]
theorem str_S {x y : Str} : x = y ↔ x.cps.toList = y.cps.toList := by
  cases x; cases y
  simp
theorem S_inj {v w : W} : S v = S w ↔ v = w := by
  rw [str_S]
theorem glue_S : ∀ (w : W) (init : Array Nat), ((w.map fun c => S [c]).foldl (fun acc p => acc ++ (S []).cps ++ p.cps) init).toList = init.toList ++ w
  | [], init => by simp
  | c :: w, init => by
    rw [List.map_cons, List.foldl_cons, glue_S w]
    simp
theorem join_S (w : W) : Txt.join (S []) (w.map fun c => S [c]) = S w := by
  apply str_S.mpr
  cases w with
  | nil => rfl
  | cons c w =>
    have := glue_S w (S [c]).cps
    exact this
theorem strs_signs (w : W) : strsOf (w.map fun c => PyData.str (S [c])) = some (w.map fun c => S [c]) := by
  have := strsOf_map (w.map fun c => S [c])
  rwa [List.map_map] at this
@[simp] theorem e_join (w : W) (h : w.length ≤ 16777216) : joinD (.str (S [])) [.list (w.map fun c => .str (S [c]))] = some (.str (S w)) := by
  simp only [joinD, strs_signs, Option.bind_some, join_S]
  rw [if_pos]
  have : ∀ w : W, ((w.map fun c => S [c]).map (·.length)).sum = w.length := by
    intro w
    induction w with
    | nil => rfl
    | cons c w ih => simp only [List.map_cons, List.sum_cons, ih, List.length_cons]; rw [S_len]; simp; omega
  rw [this, S_len]
  simpa using h

theorem e_range {r : Int} (h0 : -(2 ^ 62) ≤ r) (h1 : r < 2 ^ 62) : range1D [.int r] = some ((List.range r.toNat).map fun i => .int (i : Nat)) := by
  simp only [range1D]
  rw [if_pos (inB_iff.mpr ⟨by omega, by omega⟩)]
theorem emp : ("" : Str) = S [] := by decide +kernel
theorem pick_str {n : Nat} {γ : Bxs} {w : W} (h : Dc n γ) (hn : n ≤ 1000000) (hw : w ≠ []) (hz : w.length ≤ 1000) : ∃ c γ', F__law_pick [.bx 0, .d (.str (S w))] γ = some (.d (.str (S [c])), γ') ∧ c ∈ w ∧ Dc (n + 1) γ' := by
  have hl : 0 < w.length := List.length_pos_iff.mpr hw
  obtain ⟨r, γ', e, h0, h1, d⟩ := roll h hn (t := w.length) (by omega) (by omega)
  have hz' : w.length ≤ sizeLine := by rw [sizeLine_eq]; omega
  have hr : r.toNat < w.length := by omega
  refine ⟨w[r.toNat], γ', ?_, List.getElem_mem hr, d⟩
  have el : (S w).length = w.length := S_len w
  simp [F__law_pick, f__law_pick, List.replicate_succ, aB, e_lenS w hz', e, ixD, el, hz', atI, ixN, h0, h1, hr]
theorem pick_list {n : Nat} {γ : Bxs} {ds : List D} (h : Dc n γ) (hn : n ≤ 1000000) (hw : ds ≠ []) (hz : ds.length ≤ 1000) : ∃ d γ', F__law_pick [.bx 0, .d (.list ds)] γ = some (.d d, γ') ∧ d ∈ ds ∧ Dc (n + 1) γ' := by
  have hl : 0 < ds.length := List.length_pos_iff.mpr hw
  obtain ⟨r, γ', e, h0, h1, d⟩ := roll h hn (t := ds.length) (by omega) (by omega)
  have hr : r.toNat < ds.length := by omega
  refine ⟨ds[r.toNat], γ', ?_, List.getElem_mem hr, d⟩
  simp [F__law_pick, f__law_pick, List.replicate_succ, aB, lenD, e, ixD, atI, ixN, h0, h1, hr]
theorem word_drawn {n : Nat} {γ : Bxs} {most : Nat} {w : W} (h : Dc n γ) (hn : n ≤ 900000) (hw : w ≠ []) (hz : w.length ≤ 1000) (hm : most ≤ 1000) :
    ∃ v γ', F__law_word [.bx 0, .d (.str (S w)), .d (.int most)] γ = some (.d (.str (S v)), γ') ∧ (∀ c ∈ v, c ∈ w) ∧ v.length ≤ most ∧ Dc (n + most + 1) γ' := by
  obtain ⟨r, γ1, e1, r0, r1, d1⟩ := roll h (by omega) (t := most + 1) (by omega) (by omega)
  obtain ⟨res, γ', e2, v, rfl, hv, hl, d2⟩ := lcL_inv (i := 3) (ft := fYes) (fe := fQ (qCall F__law_pick (aB 0 (aE (fV 1) aNil)))) (ρ := [.bx 0, .d (.str (S w)), .d (.int most), .un]) rfl
    (fun k γ acc => ∃ v : W, acc = v.map (fun c => .str (S [c])) ∧ (∀ c ∈ v, c ∈ w) ∧ v.length = k ∧ Dc (n + 1 + k) γ)
    ((List.range r.toNat).map fun i => .int (i : Nat)) 0 [] γ1 (fun j d acc γ hj ⟨v, ea, hv, hl, dc⟩ => by
      have hjr : j < r.toNat := by
        have := (List.getElem?_eq_some_iff.mp hj).1
        simpa using this
      refine ⟨true, γ, rfl, (fun z => nomatch z), fun _ => ?_⟩
      obtain ⟨c, γ', e, hc, dc'⟩ := pick_str dc (by omega) hw hz
      refine ⟨.str (S [c]), γ', by simp [aB, e], v ++ [c], by simp [ea], fun x hx => ?_, by simp [hl], dc'⟩
      rcases List.mem_append.mp hx with z | z
      · exact hv x z
      · rw [List.mem_singleton.mp z]; exact hc) ⟨[], rfl, (fun _ z => nomatch z), rfl, d1⟩ (by simp [sizeLine_eq]; omega)
  simp only [List.length_map, List.length_range, Nat.zero_add] at hl d2
  refine ⟨v, γ', ?_, hv, by omega, d2.mono (by omega)⟩
  have hb : range1D [.int r] = some ((List.range r.toNat).map fun i => .int (i : Nat)) := e_range (by omega) (by omega)
  have hv2 : v.length ≤ 16777216 := by omega
  simp [F__law_word, f__law_word, List.replicate_succ, aB, e1, iR, hb, qLc, unS, e2, emp, e_join v hv2]
end KK

namespace KK
open PySem L2 DL
theorem kit_NoneType_int : kitB "NoneType" "int" = some false := by decide +kernel
theorem kit_bool_int : kitB "bool" "int" = some true := by decide +kernel
theorem kit_int_int : kitB "int" "int" = some true := by decide +kernel
theorem kit_str_int : kitB "str" "int" = some false := by decide +kernel
theorem kit_list_int : kitB "list" "int" = some false := by decide +kernel
theorem kit_tuple_int : kitB "tuple" "int" = some false := by decide +kernel
theorem kit_dict_int : kitB "dict" "int" = some false := by decide +kernel
theorem kit_NoneType_bool : kitB "NoneType" "bool" = some false := by decide +kernel
theorem kit_bool_bool : kitB "bool" "bool" = some true := by decide +kernel
theorem kit_int_bool : kitB "int" "bool" = some false := by decide +kernel
theorem kit_str_bool : kitB "str" "bool" = some false := by decide +kernel
theorem kit_list_bool : kitB "list" "bool" = some false := by decide +kernel
theorem kit_tuple_bool : kitB "tuple" "bool" = some false := by decide +kernel
theorem kit_dict_bool : kitB "dict" "bool" = some false := by decide +kernel
theorem kit_NoneType_str : kitB "NoneType" "str" = some false := by decide +kernel
theorem kit_bool_str : kitB "bool" "str" = some false := by decide +kernel
theorem kit_int_str : kitB "int" "str" = some false := by decide +kernel
theorem kit_str_str : kitB "str" "str" = some true := by decide +kernel
theorem kit_list_str : kitB "list" "str" = some false := by decide +kernel
theorem kit_tuple_str : kitB "tuple" "str" = some false := by decide +kernel
theorem kit_dict_str : kitB "dict" "str" = some false := by decide +kernel
theorem kit_NoneType_tuple : kitB "NoneType" "tuple" = some false := by decide +kernel
theorem kit_bool_tuple : kitB "bool" "tuple" = some false := by decide +kernel
theorem kit_int_tuple : kitB "int" "tuple" = some false := by decide +kernel
theorem kit_str_tuple : kitB "str" "tuple" = some false := by decide +kernel
theorem kit_list_tuple : kitB "list" "tuple" = some false := by decide +kernel
theorem kit_tuple_tuple : kitB "tuple" "tuple" = some true := by decide +kernel
theorem kit_dict_tuple : kitB "dict" "tuple" = some false := by decide +kernel
@[simp] theorem is_NoneType_int : isD "int" .none = some (.bool false) := by simp [isD, tyN, fnB, kit_NoneType_int]
@[simp] theorem is_bool_int (b : Bool) : isD "int" (.bool b) = some (.bool true) := by simp [isD, tyN, fnB, kit_bool_int]
@[simp] theorem is_int_int (i : Int) : isD "int" (.int i) = some (.bool true) := by simp [isD, tyN, fnB, kit_int_int]
@[simp] theorem is_str_int (x : Str) : isD "int" (.str x) = some (.bool false) := by simp [isD, tyN, fnB, kit_str_int]
@[simp] theorem is_list_int (x : List D) : isD "int" (.list x) = some (.bool false) := by simp [isD, tyN, fnB, kit_list_int]
@[simp] theorem is_tuple_int (x : List D) : isD "int" (.tuple x) = some (.bool false) := by simp [isD, tyN, fnB, kit_tuple_int]
@[simp] theorem is_dict_int : isD "int" (.dict []) = some (.bool false) := by simp [isD, tyN, fnB, kit_dict_int]
@[simp] theorem is_NoneType_bool : isD "bool" .none = some (.bool false) := by simp [isD, tyN, fnB, kit_NoneType_bool]
@[simp] theorem is_bool_bool (b : Bool) : isD "bool" (.bool b) = some (.bool true) := by simp [isD, tyN, fnB, kit_bool_bool]
@[simp] theorem is_int_bool (i : Int) : isD "bool" (.int i) = some (.bool false) := by simp [isD, tyN, fnB, kit_int_bool]
@[simp] theorem is_str_bool (x : Str) : isD "bool" (.str x) = some (.bool false) := by simp [isD, tyN, fnB, kit_str_bool]
@[simp] theorem is_list_bool (x : List D) : isD "bool" (.list x) = some (.bool false) := by simp [isD, tyN, fnB, kit_list_bool]
@[simp] theorem is_tuple_bool (x : List D) : isD "bool" (.tuple x) = some (.bool false) := by simp [isD, tyN, fnB, kit_tuple_bool]
@[simp] theorem is_dict_bool : isD "bool" (.dict []) = some (.bool false) := by simp [isD, tyN, fnB, kit_dict_bool]
@[simp] theorem is_NoneType_str : isD "str" .none = some (.bool false) := by simp [isD, tyN, fnB, kit_NoneType_str]
@[simp] theorem is_bool_str (b : Bool) : isD "str" (.bool b) = some (.bool false) := by simp [isD, tyN, fnB, kit_bool_str]
@[simp] theorem is_int_str (i : Int) : isD "str" (.int i) = some (.bool false) := by simp [isD, tyN, fnB, kit_int_str]
@[simp] theorem is_str_str (x : Str) : isD "str" (.str x) = some (.bool true) := by simp [isD, tyN, fnB, kit_str_str]
@[simp] theorem is_list_str (x : List D) : isD "str" (.list x) = some (.bool false) := by simp [isD, tyN, fnB, kit_list_str]
@[simp] theorem is_tuple_str (x : List D) : isD "str" (.tuple x) = some (.bool false) := by simp [isD, tyN, fnB, kit_tuple_str]
@[simp] theorem is_dict_str : isD "str" (.dict []) = some (.bool false) := by simp [isD, tyN, fnB, kit_dict_str]
@[simp] theorem is_NoneType_tuple : isD "tuple" .none = some (.bool false) := by simp [isD, tyN, fnB, kit_NoneType_tuple]
@[simp] theorem is_bool_tuple (b : Bool) : isD "tuple" (.bool b) = some (.bool false) := by simp [isD, tyN, fnB, kit_bool_tuple]
@[simp] theorem is_int_tuple (i : Int) : isD "tuple" (.int i) = some (.bool false) := by simp [isD, tyN, fnB, kit_int_tuple]
@[simp] theorem is_str_tuple (x : Str) : isD "tuple" (.str x) = some (.bool false) := by simp [isD, tyN, fnB, kit_str_tuple]
@[simp] theorem is_list_tuple (x : List D) : isD "tuple" (.list x) = some (.bool false) := by simp [isD, tyN, fnB, kit_list_tuple]
@[simp] theorem is_tuple_tuple (x : List D) : isD "tuple" (.tuple x) = some (.bool true) := by simp [isD, tyN, fnB, kit_tuple_tuple]
@[simp] theorem is_dict_tuple : isD "tuple" (.dict []) = some (.bool false) := by simp [isD, tyN, fnB, kit_dict_tuple]
end KK

namespace KK
open PySem L2 DL

@[simp] theorem e_eqS (x y : Str) : eqD (.str x) (.str y) = some (.bool (x == y)) := by
  simp only [eqD, PyData.plain, PyData.depth, PyData.eqv]
  rw [if_pos]
  decide
@[simp] theorem e_neS (x y : Str) : neD (.str x) (.str y) = some (.bool (!(x == y))) := by
  simp only [neD, PyData.plain, PyData.depth, PyData.eqv]
  rw [if_pos]
  decide
@[simp] theorem k1 : ¬ ("words" : Str) = "sums" := by decide +kernel
@[simp] theorem k2 : ¬ ("words" : Str) = "shares" := by decide +kernel
@[simp] theorem k3 : ¬ ("words" : Str) = "moves" := by decide +kernel
@[simp] theorem k4 : ¬ ("sums" : Str) = "words" := by decide +kernel
@[simp] theorem k5 : ¬ ("sums" : Str) = "shares" := by decide +kernel
@[simp] theorem k6 : ¬ ("sums" : Str) = "moves" := by decide +kernel
@[simp] theorem k7 : ¬ ("shares" : Str) = "words" := by decide +kernel
@[simp] theorem k8 : ¬ ("shares" : Str) = "sums" := by decide +kernel
@[simp] theorem k9 : ¬ ("shares" : Str) = "moves" := by decide +kernel
@[simp] theorem k10 : ¬ ("moves" : Str) = "words" := by decide +kernel
@[simp] theorem k11 : ¬ ("moves" : Str) = "sums" := by decide +kernel
@[simp] theorem k12 : ¬ ("moves" : Str) = "shares" := by decide +kernel
@[simp] theorem e_inS (x : Str) (ys : List Str) : inD (.str x) (.tuple (ys.map PyData.str)) = some (.bool (ys.any fun y => y == x)) := by
  have hp : PyData.plainAll (ys.map PyData.str) = true := by
    induction ys with
    | nil => rfl
    | cons y ys ih => simp [PyData.plainAll, PyData.plain, ih]
  simp only [inD, hasD]
  rw [if_pos ⟨hp, rfl, by show (0 : Nat) ≤ 60; decide⟩, List.any_map]
  rfl
@[simp] theorem e_in2 (x a b : Str) : inD (.str x) (.tuple [.str a, .str b]) = some (.bool (a == x || (b == x))) := by
  have := e_inS x [a, b]
  simpa using this
@[simp] theorem e_in4 (x a b c d : Str) : inD (.str x) (.tuple [.str a, .str b, .str c, .str d]) = some (.bool (a == x || (b == x || (c == x || d == x)))) := by
  have := e_inS x [a, b, c, d]
  simpa using this
@[simp] theorem e_sz2 : ¬ sizeLine < 2 := by decide
@[simp] theorem e_sz2' : (2 : Nat) ≤ sizeLine := by decide

theorem gcd_go (ft : Ft) (fb : Fst) (γ : Bxs) (R : Int → Int → Row) (h0 : ∀ l r : Int, ft (R l r) γ = some (decide (0 < r), R l r, γ)) (h1 : ∀ l r : Int, 0 < r → fb (R l r) γ = some (.nx (R r (l % r)) γ)) :
    ∀ (n l r : Nat), r < n → whL ft fb n (R l r) γ = some (.nx (R (Nat.gcd l r) 0) γ)
  | 0, l, r, h => absurd h (Nat.not_lt_zero _)
  | n + 1, l, r, h => by
    by_cases hr : r = 0
    · subst hr
      rw [whL_end (by simpa using h0 l 0)]
      simp
    · have p : (0 : Int) < r := by omega
      have q := h0 l r
      rw [decide_eq_true p] at q
      rw [whL_go q (h1 l r p)]
      have e : ((l : Int) % (r : Int)) = ((l % r : Nat) : Int) := by simp
      have lt : l % r < r := Nat.mod_lt _ (by omega)
      rw [e, gcd_go ft fb γ R h0 h1 n r (l % r) (by omega)]
      have eg : Nat.gcd r (l % r) = Nat.gcd l r := by
        rw [Nat.gcd_comm r, ← Nat.gcd_rec, Nat.gcd_comm]
      rw [eg]
theorem divisor_of (a b : Nat) (hb : b < 2 ^ 3999) (γ : Bxs) : F_divisor_of [.d (.int a), .d (.int b)] γ = some (.d (.int (Nat.gcd a b)), γ) := by
  have hw := fun ft fb h0 h1 => sW_of (gcd_go ft fb γ (fun l r => [.d (.int a), .d (.int b), .d (.int l), .d (.int r)]) h0 h1 (b + 1) a b (by omega)) (by omega)
  simp [F_divisor_of, f_divisor_of, List.replicate_succ]
  rw [hw]
  · simp
  · intro l r; simp
  · intro l r p; simp [modD_ok p]
/-- a share as data -/
def eSh (x : Fr) : D := .tuple [.int x.1, .int x.2]
theorem gcd_sm {a b : Nat} (ha : 0 < a) (h : a < 10 ^ 400) : ((Nat.gcd a b : Nat) : Int).natAbs < 2 ^ 4000 := by
  have h1 := Nat.gcd_le_left b ha
  exact sm (by omega) (by omega)
theorem p400 {b : Nat} (h : b < 10 ^ 400) : b < 2 ^ 3999 := by
  have : (10 : Nat) ^ 400 ≤ 2 ^ 3999 := by decide +kernel
  omega
theorem lowered {a b : Nat} (ha : 0 < a) (ha2 : a < 10 ^ 400) (hb : b < 10 ^ 400) (γ : Bxs) : F_lowered [.d (.int a), .d (.int b)] γ = some (.d (eSh (redP a b)), γ) := by
  have g0 : (0 : Int) < (Nat.gcd a b : Nat) := by
    have := Nat.gcd_pos_of_pos_left b ha
    omega
  have d1 := fun i => fdivD_ok (i := i) g0 (gcd_sm ha ha2)
  simp [F_lowered, f_lowered, List.replicate_succ, divisor_of a b (p400 hb), d1, eSh, redP]
@[simp] theorem e_ix0 (a b : D) : ixD (.tuple [a, b]) (.int 0) = some a := rfl
@[simp] theorem e_ix1 (a b : D) : ixD (.tuple [a, b]) (.int 1) = some b := rfl
theorem mulN {a b : Nat} (ha : 0 < a) (hb : 0 < b) (h : a * b < 10 ^ 400) : mulD (.int a) (.int b) = some (.int ((a * b : Nat) : Int)) := by
  have h1 : a ≤ a * b := Nat.le_mul_of_pos_right a hb
  have h2 : b ≤ a * b := Nat.le_mul_of_pos_left b ha
  rw [mulD_ok (sm (by omega) (by omega)) (sm (by omega) (by omega))]
  simp
theorem mult_sh {x y : Fr} (hx : Sh x) (hy : Sh y) (h1 : x.1 * y.1 < 10 ^ 400) (h2 : x.2 * y.2 < 10 ^ 400) (γ : Bxs) :
    F_multiplied [.d (.str "shares"), .d (eSh x), .d (eSh y)] γ = some (.d (eSh (shMul x y)), γ) := by
  have := lowered (a := x.1 * y.1) (b := x.2 * y.2) (Nat.mul_pos hx.h1 hy.h1) h1 h2 γ
  simp [F_multiplied, f_multiplied, List.replicate_succ, eSh, mulN hx.h1 hy.h1 h1, mulN hx.h2 hy.h2 h2] at this ⊢
  rw [this]
  simp [shMul]
theorem times_pos {x y : Fr} (x1 : 0 < x.1) (x2 : 0 < x.2) (y1 : 0 < y.1) (y2 : 0 < y.2) (h1 : x.1 * y.1 < 10 ^ 400) (h2 : x.2 * y.2 < 10 ^ 400) (γ : Bxs) :
    F__law_times [.d (.str "shares"), .d (eSh x), .d (eSh y)] γ = some (.d (eSh (shMul x y)), γ) := by
  have m1 := mulN x1 y1 h1
  have m2 := mulN x2 y2 h2
  have pa := Nat.mul_pos x1 y1
  unfold shMul
  generalize x.1 * y.1 = a at m1 h1 pa ⊢
  generalize x.2 * y.2 = b at m2 h2 ⊢
  have g0 : (0 : Int) < (Nat.gcd a b : Nat) := by
    have := Nat.gcd_pos_of_pos_left b pa
    omega
  have d1 := fun i => fdivD_ok (i := i) g0 (gcd_sm pa h1)
  have hw := fun ft fb h0 h1 => sW_of (gcd_go ft fb γ (fun l r => [.d (.str "shares"), .d (eSh x), .d (eSh y), .un, .d (.int a), .d (.int b), .d (.int l), .d (.int r)]) h0 h1 (b + 1) a b (by omega)) (by have := p400 h2; omega)
  simp only [eSh] at hw
  simp [F__law_times, f__law_times, List.replicate_succ, eSh, m1, m2]
  rw [hw]
  · simp [d1, redP]
  · intro l r; simp
  · intro l r p; simp [modD_ok p]
theorem times_sh {x y : Fr} (hx : Sh x) (hy : Sh y) (h1 : x.1 * y.1 < 10 ^ 400) (h2 : x.2 * y.2 < 10 ^ 400) (γ : Bxs) :
    F__law_times [.d (.str "shares"), .d (eSh x), .d (eSh y)] γ = some (.d (eSh (shMul x y)), γ) := times_pos hx.h1 hx.h2 hy.h1 hy.h2 h1 h2 γ
theorem back_sh (x : Fr) (γ : Bxs) : F_taken_back [.d (.str "shares"), .d (eSh x)] γ = some (.d (eSh (shInv x)), γ) := by
  simp [F_taken_back, f_taken_back, List.replicate_succ, eSh, shInv]
theorem lback_sh (x : Fr) (γ : Bxs) : F__law_undone [.d (.str "shares"), .d (eSh x)] γ = some (.d (eSh (shInv x)), γ) := by
  simp [F__law_undone, f__law_undone, List.replicate_succ, eSh, shInv]
theorem mult_su (x y : Int) (γ : Bxs) : F_multiplied [.d (.str "sums"), .d (.int x), .d (.int y)] γ = some (.d (.int (x + y)), γ) := by
  simp [F_multiplied, f_multiplied, List.replicate_succ]
theorem times_su (x y : Int) (γ : Bxs) : F__law_times [.d (.str "sums"), .d (.int x), .d (.int y)] γ = some (.d (.int (x + y)), γ) := by
  simp [F__law_times, f__law_times, List.replicate_succ]
theorem back_su (x : Int) (γ : Bxs) : F_taken_back [.d (.str "sums"), .d (.int x)] γ = some (.d (.int (-x)), γ) := by
  simp [F_taken_back, f_taken_back, List.replicate_succ]
theorem lback_su (x : Int) (γ : Bxs) : F__law_undone [.d (.str "sums"), .d (.int x)] γ = some (.d (.int (-x)), γ) := by
  simp [F__law_undone, f__law_undone, List.replicate_succ]
end KK

namespace KK
open PySem L2 DL

theorem lcL_fm {α : Type} {i : Nat} {ft : Ft} {fe : Fx} {ρ : Row} {γ : Bxs} (hρ : ρ.set i .un = ρ) (e : α → D) (p : α → Bool) (h : α → D) : ∀ (xs : List α) (acc : List D),
    (∀ x ∈ xs, ft (ρ.set i (.d (e x))) γ = some (p x, ρ.set i (.d (e x)), γ) ∧ (p x = true → fe (ρ.set i (.d (e x))) γ = some (h x, ρ.set i (.d (e x)), γ))) →
    acc.length + xs.length ≤ sizeLine → lcL [i] (gN i) ft fe (xs.map e) acc ρ γ = some (acc ++ (xs.filter p).map h, ρ, γ)
  | [], acc, _, _ => by simp [lcL]
  | x :: xs, acc, H, hz => by
    simp only [List.length_cons] at hz
    obtain ⟨h1, h2⟩ := H x List.mem_cons_self
    have H' : ∀ y ∈ xs, _ := fun y hy => H y (List.mem_cons_of_mem _ hy)
    cases hp : p x with
    | false =>
      rw [hp] at h1
      have := lcL_fm hρ e p h xs acc H' (by omega)
      simp [lcL, h1, unS_one hρ, this, hp]
    | true =>
      rw [hp] at h1
      have h3 := h2 hp
      have := lcL_fm hρ e p h xs (acc ++ [h x]) H' (by simp; omega)
      simp only [List.map_cons, lcL, e_gN, Option.bind_some, h1, if_true, h3, unS_one hρ]
      rw [if_pos (by omega), this]
      simp [hp]
theorem lcL_map {α : Type} {i : Nat} {fe : Fx} {ρ : Row} {γ : Bxs} (hρ : ρ.set i .un = ρ) (e : α → D) (h : α → D) (xs : List α)
    (H : ∀ x ∈ xs, fe (ρ.set i (.d (e x))) γ = some (h x, ρ.set i (.d (e x)), γ)) (hz : xs.length ≤ sizeLine) : lcL [i] (gN i) fYes fe (xs.map e) [] ρ γ = some (xs.map h, ρ, γ) := by
  have := lcL_fm (ft := fYes) (fe := fe) (γ := γ) hρ e (fun _ => true) h xs [] (fun x hx => ⟨rfl, fun _ => H x hx⟩) (by simpa using hz)
  have ft : xs.filter (fun _ => true) = xs := List.filter_eq_self.mpr fun _ _ => rfl
  rw [ft] at this
  exact this

theorem eqvAll_ints : ∀ ns ms : List Int, PyData.eqvAll (ns.map PyData.int) (ms.map PyData.int) = decide (ns = ms)
  | [], [] => by simp [PyData.eqvAll]
  | [], _ :: _ => by simp [PyData.eqvAll]
  | _ :: _, [] => by simp [PyData.eqvAll]
  | n :: ns, m :: ms => by
    simp only [List.map_cons, PyData.eqvAll, PyData.eqv, eqvAll_ints ns ms]
    rw [Bool.eq_iff_iff]
    simp
theorem plainInts : ∀ ns : List Int, PyData.plainAll (ns.map PyData.int) = true
  | [] => rfl
  | n :: ns => by simp [PyData.plainAll, PyData.plain, plainInts ns]
theorem depthInts : ∀ ns : List Int, PyData.depthAll (ns.map PyData.int) = 0
  | [] => rfl
  | n :: ns => by simp [PyData.depthAll, PyData.depth, depthInts ns]
theorem e_eqTI (ns ms : List Int) : eqD (.tuple (ns.map PyData.int)) (.tuple (ms.map PyData.int)) = some (.bool (decide (ns = ms))) := by
  simp only [eqD, PyData.plain, PyData.depth, PyData.eqv, plainInts, depthInts, eqvAll_ints]
  rw [if_pos]
  exact ⟨trivial, trivial, by decide⟩
theorem e_eqLI (ns ms : List Int) : eqD (.list (ns.map PyData.int)) (.list (ms.map PyData.int)) = some (.bool (decide (ns = ms))) := by
  simp only [eqD, PyData.plain, PyData.depth, PyData.eqv, plainInts, depthInts, eqvAll_ints]
  rw [if_pos]
  exact ⟨trivial, trivial, by decide⟩
def iD (i : Nat) : D := .int (i : Int)
def eMv (p : W) : D := .tuple (p.map iD)
theorem iD_map (p : W) : p.map iD = (p.map fun i : Nat => (i : Int)).map PyData.int := by rw [List.map_map]; rfl
theorem ints_iD (p : W) : intsOf (p.map iD) = some (p.map fun i : Nat => (i : Int)) := by rw [iD_map, intsOf_map]
theorem ix_iD {b : W} {i : Nat} (h : i < b.length) : ixD (.tuple (b.map iD)) (iD i) = some (iD (b.getD i 0)) := by
  simp [ixD, iD, atI, ixN, h]
theorem idx_cast (i : Nat) : ∀ p : W, (p.map fun i : Nat => (i : Int)).idxOf (i : Int) = p.idxOf i
  | [] => rfl
  | a :: p => by
    by_cases e : a = i
    · subst e; simp [List.idxOf_cons]
    · have e' : ¬ (a : Int) = (i : Int) := by omega
      simp only [List.map_cons, List.idxOf_cons]
      have b1 : (a == i) = false := by simpa using e
      have b2 : ((a : Int) == (i : Int)) = false := by simpa using e'
      rw [b1, b2, idx_cast i p]
theorem sz5 {n : Nat} (h : n ≤ 1000) : n ≤ sizeLine := by rw [sizeLine_eq]; omega
theorem mult_mv {a b : W} (ha : ∀ i ∈ a, i < b.length) (hl : a.length ≤ 1000) (γ : Bxs) : F_multiplied [.d (.str "moves"), .d (eMv a), .d (eMv b)] γ = some (.d (eMv (mvMul a b)), γ) := by
  have := lcL_map (i := 3) (fe := f2 ixD (fV 2) (fV 3)) (ρ := [.d (.str "moves"), .d (eMv a), .d (eMv b), .un]) (γ := γ) rfl iD (fun i => iD (b.getD i 0)) a (fun i hi => by simp [eMv, ix_iD (ha i hi)]) (sz5 hl)
  simp [F_multiplied, f_multiplied, List.replicate_succ, qLc, iE, itemsD, unS]
  simp [eMv] at this ⊢
  rw [this]
  simp [mvMul]
theorem times_mv {a b : W} (ha : ∀ i ∈ a, i < b.length) (hl : a.length ≤ 1000) (γ : Bxs) : F__law_times [.d (.str "moves"), .d (eMv a), .d (eMv b)] γ = some (.d (eMv (mvMul a b)), γ) := by
  have := lcL_map (i := 3) (fe := f2 ixD (fV 2) (fV 3)) (ρ := [.d (.str "moves"), .d (eMv a), .d (eMv b), .un, .un, .un, .un, .un]) (γ := γ) rfl iD (fun i => iD (b.getD i 0)) a (fun i hi => by simp [eMv, ix_iD (ha i hi)]) (sz5 hl)
  simp [F__law_times, f__law_times, List.replicate_succ, qLc, iE, itemsD, unS]
  simp [eMv] at this ⊢
  rw [this]
  simp [mvMul]
@[simp] theorem e_lenT (xs : List D) : lenD [.tuple xs] = some (.int xs.length) := rfl
@[simp] theorem e_lenL (xs : List D) : lenD [.list xs] = some (.int xs.length) := rfl
theorem rg_iD (n : Nat) (h : n ≤ 1000) : range1D [.int (n : Int)] = some ((List.range n).map iD) := by
  rw [e_range (by omega) (by omega)]
  simp [iD]
theorem index_mv {p : W} {i : Nat} (hm : i ∈ p) : indexD (.tuple (p.map iD)) [.int i] = some (iD (p.idxOf i)) := by
  have hm2 : (i : Int) ∈ p.map fun i : Nat => (i : Int) := List.mem_map.mpr ⟨i, hm, rfl⟩
  simp only [indexD, ints_iD, Option.bind_some, if_pos hm2, idx_cast]
  rfl
theorem back_mv {n : Nat} {p : W} (h : IsP n p) (hn : n ≤ 1000) (γ : Bxs) : F_taken_back [.d (.str "moves"), .d (eMv p)] γ = some (.d (eMv (mvInv p)), γ) := by
  have hl := h.len
  have hz : p.length ≤ 1000 := by omega
  have hr := rg_iD p.length hz
  have hc := lcL_map (i := 2) (fe := fM indexD (fV 1) (fCons (fV 2) fNil)) (ρ := [.d (.str "moves"), .d (eMv p), .un]) (γ := γ) rfl iD (fun i => iD (p.idxOf i)) (List.range p.length) (fun i hi => by
    have hm : i ∈ p := h.mem.mpr (by rw [← hl]; exact List.mem_range.mp hi)
    have := index_mv hm
    simp [eMv, iD] at this ⊢
    simp [this]) (by rw [List.length_range]; exact sz5 hz)
  have e1 : (f_taken_back [.d (.str "moves"), .d (eMv p), .un] γ) = some (.rt (.d (eMv (mvInv p))) γ) := by
    unfold f_taken_back
    simp only [e_sSeq, e_sIf, e_fBl, e_f2, e_fV, e_fC, List.getElem?_cons_zero, Option.bind_some]
    simp [qLc, iR, unS, eMv, hr, mvInv] at hc ⊢
    simp [hc]
  unfold F_taken_back
  simp [List.replicate_succ, e1]
theorem lback_mv {n : Nat} {p : W} (h : IsP n p) (hn : n ≤ 1000) (γ : Bxs) : F__law_undone [.d (.str "moves"), .d (eMv p)] γ = some (.d (eMv (mvInv p)), γ) := by
  have hl := h.len
  have hz : p.length ≤ 1000 := by omega
  have hr := rg_iD p.length hz
  have hc := lcL_map (i := 2) (fe := fM indexD (fV 1) (fCons (fV 2) fNil)) (ρ := [.d (.str "moves"), .d (eMv p), .un]) (γ := γ) rfl iD (fun i => iD (p.idxOf i)) (List.range p.length) (fun i hi => by
    have hm : i ∈ p := h.mem.mpr (by rw [← hl]; exact List.mem_range.mp hi)
    have := index_mv hm
    simp [eMv, iD] at this ⊢
    simp [this]) (by rw [List.length_range]; exact sz5 hz)
  have e1 : (f__law_undone [.d (.str "moves"), .d (eMv p), .un] γ) = some (.rt (.d (eMv (mvInv p))) γ) := by
    unfold f__law_undone
    simp only [e_sSeq, e_sIf, e_fBl, e_f2, e_fV, e_fC, e_sRet, e_qE, e_fIf, List.getElem?_cons_zero, Option.bind_some]
    simp [qLc, iR, unS, eMv, hr, mvInv] at hc ⊢
    simp [hc]
  unfold F__law_undone
  simp [List.replicate_succ, e1]
end KK

namespace KK
open PySem L2 DL

theorem lcp_le : ∀ a b : W, lcp a b ≤ a.length ∧ lcp a b ≤ b.length
  | [], b => ⟨by simp [lcp], by simp [lcp]⟩
  | a :: x, [] => ⟨by simp [lcp], by simp [lcp]⟩
  | a :: x, b :: y => by
    have := lcp_le x y
    unfold lcp
    split <;> simp <;> omega
theorem take_lcp : ∀ (a b : W) (m : Nat), m ≤ a.length → m ≤ b.length → (a.take m = b.take m ↔ m ≤ lcp a b)
  | _, _, 0, _, _ => by simp
  | [], b, m + 1, h, _ => by simp at h
  | a :: x, [], m + 1, _, h => by simp at h
  | a :: x, b :: y, m + 1, h1, h2 => by
    simp only [List.length_cons, Nat.add_le_add_iff_right] at h1 h2
    have := take_lcp x y m h1 h2
    simp only [List.take_succ_cons, List.cons.injEq, this, lcp]
    by_cases e : a = b
    · simp [e]
    · simp [e]
theorem drop_lcp : ∀ (a b : W) (l : Nat), l ≤ lcp a b → lcp (a.drop l) (b.drop l) = lcp a b - l
  | _, _, 0, _ => by simp
  | [], b, l + 1, h => by simp [lcp] at h
  | a :: x, [], l + 1, h => by simp [lcp] at h
  | a :: x, b :: y, l + 1, h => by
    have e0 : lcp (a :: x) (b :: y) = if a = b then lcp x y + 1 else 0 := rfl
    rw [e0] at h ⊢
    rw [List.drop_succ_cons, List.drop_succ_cons]
    split at h
    · rename_i e
      rw [if_pos e, drop_lcp x y l (by omega)]
      omega
    · omega
theorem cut_part {a b : W} {l m : Nat} (hl : l ≤ lcp a b) (hlm : l ≤ m) (ha : m ≤ a.length) (hb : m ≤ b.length) : (a.drop l).take (m - l) = (b.drop l).take (m - l) ↔ m ≤ lcp a b := by
  have := take_lcp (a.drop l) (b.drop l) (m - l) (by simp; omega) (by simp; omega)
  rw [this, drop_lcp a b l hl]
  omega
theorem sIx_pos {n d m : Nat} (h : m ≤ n) : HT.sIx n d (some (m : Int)) = m := by
  rw [HT.sIx_nat]; omega
theorem e_slS {a : W} {l m : Nat} (h : l ≤ m) (hm : m ≤ a.length) (hz : a.length ≤ sizeLine) : slD (.str (S a)) (some (l : Int)) (some (m : Int)) = some (.str (S ((a.drop l).take (m - l)))) := by
  have el : (S a).length = a.length := S_len a
  simp only [slD, el, if_pos hz, cutS, sIx_pos (Nat.le_trans h hm), sIx_pos hm]
theorem e_slS2 {a : W} {l : Nat} (hm : l ≤ a.length) (hz : a.length ≤ sizeLine) : slD (.str (S a)) (some (l : Int)) none = some (.str (S (a.drop l))) := by
  have el : (S a).length = a.length := S_len a
  simp only [slD, el, if_pos hz, cutS, sIx_pos hm, HT.sIx_none]
  have e : (List.drop l (S a).cps.toList).take (a.length - l) = a.drop l := by
    show (List.drop l a).take (a.length - l) = a.drop l
    rw [List.take_of_length_le]; simp
  rw [e]
theorem S_beq (a b : W) : (S a == S b) = decide (a = b) := by
  rw [Bool.eq_iff_iff]
  simp [S_inj]
theorem bis_go (ft : Ft) (fb : Fst) (γ : Bxs) (R : Int → Int → Sl → Row) (k N : Nat) (hkN : k ≤ N) (h0 : ∀ (l h : Int) s, ft (R l h s) γ = some (decide (l < h), R l h s, γ))
    (h1 : ∀ (l h : Nat) s, l ≤ k → k ≤ h → h ≤ N → l < h → ∃ s', (fb (R l h s) γ = some (.nx (R (((l + h + 1) / 2 : Nat)) h s') γ) ∧ (l + h + 1) / 2 ≤ k) ∨ (fb (R l h s) γ = some (.nx (R l ((((l + h + 1) / 2 - 1 : Nat)) : Int) s') γ) ∧ k < (l + h + 1) / 2)) :
    ∀ (n l h : Nat) (s : Sl), h - l < n → l ≤ k → k ≤ h → h ≤ N → ∃ s' h', whL ft fb n (R l h s) γ = some (.nx (R k h' s') γ)
  | 0, l, h, s, hn, _, _, _ => absurd hn (Nat.not_lt_zero _)
  | n + 1, l, h, s, hn, hl, hh, hN => by
    by_cases e : l < h
    · have q := h0 l h s
      rw [decide_eq_true (by omega)] at q
      obtain ⟨s', ⟨hb, hk⟩ | ⟨hb, hk⟩⟩ := h1 l h s hl hh hN e
      · rw [whL_go q hb]
        exact bis_go ft fb γ R k N hkN h0 h1 n _ h s' (by omega) hk hh hN
      · rw [whL_go q hb]
        exact bis_go ft fb γ R k N hkN h0 h1 n l _ s' (by omega) hl (by omega) (by omega)
    · have q := h0 l h s
      rw [decide_eq_false (by omega)] at q
      have ek : l = k := by omega
      exact ⟨s, h, by rw [whL_end q, ek]⟩
theorem min2 (a b : Nat) : min2D [.int a, .int b] = some (.int ((min a b : Nat) : Int)) := by
  simp only [min2D]
  congr 2
  split <;> omega
theorem common_length {a b : W} (ha : a.length ≤ 100000) (hb : b.length ≤ 100000) (γ : Bxs) : F_common_length [.d (.str (S a)), .d (.str (S b))] γ = some (.d (.int (lcp a b)), γ) := by
  have hza : a.length ≤ sizeLine := by rw [sizeLine_eq]; omega
  have hzb : b.length ≤ sizeLine := by rw [sizeLine_eq]; omega
  have hle := lcp_le a b
  have hw := fun ft fb h0 h1 => bis_go ft fb γ (fun l h s => [.d (.str (S a)), .d (.str (S b)), .d (.int l), .d (.int h), s]) (lcp a b) (min a.length b.length) (by omega) h0 h1 (min a.length b.length + 1) 0 (min a.length b.length) .un (by omega) (by omega) (by omega) (by omega)
  have hbody : ∀ (l h : Nat) (s : Sl), l ≤ lcp a b → lcp a b ≤ h → h ≤ min a.length b.length → l < h → ∃ s' : Sl,
      (sSeq (sSet 4 (qE (f2 fdivD (f2 addD (f2 addD (fV 2) (fV 3)) (fC (.int 1))) (fC (.int 2)))))
        (sIf (fBl (f2 eqD (fSl (fV 0) (fPt (fV 2)) (fPt (fV 4))) (fSl (fV 1) (fPt (fV 2)) (fPt (fV 4))))) (sSet 2 (qE (fV 4))) (sSet 3 (qE (f2 subD (fV 4) (fC (.int 1)))))) [.d (.str (S a)), .d (.str (S b)), .d (.int l), .d (.int h), s] γ = some (.nx [.d (.str (S a)), .d (.str (S b)), .d (.int ((l + h + 1) / 2 : Nat)), .d (.int h), s'] γ) ∧ (l + h + 1) / 2 ≤ lcp a b) ∨
      (sSeq (sSet 4 (qE (f2 fdivD (f2 addD (f2 addD (fV 2) (fV 3)) (fC (.int 1))) (fC (.int 2)))))
        (sIf (fBl (f2 eqD (fSl (fV 0) (fPt (fV 2)) (fPt (fV 4))) (fSl (fV 1) (fPt (fV 2)) (fPt (fV 4))))) (sSet 2 (qE (fV 4))) (sSet 3 (qE (f2 subD (fV 4) (fC (.int 1)))))) [.d (.str (S a)), .d (.str (S b)), .d (.int l), .d (.int h), s] γ = some (.nx [.d (.str (S a)), .d (.str (S b)), .d (.int l), .d (.int (((l + h + 1) / 2 - 1 : Nat) : Int)), s'] γ) ∧ lcp a b < (l + h + 1) / 2) := by
    intro l h s hl hh hN lt
    have d1 : fdivD (.int ((l : Int) + h + 1)) (.int 2) = some (.int (((l + h + 1) / 2 : Nat) : Int)) := by
      rw [fdivD_ok (by decide) (by decide)]
      simp
    have hm1 : l ≤ (l + h + 1) / 2 := by omega
    have hm2 : (l + h + 1) / 2 ≤ a.length := by omega
    have hm3 : (l + h + 1) / 2 ≤ b.length := by omega
    refine ⟨.d (.int ((l + h + 1) / 2 : Nat)), ?_⟩
    have key := cut_part hl hm1 hm2 hm3
    generalize hm : (l + h + 1) / 2 = m at *
    by_cases e : m ≤ lcp a b
    · left
      have e1 := key.mpr e
      refine ⟨?_, e⟩
      simp [d1, e_slS hm1 hm2 hza, e_slS hm1 hm3 hzb, e1]
    · right
      have e1 : ¬ _ := fun z => e (key.mp z)
      refine ⟨?_, by omega⟩
      have e2 : ¬ S ((a.drop l).take (m - l)) = S ((b.drop l).take (m - l)) := fun z => e1 (S_inj.mp z)
      have e3 : ((m : Int) - 1) = ((m - 1 : Nat) : Int) := by omega
      simp [d1, e_slS hm1 hm2 hza, e_slS hm1 hm3 hzb, e2, e3]
  have hw2 := hw (fBl (f2 ltD (fV 2) (fV 3))) _ (by intro l h s; simp) hbody
  obtain ⟨s', h', e⟩ := hw2
  have e' := sW_of e (by omega)
  simp only [Int.natCast_zero] at e'
  simp [F_common_length, f_common_length, List.replicate_succ, e_lenS a hza, e_lenS b hzb, min2, e']
theorem shortened {a b : W} (ha : a.length ≤ 100000) (hb : b.length ≤ 100000) (γ : Bxs) : F_shortened [.d (.str (S a)), .d (.str (S b))] γ = some (.d (.tuple [.str (S (cut a b).1), .str (S (cut a b).2)]), γ) := by
  have hza : a.length ≤ sizeLine := by rw [sizeLine_eq]; omega
  have hzb : b.length ≤ sizeLine := by rw [sizeLine_eq]; omega
  have hle := lcp_le a b
  rw [cut_lcp]
  simp [F_shortened, f_shortened, List.replicate_succ, common_length ha hb, e_slS2 hle.1 hza, e_slS2 hle.2 hzb]
end KK

namespace KK
open PySem L2 DL

theorem lcp_lt : ∀ (a b : W) (i : Nat), i ≤ lcp a b → (i < a.length ∧ i < b.length ∧ a.getD i 0 = b.getD i 0 ↔ i < lcp a b)
  | [], b, i, h => by simp [lcp]
  | a :: x, [], i, h => by simp [lcp]
  | a :: x, b :: y, i, h => by
    have e0 : lcp (a :: x) (b :: y) = if a = b then lcp x y + 1 else 0 := rfl
    rw [e0] at h ⊢
    by_cases e : a = b
    · rw [if_pos e] at h ⊢
      cases i with
      | zero => simp [e]
      | succ i =>
        have := lcp_lt x y i (by omega)
        simp only [List.length_cons, List.getD_cons_succ]
        omega
    · rw [if_neg e] at h ⊢
      have : i = 0 := by omega
      subst this
      simp [e]
theorem ix_S {a : W} {i : Nat} (h : i < a.length) (hz : a.length ≤ sizeLine) : ixD (.str (S a)) (.int (i : Int)) = some (.str (S [a.getD i 0])) := by
  have el : (S a).length = a.length := S_len a
  simp [ixD, el, hz, atI, ixN, h]
theorem cut_go (ft : Ft) (fb : Fst) (γ : Bxs) (R : Int → Row) (k : Nat) (h0 : ∀ i : Nat, i ≤ k → ft (R i) γ = some (decide (i < k), R i, γ)) (h1 : ∀ i : Int, fb (R i) γ = some (.nx (R (i + 1)) γ)) :
    ∀ (n i : Nat), k - i < n → i ≤ k → whL ft fb n (R i) γ = some (.nx (R k) γ)
  | 0, i, h, _ => absurd h (Nat.not_lt_zero _)
  | n + 1, i, h, hi => by
    have q := h0 i hi
    by_cases e : i < k
    · rw [decide_eq_true e] at q
      rw [whL_go q (h1 i)]
      have := cut_go ft fb γ R k h0 h1 n (i + 1) (by omega) (by omega)
      rw [show ((i + 1 : Nat) : Int) = (i : Int) + 1 by omega] at this
      exact this
    · rw [decide_eq_false e] at q
      rw [whL_end q, show i = k by omega]
theorem law_cut {a b : W} (ha : a.length ≤ 100000) (hb : b.length ≤ 100000) (γ : Bxs) : F__law_parted [.d (.str (S a)), .d (.str (S b))] γ = some (.d (.tuple [.str (S (cut a b).1), .str (S (cut a b).2)]), γ) := by
  have hza : a.length ≤ sizeLine := by rw [sizeLine_eq]; omega
  have hzb : b.length ≤ sizeLine := by rw [sizeLine_eq]; omega
  have hle := lcp_le a b
  have h0 : ∀ i : Nat, i ≤ lcp a b → (fAndT (fBl (f2 ltD (fV 2) (fS lenD (fCons (fV 0) fNil)))) (fAndT (fBl (f2 ltD (fV 2) (fS lenD (fCons (fV 1) fNil)))) (fBl (f2 eqD (f2 ixD (fV 0) (fV 2)) (f2 ixD (fV 1) (fV 2)))))) [.d (.str (S a)), .d (.str (S b)), .d (.int (i : Int))] γ = some (decide (i < lcp a b), [.d (.str (S a)), .d (.str (S b)), .d (.int (i : Int))], γ) := by
    intro i hi
    have key := lcp_lt a b i hi
    by_cases c1 : i < a.length
    · by_cases c2 : i < b.length
      · have e1 : (S [a.getD i 0] = S [b.getD i 0]) ↔ i < lcp a b := by
          rw [S_inj]
          simp only [List.cons.injEq, and_true]
          rw [← key]
          simp [c1, c2]
        simp [e_lenS a hza, e_lenS b hzb, c1, c2, ix_S c1 hza, ix_S c2 hzb]
        rw [S_inj] at e1
        simp only [List.getD_eq_getElem?_getD] at e1
        rw [S_beq]
        refine decide_eq_decide.mpr ?_
        simpa [c1, c2] using e1
      · have hn : ¬ i < lcp a b := by omega
        simp [e_lenS a hza, e_lenS b hzb, c1, c2, hn]
    · have hn : ¬ i < lcp a b := by omega
      simp [e_lenS a hza, e_lenS b hzb, c1, hn]
  have hw := sW_of (cut_go _ (sSet 2 (qE (f2 addD (fV 2) (fC (.int 1))))) γ (fun i => [.d (.str (S a)), .d (.str (S b)), .d (.int i)]) (lcp a b) h0 (by intro i; simp) (lcp a b + 1) 0 (by omega) (by omega)) (by omega)
  simp only [Int.natCast_zero] at hw
  rw [cut_lcp]
  simp [F__law_parted, f__law_parted, List.replicate_succ, hw, e_slS2 hle.1 hza, e_slS2 hle.2 hzb]
theorem sums_cut (a b : W) : (cut a b).1.length ≤ a.length ∧ (cut a b).2.length ≤ b.length := by
  rw [cut_lcp]
  simp

end KK

namespace KK
open PySem L2 DL

@[simp] theorem e_fAnd (a b : Fx) (ρ : Row) (γ : Bxs) : fAnd a b ρ γ = ((a ρ γ).bind fun p => match p.1 with | .bool true => b p.2.1 p.2.2 | .bool false => some (.bool false, p.2) | _ => none) := rfl
@[simp] theorem e_fOr (a b : Fx) (ρ : Row) (γ : Bxs) : fOr a b ρ γ = ((a ρ γ).bind fun p => match p.1 with | .bool false => b p.2.1 p.2.2 | .bool true => some (.bool true, p.2) | _ => none) := rfl
@[simp] theorem e_fNot (a : Fx) (ρ : Row) (γ : Bxs) : fNot a ρ γ = ((a ρ γ).bind fun p => (notD p.1).map fun z => (z, p.2)) := rfl
@[simp] theorem e_notD (b : Bool) : notD (.bool b) = some (.bool (!b)) := rfl
@[simp] theorem e_eqI (i j : Int) : eqD (.int i) (.int j) = some (.bool (decide (i = j))) := by
  simp only [eqD, PyData.plain, PyData.depth, PyData.eqv]
  rw [if_pos ⟨trivial, trivial, by decide⟩]
  congr 2
@[simp] theorem e_neI (i j : Int) : neD (.int i) (.int j) = some (.bool (!decide (i = j))) := by
  simp only [neD, PyData.plain, PyData.depth, PyData.eqv]
  rw [if_pos ⟨trivial, trivial, by decide⟩]
  congr 2

@[simp] theorem fnB_none : fnB .none = false := rfl
@[simp] theorem fnB_bool (b : Bool) : fnB (.bool b) = false := rfl
@[simp] theorem fnB_int (i : Int) : fnB (.int i) = false := rfl
@[simp] theorem fnB_str (x : Str) : fnB (.str x) = false := rfl
@[simp] theorem fnB_list (x : List D) : fnB (.list x) = false := rfl
@[simp] theorem fnB_tuple (x : List D) : fnB (.tuple x) = false := rfl
@[simp] theorem fnB_dict0 : fnB (.dict []) = false := rfl
theorem is_dict {kvs : List (D × D)} (h : fnB (.dict kvs) = false) (T : String) (hT : kitB "dict" T = some false) : isD T (.dict kvs) = some (.bool false) := by
  unfold isD
  rw [h, if_neg (by decide)]
  simp [tyN, hT]
def isWh : D → Bool
  | .int _ => true
  | _ => false
theorem whole (d : D) (hn : fnB d = false) (γ : Bxs) : F_is_whole [.d d] γ = some (.d (.bool (isWh d)), γ) := by
  cases d with
  | dict kvs => simp [F_is_whole, f_is_whole, List.replicate_succ, isWh, is_dict hn "int" kit_dict_int]
  | _ => simp [F_is_whole, f_is_whole, List.replicate_succ, isWh]
def isPr : D → Bool
  | .tuple xs => decide (xs.length = 2)
  | _ => false
theorem pair (d : D) (hn : fnB d = false) (γ : Bxs) : F_is_pair [.d d] γ = some (.d (.bool (isPr d)), γ) := by
  cases d with
  | dict kvs => simp [F_is_pair, f_is_pair, List.replicate_succ, isPr, is_dict hn "tuple" kit_dict_tuple]
  | tuple xs => simp [F_is_pair, f_is_pair, List.replicate_succ, isPr]; omega
  | _ => simp [F_is_pair, f_is_pair, List.replicate_succ, isPr]
@[simp] theorem whole_int (i : Int) (γ : Bxs) : F_is_whole [.d (.int i)] γ = some (.d (.bool true), γ) := whole _ rfl γ
@[simp] theorem whole_none (γ : Bxs) : F_is_whole [.d .none] γ = some (.d (.bool false), γ) := whole _ rfl γ
@[simp] theorem whole_bool (b : Bool) (γ : Bxs) : F_is_whole [.d (.bool b)] γ = some (.d (.bool false), γ) := whole _ rfl γ
@[simp] theorem whole_str (b : Str) (γ : Bxs) : F_is_whole [.d (.str b)] γ = some (.d (.bool false), γ) := whole _ rfl γ
@[simp] theorem whole_list (b : List D) (γ : Bxs) : F_is_whole [.d (.list b)] γ = some (.d (.bool false), γ) := whole _ rfl γ
@[simp] theorem whole_tuple (b : List D) (γ : Bxs) : F_is_whole [.d (.tuple b)] γ = some (.d (.bool false), γ) := whole _ rfl γ
@[simp] theorem whole_dict (γ : Bxs) : F_is_whole [.d (.dict [])] γ = some (.d (.bool false), γ) := whole _ rfl γ
@[simp] theorem pair_tuple (b : List D) (γ : Bxs) : F_is_pair [.d (.tuple b)] γ = some (.d (.bool (decide (b.length = 2))), γ) := pair _ rfl γ
def LET : W := [97, 98, 99, 100, 101, 102, 103, 104, 105, 106, 107, 108]
theorem let_eq : ("abcdefghijkl" : Str) = S LET := by decide +kernel
theorem bls_map {α : Type} (f : α → Bool) (xs : List α) : blsOf (xs.map fun x => PyData.bool (f x)) = some (xs.map f) := by
  have := blsOf_map (xs.map f)
  rwa [List.map_map] at this
theorem all_map {α : Type} (f : α → Bool) (xs : List α) : allD [.list (xs.map fun x => PyData.bool (f x))] = some (.bool (xs.all f)) := by
  simp [allD, bls_map]
theorem letters {w : W} (hw : w.length ≤ 1000000) (γ : Bxs) : F_is_letters [.d (.str (S w))] γ = some (.d (.bool (w.all fun c => decide (c ∈ LET))), γ) := by
  have hc := lcL_map (i := 1) (fe := f2 inD (fV 1) (fC (.str "abcdefghijkl"))) (ρ := [.d (.str (S w)), .un]) (γ := γ) rfl (fun c => .str (S [c])) (fun c => .bool (decide (c ∈ LET))) w (fun c _ => by simp [let_eq, inD]) (by rw [sizeLine_eq]; omega)
  simp [F_is_letters, f_is_letters, List.replicate_succ, qLc, iE, itemsD, unS, hc, all_map]
theorem letters_no (d : D) (h : ∀ x, d ≠ .str x) (hn : fnB d = false) (γ : Bxs) : F_is_letters [.d d] γ = some (.d (.bool false), γ) := by
  cases d with
  | str x => exact absurd rfl (h x)
  | dict kvs => simp [F_is_letters, f_is_letters, List.replicate_succ, is_dict hn "str" kit_dict_str]
  | _ => simp [F_is_letters, f_is_letters, List.replicate_succ]
theorem share {x : Fr} (h : Sh x) (h2 : x.2 < 10 ^ 400) (γ : Bxs) : F_is_share [.d (eSh x)] γ = some (.d (.bool true), γ) := by
  have p1 : (1 : Int) ≤ x.1 := by have := h.h1; omega
  have p2 : (1 : Int) ≤ x.2 := by have := h.h2; omega
  have hc : lcL [1] (gN 1) fYes (fAnd (fQ (qCall F_is_whole (aE (fV 1) aNil))) (f2 geD (fV 1) (fC (.int 1)))) [.int x.1, .int x.2] [] [.d (.tuple [.int x.1, .int x.2]), .un] γ = some ([.bool true, .bool true], [.d (.tuple [.int x.1, .int x.2]), .un], γ) := by
    have := lcL_map (i := 1) (fe := fAnd (fQ (qCall F_is_whole (aE (fV 1) aNil))) (f2 geD (fV 1) (fC (.int 1)))) (ρ := [.d (.tuple [.int x.1, .int x.2]), .un]) (γ := γ) rfl PyData.int (fun _ => .bool true) [(x.1 : Int), (x.2 : Int)] (fun i hi => by
      have : 1 ≤ i := by
        simp at hi
        rcases hi with z | z <;> omega
      simp [whole, isWh, this]) (by show (2 : Nat) ≤ sizeLine; decide)
    exact this
  have ha : allD [.list [.bool true, .bool true]] = some (.bool true) := by simp [allD, blsOf, blOf]
  have hd : x.2 < 2 ^ 3999 := p400 h2
  simp [F_is_share, f_is_share, List.replicate_succ, eSh, pair, isPr, qLc, iE, itemsD, unS, hc, ha, divisor_of _ _ hd, h.co]
theorem move {n : Nat} {p : W} (h : IsP n p) (h1 : 1 ≤ n) (h5 : n ≤ 5) (γ : Bxs) : F_is_move [.d (eMv p)] γ = some (.d (.bool true), γ) := by
  have hl := h.len
  have hc := lcL_map (i := 1) (fe := fQ (qCall F_is_whole (aE (fV 1) aNil))) (ρ := [.d (.tuple (p.map iD)), .un]) (γ := γ) rfl iD (fun _ => .bool true) p (fun i _ => by simp [whole, isWh, iD]) (sz5 (by omega))
  have ha := all_map (fun _ : Nat => true) p
  have e1 : (p.all fun _ => true) = true := by simp
  rw [e1] at ha
  have hs : srtI (p.map fun i : Nat => (i : Int)) = (List.range n).map fun i : Nat => (i : Int) := by
    refine (srt_uniq (List.Perm.map _ h.symm) ?_).symm
    rw [List.pairwise_map]
    exact List.pairwise_lt_range.imp fun hab => by omega
  have b1 : (1 : Int) ≤ p.length := by omega
  have b2 : (p.length : Int) ≤ 5 := by omega
  have hr : rgOk 0 (p.length : Int) = true := by
    unfold rgOk
    simp only [Bool.and_eq_true, decide_eq_true_eq]
    exact ⟨⟨inB_iff.mpr (by omega), inB_iff.mpr (by omega)⟩, by omega⟩
  have hg : rgDs 0 (p.length : Int) = ((List.range n).map fun i : Nat => (i : Int)).map PyData.int := by
    unfold rgDs
    rw [List.map_map]
    simp [hl]
  have hi : intsOf (p.map iD) = some (p.map fun i : Nat => (i : Int)) := ints_iD p
  have he := e_eqLI ((List.range n).map fun i : Nat => (i : Int)) ((List.range n).map fun i : Nat => (i : Int))
  simp only [decide_true, List.map_map] at he
  simp [F_is_move, f_is_move, List.replicate_succ, eMv, fChain, b1, b2, qLc, iE, itemsD, unS, hc, ha, qSrt, hi, hs, qLR, fR1, intOf, hr, hg, he]
end KK

namespace KK
open PySem L2 DL

theorem erase_perm {α : Type} : ∀ {l : List α} {i : Nat} {a : α}, l[i]? = some a → (a :: l.eraseIdx i).Perm l
  | [], i, a, h => by simp at h
  | x :: l, 0, a, h => by simp at h; subst h; exact .refl _
  | x :: l, i + 1, a, h => by
    have := erase_perm (l := l) (i := i) (a := a) (by simpa using h)
    exact (List.Perm.swap x a _).trans (this.cons x)
theorem mixed {n : Nat} {γ : Bxs} {xs : List D} (h : Dc n γ) (hn : n ≤ 900000) (hl : xs.length ≤ 1000) : ∃ ys γ', F__law_mixed [.bx 0, .d (.list xs)] γ = some (.ol ys, γ') ∧ ys.Perm xs ∧ Dc (n + xs.length) γ' := by
  have hr : range1D [.int (xs.length : Int)] = some ((List.range xs.length).map iD) := rg_iD _ hl
  have z : (0 : Nat) ≤ sizeLine := Nat.zero_le _
  obtain ⟨ρ', γ', e, left, found, s, rfl, p1, p2, p3, d⟩ := forL_inv (i := 4) (fb := sApp 3 (fPopAt 2 (fQ (qCall F__law_roll (aB 0 (aE (fLenO 2) aNil))))))
    (fun k ρ γ => ∃ left found s, ρ = [.bx 0, .d (.list xs), .ol left, .ol found, s] ∧ (found ++ left).Perm xs ∧ left.length = xs.length - k ∧ found.length = k ∧ Dc (n + k) γ) ((List.range xs.length).map iD) 0 [.bx 0, .d (.list xs), .ol xs, .ol [], .un] γ
    (fun j d ρ γ hj ⟨left, found, s, e1, p1, p2, p3, dc⟩ => by
      subst e1
      have hjr : j < xs.length := by
        have := (List.getElem?_eq_some_iff.mp hj).1
        simpa using this
      obtain ⟨r, γ2, e2, r0, r1, d2⟩ := roll dc (by omega) (t := left.length) (by omega) (by omega)
      have hr : r.toNat < left.length := by omega
      obtain ⟨v, hv⟩ : ∃ v, left[r.toNat]? = some v := ⟨_, List.getElem?_eq_getElem hr⟩
      have hb : inB 9223372036854775808 r = true := inB_iff.mpr (by omega)
      have hi : ixN left.length r = some r.toNat := by simp [ixN, r0]; omega
      have hz : found.length < sizeLine := by rw [sizeLine_eq]; omega
      refine ⟨[.bx 0, .d (.list xs), .ol (left.eraseIdx r.toNat), .ol (found ++ [v]), .d d], γ2, ?_, _, _, _, rfl, ?_, ?_, by simp; omega, d2⟩
      · simp [sApp, fPopAt, ctO, putO, fLenO, aB, e2, intOf, hb, hi, hv, hz]
      · refine List.Perm.trans ?_ p1
        rw [List.append_assoc]
        exact List.Perm.append_left found (erase_perm hv)
      · rw [List.length_eraseIdx_of_lt hr]; omega) ⟨xs, [], .un, rfl, .refl _, by simp, rfl, h⟩
  simp only [Nat.zero_add, List.length_map, List.length_range] at p2 p3 d
  have hle : left = [] := List.eq_nil_of_length_eq_zero (by omega)
  subst hle
  rw [List.append_nil] at p1
  exact ⟨found, γ', by simp [F__law_mixed, f__law_mixed, List.replicate_succ, qList, sFor, iR, hr, e, sRetO, z], p1, d⟩
theorem perm_iD {n : Nat} {ys : List D} (h : ys.Perm ((List.range n).map iD)) : ∃ p, ys = p.map iD ∧ IsP n p := by
  refine ⟨ys.map fun d => match d with | .int i => i.toNat | _ => 0, ?_, ?_⟩
  · rw [List.map_map]
    conv => lhs; rw [← List.map_id ys]
    apply List.map_congr_left
    intro d hd
    obtain ⟨i, _, rfl⟩ := List.mem_map.mp (h.mem_iff.mp hd)
    simp [iD]
  · have := List.Perm.map (fun d : D => match d with | .int i => i.toNat | _ => 0) h
    rw [List.map_map] at this
    unfold IsP
    refine this.trans ?_
    have e : (List.range n).map ((fun d : D => match d with | .int i => i.toNat | _ => 0) ∘ iD) = List.range n := by
      conv => rhs; rw [← List.map_id (List.range n)]
      apply List.map_congr_left
      intro i _
      simp [iD]
    rw [e]
end KK

namespace KK
open PySem L2 DL

def eWd (w : W) : D := .str (S w)
def eLd (l : W × W) : D := .tuple [.str (S l.1), .str (S l.2)]
theorem sz100 {w : W} (h : w.length ≤ 100000) : w.length ≤ sizeLine := by rw [sizeLine_eq]; omega
theorem S_nil {a : W} : (S a = S []) ↔ a = [] := S_inj
theorem emp_eq (a : W) : (("" : Str) == S a) = decide (a = []) := by
  rw [emp, S_beq]
  exact decide_eq_decide.mpr eq_comm
def allL (w : W) : Bool := w.all fun c => decide (c ∈ LET)
instance (l : W × W) : Decidable (Red l) := by unfold Red; exact inferInstance
theorem red_dec (a b : W) : decide (Red (a, b)) = (decide (a = []) || decide (b = []) || decide (a.head? ≠ b.head?)) := by
  rw [Bool.eq_iff_iff]
  simp only [decide_eq_true_eq, Bool.or_eq_true]
  rw [red_iff, or_assoc]
theorem lead_in_w {a b : W} (ha : a.length ≤ 100000) (hb : b.length ≤ 100000) (γ : Bxs) : F_is_lead_in [.d (.str "words"), .d (.tuple [.str (S a), .str (S b)])] γ = some (.d (.bool (allL a && allL b && (decide (a = []) || decide (b = []) || decide (a.head? ≠ b.head?)))), γ) := by
  have hc := lcL_map (i := 2) (fe := fQ (qCall F_is_letters (aE (fV 2) aNil))) (ρ := [.d (.str "words"), .d (.tuple [.str (S a), .str (S b)]), .un]) (γ := γ) rfl eWd (fun w => .bool (allL w)) [a, b] (fun w hw => by
    have : w.length ≤ 1000000 := by
      simp at hw
      rcases hw with rfl | rfl <;> omega
    simp [eWd, letters this, allL]) (by show (2 : Nat) ≤ sizeLine; decide)
  simp only [List.map_cons, List.map_nil, eWd] at hc
  have hal : allD [.list [.bool (allL a), .bool (allL b)]] = some (.bool (allL a && allL b)) := by simp [allD, blsOf, blOf]
  have hin : inD (.str "") (.tuple [.str (S a), .str (S b)]) = some (.bool (decide (a = []) || decide (b = []))) := by
    rw [e_in2, emp, S_beq, S_beq]
  cases hv : (allL a && allL b) with
  | false =>
    rw [hv] at hal
    simp [F_is_lead_in, f_is_lead_in, List.replicate_succ, pair, isPr, qLc, iE, itemsD, unS, hc, hal]
  | true =>
    rw [hv] at hal
    by_cases h0 : a = [] ∨ b = []
    · have e : (decide (a = []) || decide (b = [])) = true := by simpa using h0
      rw [e] at hin
      simp [F_is_lead_in, f_is_lead_in, List.replicate_succ, pair, isPr, qLc, iE, itemsD, unS, hc, hal, hin, e]
    · have h1 : a ≠ [] := fun z => h0 (Or.inl z)
      have h2 : b ≠ [] := fun z => h0 (Or.inr z)
      have e : (decide (a = []) || decide (b = [])) = false := by simp [h1, h2]
      rw [e] at hin
      have i1 := ix_S (List.length_pos_iff.mpr h1) (sz100 ha)
      have i2 := ix_S (List.length_pos_iff.mpr h2) (sz100 hb)
      simp only [Int.natCast_zero] at i1 i2
      have hh : (S [a.getD 0 0] = S [b.getD 0 0]) ↔ a.head? = b.head? := by
        rw [S_inj]
        cases a with
        | nil => exact absurd rfl h1
        | cons x a =>
          cases b with
          | nil => exact absurd rfl h2
          | cons y b => simp
      have hq : (S [a.getD 0 0] == S [b.getD 0 0]) = decide (a.head? = b.head?) := by
        rw [Bool.eq_iff_iff]
        simp only [beq_iff_eq, decide_eq_true_eq]
        exact hh
      simp [F_is_lead_in, f_is_lead_in, List.replicate_succ, pair, isPr, qLc, iE, itemsD, unS, hc, hal, hin, i1, i2, h1, h2]
      simp only [List.getD_eq_getElem?_getD] at hq
      simp [hq]
/-- words that are drawn, leads of them -/
def okW (m : Nat) (w : W) : Prop := (∀ c ∈ w, c ∈ ([97, 98, 99, 108] : W)) ∧ w.length ≤ 10 * m
def okL (m : Nat) (l : W × W) : Prop := Red l ∧ okW m l.1 ∧ okW m l.2
theorem okW.all {m : Nat} {w : W} (h : okW m w) : allL w = true := by
  unfold allL
  rw [List.all_eq_true]
  intro c hc
  have := h.1 c hc
  simp at this
  rcases this with rfl | rfl | rfl | rfl <;> decide
theorem okW.app {m k : Nat} {v w : W} (h1 : okW m v) (h2 : okW k w) : okW (m + k) (v ++ w) := by
  refine ⟨fun c hc => ?_, ?_⟩
  · rcases List.mem_append.mp hc with z | z
    · exact h1.1 c z
    · exact h2.1 c z
  · have := h1.2; have := h2.2
    rw [List.length_append]; omega
theorem okW.mono {m k : Nat} {w : W} (h : okW m w) (e : m ≤ k) : okW k w := ⟨h.1, by have := h.2; omega⟩
theorem okW.cut {m k : Nat} {v w : W} (h1 : okW m v) (h2 : okW k w) : okW m (cut v w).1 ∧ okW k (cut v w).2 := by
  have hl := sums_cut v w
  rw [cut_lcp] at hl ⊢
  exact ⟨⟨fun c hc => h1.1 c (List.mem_of_mem_drop hc), Nat.le_trans hl.1 h1.2⟩, ⟨fun c hc => h2.1 c (List.mem_of_mem_drop hc), Nat.le_trans hl.2 h2.2⟩⟩
theorem okL.dec {m : Nat} {l : W × W} (h : okL m l) : (decide (l.1 = []) || decide (l.2 = []) || decide (l.1.head? ≠ l.2.head?)) = true := by
  rw [← red_dec]; exact decide_eq_true h.1
theorem okL.led {a b c : Nat} {l : W × W} {x y : W} (h : okL a l) (hx : okW b x) (hy : okW c y) : okL (a + b + c) (led l x y) := by
  have h1 := (h.2.1.app hx).mono (show a + b ≤ a + b + c by omega)
  have h2 := (h.2.2.app hy).mono (show a + c ≤ a + b + c by omega)
  have := h1.cut h2
  exact ⟨Red.of_cut _ _, this.1, this.2⟩
theorem val_w {m : Nat} {w : W} (h : okW m w) (hm : m ≤ 1000) (γ : Bxs) : F_is_value_in [.d (.str "words"), .d (.str (S w))] γ = some (.d (.bool true), γ) := by
  have := letters (w := w) (by have := h.2; omega) γ
  have e : (w.all fun c => decide (c ∈ LET)) = true := h.all
  rw [e] at this
  simp [F_is_value_in, f_is_value_in, List.replicate_succ, this]
/-- the kinds -/
theorem kinds_in {kd : Str} (h : kd = "words" ∨ kd = "sums" ∨ kd = "shares" ∨ kd = "moves") : notInD (.str kd) (.tuple [.str "words", .str "sums", .str "shares", .str "moves"]) = some (.bool false) := by
  rcases h with rfl | rfl | rfl | rfl <;> kernel_rfl
theorem moved_of {kd : Str} {l x y z : D} (hk : kd = "words" ∨ kd = "sums" ∨ kd = "shares") (h1 : ∀ γ, F_is_lead_in [.d (.str kd), .d l] γ = some (.d (.bool true), γ)) (h2 : ∀ γ, F_is_value_in [.d (.str kd), .d x] γ = some (.d (.bool true), γ)) (h3 : ∀ γ, F_is_value_in [.d (.str kd), .d y] γ = some (.d (.bool true), γ))
    (h4 : ∀ γ, F_lead_led [.d (.str kd), .d l, .d x, .d y] γ = some (.d z, γ)) (γ : Bxs) : F_lead_moved [.d (.str kd), .d l, .d x, .d y] γ = some (.d z, γ) := by
  have ki := kinds_in (kd := kd) (by rcases hk with h | h | h <;> simp [h])
  have nm : (kd == ("moves" : Str)) = false := by rcases hk with rfl | rfl | rfl <;> decide +kernel
  simp [F_lead_moved, f_lead_moved, List.replicate_succ, ki, h1 γ, h2 γ, h3 γ, h4 γ, nm]
theorem led_w {a b c : Nat} {l : W × W} {x y : W} (h : okL a l) (hx : okW b x) (hy : okW c y) (hs : a + b + c ≤ 200) (γ : Bxs) :
    F_lead_moved [.d (.str "words"), .d (eLd l), .d (eWd x), .d (eWd y)] γ = some (.d (eLd (led l x y)), γ) ∧ F__law_led [.d (.str "words"), .d (eLd l), .d (eWd x), .d (eWd y)] γ = some (.d (eLd (led l x y)), γ) := by
  have n1 := h.2.1.2
  have n2 := h.2.2.2
  have n3 := hx.2
  have n4 := hy.2
  have hl : ∀ γ, F_is_lead_in [.d (.str "words"), .d (eLd l)] γ = some (.d (.bool true), γ) := fun γ => by
    have hl := lead_in_w (a := l.1) (b := l.2) (by omega) (by omega) γ
    rw [h.2.1.all, h.2.2.all, h.dec] at hl
    exact hl
  have hz2 : (2 : Nat) ≤ sizeLine := by decide
  have hsh := fun γ => shortened (a := l.1 ++ x) (b := l.2 ++ y) (by rw [List.length_append]; omega) (by rw [List.length_append]; omega) γ
  have hct := law_cut (a := l.1 ++ x) (b := l.2 ++ y) (by rw [List.length_append]; omega) (by rw [List.length_append]; omega) γ
  have ad : ∀ {v w : W}, v.length ≤ 10000 → w.length ≤ 10000 → addD (.str (S v)) (.str (S w)) = some (.str (S (v ++ w))) := by
    intro v w h1 h2
    have e1 : (S v).length = v.length := S_len v
    have e2 : (S w).length = w.length := S_len w
    simp only [addD, e1, e2]
    rw [if_pos (by rw [sizeLine_eq]; omega)]
    congr 2
    apply str_S.mpr
    show ((S v).cps ++ (S w).cps).toList = _
    simp
  have a1 := ad (v := l.1) (w := x) (by omega) (by omega)
  have a2 := ad (v := l.2) (w := y) (by omega) (by omega)
  constructor
  · refine moved_of (Or.inl rfl) hl (val_w hx (by omega)) (val_w hy (by omega)) (fun γ => ?_) γ
    simp [eLd, eWd, F_lead_led, f_lead_led, List.replicate_succ, a1, a2, hsh, led]
  · simp [eLd, eWd, F__law_led, f__law_led, List.replicate_succ, a1, a2, hct, led]
end KK

namespace KK
open PySem L2 DL

structure GK (kd : Str) (G : Type) where
  enc : G → D
  ok : G → Prop
  bd : Nat → G → Prop
  mul : G → G → G
  inv : G → G
  one : G
  n0 : Nat
  gp : Gp ok mul inv one
  kw : ¬ kd = "words"
  kk : kd = "words" ∨ kd = "sums" ∨ kd = "shares" ∨ kd = "moves"
  bdm : ∀ {a b m k}, ok a → ok b → bd m a → bd k b → bd (m + k) (mul a b)
  bdi : ∀ {a m}, ok a → bd m a → bd m (inv a)
  bdw : ∀ {a m k}, bd m a → m ≤ k → bd k a
  bd1 : bd 1 one
  val : ∀ {a}, ok a → bd 5 a → ∀ γ, F_is_value_in [.d (.str kd), .d (enc a)] γ = some (.d (.bool true), γ)
  siz : ∀ {a}, ok a → (∀ xs, enc a ≠ .tuple xs) ∨ ∃ xs, enc a = .tuple xs ∧ xs.length = n0
  mulF : ∀ {a b m k}, ok a → ok b → bd m a → bd k b → m + k ≤ 5 → ∀ γ, F_multiplied [.d (.str kd), .d (enc a), .d (enc b)] γ = some (.d (enc (mul a b)), γ)
  timF : ∀ {a b m k}, ok a → ok b → bd m a → bd k b → m + k ≤ 5 → ∀ γ, F__law_times [.d (.str kd), .d (enc a), .d (enc b)] γ = some (.d (enc (mul a b)), γ)
  invF : ∀ {a}, ok a → bd 5 a → ∀ γ, F_taken_back [.d (.str kd), .d (enc a)] γ = some (.d (enc (inv a)), γ)
  lbF : ∀ {a}, ok a → bd 5 a → ∀ γ, F__law_undone [.d (.str kd), .d (enc a)] γ = some (.d (enc (inv a)), γ)
  eqT : ∀ {a}, ok a → eqD (enc a) (enc a) = some (.bool true)
  eqN : ∀ {a b}, ok a → ok b → a ≠ b → eqD (enc a) (enc b) = some (.bool false)
  pl : ∀ {a}, ok a → (enc a).plain = true ∧ (enc a).depth ≤ 3
  len : kd = "moves" → ∀ {a}, ok a → lenD [enc a] = some (.int n0)
  rm : ∀ a, reprM [enc a] = reprD [enc a]
  rep : ∀ {a}, ok a → bd 5 a → ∃ s, reprD [enc a] = some (.str s)

theorem lg {i : Int} (h : i.natAbs < 10 ^ 400) : i.natAbs.log2 < 1400 := by
  refine log2_lt (Nat.lt_of_lt_of_le h ?_) (by decide)
  decide +kernel
theorem rep_int {i : Int} (h : i.natAbs < 10 ^ 400) : ∃ s, reprD [.int i] = some (.str s) := by
  have := lg h
  refine ⟨(PyData.int i).shown, ?_⟩
  · simp only [reprD]
    rw [if_pos]
    refine ⟨rfl, by simp [PyData.showable]; omega, rfl, by show (0 : Nat) ≤ 60; decide, by simp only [wgt]; omega⟩

def gSums : GK "sums" Int where
  enc := .int
  ok _ := True
  bd m a := a.natAbs ≤ m * 10 ^ 130
  mul := (· + ·)
  inv a := -a
  one := 0
  n0 := 0
  gp := gp_sums
  kw := by decide +kernel
  kk := Or.inr (Or.inl rfl)
  bdm {a b m k} _ _ h1 h2 := by
    have := Int.natAbs_add_le a b
    rw [Nat.add_mul]; omega
  bdi _ h := by rw [Int.natAbs_neg]; exact h
  bdw {a m k} h e := Nat.le_trans h (Nat.mul_le_mul_right _ e)
  bd1 := Nat.zero_le _
  val {a} _ _ γ := by simp [F_is_value_in, f_is_value_in, List.replicate_succ, whole, isWh]
  siz _ := Or.inl fun xs z => nomatch z
  mulF _ _ _ _ _ γ := mult_su _ _ γ
  timF _ _ _ _ _ γ := times_su _ _ γ
  invF _ _ γ := back_su _ γ
  lbF _ _ γ := lback_su _ γ
  eqT _ := by simp
  eqN _ _ h := by simp [h]
  pl _ := ⟨rfl, by show (0 : Nat) ≤ 3; decide⟩
  len h := absurd h (by decide +kernel)
  rm _ := rfl
  rep {a} _ h := rep_int (by omega)

theorem dep2 (a b : Int) : PyData.depth (.tuple [.int a, .int b]) ≤ 3 := by simp [PyData.depth, PyData.depthAll]
theorem eSh_ints (x : Fr) : eSh x = .tuple ([(x.1 : Int), (x.2 : Int)].map PyData.int) := rfl
theorem redP_le {a b : Nat} : (redP a b).1 ≤ a ∧ (redP a b).2 ≤ b := ⟨Nat.div_le_self _ _, Nat.div_le_self _ _⟩
def gShares : GK "shares" Fr where
  enc := eSh
  ok := Sh
  bd m x := x.1 ≤ (10 ^ 70) ^ m ∧ x.2 ≤ (10 ^ 70) ^ m
  mul := shMul
  inv := shInv
  one := (1, 1)
  n0 := 2
  gp := gp_shares
  kw := by decide +kernel
  kk := Or.inr (Or.inr (Or.inl rfl))
  bdm {a b m k} _ _ h1 h2 := by
    have := redP_le (a := a.1 * b.1) (b := a.2 * b.2)
    rw [Nat.pow_add]
    exact ⟨Nat.le_trans this.1 (Nat.mul_le_mul h1.1 h2.1), Nat.le_trans this.2 (Nat.mul_le_mul h1.2 h2.2)⟩
  bdi _ h := ⟨h.2, h.1⟩
  bdw {a m k} h e := ⟨Nat.le_trans h.1 (Nat.pow_le_pow_right (by decide) e), Nat.le_trans h.2 (Nat.pow_le_pow_right (by decide) e)⟩
  bd1 := ⟨by decide, by decide⟩
  val {a} h hb γ := by
    have h2 : a.2 < 10 ^ 400 := Nat.lt_of_le_of_lt hb.2 (by decide +kernel)
    simp [F_is_value_in, f_is_value_in, List.replicate_succ, share h h2]
  siz _ := Or.inr ⟨_, rfl, rfl⟩
  mulF {a b m k} ha hb h1 h2 hs γ := by
    have lim : (10 ^ 70) ^ m * (10 ^ 70) ^ k < 10 ^ 400 := by
      rw [← Nat.pow_add]
      exact Nat.lt_of_le_of_lt (Nat.pow_le_pow_right (by decide) hs) (by decide +kernel)
    exact mult_sh ha hb (Nat.lt_of_le_of_lt (Nat.mul_le_mul h1.1 h2.1) lim) (Nat.lt_of_le_of_lt (Nat.mul_le_mul h1.2 h2.2) lim) γ
  timF {a b m k} ha hb h1 h2 hs γ := by
    have lim : (10 ^ 70) ^ m * (10 ^ 70) ^ k < 10 ^ 400 := by
      rw [← Nat.pow_add]
      exact Nat.lt_of_le_of_lt (Nat.pow_le_pow_right (by decide) hs) (by decide +kernel)
    exact times_sh ha hb (Nat.lt_of_le_of_lt (Nat.mul_le_mul h1.1 h2.1) lim) (Nat.lt_of_le_of_lt (Nat.mul_le_mul h1.2 h2.2) lim) γ
  invF _ _ γ := back_sh _ γ
  lbF _ _ γ := lback_sh _ γ
  eqT {a} _ := by rw [eSh_ints, e_eqTI]; simp
  eqN {a b} _ _ h := by
    rw [eSh_ints, eSh_ints, e_eqTI, decide_eq_false]
    intro z
    simp only [List.cons.injEq, and_true] at z
    exact h (Prod.ext (by omega) (by omega))
  pl {a} _ := ⟨rfl, dep2 _ _⟩
  len h := absurd h (by decide +kernel)
  rm _ := rfl
  rep {a} _ h := by
    have l1 := lg (i := (a.1 : Int)) (Nat.lt_of_le_of_lt h.1 (by decide +kernel))
    have l2 := lg (i := (a.2 : Int)) (Nat.lt_of_le_of_lt h.2 (by decide +kernel))
    refine ⟨(eSh a).shown, ?_⟩
    simp only [reprD]
    rw [if_pos]
    refine ⟨rfl, ?_, rfl, Nat.le_trans (dep2 _ _) (by decide), ?_⟩
    · simp only [eSh, PyData.showable, PyData.showableAll, Bool.and_true, Bool.and_eq_true, decide_eq_true_eq]
      omega
    · simp only [eSh, wgt, wgts]
      omega
def gMoves (n : Nat) (h1 : 1 ≤ n) (h5 : n ≤ 5) : GK "moves" W where
  enc := eMv
  ok := IsP n
  bd _ _ := True
  mul := mvMul
  inv := mvInv
  one := List.range n
  n0 := n
  gp := gp_moves n
  kw := by decide +kernel
  kk := Or.inr (Or.inr (Or.inr rfl))
  bdm _ _ _ _ := trivial
  bdi _ _ := trivial
  bdw _ _ := trivial
  bd1 := trivial
  val {a} h _ γ := by simp [F_is_value_in, f_is_value_in, List.replicate_succ, move h h1 h5]
  siz {a} h := Or.inr ⟨_, rfl, by simp [h.len]⟩
  mulF {a b m k} ha hb _ _ _ γ := mult_mv (fun i hi => by rw [hb.len]; exact ha.mem.mp hi) (by rw [ha.len]; omega) γ
  timF {a b m k} ha hb _ _ _ γ := times_mv (fun i hi => by rw [hb.len]; exact ha.mem.mp hi) (by rw [ha.len]; omega) γ
  invF h _ γ := back_mv h (by omega) γ
  lbF h _ γ := lback_mv h (by omega) γ
  eqT {a} _ := by unfold eMv; rw [iD_map, e_eqTI]; simp
  eqN {a b} _ _ h := by
    unfold eMv
    rw [iD_map, iD_map, e_eqTI, decide_eq_false]
    intro z
    exact h ((List.map_inj_right (fun x y hxy => by omega)).mp z)
  pl {a} _ := by
    unfold eMv
    simp only [PyData.plain, PyData.depth]
    rw [iD_map, depthInts]
    exact ⟨plainInts _, by decide⟩
  len _ {a} h := by simp [eMv, h.len]
  rm _ := rfl
  rep {a} h _ := by
    have hw : ∀ p : W, (∀ i ∈ p, i < n) → PyData.showableAll (p.map iD) = true ∧ codesOk (p.map iD) = true ∧ wgts (p.map iD) ≤ 1500 * p.length := by
      intro p
      induction p with
      | nil => intro _; exact ⟨rfl, rfl, by simp [wgts]⟩
      | cons i p ih =>
        intro hp
        obtain ⟨i1, i2, i3⟩ := ih fun j hj => hp j (List.mem_cons_of_mem _ hj)
        have hi := hp i List.mem_cons_self
        have l1 := lg (i := (i : Int)) (by omega)
        refine ⟨?_, ?_, ?_⟩
        · simp only [List.map_cons, PyData.showableAll, i1, Bool.and_true, iD, PyData.showable, decide_eq_true_eq]
          omega
        · simp [codesOk, i2, iD, codeOk]
        · simp only [List.map_cons, wgts, iD, wgt, List.length_cons] at i3 ⊢
          omega
    obtain ⟨w1, w2, w3⟩ := hw a fun i hi => h.mem.mp hi
    have hl := h.len
    refine ⟨(eMv a).shown, ?_⟩
    simp only [reprD]
    rw [if_pos]
    refine ⟨?_, by simp only [eMv, PyData.showable]; exact w1, by simp only [eMv, codeOk]; exact w2, ?_, by simp only [eMv, wgt]; omega⟩
    · unfold eMv
      simp only [PyData.plain]
      rw [iD_map]
      exact plainInts _
    · unfold eMv
      simp only [PyData.depth]
      rw [iD_map, depthInts]
      decide
end KK

namespace KK
open PySem L2 DL

theorem neD_of {a b : D} {v : Bool} (h : eqD a b = some (.bool v)) : neD a b = some (.bool (!v)) := by
  simp only [eqD] at h
  simp only [neD]
  split at h
  · rename_i hc
    rw [if_pos hc]
    cases h
    rfl
  · cases h
theorem eqD_inv {a b : D} {v : Bool} (h : eqD a b = some (.bool v)) : a.plain = true ∧ b.plain = true ∧ a.depth ≤ 60 ∧ PyData.eqv a b = v := by
  simp only [eqD] at h
  split at h
  · rename_i hc
    cases h
    exact ⟨hc.1, hc.2.1, hc.2.2, rfl⟩
  · cases h
@[simp] theorem e_eqB (a b : Bool) : eqD (.bool a) (.bool b) = some (.bool (a == b)) := by
  simp only [eqD, PyData.plain, PyData.depth, PyData.eqv]
  rw [if_pos ⟨trivial, trivial, by decide⟩]
@[simp] theorem e_neB (a b : Bool) : neD (.bool a) (.bool b) = some (.bool (!(a == b))) := neD_of (e_eqB a b)
@[simp] theorem e_isNB (a b : Bool) : isNBD (.bool a) (.bool b) = some (.bool (!decide (a = b))) := rfl
theorem e_eqL0 : eqD (.list []) (.list []) = some (.bool true) := by
  simp only [eqD]
  rw [if_pos ⟨rfl, rfl, by decide⟩]
  rfl
theorem e_neL0 : neD (.list []) (.list []) = some (.bool false) := neD_of e_eqL0

@[simp] theorem e_fnX (n : Nat) (fb : Fsx) (as : List Sl) (γ : Bxs) : fnX n fb as γ = (fb (as ++ List.replicate (n - as.length) .un) γ).bind doneX := rfl
@[simp] theorem e_dxr (s : Sl) (γ : Bxs) : doneX (.o (.rt s γ)) = some (.ret s γ) := rfl
@[simp] theorem e_dxn (ρ : Row) (γ : Bxs) : doneX (.o (.nx ρ γ)) = some (.ret (.d .none) γ) := rfl
@[simp] theorem e_dxx (c : Str) (p : Pl) (ρ : Row) (γ : Bxs) : doneX (.x c p ρ γ) = some (.exc c p γ) := rfl
@[simp] theorem e_sX (f : Fst) (ρ : Row) (γ : Bxs) : sX f ρ γ = (f ρ γ).map .o := rfl
@[simp] theorem e_eX (f : Fx) (ρ : Row) (γ : Bxs) : eX f ρ γ = (f ρ γ).map fun p => .v p.1 p.2.1 p.2.2 := rfl
@[simp] theorem e_qX (f : Fq) (ρ : Row) (γ : Bxs) : qX f ρ γ = (f ρ γ).map fun p => .v p.1 p.2.1 p.2.2 := rfl
@[simp] theorem e_xSeq (f g : Fsx) (ρ : Row) (γ : Bxs) : xSeq f g ρ γ = ((f ρ γ).bind fun o => match o with | .o (.nx ρ1 γ1) => g ρ1 γ1 | o => some o) := rfl
@[simp] theorem e_xIf (c : Ft) (f g : Fsx) (ρ : Row) (γ : Bxs) : xIf c f g ρ γ = ((c ρ γ).bind fun p => if p.1 = true then f p.2.1 p.2.2 else g p.2.1 p.2.2) := rfl
@[simp] theorem e_xRaise (c : Str) (ρ : Row) (γ : Bxs) : xRaise c ρ γ = some (.x c none ρ γ) := rfl
@[simp] theorem e_xRaiseV (c f : Str) (fe : Fx) (ρ : Row) (γ : Bxs) : xRaiseV c f fe ρ γ = (fe ρ γ).map fun p => .x c (some (f, p.1)) p.2.1 p.2.2 := rfl
@[simp] theorem e_qxCall (fn : Fnx) (fa : Fa) (ρ : Row) (γ : Bxs) : qxCall fn fa ρ γ = ((fa ρ γ).bind fun p => (fn p.1 p.2.2).map fun r => match r with | .ret s γ' => .v s p.2.1 γ' | .exc c q γ' => .x c q p.2.1 γ') := rfl
@[simp] theorem e_eXQ (f : Fqx) (ρ : Row) (γ : Bxs) : eXQ f ρ γ = ((f ρ γ).bind fun r => match r with | .v (.d d) ρ' γ' => some (.v d ρ' γ') | .v _ _ _ => none | .x c p ρ' γ' => some (.x c p ρ' γ')) := rfl
@[simp] theorem e_xRet (f : Fqx) (ρ : Row) (γ : Bxs) : xRet f ρ γ = ((f ρ γ).map fun r => match r with | .v s _ γ' => .o (.rt s γ') | .x c p ρ' γ' => .x c p ρ' γ') := rfl
@[simp] theorem e_xDrop (f : Fqx) (ρ : Row) (γ : Bxs) : xDrop f ρ γ = ((f ρ γ).map fun r => match r with | .v _ ρ' γ' => .o (.nx ρ' γ') | .x c p ρ' γ' => .x c p ρ' γ') := rfl
@[simp] theorem e_qxIf (c : Ft) (a b : Fqx) (ρ : Row) (γ : Bxs) : qxIf c a b ρ γ = ((c ρ γ).bind fun p => if p.1 = true then a p.2.1 p.2.2 else b p.2.1 p.2.2) := rfl
@[simp] theorem e_fLam (hh : Rx → Option (D × Bxs)) (fx : Fex) (ρ : Row) (γ : Bxs) : fLam hh fx ρ γ = ((fx (hideO ρ) γ).bind fun o => (hh (toRx o)).map fun z => (z.1, ρ, z.2)) := rfl
@[simp] theorem e_toV (d : D) (ρ : Row) (γ : Bxs) : toRx (.v d ρ γ) = .ret (.d d) γ := rfl
@[simp] theorem e_toX (c : Str) (p : Pl) (ρ : Row) (γ : Bxs) : toRx (.x c p ρ γ) = .exc c p γ := rfl
@[simp] theorem e_hide0 : hideO [] = [] := rfl
@[simp] theorem e_hideD (d : D) (ρ : Row) : hideO (.d d :: ρ) = .d d :: hideO ρ := rfl
@[simp] theorem e_hideB (n : Nat) (ρ : Row) : hideO (.bx n :: ρ) = .bx n :: hideO ρ := rfl
@[simp] theorem e_hideU (ρ : Row) : hideO (.un :: ρ) = .un :: hideO ρ := rfl
@[simp] theorem e_hideO (c : OC) (ρ : Row) : hideO (.ow c :: ρ) = .un :: hideO ρ := rfl
section
variable {kd : Str} {G : Type} (g : GK kd G)
theorem GK.lead_in {a : G} (h : g.ok a) (hb : g.bd 5 a) (γ : Bxs) : F_is_lead_in [.d (.str kd), .d (g.enc a)] γ = some (.d (.bool true), γ) := by
  simp [F_is_lead_in, f_is_lead_in, List.replicate_succ, g.kw, g.val h hb]
theorem GK.led {l x y : G} {a b c : Nat} (hl : g.ok l) (hx : g.ok x) (hy : g.ok y) (bl : g.bd a l) (bx : g.bd b x) (bY : g.bd c y) (hs : a + b + c ≤ 5) (γ : Bxs) :
    F_lead_moved [.d (.str kd), .d (g.enc l), .d (g.enc x), .d (g.enc y)] γ = some (.d (g.enc (gled g.mul g.inv l x y)), γ) ∧ F__law_led [.d (.str kd), .d (g.enc l), .d (g.enc x), .d (g.enc y)] γ = some (.d (g.enc (gled g.mul g.inv l x y)), γ) ∧ g.ok (gled g.mul g.inv l x y) ∧ g.bd (a + b + c) (gled g.mul g.inv l x y) := by
  have w : ∀ {m} {z : G}, g.bd m z → m ≤ 5 → g.bd 5 z := fun h e => g.bdw h e
  have ix := g.gp.oki hx
  have i1 := g.bdi hx bx
  have xl := g.gp.okm ix hl
  have b1 : g.bd (b + a) (g.mul (g.inv x) l) := g.bdm ix hl i1 bl
  have b2 := g.bdm xl hy b1 bY
  have hb2 : g.bd (a + b + c) (gled g.mul g.inv l x y) := by
    rw [show a + b + c = b + a + c by omega]; exact b2
  have h1 := fun γ => g.lead_in hl (w bl (by omega)) γ
  have h2 := fun γ => g.val hx (w bx (by omega)) γ
  have h3 := fun γ => g.val hy (w bY (by omega)) γ
  have h4 : ∀ γ, F_lead_led [.d (.str kd), .d (g.enc l), .d (g.enc x), .d (g.enc y)] γ = some (.d (g.enc (gled g.mul g.inv l x y)), γ) := fun γ => by
    simp [F_lead_led, f_lead_led, List.replicate_succ, g.kw, g.invF hx (w bx (by omega)), g.mulF ix hl i1 bl (by omega), g.mulF xl hy b1 bY (by omega), gled]
  refine ⟨?_, ?_, g.gp.okm xl hy, hb2⟩
  · by_cases hm : kd = "moves"
    · have l1 := g.len hm hl
      have l2 := g.len hm hx
      have l3 := g.len hm hy
      have ki := kinds_in g.kk
      subst hm
      simp [F_lead_moved, f_lead_moved, List.replicate_succ, ki, h1, h2, h3, h4, fChain, l1, l2, l3]
    · have hk : kd = "words" ∨ kd = "sums" ∨ kd = "shares" := by
        rcases g.kk with h | h | h | h
        · exact Or.inl h
        · exact Or.inr (Or.inl h)
        · exact Or.inr (Or.inr h)
        · exact absurd h hm
      exact moved_of hk h1 h2 h3 h4 γ
  · simp [F__law_led, f__law_led, List.replicate_succ, g.kw, g.lbF hx (w bx (by omega)), g.timF ix hl i1 bl (by omega), g.timF xl hy b1 bY (by omega), gled]
end
end KK

namespace KK
open PySem L2 DL

abbrev OP : Str := "InvalidOperation"
abbrev IsKd (kd : Str) : Prop := kd = "words" ∨ kd = "sums" ∨ kd = "shares" ∨ kd = "moves"
/-- what is no kind -/
def NKL : List D := [.none, .str "", .str "sum", .int 0, .tuple [.str "words"]]
theorem fx_kind {k : D} (h : k ∈ NKL) (l x y : D) (γ : Bxs) : FX_lead_moved [.d k, .d l, .d x, .d y] γ = some (.exc OP none γ) := by
  simp only [NKL, List.mem_cons, List.not_mem_nil, or_false] at h
  rcases h with rfl | rfl | rfl | rfl | rfl <;> kernel_rfl
section
variable {kd : Str} {l x y : D} (hk : IsKd kd)
include hk
theorem fx_lead (h : ∀ γ, F_is_lead_in [.d (.str kd), .d l] γ = some (.d (.bool false), γ)) (γ : Bxs) : FX_lead_moved [.d (.str kd), .d l, .d x, .d y] γ = some (.exc OP none γ) := by
  simp [FX_lead_moved, fx_lead_moved, List.replicate_succ, kinds_in hk, h]
theorem fx_left (h1 : ∀ γ, F_is_lead_in [.d (.str kd), .d l] γ = some (.d (.bool true), γ)) (h : ∀ γ, F_is_value_in [.d (.str kd), .d x] γ = some (.d (.bool false), γ)) (γ : Bxs) : FX_lead_moved [.d (.str kd), .d l, .d x, .d y] γ = some (.exc OP none γ) := by
  simp [FX_lead_moved, fx_lead_moved, List.replicate_succ, kinds_in hk, h1, h]
theorem fx_right (h1 : ∀ γ, F_is_lead_in [.d (.str kd), .d l] γ = some (.d (.bool true), γ)) (h2 : ∀ γ, F_is_value_in [.d (.str kd), .d x] γ = some (.d (.bool true), γ)) (h : ∀ γ, F_is_value_in [.d (.str kd), .d y] γ = some (.d (.bool false), γ)) (γ : Bxs) : FX_lead_moved [.d (.str kd), .d l, .d x, .d y] γ = some (.exc OP none γ) := by
  simp [FX_lead_moved, fx_lead_moved, List.replicate_succ, kinds_in hk, h1, h2, h]
end
theorem fx_size {l x y : D} (h1 : ∀ γ, F_is_lead_in [.d (.str "moves"), .d l] γ = some (.d (.bool true), γ)) (h2 : ∀ γ, F_is_value_in [.d (.str "moves"), .d x] γ = some (.d (.bool true), γ)) (h3 : ∀ γ, F_is_value_in [.d (.str "moves"), .d y] γ = some (.d (.bool true), γ))
    {a b c : Int} (la : lenD [l] = some (.int a)) (lb : lenD [x] = some (.int b)) (lc : lenD [y] = some (.int c)) (h : ¬ (a = b ∧ b = c)) (γ : Bxs) : FX_lead_moved [.d (.str "moves"), .d l, .d x, .d y] γ = some (.exc OP none γ) := by
  have ki := kinds_in (kd := "moves") (by simp)
  by_cases e : a = b
  · have e2 : ¬ b = c := fun z => h ⟨e, z⟩
    simp [FX_lead_moved, fx_lead_moved, List.replicate_succ, ki, h1, h2, h3, fChain, la, lb, lc, e, e2]
  · simp [FX_lead_moved, fx_lead_moved, List.replicate_succ, ki, h1, h2, h3, fChain, la, lb, lc, e]

/-- d, in each place, is refused -/
structure Rf (kd : Str) (l x y d : D) : Prop where
  r1 : ∀ γ, FX_lead_moved [.d (.str kd), .d d, .d x, .d y] γ = some (.exc OP none γ)
  r2 : ∀ γ, FX_lead_moved [.d (.str kd), .d l, .d d, .d y] γ = some (.exc OP none γ)
  r3 : ∀ γ, FX_lead_moved [.d (.str kd), .d l, .d x, .d d] γ = some (.exc OP none γ)
/-- what is right, of a kind -/
structure Rt (kd : Str) (l x y : D) : Prop where
  k : IsKd kd
  l : ∀ γ, F_is_lead_in [.d (.str kd), .d l] γ = some (.d (.bool true), γ)
  x : ∀ γ, F_is_value_in [.d (.str kd), .d x] γ = some (.d (.bool true), γ)
  y : ∀ γ, F_is_value_in [.d (.str kd), .d y] γ = some (.d (.bool true), γ)
theorem rf_bad {kd : Str} {l x y d : D} (R : Rt kd l x y) (h : ∀ γ, F_is_lead_in [.d (.str kd), .d d] γ = some (.d (.bool false), γ)) (h2 : ∀ γ, F_is_value_in [.d (.str kd), .d d] γ = some (.d (.bool false), γ)) : Rf kd l x y d :=
  ⟨fx_lead R.k h, fx_left R.k R.l h2, fx_right R.k R.l R.x h2⟩
/-- the odd ones -/
def ODD : List D := [.none, .str "m", .tuple [.int 1], .list [.int 0], .bool true, .tuple [.int 0, .int 0], .tuple [.int 2, .int 4], .tuple [.int 0, .int 2], .tuple [.str "a", .str "a"], .tuple [.str "a"], .dict []]
theorem odd_lead {kd : Str} (hk : IsKd kd) {d : D} (h : d ∈ ODD) (γ : Bxs) : F_is_lead_in [.d (.str kd), .d d] γ = some (.d (.bool false), γ) := by
  simp only [ODD, List.mem_cons, List.not_mem_nil, or_false] at h
  rcases hk with rfl | rfl | rfl | rfl <;> rcases h with rfl | rfl | rfl | rfl | rfl | rfl | rfl | rfl | rfl | rfl | rfl <;> kernel_rfl
theorem odd_val {kd : Str} (hk : IsKd kd) {d : D} (h : d ∈ ODD) (γ : Bxs) : F_is_value_in [.d (.str kd), .d d] γ = some (.d (.bool false), γ) := by
  simp only [ODD, List.mem_cons, List.not_mem_nil, or_false] at h
  rcases hk with rfl | rfl | rfl | rfl <;> rcases h with rfl | rfl | rfl | rfl | rfl | rfl | rfl | rfl | rfl | rfl | rfl <;> kernel_rfl
theorem rf_odd {kd : Str} {l x y d : D} (R : Rt kd l x y) (h : d ∈ ODD) : Rf kd l x y d := rf_bad R (odd_lead R.k h) (odd_val R.k h)
/-- moves of any form -/
theorem move_any (p : W) (hp : p.length ≤ 6) : ∃ b, ∀ γ, F_is_move [.d (eMv p)] γ = some (.d (.bool b), γ) := by
  by_cases h0 : p.length = 0
  · have : p = [] := List.length_eq_zero_iff.mp h0
    subst this
    exact ⟨false, fun γ => by kernel_rfl⟩
  · by_cases h6 : p.length = 6
    · exact ⟨false, fun γ => by simp [F_is_move, f_is_move, List.replicate_succ, eMv, fChain, h6]⟩
    · refine ⟨decide (srtI (p.map fun i : Nat => (i : Int)) = (List.range p.length).map fun i : Nat => (i : Int)), fun γ => ?_⟩
      have hc := lcL_map (i := 1) (fe := fQ (qCall F_is_whole (aE (fV 1) aNil))) (ρ := [.d (.tuple (p.map iD)), .un]) (γ := γ) rfl iD (fun _ => .bool true) p (fun i _ => by simp [iD]) (sz5 (by omega))
      have ha := all_map (fun _ : Nat => true) p
      have e1 : (p.all fun _ => true) = true := by simp
      rw [e1] at ha
      have b1 : (1 : Int) ≤ p.length := by omega
      have b2 : (p.length : Int) ≤ 5 := by omega
      have hr : rgOk 0 (p.length : Int) = true := by
        unfold rgOk
        simp only [Bool.and_eq_true, decide_eq_true_eq]
        exact ⟨⟨inB_iff.mpr (by omega), inB_iff.mpr (by omega)⟩, by omega⟩
      have hg : rgDs 0 (p.length : Int) = ((List.range p.length).map fun i : Nat => (i : Int)).map PyData.int := by
        unfold rgDs
        rw [List.map_map]
        simp
      have hi : intsOf (p.map iD) = some (p.map fun i : Nat => (i : Int)) := ints_iD p
      have he := e_eqLI (srtI (p.map fun i : Nat => (i : Int))) ((List.range p.length).map fun i : Nat => (i : Int))
      simp only [List.map_map] at he
      simp [F_is_move, f_is_move, List.replicate_succ, eMv, fChain, b1, b2, qLc, iE, itemsD, unS, hc, ha, qSrt, hi, qLR, fR1, intOf, hr, hg, he]
theorem mv_val {p : W} {b : Bool} (h : ∀ γ, F_is_move [.d (eMv p)] γ = some (.d (.bool b), γ)) (γ : Bxs) : F_is_value_in [.d (.str "moves"), .d (eMv p)] γ = some (.d (.bool b), γ) := by
  simp [F_is_value_in, f_is_value_in, List.replicate_succ, h]
theorem mv_lead {p : W} {b : Bool} (h : ∀ γ, F_is_move [.d (eMv p)] γ = some (.d (.bool b), γ)) (γ : Bxs) : F_is_lead_in [.d (.str "moves"), .d (eMv p)] γ = some (.d (.bool b), γ) := by
  simp [F_is_lead_in, f_is_lead_in, List.replicate_succ, mv_val h]
theorem rf_size {l x y p : W} {n : Nat} (R : Rt "moves" (eMv l) (eMv x) (eMv y)) (hl : l.length = n) (hx : x.length = n) (hy : y.length = n) (hp : p.length ≠ n) (h6 : p.length ≤ 6) : Rf "moves" (eMv l) (eMv x) (eMv y) (eMv p) := by
  obtain ⟨b, hb⟩ := move_any p h6
  cases b with
  | false => exact rf_bad R (mv_lead hb) (mv_val hb)
  | true =>
    have ln : ∀ q : W, lenD [eMv q] = some (.int (q.length : Int)) := fun q => by simp [eMv]
    exact ⟨fx_size (mv_lead hb) R.x R.y (ln p) (ln x) (ln y) (by omega), fx_size R.l (mv_val hb) R.y (ln l) (ln p) (ln y) (by omega), fx_size R.l R.x (mv_val hb) (ln l) (ln x) (ln p) (by omega)⟩
theorem rf_001 {l x y : D} (R : Rt "moves" l x y) : Rf "moves" l x y (.tuple [.int 0, .int 0, .int 1]) := rf_bad R (fun γ => by kernel_rfl) (fun γ => by kernel_rfl)
@[simp] theorem ref_exc (γ : Bxs) : hh__law_is_refused (.exc OP none γ) = some (.bool true, γ) := by kernel_rfl
end KK

namespace KK
open PySem L2 DL

def tailR : Fst := (sSeq (sSet 6 (qCall F__law_pick (aB 0 (aE (fV 5) aNil))))
  (sCalls 7 8 [8] hh__law_is_refused [(eXQ (qxCall FX_lead_moved (aE (fQ (qCall F__law_pick (aB 0 (aE (fLst (fCons (fC .none) (fCons (fC (.str "")) (fCons (fC (.str "sum")) (fCons (fC (.int 0)) (fCons (fTup (fCons (fC (.str "words")) fNil)) fNil)))))) aNil)))) (aE (fV 2) (aE (fV 3) (aE (fV 4) aNil)))))), (eXQ (qxCall FX_lead_moved (aE (fV 1) (aE (fV 6) (aE (fV 3) (aE (fV 4) aNil)))))), (eXQ (qxCall FX_lead_moved (aE (fV 1) (aE (fV 2) (aE (fV 6) (aE (fV 4) aNil)))))), (eXQ (qxCall FX_lead_moved (aE (fV 1) (aE (fV 2) (aE (fV 3) (aE (fV 6) aNil))))))]))
theorem tail_ok {kd : Str} {l x y : D} {L : List D} (hL : ∀ d ∈ L, Rf kd l x y d) (h0 : L ≠ []) (hz : L.length ≤ 1000) {n : Nat} {γ : Bxs} (h : Dc n γ) (hn : n ≤ 900000) :
    ∃ γ', tailR [.bx 0, .d (.str kd), .d l, .d x, .d y, .d (.list L), .un, .un, .un] γ = some (.rt (.d (.bool true)) γ') ∧ Dc (n + 2) γ' := by
  obtain ⟨w, γ1, e1, hw, d1⟩ := pick_list h (by omega) h0 hz
  obtain ⟨k, γ2, e2, hk, d2⟩ := pick_list (ds := NKL) d1 (by omega) (by simp [NKL]) (by simp [NKL])
  obtain ⟨r1, r2, r3⟩ := hL w hw
  have r0 := fx_kind hk l x y
  refine ⟨γ2, ?_, d2⟩
  have z1 : (1 : Nat) ≤ sizeLine := by decide
  have z5 : (5 : Nat) ≤ sizeLine := by decide
  unfold NKL at e2
  simp [tailR, aB, e1, sCalls, noOw, unS, callsL, z1, z5, e2, r0, r1, r2, r3]
/-- what stands ahead of it -/
theorem refused_of {kd : Str} {l x y : D} {L : List D} (γ : Bxs) {n : Nat} (h : Dc n γ) (hn : n ≤ 900000) (hL : ∀ d ∈ L, Rf kd l x y d) (h0 : L ≠ []) (hz : L.length ≤ 1000)
    (head : ∀ γ, F__law_are_refused [.bx 0, .d (.str kd), .d l, .d x, .d y] γ = (tailR [.bx 0, .d (.str kd), .d l, .d x, .d y, .d (.list L), .un, .un, .un] γ).bind doneO) :
    ∃ γ', F__law_are_refused [.bx 0, .d (.str kd), .d l, .d x, .d y] γ = some (.d (.bool true), γ') ∧ Dc (n + 2) γ' := by
  obtain ⟨γ', e, d⟩ := tail_ok hL h0 hz h hn
  exact ⟨γ', by rw [head, e]; rfl, d⟩
theorem ref_plain {kd : Str} {l x y : D} (R : Rt kd l x y) (hm : ¬ kd = "moves") {n : Nat} {γ : Bxs} (h : Dc n γ) (hn : n ≤ 900000) :
    ∃ γ', F__law_are_refused [.bx 0, .d (.str kd), .d l, .d x, .d y] γ = some (.d (.bool true), γ') ∧ Dc (n + 2) γ' := by
  refine refused_of (L := ODD) γ h hn (fun d hd => rf_odd R hd) (by simp [ODD]) (by simp [ODD]) fun γ => ?_
  have nm : (kd == ("moves" : Str)) = false := by simpa using hm
  have z1 : (1 : Nat) ≤ sizeLine := by decide
  have z11 : (11 : Nat) ≤ sizeLine := by decide
  have e0 : ∀ (ρ : Row) (γ : Bxs), fDict0 ρ γ = some (.dict [], ρ, γ) := fun ρ γ => by kernel_rfl
  have el : f__law_are_refused = sSeq (sSet 5 (qE (fLst (fCons (fC .none) (fCons (fC (.str "m")) (fCons (fTup (fCons (fC (.int 1)) fNil)) (fCons (fLst (fCons (fC (.int 0)) fNil)) (fCons (fC (.bool true)) (fCons (fTup (fCons (fC (.int 0)) (fCons (fC (.int 0)) fNil))) (fCons (fTup (fCons (fC (.int 2)) (fCons (fC (.int 4)) fNil))) (fCons (fTup (fCons (fC (.int 0)) (fCons (fC (.int 2)) fNil))) (fCons (fTup (fCons (fC (.str "a")) (fCons (fC (.str "a")) fNil))) (fCons (fTup (fCons (fC (.str "a")) fNil)) (fCons fDict0 fNil))))))))))))))
    (sSeq (sIf (fBl (f2 eqD (fV 1) (fC (.str "moves")))) (sSet 5 (qE (f2 addD (fV 5) (fLst (fCons (fTupR (fR1 (f2 addD (fS lenD (fCons (fV 2) fNil)) (fC (.int 1))))) (fCons (fTup (fCons (fC (.int 0)) (fCons (fC (.int 0)) (fCons (fC (.int 1)) fNil)))) (fCons (fTupO (fSl (fQ (qList (fV 2))) fNo (fPt (f1 negD (fC (.int 1)))))) fNil))))))) sNext) tailR) := rfl
  simp [F__law_are_refused, el, List.replicate_succ, z1, z11, e0, nm, ODD]
theorem ref_moves {l x y : W} {m : Nat} (R : Rt "moves" (eMv l) (eMv x) (eMv y)) (hl : l.length = m) (hx : x.length = m) (hy : y.length = m) (h1 : 1 ≤ m) (h5 : m ≤ 5) {n : Nat} {γ : Bxs} (h : Dc n γ) (hn : n ≤ 900000) :
    ∃ γ', F__law_are_refused [.bx 0, .d (.str "moves"), .d (eMv l), .d (eMv x), .d (eMv y)] γ = some (.d (.bool true), γ') ∧ Dc (n + 2) γ' := by
  have z0 : (0 : Nat) ≤ sizeLine := by decide
  have z1 : (1 : Nat) ≤ sizeLine := by decide
  have z2 : (2 : Nat) ≤ sizeLine := by decide
  have z3 : (3 : Nat) ≤ sizeLine := by decide
  have z11 : (11 : Nat) ≤ sizeLine := by decide
  refine refused_of (L := ODD ++ [eMv (List.range (m + 1)), .tuple [.int 0, .int 0, .int 1], eMv (l.take (m - 1))]) γ h hn (fun d hd => ?_) (by simp) (by simp [ODD]) fun γ => ?_
  · rcases List.mem_append.mp hd with hd | hd
    · exact rf_odd R hd
    · simp only [List.mem_cons, List.not_mem_nil, or_false] at hd
      rcases hd with rfl | rfl | rfl
      · exact rf_size R hl hx hy (by rw [List.length_range]; omega) (by rw [List.length_range]; omega)
      · exact rf_001 R
      · exact rf_size R hl hx hy (by rw [List.length_take]; omega) (by rw [List.length_take]; omega)
  · have e0 : ∀ (ρ : Row) (γ : Bxs), fDict0 ρ γ = some (.dict [], ρ, γ) := fun ρ γ => by kernel_rfl
    have el : f__law_are_refused = sSeq (sSet 5 (qE (fLst (fCons (fC .none) (fCons (fC (.str "m")) (fCons (fTup (fCons (fC (.int 1)) fNil)) (fCons (fLst (fCons (fC (.int 0)) fNil)) (fCons (fC (.bool true)) (fCons (fTup (fCons (fC (.int 0)) (fCons (fC (.int 0)) fNil))) (fCons (fTup (fCons (fC (.int 2)) (fCons (fC (.int 4)) fNil))) (fCons (fTup (fCons (fC (.int 0)) (fCons (fC (.int 2)) fNil))) (fCons (fTup (fCons (fC (.str "a")) (fCons (fC (.str "a")) fNil))) (fCons (fTup (fCons (fC (.str "a")) fNil)) (fCons fDict0 fNil))))))))))))))
      (sSeq (sIf (fBl (f2 eqD (fV 1) (fC (.str "moves")))) (sSet 5 (qE (f2 addD (fV 5) (fLst (fCons (fTupR (fR1 (f2 addD (fS lenD (fCons (fV 2) fNil)) (fC (.int 1))))) (fCons (fTup (fCons (fC (.int 0)) (fCons (fC (.int 0)) (fCons (fC (.int 1)) fNil)))) (fCons (fTupO (fSl (fQ (qList (fV 2))) fNo (fPt (f1 negD (fC (.int 1)))))) fNil))))))) sNext) tailR) := rfl
    have hr : rgOk 0 ((l.length : Int) + 1) = true := by
      unfold rgOk
      simp only [Bool.and_eq_true, decide_eq_true_eq]
      exact ⟨⟨inB_iff.mpr (by omega), inB_iff.mpr (by omega)⟩, by omega⟩
    have hg : rgDs 0 ((l.length : Int) + 1) = (List.range (m + 1)).map iD := by
      unfold rgDs
      rw [show ((l.length : Int) + 1 - 0).toNat = m + 1 by omega]
      simp [iD]
    have hsl : slD (.list (l.map iD)) none (some (-1)) = some (.list ((l.take (m - 1)).map iD)) := by
      simp [slD, cutD, HT.sIx, hl]
      congr 1
      omega
    have z14 : (14 : Nat) ≤ sizeLine := by decide
    simp [F__law_are_refused, el, List.replicate_succ, z1, z11, z14, e0, ODD, eMv, fTupR, fR1, intOf, hr, hg, z3, qList, hsl, addD]
end KK

namespace KK
open PySem L2 DL

theorem abc_eq : ("abc" : Str) = S [97, 98, 99] := by decide +kernel
theorem ab_eq : ("ab" : Str) = S [97, 98] := by decide +kernel
theorem abl_eq : ("abl" : Str) = S [97, 98, 108] := by decide +kernel
theorem e_eqLd (l m : W × W) : eqD (eLd l) (eLd m) = some (.bool (decide (l = m))) := by
  simp only [eqD, eLd, PyData.plain, PyData.plainAll, PyData.depth, PyData.depthAll, PyData.eqv, PyData.eqvAll]
  rw [if_pos ⟨rfl, rfl, by decide⟩, S_beq, S_beq, Bool.and_true]
  congr 2
  rw [Bool.eq_iff_iff]
  simp [Prod.ext_iff]
theorem codes_ok {m : Nat} {w : W} (h : okW m w) : codeOk (.str (S w)) = true := by
  simp only [codeOk]
  rw [List.all_eq_true]
  intro c hc
  have := h.1 c hc
  simp at this
  simp; omega
theorem rep_w {m : Nat} {l : W × W} (h : okL m l) (hm : m ≤ 1000) : ∃ s, reprD [eLd l] = some (.str s) := by
  refine ⟨(eLd l).shown, ?_⟩
  have e1 : (S l.1).length = l.1.length := S_len l.1
  have e2 : (S l.2).length = l.2.length := S_len l.2
  have n1 := h.2.1.2
  have n2 := h.2.2.2
  simp only [reprD]
  rw [if_pos]
  refine ⟨rfl, rfl, ?_, by show (1 : Nat) ≤ 60; decide, ?_⟩
  · simp only [eLd, codeOk, codesOk, Bool.and_true]
    rw [Bool.and_eq_true]
    exact ⟨codes_ok h.2.1, codes_ok h.2.2⟩
  · simp only [eLd, wgt, wgts, e1, e2]
    omega

theorem mul_S {w : W} {k : Nat} (h : w.length * k ≤ 100000) (hk : k ≤ 100000) : mulD (.str (S w)) (.int k) = some (.str (S (List.replicate k w).flatten)) := by
  have l : (S w).length = w.length := S_len w
  have e : repS (S w) k = S (List.replicate k w).flatten := by simp [repS]
  simp only [mulD, l, Int.toNat_natCast, e]
  rw [if_pos ⟨inB_iff.mpr ⟨by omega, by omega⟩, by rw [sizeLine_eq]; omega⟩]
theorem okW.rep {m : Nat} {w : W} (h : okW m w) (k : Nat) : okW (m * k) (List.replicate k w).flatten := by
  refine ⟨fun c hc => ?_, ?_⟩
  · obtain ⟨v, hv, hc⟩ := List.mem_flatten.mp hc
    rw [List.eq_of_mem_replicate hv] at hc
    exact h.1 c hc
  · rw [List.length_flatten, List.map_replicate, List.sum_replicate_nat]
    have := h.2
    calc k * w.length ≤ k * (10 * m) := Nat.mul_le_mul_left _ this
      _ = 10 * (m * k) := by rw [Nat.mul_comm k, Nat.mul_assoc]
section
variable {size : Int} {n : Nat} {γ : Bxs}
theorem valW (h : Dc n γ) (hn : n ≤ 800000) : ∃ a γ', F__law_value [.bx 0, .d (.str "words"), .d (.int size)] γ = some (.d (eWd a), γ') ∧ okW 36 a ∧ Dc (n + 50) γ' := by
  obtain ⟨v, γ', e, h1, h2, d⟩ := word_drawn (most := 2) (w := [97, 98]) h (by omega) (by simp) (by simp) (by omega)
  have e : F__law_word [.bx 0, .d (.str (S [97, 98])), .d (.int 2)] γ = some (.d (.str (S v)), γ') := e
  rw [← ab_eq] at e
  refine ⟨v, γ', ?_, ⟨fun c hc => by have := h1 c hc; simp at this ⊢; omega, by omega⟩, d.mono (by omega)⟩
  simp [F__law_value, f__law_value, List.replicate_succ, aB, e, eWd]
theorem greW (h : Dc n γ) (hn : n ≤ 800000) : ∃ a γ', F__law_great [.bx 0, .d (.str "words"), .d (.int size)] γ = some (.d (eWd a), γ') ∧ okW 36 a ∧ Dc (n + 50) γ' := by
  obtain ⟨v, γ1, e, h1, h2, d⟩ := word_drawn (most := 9) (w := [97, 98, 108]) h (by omega) (by simp) (by simp) (by omega)
  obtain ⟨r, γ2, e2, r0, r1, d2⟩ := roll d (by omega) (t := 40) (by omega) (by omega)
  have e : F__law_word [.bx 0, .d (.str (S [97, 98, 108])), .d (.int 9)] γ = some (.d (.str (S v)), γ1) := e
  rw [← abl_eq] at e
  have hk : (1 : Int) + r = ((1 + r.toNat : Nat) : Int) := by omega
  have hl : v.length * (1 + r.toNat) ≤ 9 * 40 := Nat.mul_le_mul h2 (by omega)
  have m := mul_S (w := v) (k := 1 + r.toNat) (by omega) (by omega)
  rw [← hk] at m
  refine ⟨(List.replicate (1 + r.toNat) v).flatten, γ2, ?_, ⟨fun c hc => ?_, ?_⟩, d2.mono (by omega)⟩
  · simp [F__law_great, f__law_great, List.replicate_succ, aB, e, e2, m, eWd]
  · obtain ⟨u, hu, hc⟩ := List.mem_flatten.mp hc
    rw [List.eq_of_mem_replicate hu] at hc
    have := h1 c hc
    simp at this ⊢
    omega
  · rw [List.length_flatten, List.map_replicate, List.sum_replicate_nat, Nat.mul_comm]
    omega
theorem leaW (h : Dc n γ) (hn : n ≤ 700000) : ∃ a γ', F__law_lead [.bx 0, .d (.str "words"), .d (.int size)] γ = some (.d (eLd a), γ') ∧ okL 1 a ∧ Dc (n + 50) γ' := by
  obtain ⟨v, γ1, e, h1, h2, d⟩ := word_drawn (most := 6) (w := [97, 98, 99]) h (by omega) (by simp) (by simp) (by omega)
  obtain ⟨w, γ2, e2, h3, h4, d2⟩ := word_drawn (most := 6) (w := [97, 98, 99]) d (by omega) (by simp) (by simp) (by omega)
  have e : F__law_word [.bx 0, .d (.str (S [97, 98, 99])), .d (.int 6)] γ = some (.d (.str (S v)), γ1) := e
  have e2 : F__law_word [.bx 0, .d (.str (S [97, 98, 99])), .d (.int 6)] γ1 = some (.d (.str (S w)), γ2) := e2
  rw [← abc_eq] at e e2
  have sub : ∀ {v : W}, (∀ c ∈ v, c ∈ ([97, 98, 99] : W)) → v.length ≤ 6 → okW 1 v := fun hv hl => ⟨fun c hc => by have := hv c hc; simp at this ⊢; omega, by omega⟩
  have o1 := sub h1 h2
  have o2 := sub h3 h4
  have oc := o1.cut o2
  have hc := law_cut (a := v) (b := w) (by omega) (by omega) γ2
  refine ⟨cut v w, γ2, ?_, ⟨Red.of_cut _ _, oc.1, oc.2⟩, d2.mono (by omega)⟩
  simp [F__law_lead, f__law_lead, List.replicate_succ, aB, e, e2, hc, eLd]
theorem valS (h : Dc n γ) (hn : n ≤ 800000) : ∃ (a : Int) (γ' : Bxs), F__law_value [.bx 0, .d (.str "sums"), .d (.int size)] γ = some (.d (.int a), γ') ∧ a.natAbs ≤ 1 * 10 ^ 130 ∧ Dc (n + 20) γ' := by
  obtain ⟨d, γ', e, hd, dc⟩ := pick_list (ds := [.int 0, .int 0, .int 1, .int 2, .int (-1), .int 5]) h (by omega) (by simp) (by simp)
  have z6 : (6 : Nat) ≤ sizeLine := by decide
  obtain ⟨a, rfl, ha⟩ : ∃ a : Int, d = .int a ∧ a.natAbs ≤ 5 := by
    simp only [List.mem_cons, List.not_mem_nil, or_false] at hd
    rcases hd with rfl | rfl | rfl | rfl | rfl | rfl <;> exact ⟨_, rfl, by decide⟩
  refine ⟨a, γ', ?_, by omega, dc.mono (by omega)⟩
  simp [F__law_value, f__law_value, List.replicate_succ, aB, z6, e]
def Q59 : Int := 10 ^ 59
def Q20 : Int := 10 ^ 20
def Q60 : Int := 10 ^ 60
theorem q59 : Q59 = 10 ^ 59 := rfl
theorem q60 : Q60 = 10 ^ 60 := rfl
theorem pw59 : powD (.int 10) (.int 59) = some (.int Q59) := by
  simp only [powD]
  rw [if_pos (by decide)]
  rfl
theorem pw20 : powD (.int 10) (.int 20) = some (.int Q20) := by
  simp only [powD]
  rw [if_pos (by decide)]
  rfl
theorem pw60' : powD (.int 10) (.int 60) = some (.int Q60) := by
  simp only [powD]
  rw [if_pos (by decide)]
  rfl
theorem greS (h : Dc n γ) (hn : n ≤ 800000) : ∃ (a : Int) (γ' : Bxs), F__law_great [.bx 0, .d (.str "sums"), .d (.int size)] γ = some (.d (.int a), γ') ∧ a.natAbs ≤ 1 * 10 ^ 130 ∧ Dc (n + 20) γ' := by
  obtain ⟨d, γ1, e, hd, d1⟩ := pick_list (ds := [.int (-1), .int 1]) h (by omega) (by simp) (by simp)
  obtain ⟨r, γ2, e2, r0, r1, d2⟩ := roll d1 (by omega) (t := 1000) (by omega) (by omega)
  obtain ⟨c, γ3, e3, hc, d3⟩ := pick_list (ds := [.int 1, .int Q20, .int Q60]) d2 (by omega) (by simp) (by simp)
  have z2 : (2 : Nat) ≤ sizeLine := by decide
  have z3 : (3 : Nat) ≤ sizeLine := by decide
  obtain ⟨s, rfl, hs⟩ : ∃ s : Int, d = .int s ∧ (s = -1 ∨ s = 1) := by
    simp only [List.mem_cons, List.not_mem_nil, or_false] at hd
    rcases hd with rfl | rfl
    · exact ⟨_, rfl, Or.inl rfl⟩
    · exact ⟨_, rfl, Or.inr rfl⟩
  obtain ⟨t, rfl, ht0, ht⟩ : ∃ t : Int, c = .int t ∧ 0 < t ∧ t ≤ Q60 := by
    simp only [List.mem_cons, List.not_mem_nil, or_false] at hc
    rcases hc with rfl | rfl | rfl <;> exact ⟨_, rfl, by decide, by decide⟩
  have w59 := q59
  have w60 := q60
  have m1 : mulD (.int s) (.int (Q59 + r)) = some (.int (s * (Q59 + r))) := mulD_ok (by rcases hs with rfl | rfl <;> decide) (sm (by omega) (by omega))
  have b1 : (s * (Q59 + r)).natAbs ≤ 10 ^ 60 := by rcases hs with rfl | rfl <;> omega
  have m2 : mulD (.int (s * (Q59 + r))) (.int t) = some (.int (s * (Q59 + r) * t)) := mulD_ok (sm (by omega) (by omega)) (sm (by omega) (by omega))
  refine ⟨s * (Q59 + r) * t, γ3, ?_, ?_, d3.mono (by omega)⟩
  · simp only [F__law_great, f__law_great, e_fnOf, List.length_cons, List.length_nil, List.cons_append, List.nil_append, List.replicate_succ, List.replicate_zero, Nat.reduceAdd, Nat.reduceSub]
    have z2' := z2
    simp [aB, z2, z3, e, pw59, e2, pw20, pw60', e3, m1, m2]
  · rw [Int.natAbs_mul]
    have b2 : t.natAbs ≤ 10 ^ 60 := by omega
    calc (s * (Q59 + r)).natAbs * t.natAbs ≤ 10 ^ 60 * 10 ^ 60 := Nat.mul_le_mul b1 b2
      _ ≤ 1 * 10 ^ 130 := by decide +kernel
theorem leaS (h : Dc n γ) (hn : n ≤ 700000) : ∃ (a : Int) (γ' : Bxs), F__law_lead [.bx 0, .d (.str "sums"), .d (.int size)] γ = some (.d (.int a), γ') ∧ a.natAbs ≤ 1 * 10 ^ 130 ∧ Dc (n + 50) γ' := by
  obtain ⟨r, γ1, e, r0, r1, d1⟩ := roll h (by omega) (t := 3) (by omega) (by omega)
  by_cases c : 0 < r
  · obtain ⟨a, γ2, e2, ha, d2⟩ := valS (size := size) d1 (by omega)
    exact ⟨a, γ2, by simp [F__law_lead, f__law_lead, List.replicate_succ, aB, e, c, e2], ha, d2.mono (by omega)⟩
  · obtain ⟨a, γ2, e2, ha, d2⟩ := greS (size := size) d1 (by omega)
    exact ⟨a, γ2, by simp [F__law_lead, f__law_lead, List.replicate_succ, aB, e, c, e2], ha, d2.mono (by omega)⟩
end
end KK

namespace KK
open PySem L2 DL

section
variable {size : Int} {n : Nat} {γ : Bxs}
abbrev bS (x : Fr) : Prop := x.1 ≤ (10 ^ 70) ^ 1 ∧ x.2 ≤ (10 ^ 70) ^ 1
theorem valH (h : Dc n γ) (hn : n ≤ 800000) : ∃ (a : Fr) (γ' : Bxs), F__law_value [.bx 0, .d (.str "shares"), .d (.int size)] γ = some (.d (eSh a), γ') ∧ Sh a ∧ bS a ∧ Dc (n + 20) γ' := by
  obtain ⟨d, γ', e, hd, dc⟩ := pick_list (ds := [eSh (1, 1), eSh (1, 1), eSh (2, 1), eSh (1, 2), eSh (2, 3)]) h (by omega) (by simp) (by simp)
  have z2 : (2 : Nat) ≤ sizeLine := by decide
  have z5 : (5 : Nat) ≤ sizeLine := by decide
  obtain ⟨a, rfl, ha, hb⟩ : ∃ a : Fr, d = eSh a ∧ Sh a ∧ bS a := by
    simp only [List.mem_cons, List.not_mem_nil, or_false] at hd
    rcases hd with rfl | rfl | rfl | rfl | rfl <;> exact ⟨_, rfl, ⟨by decide, by decide, by decide⟩, by decide, by decide⟩
  refine ⟨a, γ', ?_, ha, hb, dc.mono (by omega)⟩
  simp only [eSh] at e
  simp [F__law_value, f__law_value, List.replicate_succ, aB, z2, z5, eSh] at e ⊢
  simp [e]
def Q6 : Int := 10 ^ 6
def Q40 : Int := 10 ^ 40
theorem q6 : Q6 = 10 ^ 6 := rfl
theorem q40 : Q40 = 10 ^ 40 := rfl
theorem pw6 : powD (.int 10) (.int 6) = some (.int Q6) := by
  simp only [powD]
  rw [if_pos (by decide)]
  rfl
theorem pw40 : powD (.int 10) (.int 40) = some (.int Q40) := by
  simp only [powD]
  rw [if_pos (by decide)]
  rfl
theorem greH (h : Dc n γ) (hn : n ≤ 800000) : ∃ (a : Fr) (γ' : Bxs), F__law_great [.bx 0, .d (.str "shares"), .d (.int size)] γ = some (.d (eSh a), γ') ∧ Sh a ∧ bS a ∧ Dc (n + 20) γ' := by
  have w6 := q6
  have w40 := q40
  obtain ⟨r, γ1, e, r0, r1, d1⟩ := roll h (by omega) (t := Q6) (by omega) (by omega)
  obtain ⟨q, γ2, e2, q0, q1, d2⟩ := roll d1 (by omega) (t := 99) (by omega) (by omega)
  have z2 : (2 : Nat) ≤ sizeLine := by decide
  have c1 : (3 : Int) + r = ((3 + r.toNat : Nat) : Int) := by omega
  have c2 : Q40 + q = ((10 ^ 40 + q.toNat : Nat) : Int) := by omega
  generalize hA : 3 + r.toNat = A at c1
  generalize hB : 10 ^ 40 + q.toNat = B at c2
  have A0 : 0 < A := by omega
  have A1 : A ≤ 10 ^ 7 := by omega
  have B0 : 0 < B := by omega
  have B1 : B ≤ 10 ^ 41 := by omega
  have t := times_pos (x := (A, B)) (y := (1, 1)) A0 B0 (by decide) (by decide) (by show A * 1 < _; omega) (by show B * 1 < _; omega) γ2
  have hs : shMul (A, B) (1, 1) = redP A B := by simp [shMul]
  rw [hs] at t
  have le := redP_le (a := A) (b := B)
  refine ⟨redP A B, γ2, ?_, redP_sh A0 B0, ⟨Nat.le_trans le.1 (by rw [Nat.pow_one]; omega), Nat.le_trans le.2 (by rw [Nat.pow_one]; omega)⟩, d2.mono (by omega)⟩
  simp only [eSh] at t ⊢
  simp only [← c1, ← c2] at t
  simp [F__law_great, f__law_great, List.replicate_succ, aB, pw6, e, pw40, e2, z2] at t ⊢
  simp [t]
theorem leaH (h : Dc n γ) (hn : n ≤ 700000) : ∃ (a : Fr) (γ' : Bxs), F__law_lead [.bx 0, .d (.str "shares"), .d (.int size)] γ = some (.d (eSh a), γ') ∧ Sh a ∧ bS a ∧ Dc (n + 50) γ' := by
  obtain ⟨r, γ1, e, r0, r1, d1⟩ := roll h (by omega) (t := 3) (by omega) (by omega)
  by_cases c : 0 < r
  · obtain ⟨a, γ2, e2, ha, hb, d2⟩ := valH (size := size) d1 (by omega)
    exact ⟨a, γ2, by simp [F__law_lead, f__law_lead, List.replicate_succ, aB, e, c, e2], ha, hb, d2.mono (by omega)⟩
  · obtain ⟨a, γ2, e2, ha, hb, d2⟩ := greH (size := size) d1 (by omega)
    exact ⟨a, γ2, by simp [F__law_lead, f__law_lead, List.replicate_succ, aB, e, c, e2], ha, hb, d2.mono (by omega)⟩
end
section
variable {m n : Nat} {γ : Bxs}
theorem rgN (hm : m ≤ 5) : rgOk 0 (m : Int) = true ∧ rgDs 0 (m : Int) = (List.range m).map iD := by
  constructor
  · unfold rgOk
    simp only [Bool.and_eq_true, decide_eq_true_eq]
    exact ⟨⟨inB_iff.mpr (by omega), inB_iff.mpr (by omega)⟩, by omega⟩
  · unfold rgDs
    simp [iD]
theorem valM (h1 : 1 ≤ m) (h5 : m ≤ 5) (h : Dc n γ) (hn : n ≤ 800000) : ∃ (a : W) (γ' : Bxs), F__law_value [.bx 0, .d (.str "moves"), .d (.int (m : Int))] γ = some (.d (eMv a), γ') ∧ IsP m a ∧ Dc (n + 20) γ' := by
  obtain ⟨r, γ1, e, r0, r1, d1⟩ := roll h (by omega) (t := 2) (by omega) (by omega)
  obtain ⟨k1, k2⟩ := rgN h5
  by_cases c : r = 0
  · obtain ⟨ys, γ2, e2, hp, d2⟩ := mixed (xs := (List.range m).map iD) d1 (by omega) (by simp; omega)
    obtain ⟨p, rfl, ip⟩ := perm_iD hp
    refine ⟨p, γ2, ?_, ip, d2.mono (by simp; omega)⟩
    simp [F__law_value, f__law_value, List.replicate_succ, aB, e, c, qLR, fR1, intOf, k1, k2, e2, eMv]
  · refine ⟨List.range m, γ1, ?_, .refl _, d1.mono (by omega)⟩
    simp [F__law_value, f__law_value, List.replicate_succ, aB, e, c, fTupR, fR1, intOf, k1, k2, eMv]
theorem greM (h1 : 1 ≤ m) (h5 : m ≤ 5) (h : Dc n γ) (hn : n ≤ 800000) : ∃ (a : W) (γ' : Bxs), F__law_great [.bx 0, .d (.str "moves"), .d (.int (m : Int))] γ = some (.d (eMv a), γ') ∧ IsP m a ∧ Dc (n + 20) γ' := by
  obtain ⟨a, γ', e, ip, d⟩ := valM h1 h5 h hn
  exact ⟨a, γ', by simp [F__law_great, f__law_great, List.replicate_succ, aB, e], ip, d⟩
theorem leaM (h1 : 1 ≤ m) (h5 : m ≤ 5) (h : Dc n γ) (hn : n ≤ 700000) : ∃ (a : W) (γ' : Bxs), F__law_lead [.bx 0, .d (.str "moves"), .d (.int (m : Int))] γ = some (.d (eMv a), γ') ∧ IsP m a ∧ Dc (n + 50) γ' := by
  obtain ⟨r, γ1, e, r0, r1, d1⟩ := roll h (by omega) (t := 3) (by omega) (by omega)
  by_cases c : 0 < r
  · obtain ⟨a, γ2, e2, ha, d2⟩ := valM h1 h5 d1 (by omega)
    exact ⟨a, γ2, by simp [F__law_lead, f__law_lead, List.replicate_succ, aB, e, c, e2], ha, d2.mono (by omega)⟩
  · obtain ⟨a, γ2, e2, ha, d2⟩ := greM h1 h5 d1 (by omega)
    exact ⟨a, γ2, by simp [F__law_lead, f__law_lead, List.replicate_succ, aB, e, c, e2], ha, d2.mono (by omega)⟩
end
end KK

namespace KK
open PySem L2 DL

/-- a kind, as the law meets it -/
structure K5 (kd : Str) (m : Nat) where
  L : Type
  V : Type
  eL : L → D
  eV : V → D
  led : L → V → V → L
  okL : L → Prop
  okV : V → Prop
  moved : ∀ {l x y}, okL l → okV x → okV y → ∀ γ, F_lead_moved [.d (.str kd), .d (eL l), .d (eV x), .d (eV y)] γ = some (.d (eL (led l x y)), γ)
  lawled : ∀ {l x y}, okL l → okV x → okV y → ∀ γ, F__law_led [.d (.str kd), .d (eL l), .d (eV x), .d (eV y)] γ = some (.d (eL (led l x y)), γ)
  rep : ∀ {l x y}, okL l → okV x → okV y → ∃ s, reprM [eL (led l x y)] = some (.str s)
  eq1 : ∀ {l k x y}, okL l → okL k → okV x → okV y → ∃ b, eqD (eL (led l x y)) (eL (led k x y)) = some (.bool b) ∧ eqD (eL l) (eL k) = some (.bool b)
  drawL : ∀ {n γ}, Dc n γ → n ≤ 700000 → ∃ a γ', F__law_lead [.bx 0, .d (.str kd), .d (.int (m : Int))] γ = some (.d (eL a), γ') ∧ okL a ∧ Dc (n + 50) γ'
  drawV : ∀ {n γ}, Dc n γ → n ≤ 700000 → ∃ a γ', F__law_value [.bx 0, .d (.str kd), .d (.int (m : Int))] γ = some (.d (eV a), γ') ∧ okV a ∧ Dc (n + 50) γ'
  drawG : ∀ {n γ}, Dc n γ → n ≤ 700000 → ∃ a γ', F__law_great [.bx 0, .d (.str kd), .d (.int (m : Int))] γ = some (.d (eV a), γ') ∧ okV a ∧ Dc (n + 50) γ'
  refused : ∀ {l x y n γ}, okL l → okV x → okV y → Dc n γ → n ≤ 900000 → ∃ γ', F__law_are_refused [.bx 0, .d (.str kd), .d (eL l), .d (eV x), .d (eV y)] γ = some (.d (.bool true), γ') ∧ Dc (n + 2) γ'

def feK : Fx := (fQ (qCallOV [(0, F__law_value), (1, F__law_great)] (fQ (qCallO F__law_pick 2 (aE (fLst (fCons (fC (fnD 0)) (fCons (fC (fnD 1)) fNil))) aNil))) 2 (aE (fV 3) (aE (fV 4) aNil))))
def bodyK : Fst := (sSeq (sSet 4 (qE (f2 addD (fC (.int 1)) (fQ (qCallO F__law_roll 2 (aE (fC (.int 5)) aNil))))))
  (sSeq (sPar 6 7 (qCallO F__law_lead 2 (aE (fV 3) (aE (fV 4) aNil))) (qCallO F__law_lead 2 (aE (fV 3) (aE (fV 4) aNil))))
  (sSeq (sAsg (fQ (qLc (iR range1D (fCons (fC (.int 2)) fNil)) [10] (gN 10) fYes (fQ (qCallOV [(0, F__law_value), (1, F__law_great)] (fQ (qCallO F__law_pick 2 (aE (fLst (fCons (fC (fnD 0)) (fCons (fC (fnD 1)) fNil))) aNil))) 2 (aE (fV 3) (aE (fV 4) aNil)))))) (gT 2 (gsC (gN 8) (gsC (gN 9) gsN))))
  (sSeq (sSet 5 (qCall F_lead_moved (aE (fV 3) (aE (fV 6) (aE (fV 8) (aE (fV 9) aNil))))))
  (sFz 5 (sSeq (sIf (fBl (f2 neD (fS reprM (fCons (fV 5) fNil)) (fS reprM (fCons (fQ (qCall F__law_led (aE (fV 3) (aE (fV 6) (aE (fV 8) (aE (fV 9) aNil)))))) fNil)))) (sRet (qE (fC (.bool false)))) sNext)
  (sSeq (sIf (fBl (f2 neD (f2 eqD (fQ (qCall F_lead_moved (aE (fV 3) (aE (fV 7) (aE (fV 8) (aE (fV 9) aNil)))))) (fV 5)) (f2 eqD (fV 7) (fV 6)))) (sRet (qE (fC (.bool false)))) sNext)
  (sIf (fNotT (fTru (fQ (qCallO F__law_are_refused 2 (aE (fV 3) (aE (fV 6) (aE (fV 8) (aE (fV 9) aNil)))))))) (sRet (qE (fC (.bool false)))) sNext))))))))
def dx (h : List D) : Sl := .ow (.l h)
theorem Dc.one {n : Nat} {γ : Bxs} (h : Dc n γ) : ∃ xs, γ = [xs] := by
  obtain ⟨a, b, c, rfl, _⟩ := h
  exact ⟨_, rfl⟩
section
variable {kd : Str} {m : Nat} (K : K5 kd m)
theorem fe_ok {a b s5 s6 s7 s8 s9 : Sl} {xs : List D} {n : Nat} (h : Dc n [xs]) (hn : n ≤ 600000) : ∃ x xs', K.okV x ∧ Dc (n + 60) [xs'] ∧ ∀ t, feK [a, b, .ow (.l xs), .d (.str kd), .d (.int (m : Int)), s5, s6, s7, s8, s9, t] [] = some (K.eV x, [a, b, .ow (.l xs'), .d (.str kd), .d (.int (m : Int)), s5, s6, s7, s8, s9, t], []) := by
  obtain ⟨d, γ1, e, hd, d1⟩ := pick_list (ds := [fnD 0, fnD 1]) h (by omega) (by simp) (by simp)
  obtain ⟨xs1, rfl⟩ := d1.one
  have z2 : (2 : Nat) ≤ sizeLine := by decide
  simp only [List.mem_cons, List.not_mem_nil, or_false] at hd
  rcases hd with rfl | rfl
  · obtain ⟨x, γ2, e2, ox, d2⟩ := K.drawV d1 (by omega)
    obtain ⟨xs2, rfl⟩ := d2.one
    refine ⟨x, xs2, ox, d2.mono (by omega), fun t => ?_⟩
    simp [feK, qCallOV, qCallO, z2, e, fnNo, List.lookup, e2]
  · obtain ⟨x, γ2, e2, ox, d2⟩ := K.drawG d1 (by omega)
    obtain ⟨xs2, rfl⟩ := d2.one
    refine ⟨x, xs2, ox, d2.mono (by omega), fun t => ?_⟩
    simp [feK, qCallOV, qCallO, z2, e, fnNo, List.lookup, e2]
end
theorem rg2 : range1D [.int 2] = some [.int 0, .int 1] := by kernel_rfl
theorem two {fe : Fx} {R : List D → Sl → Row} {xs xs1 xs2 : List D} {v1 v2 : D} (hu : ∀ xs t, unS [10] (R xs t) = R xs .un) (hs : ∀ xs t u, (R xs t).set 10 u = R xs u) (h1 : ∀ t, fe (R xs t) [] = some (v1, R xs1 t, [])) (h2 : ∀ t, fe (R xs1 t) [] = some (v2, R xs2 t, [])) (t : Sl) :
    qLc (iR range1D (fCons (fC (.int 2)) fNil)) [10] (gN 10) fYes fe (R xs t) [] = some (.ow (.l [v1, v2]), R xs2 .un, []) := by
  have z0 : (0 : Nat) < sizeLine := by decide
  have z1 : (1 : Nat) < sizeLine := by decide
  simp [qLc, iR, rg2, lcL, hu, hs, fYes, h1, h2, z0, z1]
theorem body_ok {kd : Str} (KS : ∀ m : Nat, 1 ≤ m → m ≤ 5 → K5 kd m) {a b s4 s5 s6 s7 s8 s9 s10 : Sl} {xs : List D} {n : Nat} (h : Dc n [xs]) (hn : n ≤ 500000) :
    ∃ xs' t4 t5 t6 t7 t8 t9, bodyK [a, b, .ow (.l xs), .d (.str kd), s4, s5, s6, s7, s8, s9, s10] [] = some (.nx [a, b, .ow (.l xs'), .d (.str kd), t4, t5, t6, t7, t8, t9, .un] []) ∧ Dc (n + 300) [xs'] := by
  obtain ⟨r, γ1, e1, r0, r1, d1⟩ := roll h (by omega) (t := 5) (by omega) (by omega)
  obtain ⟨xs1, rfl⟩ := d1.one
  have hr : (1 : Int) + r = ((1 + r.toNat : Nat) : Int) := by omega
  generalize hm : 1 + r.toNat = m at hr
  have K := KS m (by omega) (by omega)
  obtain ⟨l, γ2, e2, ol, d2⟩ := K.drawL d1 (by omega)
  obtain ⟨xs2, rfl⟩ := d2.one
  obtain ⟨f, γ3, e3, of, d3⟩ := K.drawL d2 (by omega)
  obtain ⟨xs3, rfl⟩ := d3.one
  obtain ⟨x, xs4, ox, d4, e4⟩ := fe_ok K (a := a) (b := b) (s5 := s5) (s6 := .d (K.eL l)) (s7 := .d (K.eL f)) (s8 := s8) (s9 := s9) d3 (by omega)
  obtain ⟨y, xs5, oy, d5, e5⟩ := fe_ok K (a := a) (b := b) (s5 := s5) (s6 := .d (K.eL l)) (s7 := .d (K.eL f)) (s8 := s8) (s9 := s9) d4 (by omega)
  have m1 := K.moved ol ox oy []
  have m2 := K.moved of ox oy []
  have m3 := K.lawled ol ox oy []
  obtain ⟨s, rp⟩ := K.rep ol ox oy
  obtain ⟨bb, q1, q2⟩ := K.eq1 of ol ox oy
  obtain ⟨γ6, e6, d6⟩ := K.refused ol ox oy d5 (by omega)
  obtain ⟨xs6, rfl⟩ := d6.one
  refine ⟨xs6, .d (.int (m : Int)), .d (K.eL (K.led l x y)), .d (K.eL l), .d (K.eL f), .d (K.eV x), .d (K.eV y), ?_, d6.mono (by omega)⟩
  have c1 : (sSet 4 (qE (f2 addD (fC (.int 1)) (fQ (qCallO F__law_roll 2 (aE (fC (.int 5)) aNil)))))) [a, b, .ow (.l xs), .d (.str kd), s4, s5, s6, s7, s8, s9, s10] [] = some (.nx [a, b, .ow (.l xs1), .d (.str kd), .d (.int (m : Int)), s5, s6, s7, s8, s9, s10] []) := by
    simp [qCallO, e1, hr]
  have c2 : (sPar 6 7 (qCallO F__law_lead 2 (aE (fV 3) (aE (fV 4) aNil))) (qCallO F__law_lead 2 (aE (fV 3) (aE (fV 4) aNil)))) [a, b, .ow (.l xs1), .d (.str kd), .d (.int (m : Int)), s5, s6, s7, s8, s9, s10] [] = some (.nx [a, b, .ow (.l xs3), .d (.str kd), .d (.int (m : Int)), s5, .d (K.eL l), .d (K.eL f), s8, s9, s10] []) := by
    simp [qCallO, e2, e3]
  have c3 : (sAsg (fQ (qLc (iR range1D (fCons (fC (.int 2)) fNil)) [10] (gN 10) fYes feK)) (gT 2 (gsC (gN 8) (gsC (gN 9) gsN)))) [a, b, .ow (.l xs3), .d (.str kd), .d (.int (m : Int)), s5, .d (K.eL l), .d (K.eL f), s8, s9, s10] [] = some (.nx [a, b, .ow (.l xs5), .d (.str kd), .d (.int (m : Int)), s5, .d (K.eL l), .d (K.eL f), .d (K.eV x), .d (K.eV y), .un] []) := by
    have w := two (fe := feK) (R := fun xs t => [a, b, .ow (.l xs), .d (.str kd), .d (.int (m : Int)), s5, .d (K.eL l), .d (K.eL f), s8, s9, t]) (fun _ _ => rfl) (fun _ _ _ => rfl) e4 e5 s10
    simp [w, gT, gsC, gsN]
  have c4 : (sSet 5 (qCall F_lead_moved (aE (fV 3) (aE (fV 6) (aE (fV 8) (aE (fV 9) aNil)))))) [a, b, .ow (.l xs5), .d (.str kd), .d (.int (m : Int)), s5, .d (K.eL l), .d (K.eL f), .d (K.eV x), .d (K.eV y), .un] [] = some (.nx [a, b, .ow (.l xs5), .d (.str kd), .d (.int (m : Int)), .d (K.eL (K.led l x y)), .d (K.eL l), .d (K.eL f), .d (K.eV x), .d (K.eV y), .un] []) := by
    simp [m1]
  have c5 : (sFz 5 (sSeq (sIf (fBl (f2 neD (fS reprM (fCons (fV 5) fNil)) (fS reprM (fCons (fQ (qCall F__law_led (aE (fV 3) (aE (fV 6) (aE (fV 8) (aE (fV 9) aNil)))))) fNil)))) (sRet (qE (fC (.bool false)))) sNext)
  (sSeq (sIf (fBl (f2 neD (f2 eqD (fQ (qCall F_lead_moved (aE (fV 3) (aE (fV 7) (aE (fV 8) (aE (fV 9) aNil)))))) (fV 5)) (f2 eqD (fV 7) (fV 6)))) (sRet (qE (fC (.bool false)))) sNext)
  (sIf (fNotT (fTru (fQ (qCallO F__law_are_refused 2 (aE (fV 3) (aE (fV 6) (aE (fV 8) (aE (fV 9) aNil)))))))) (sRet (qE (fC (.bool false)))) sNext)))) [a, b, .ow (.l xs5), .d (.str kd), .d (.int (m : Int)), .d (K.eL (K.led l x y)), .d (K.eL l), .d (K.eL f), .d (K.eV x), .d (K.eV y), .un] [] = some (.nx [a, b, .ow (.l xs6), .d (.str kd), .d (.int (m : Int)), .d (K.eL (K.led l x y)), .d (K.eL l), .d (K.eL f), .d (K.eV x), .d (K.eV y), .un] []) := by
    simp [sFz, fzS, m2, m3, rp, q1, q2, qCallO, e6]
  have eb : bodyK = sSeq (sSet 4 (qE (f2 addD (fC (.int 1)) (fQ (qCallO F__law_roll 2 (aE (fC (.int 5)) aNil)))))) (sSeq (sPar 6 7 (qCallO F__law_lead 2 (aE (fV 3) (aE (fV 4) aNil))) (qCallO F__law_lead 2 (aE (fV 3) (aE (fV 4) aNil)))) (sSeq (sAsg (fQ (qLc (iR range1D (fCons (fC (.int 2)) fNil)) [10] (gN 10) fYes feK)) (gT 2 (gsC (gN 8) (gsC (gN 9) gsN)))) (sSeq (sSet 5 (qCall F_lead_moved (aE (fV 3) (aE (fV 6) (aE (fV 8) (aE (fV 9) aNil)))))) (sFz 5 (sSeq (sIf (fBl (f2 neD (fS reprM (fCons (fV 5) fNil)) (fS reprM (fCons (fQ (qCall F__law_led (aE (fV 3) (aE (fV 6) (aE (fV 8) (aE (fV 9) aNil)))))) fNil)))) (sRet (qE (fC (.bool false)))) sNext)
  (sSeq (sIf (fBl (f2 neD (f2 eqD (fQ (qCall F_lead_moved (aE (fV 3) (aE (fV 7) (aE (fV 8) (aE (fV 9) aNil)))))) (fV 5)) (f2 eqD (fV 7) (fV 6)))) (sRet (qE (fC (.bool false)))) sNext)
  (sIf (fNotT (fTru (fQ (qCallO F__law_are_refused 2 (aE (fV 3) (aE (fV 6) (aE (fV 8) (aE (fV 9) aNil)))))))) (sRet (qE (fC (.bool false)))) sNext))))))) := rfl
  rw [eb]
  simp only [e_sSeq, c1, c2, c3, c4, c5, Option.bind_some]
end KK

namespace KK
open PySem L2 DL

def P60 : Int := 10 ^ 60
theorem pw60 : powD (.int 10) (.int 60) = some (.int P60) := by
  simp only [powD]
  rw [if_pos (by decide)]
  rfl
theorem dice {ns : List Int} (hl : ns.length ≤ 63) {spot : Nat} (hs : spot ≤ 4) (γ : Bxs) : ∃ a b : Int, F__law_dice [.d (.list (ns.map .int)), .d (.int spot)] γ = some (.ow (.l [.int a, .int b, .int 0]), γ) ∧ Dc 0 [[.int a, .int b, .int 0]] := by
  obtain ⟨cell, hc⟩ : ∃ cell : Int, (fIf (fBl (f2 ltD (fV 1) (fS lenD (fCons (fV 0) fNil)))) (fS intD (fCons (f2 ixD (fV 0) (fV 1)) fNil)) (f2 addD (f2 mulD (fC (.int 89)) (fV 1)) (fC (.int 23)))) [.d (.list (ns.map .int)), .d (.int spot), .un, .un] γ = some (.int cell, [.d (.list (ns.map .int)), .d (.int spot), .un, .un], γ) := by
    by_cases h : spot < ns.length
    · refine ⟨ns[spot], ?_⟩
      have h' : (spot : Int) < (ns.length : Int) := by omega
      simp [h, lenD, ixD, atI, ixN]
    · have m1 : mulD (.int 89) (.int spot) = some (.int (89 * spot)) := mulD_ok (by decide) (sm (by omega) (by omega))
      refine ⟨89 * spot + 23, ?_⟩
      simp [h, lenD, m1]
  have p16 : powD (.int 10) (.int 16) = some (.int 10000000000000000) := by
    simp only [powD]
    rw [if_pos (by decide)]
    rfl
  have m60 : mulD (.int P60) (.int P60) = some (.int (P60 * P60)) := mulD_ok (sm (by unfold P60; omega) (by unfold P60; omega)) (sm (by unfold P60; omega) (by unfold P60; omega))
  have pp : P60 * P60 = 10 ^ 120 := by unfold P60; rfl
  have hp : (0 : Int) < P60 * P60 := by rw [pp]; decide
  generalize hA : (if cell < 0 then -cell else cell) = A
  have A0 : 0 ≤ A := by rw [← hA]; split <;> omega
  have ab : absD [.int cell] = some (.int A) := by simp only [absD, hA]
  generalize hM : (if A - 10000000000000000 > 0 then A - 10000000000000000 else 0) = M
  have mx : max2D [.int 0, .int (A - 10000000000000000)] = some (.int M) := by simp only [max2D, hM]
  generalize hX : A % 1152921504606846883 = x
  have x0 : 0 ≤ x := by rw [← hX]; exact Int.emod_nonneg _ (by decide)
  have x1 : x < 1152921504606846883 := by rw [← hX]; exact Int.emod_lt_of_pos _ (by decide)
  have q1 : modD (.int A) (.int 1152921504606846883) = some (.int x) := by rw [modD_ok (by decide), hX]
  have q2 : modD (.int M) (.int (P60 * P60)) = some (.int (M % (P60 * P60))) := modD_ok hp
  have m2 : mulD (.int x) (.int 59) = some (.int (x * 59)) := mulD_ok (sm (by omega) (by omega)) (by decide)
  have m3 : mulD (.int 1013) (.int spot) = some (.int (1013 * spot)) := mulD_ok (by decide) (sm (by omega) (by omega))
  have m4 : ∀ b : Bool, mulD (.int 37) (.int (if b then 1 else 0)) = some (.int (37 * (if b then 1 else 0))) := fun b => mulD_ok (by decide) (by cases b <;> decide)
  have z3 : (3 : Nat) ≤ sizeLine := by decide
  refine ⟨M % (P60 * P60), x * 59 + 1013 * spot + 37 * (if decide (cell < 0) then 1 else 0) + 11, ?_, _, _, _, rfl, Int.emod_nonneg _ (by omega), ?_, ?_, ?_, by decide, by decide⟩
  · simp only [F__law_dice, f__law_dice, e_fnOf, List.length_cons, List.length_nil, List.cons_append, List.nil_append, List.replicate_succ, List.replicate_zero, e_sSeq, e_sSet, e_qE, hc, Nat.zero_add, Nat.reduceAdd, Nat.reduceSub]
    have m4' := m4 (decide (cell < 0))
    simp [ab, p16, mx, pw60, m60, q2, q1, m2, m3, z3]
    simp at m4'
    simp [m4', z3]
  · have := Int.emod_lt_of_pos M hp
    rw [pp] at this ⊢
    exact this
  · split <;> omega
  · split <;> omega
end KK

namespace KK
open PySem L2 DL

def kW (m : Nat) : K5 "words" m where
  L := W × W
  V := W
  eL := eLd
  eV := eWd
  led := led
  okL := okL 1
  okV := okW 36
  moved hl hx hy γ := (led_w hl hx hy (by decide) γ).1
  lawled hl hx hy γ := (led_w hl hx hy (by decide) γ).2
  rep {l x y} hl hx hy := by
    obtain ⟨s, e⟩ := rep_w (hl.led hx hy) (by decide)
    exact ⟨s, e⟩
  eq1 {l k x y} hl hk hx hy := by
    refine ⟨decide (l = k), ?_, e_eqLd _ _⟩
    rw [e_eqLd]
    congr 2
    rw [decide_eq_decide]
    exact ⟨fun e => led_inj hl.1 hk.1 e, fun e => by rw [e]⟩
  drawL h hn := leaW h hn
  drawV h hn := valW h (by omega)
  drawG h hn := greW h (by omega)
  refused {l x y n γ} hl hx hy h hn := by
    refine ref_plain ⟨Or.inl rfl, fun γ => ?_, val_w hx (by decide), val_w hy (by decide)⟩ (by decide +kernel) h hn
    have n1 := hl.2.1.2
    have n2 := hl.2.2.2
    have e := lead_in_w (a := l.1) (b := l.2) (by omega) (by omega) γ
    rw [hl.2.1.all, hl.2.2.all, hl.dec] at e
    exact e
section
variable {kd : Str} {G : Type}
theorem GK.eqs (g : GK kd G) {a b : G} (ha : g.ok a) (hb : g.ok b) : eqD (g.enc a) (g.enc b) = some (.bool (@decide (a = b) (Classical.propDecidable _))) := by
  by_cases h : a = b
  · subst h
    rw [g.eqT ha]
    simp
  · rw [g.eqN ha hb h]
    simp [h]
noncomputable def GK.k5 (g : GK kd G) (m : Nat) (dL : ∀ {n γ}, Dc n γ → n ≤ 700000 → ∃ a γ', F__law_lead [.bx 0, .d (.str kd), .d (.int (m : Int))] γ = some (.d (g.enc a), γ') ∧ (g.ok a ∧ g.bd 1 a) ∧ Dc (n + 50) γ')
    (dV : ∀ {n γ}, Dc n γ → n ≤ 700000 → ∃ a γ', F__law_value [.bx 0, .d (.str kd), .d (.int (m : Int))] γ = some (.d (g.enc a), γ') ∧ (g.ok a ∧ g.bd 1 a) ∧ Dc (n + 50) γ')
    (dG : ∀ {n γ}, Dc n γ → n ≤ 700000 → ∃ a γ', F__law_great [.bx 0, .d (.str kd), .d (.int (m : Int))] γ = some (.d (g.enc a), γ') ∧ (g.ok a ∧ g.bd 1 a) ∧ Dc (n + 50) γ')
    (rf : ∀ {l x y n γ}, Rt kd (g.enc l) (g.enc x) (g.enc y) → g.ok l → g.ok x → g.ok y → Dc n γ → n ≤ 900000 → ∃ γ', F__law_are_refused [.bx 0, .d (.str kd), .d (g.enc l), .d (g.enc x), .d (g.enc y)] γ = some (.d (.bool true), γ') ∧ Dc (n + 2) γ') : K5 kd m where
  L := G
  V := G
  eL := g.enc
  eV := g.enc
  led := gled g.mul g.inv
  okL a := g.ok a ∧ g.bd 1 a
  okV a := g.ok a ∧ g.bd 1 a
  moved hl hx hy γ := (g.led hl.1 hx.1 hy.1 hl.2 hx.2 hy.2 (by decide) γ).1
  lawled hl hx hy γ := (g.led hl.1 hx.1 hy.1 hl.2 hx.2 hy.2 (by decide) γ).2.1
  rep hl hx hy := by
    obtain ⟨_, _, h1, h2⟩ := g.led hl.1 hx.1 hy.1 hl.2 hx.2 hy.2 (by decide) []
    rw [g.rm]
    exact g.rep h1 (g.bdw h2 (by decide))
  eq1 {l k x y} hl hk hx hy := by
    have o1 := (g.led hl.1 hx.1 hy.1 hl.2 hx.2 hy.2 (by decide) []).2.2.1
    have o2 := (g.led hk.1 hx.1 hy.1 hk.2 hx.2 hy.2 (by decide) []).2.2.1
    refine ⟨_, g.eqs o1 o2, ?_⟩
    rw [g.eqs hl.1 hk.1]
    congr 2
    by_cases h : l = k
    · subst h; simp
    · have : ¬ gled g.mul g.inv l x y = gled g.mul g.inv k x y := fun e => h (g.gp.led_inj hl.1 hk.1 hx.1 hy.1 e)
      simp [h, this]
  drawL h hn := dL h hn
  drawV h hn := dV h hn
  drawG h hn := dG h hn
  refused hl hx hy h hn := rf ⟨g.kk, fun γ => g.lead_in hl.1 (g.bdw hl.2 (by decide)) γ, fun γ => g.val hx.1 (g.bdw hx.2 (by decide)) γ, fun γ => g.val hy.1 (g.bdw hy.2 (by decide)) γ⟩ hl.1 hx.1 hy.1 h hn
end
noncomputable def kS (m : Nat) : K5 "sums" m := gSums.k5 m
  (fun h hn => by obtain ⟨a, γ', e, hb, d⟩ := leaS (size := m) h hn; exact ⟨a, γ', e, ⟨trivial, hb⟩, d⟩)
  (fun h hn => by obtain ⟨a, γ', e, hb, d⟩ := valS (size := m) h (by omega); exact ⟨a, γ', e, ⟨trivial, hb⟩, d.mono (by omega)⟩)
  (fun h hn => by obtain ⟨a, γ', e, hb, d⟩ := greS (size := m) h (by omega); exact ⟨a, γ', e, ⟨trivial, hb⟩, d.mono (by omega)⟩)
  (fun R _ _ _ h hn => ref_plain R (by decide +kernel) h hn)
noncomputable def kH (m : Nat) : K5 "shares" m := gShares.k5 m
  (fun h hn => by obtain ⟨a, γ', e, ha, hb, d⟩ := leaH (size := m) h hn; exact ⟨a, γ', e, ⟨ha, hb⟩, d⟩)
  (fun h hn => by obtain ⟨a, γ', e, ha, hb, d⟩ := valH (size := m) h (by omega); exact ⟨a, γ', e, ⟨ha, hb⟩, d.mono (by omega)⟩)
  (fun h hn => by obtain ⟨a, γ', e, ha, hb, d⟩ := greH (size := m) h (by omega); exact ⟨a, γ', e, ⟨ha, hb⟩, d.mono (by omega)⟩)
  (fun R _ _ _ h hn => ref_plain R (by decide +kernel) h hn)
noncomputable def kM (m : Nat) (h1 : 1 ≤ m) (h5 : m ≤ 5) : K5 "moves" m := (gMoves m h1 h5).k5 m
  (fun h hn => by obtain ⟨a, γ', e, ha, d⟩ := leaM h1 h5 h hn; exact ⟨a, γ', e, ⟨ha, trivial⟩, d⟩)
  (fun h hn => by obtain ⟨a, γ', e, ha, d⟩ := valM h1 h5 h (by omega); exact ⟨a, γ', e, ⟨ha, trivial⟩, d.mono (by omega)⟩)
  (fun h hn => by obtain ⟨a, γ', e, ha, d⟩ := greM h1 h5 h (by omega); exact ⟨a, γ', e, ⟨ha, trivial⟩, d.mono (by omega)⟩)
  (fun R hl hx hy h hn => ref_moves R hl.len hx.len hy.len h1 h5 h hn)

def restL : Fst := (sSeq (sSet 5 (qL (fCons (fQ (qCall F_lead_moved (aE (fC (.str "words")) (aE (fTup (fCons (fC (.str "ab")) (fCons (fC (.str "")) fNil))) (aE (fC (.str "c")) (aE (fC (.str "abd")) aNil)))))) (fCons (fQ (qCall F_lead_moved (aE (fC (.str "words")) (aE (fTup (fCons (fC (.str "a")) (fCons (fC (.str "b")) fNil))) (aE (fC (.str "c")) (aE (fC (.str "d")) aNil)))))) fNil))))
  (sSeq (sApp 5 (fQ (qCall F_lead_moved (aE (fC (.str "sums")) (aE (f2 mulD (f2 powD (fC (.int 10)) (fC (.int 60))) (f2 powD (fC (.int 10)) (fC (.int 10)))) (aE (fC (.int 1)) (aE (f1 negD (fC (.int 2))) aNil)))))))
  (sSeq (sApp 5 (fQ (qCall F_lead_moved (aE (fC (.str "words")) (aE (fTup (fCons (fC (.str "")) (fCons (fC (.str "ab")) fNil))) (aE (f2 mulD (fC (.str "ab")) (fC (.int 300))) (aE (fC (.str "")) aNil)))))))
  (sFz 5 (sRet (qE (f2 eqD (fV 5) (fLst (fCons (fTup (fCons (fC (.str "c")) (fCons (fC (.str "d")) fNil))) (fCons (fTup (fCons (fC (.str "ac")) (fCons (fC (.str "bd")) fNil))) (fCons (f2 subD (f2 mulD (f2 powD (fC (.int 10)) (fC (.int 60))) (f2 powD (fC (.int 10)) (fC (.int 10)))) (fC (.int 3))) (fCons (fTup (fCons (f2 mulD (fC (.str "ab")) (fC (.int 299))) (fCons (fC (.str "")) fNil))) fNil))))))))))))
def Q10 : Int := 10 ^ 10
def N70 : Int := 10 ^ 70
theorem pw10 : powD (.int 10) (.int 10) = some (.int Q10) := by
  simp only [powD]
  rw [if_pos (by decide)]
  rfl
theorem mul70 : mulD (.int P60) (.int Q10) = some (.int N70) := by
  rw [mulD_ok (sm (by unfold P60; omega) (by unfold P60; omega)) (sm (by unfold Q10; omega) (by unfold Q10; omega))]
  rfl
def AB (k : Nat) : W := (List.replicate k [97, 98]).flatten
theorem mulAB (k : Nat) (h : k ≤ 1000) : mulD (.str "ab") (.int k) = some (.str (S (AB k))) := by
  rw [ab_eq]
  exact mul_S (by show 2 * k ≤ _; omega) (by omega)
theorem okAB (k : Nat) : okW k (AB k) := by
  have h : okW 1 ([97, 98] : W) := ⟨by decide, by decide⟩
  have := h.rep k
  rwa [Nat.one_mul] at this
theorem t1 (γ : Bxs) : F_lead_moved [.d (.str "words"), .d (.tuple [.str "ab", .str ""]), .d (.str "c"), .d (.str "abd")] γ = some (.d (.tuple [.str "c", .str "d"]), γ) := by kernel_rfl
theorem t2 (γ : Bxs) : F_lead_moved [.d (.str "words"), .d (.tuple [.str "a", .str "b"]), .d (.str "c"), .d (.str "d")] γ = some (.d (.tuple [.str "ac", .str "bd"]), γ) := by kernel_rfl
theorem t3 (γ : Bxs) : F_lead_moved [.d (.str "sums"), .d (.int N70), .d (.int 1), .d (.int (-2))] γ = some (.d (.int (N70 - 3)), γ) := by
  have b : N70.natAbs ≤ 1 * 10 ^ 130 := by unfold N70; decide +kernel
  have := (gSums.led (l := N70) (x := (1 : Int)) (y := (-2 : Int)) trivial trivial trivial b (show gSums.bd 1 (1 : Int) by show (1 : Int).natAbs ≤ 1 * 10 ^ 130; decide +kernel) (show gSums.bd 1 (-2 : Int) by show (-2 : Int).natAbs ≤ 1 * 10 ^ 130; decide +kernel) (by decide) γ).1
  have e : gled gSums.mul gSums.inv N70 (1 : Int) (-2 : Int) = N70 - 3 := by
    show (-1 + N70) + -2 = N70 - 3
    omega
  rw [e] at this
  exact this
theorem t4 (γ : Bxs) : F_lead_moved [.d (.str "words"), .d (.tuple [.str "", .str "ab"]), .d (.str (S (AB 300))), .d (.str "")] γ = some (.d (.tuple [.str (S (AB 299)), .str ""]), γ) := by
  have ol : okL 1 (([], [97, 98]) : W × W) := ⟨red_iff.mpr (Or.inl rfl), ⟨by decide, by decide⟩, ⟨by decide, by decide⟩⟩
  have o60 : okW 60 (AB 300) := ⟨(okAB 300).1, by
    unfold AB
    rw [List.length_flatten, List.map_replicate, List.sum_replicate_nat]
    decide⟩
  have h := (led_w (l := ([], [97, 98])) (x := AB 300) (y := []) ol o60 (c := 0) ⟨by decide, by decide⟩ (by decide) γ).1
  have e : led ([], [97, 98]) (AB 300) [] = (AB 299, []) := by
    show cut ([] ++ AB 300) ([97, 98] ++ []) = _
    have : AB 300 = 97 :: 98 :: AB 299 := by
      unfold AB
      rw [show 300 = 299 + 1 by rfl, List.replicate_succ, List.flatten_cons]
      rfl
    rw [this]
    show cut (97 :: 98 :: AB 299) (97 :: 98 :: []) = _
    rw [cut_same, cut_same, cut_nil2]
  rw [e] at h
  simp only [eLd, eWd, ← emp, ← ab_eq] at h
  exact h
theorem restL_ok (a b c d e f g h i j k : Sl) : (restL [a, b, c, d, e, f, g, h, i, j, k] []).bind doneO = some (.d (.bool true), []) := by
  have z2 : (2 : Nat) ≤ sizeLine := by decide
  have z4 : (4 : Nat) ≤ sizeLine := by decide
  have l2 : (2 : Nat) < sizeLine := by decide
  have l3 : (3 : Nat) < sizeLine := by decide
  have m1 : mulD (.str "ab") (.int 300) = some (.str (S (AB 300))) := mulAB 300 (by decide)
  have m2 : mulD (.str "ab") (.int 299) = some (.str (S (AB 299))) := mulAB 299 (by decide)
  have eq : eqD (.list [.tuple [.str "c", .str "d"], .tuple [.str "ac", .str "bd"], .int (N70 - 3), .tuple [.str (S (AB 299)), .str ""]]) (.list [.tuple [.str "c", .str "d"], .tuple [.str "ac", .str "bd"], .int (N70 - 3), .tuple [.str (S (AB 299)), .str ""]]) = some (.bool true) := by
    unfold eqD
    rw [if_pos ⟨rfl, rfl, by decide⟩]
    simp [PyData.eqv, PyData.eqvAll]
  simp [restL, t1, t2, z2, sApp, ctO, putO, pw60, pw10, mul70, l2, t3, m1, t4, l3, sFz, fzS, m2, z4, eq]
theorem lenDL (xs : List D) : lenD [.list xs] = some (.int xs.length) := rfl
/-- all kinds, at one place -/
theorem kinds_ok {a b s3 s4 s5 s6 s7 s8 s9 s10 : Sl} {xs : List D} (h : Dc 0 [xs]) :
    ∃ t2 t3 t4 t5 t6 t7 t8 t9 t10, (sFor (iE (fTup (fCons (fC (.str "words")) (fCons (fC (.str "sums")) (fCons (fC (.str "shares")) (fCons (fC (.str "moves")) fNil)))))) (gN 3) bodyK) [a, b, .ow (.l xs), s3, s4, s5, s6, s7, s8, s9, s10] [] = some (.nx [a, b, t2, t3, t4, t5, t6, t7, t8, t9, t10] []) := by
  have z4 : (4 : Nat) ≤ sizeLine := by decide
  obtain ⟨x1, p4, p5, p6, p7, p8, p9, e1, d1⟩ := body_ok (kd := "words") (fun m _ _ => kW m) (a := a) (b := b) (s4 := s4) (s5 := s5) (s6 := s6) (s7 := s7) (s8 := s8) (s9 := s9) (s10 := s10) h (by omega)
  obtain ⟨x2, q4, q5, q6, q7, q8, q9, e2, d2⟩ := body_ok (kd := "sums") (fun m _ _ => kS m) (a := a) (b := b) (s4 := p4) (s5 := p5) (s6 := p6) (s7 := p7) (s8 := p8) (s9 := p9) (s10 := .un) d1 (by omega)
  obtain ⟨x3, r4, r5, r6, r7, r8, r9, e3, d3⟩ := body_ok (kd := "shares") (fun m _ _ => kH m) (a := a) (b := b) (s4 := q4) (s5 := q5) (s6 := q6) (s7 := q7) (s8 := q8) (s9 := q9) (s10 := .un) d2 (by omega)
  obtain ⟨x4, u4, u5, u6, u7, u8, u9, e4, d4⟩ := body_ok (kd := "moves") (fun m h1 h5 => kM m h1 h5) (a := a) (b := b) (s4 := r4) (s5 := r5) (s6 := r6) (s7 := r7) (s8 := r8) (s9 := r9) (s10 := .un) d3 (by omega)
  refine ⟨.ow (.l x4), .d (.str "moves"), u4, u5, u6, u7, u8, u9, .un, ?_⟩
  simp [sFor, iE, itemsD, z4, forL, e1, e2, e3, e4]
theorem good (ns : List Int) (hl : ns.length ≤ 63) : ∃ γ, F_law [.d (.list (ns.map PyData.int))] [] = some (.d (.bool true), γ) := by
  let body : Fst := (sSeq (sSet 2 (qCall F__law_dice (aE (fV 0) (aE (fV 1) aNil))))
  (sFor (iE (fTup (fCons (fC (.str "words")) (fCons (fC (.str "sums")) (fCons (fC (.str "shares")) (fCons (fC (.str "moves")) fNil)))))) (gN 3) bodyK))
  obtain ⟨m, hm, hm3⟩ : ∃ m : Nat, (iR range1D (fCons (fS max2D (fCons (fC (.int 1)) (fCons (fS min2D (fCons (fC (.int 5)) (fCons (fS lenD (fCons (fV 0) fNil)) fNil))) fNil))) fNil)) [.d (.list (ns.map .int)), .un, .un, .un, .un, .un, .un, .un, .un, .un, .un] [] = some ((List.range m).map iD, [.d (.list (ns.map .int)), .un, .un, .un, .un, .un, .un, .un, .un, .un, .un], []) ∧ m ≤ 5 := by
    have e1 : min2D [.int 5, .int (ns.length : Int)] = some (.int ((min 5 ns.length : Nat) : Int)) := min2 5 ns.length
    have e2 : max2D [.int 1, .int ((min 5 ns.length : Nat) : Int)] = some (.int ((max 1 (min 5 ns.length) : Nat) : Int)) := by
      simp only [max2D]
      congr 2
      split <;> omega
    refine ⟨max 1 (min 5 ns.length), ?_, by omega⟩
    have hr : range1D [.int ((max 1 (min 5 ns.length) : Nat) : Int)] = some ((List.range (max 1 (min 5 ns.length))).map iD) := rg_iD _ (by omega)
    simp only [iR, e_fCons, e_fS, e_fC, e_fNil, e_fV, List.getElem?_cons_zero, Option.bind_some, Option.map_some, lenDL, List.length_map, e1, e2, hr]
  obtain ⟨ρ', γ', e, hg, s1, s2, s3, s4, s5, s6, s7, s8, s9, s10, hr⟩ := forL_inv (i := 1) (fb := body)
    (fun k ρ γ => γ = [] ∧ ∃ s1 s2 s3 s4 s5 s6 s7 s8 s9 s10, ρ = [.d (.list (ns.map .int)), s1, s2, s3, s4, s5, s6, s7, s8, s9, s10]) ((List.range m).map iD) 0 [.d (.list (ns.map .int)), .un, .un, .un, .un, .un, .un, .un, .un, .un, .un] []
    (fun j d ρ γ hj ⟨eg, s1, s2, s3, s4, s5, s6, s7, s8, s9, s10, er⟩ => by
      subst eg er
      have hjm : j < m := by
        have := (List.getElem?_eq_some_iff.mp hj).1
        simpa using this
      have hd : d = iD j := by
        simp [hjm] at hj
        exact hj.symm
      subst hd
      obtain ⟨a, b, f0, d0⟩ := dice hl (spot := j) (by omega) []
      obtain ⟨t2, t3, t4, t5, t6, t7, t8, t9, t10, f1⟩ := kinds_ok (a := .d (.list (ns.map .int))) (b := .d (iD j)) (s3 := s3) (s4 := s4) (s5 := s5) (s6 := s6) (s7 := s7) (s8 := s8) (s9 := s9) (s10 := s10) d0
      refine ⟨[.d (.list (ns.map .int)), .d (iD j), t2, t3, t4, t5, t6, t7, t8, t9, t10], [], ?_, rfl, _, _, _, _, _, _, _, _, _, _, rfl⟩
      simp only [iD] at f1 ⊢
      simp only [body, e_sSeq, e_sSet, e_qCall, e_aE, e_fV, e_aNil, List.set_cons_succ, List.set_cons_zero, List.getElem?_cons_succ, List.getElem?_cons_zero, Option.bind_some, Option.map_some, f0, f1]) ⟨rfl, _, _, _, _, _, _, _, _, _, _, rfl⟩
  subst hg hr
  refine ⟨[], ?_⟩
  have el : F_law [.d (.list (ns.map PyData.int))] [] = ((sSeq (sFor (iR range1D (fCons (fS max2D (fCons (fC (.int 1)) (fCons (fS min2D (fCons (fC (.int 5)) (fCons (fS lenD (fCons (fV 0) fNil)) fNil))) fNil))) fNil)) (gN 1) body) restL) [.d (.list (ns.map PyData.int)), .un, .un, .un, .un, .un, .un, .un, .un, .un, .un] []).bind doneO := rfl
  rw [el]
  simp [sFor, hm, e, restL_ok]
end KK

open PySem PySem.W PyProof.Rows
set_option maxRecDepth 100000 in
set_option maxHeartbeats 0 in
theorem PySem.Challenge.cw_loggedalike_k25_whole_leads_moved_holds : PySem.Challenge.rw_loggedalike_k25_whole_leads_moved.Holds := by
  w_on; o_law; k_head; (case hw => w_witness2)
  k_fill
  refine DL.walk_kpT (l := PySem.Challenge.rw_loggedalike_k25_whole_leads_moved) (n := 63) (k := 11) (fn := KK.F_law) (x := "script") rfl (by decide) rfl ⟨rfl, by decide, by decide⟩ (fun w h Y => PySem.W.km_in_of Y) ?F KK.good
  case F =>
    intro w mg fa h Y KX G hmg
    refine' KK.all_mk KX G hmg ?a0 ?l0 ?c0 ?k0 ?a1 ?l1 ?c1 ?k1 ?a2 ?l2 ?c2 ?k2 ?a3 ?l3 ?c3 ?k3 ?a4 ?l4 ?c4 ?k4 ?a5 ?l5 ?c5 ?k5 ?a6 ?l6 ?c6 ?k6 ?a7 ?l7 ?c7 ?k7 ?a8 ?l8 ?c8 ?k8 ?a9 ?l9 ?c9 ?k9 ?a10 ?l10 ?c10 ?k10 ?a11 ?l11 ?c11 ?k11 ?a12 ?l12 ?c12 ?k12 ?a13 ?l13 ?c13 ?k13 ?a14 ?l14 ?c14 ?k14 ?a15 ?l15 ?c15 ?k15 ?a16 ?l16 ?c16 ?k16 ?a17 ?l17 ?c17 ?k17 ?a18 ?l18 ?c18 ?k18 ?a19 ?l19 ?c19 ?k19 ?a20 ?l20 ?c20 ?k20 ?a21 ?l21 ?c21 ?k21 ?a22 ?l22 ?c22 ?k22 ?a23 ?l23 ?c23 ?k23 ?a24 ?l24 ?c24 ?k24 ?a25 ?l25 ?c25 ?k25 ?a26 ?l26 ?c26 ?k26 ?a27 ?l27 ?c27 ?k27 ?a28 ?l28 ?c28 ?k28 ?a29 ?l29 ?c29 ?k29 ?e0 ?q0 ?r0 ?h0 ?n0 ?t0 ?dj ?xa_InvalidOperation ?xk_InvalidOperation ?xb_InvalidOperation ?xt_InvalidOperation ?xe_InvalidOperation ?z__law_is_refused_InvalidOperation_InvalidOperation ?zz_abs ?zz_all ?zz_bool ?zz_int ?zz_isinstance ?zz_len ?zz_list ?zz_max ?zz_min ?zz_range ?zz_repr ?zz_sorted ?zz_str ?zz_tuple ?cn_KINDS ?cl_KINDS ?cn_LETTERS ?cn_MOST_MOVED ?cn_MOVES ?cn_PAIR_SIZE ?cn_SHARES ?cn_SUMS ?cn_WORDS
    (case a0 => k_is)
    (case l0 => k_is)
    (case c0 => k_is)
    (case k0 => k_is)
    (case a1 => k_is)
    (case l1 => k_is)
    (case c1 => k_is)
    (case k1 => k_is)
    (case a2 => k_is)
    (case l2 => k_is)
    (case c2 => k_is)
    (case k2 => k_is)
    (case a3 => k_is)
    (case l3 => k_is)
    (case c3 => k_is)
    (case k3 => k_is)
    (case a4 => k_is)
    (case l4 => k_is)
    (case c4 => k_is)
    (case k4 => k_is)
    (case a5 => k_is)
    (case l5 => k_is)
    (case c5 => k_is)
    (case k5 => k_is)
    (case a6 => k_is)
    (case l6 => k_is)
    (case c6 => k_is)
    (case k6 => k_is)
    (case a7 => k_is)
    (case l7 => k_is)
    (case c7 => k_is)
    (case k7 => k_is)
    (case a8 => k_is)
    (case l8 => k_is)
    (case c8 => k_is)
    (case k8 => k_is)
    (case a9 => k_is)
    (case l9 => k_is)
    (case c9 => k_is)
    (case k9 => k_is)
    (case a10 => k_is)
    (case l10 => k_is)
    (case c10 => k_is)
    (case k10 => k_is)
    (case a11 => k_is)
    (case l11 => k_is)
    (case c11 => k_is)
    (case k11 => k_is)
    (case a12 => k_is)
    (case l12 => k_is)
    (case c12 => k_is)
    (case k12 => k_is)
    (case a13 => k_is)
    (case l13 => k_is)
    (case c13 => k_is)
    (case k13 => k_is)
    (case a14 => k_is)
    (case l14 => k_is)
    (case c14 => k_is)
    (case k14 => k_is)
    (case a15 => k_is)
    (case l15 => k_is)
    (case c15 => k_is)
    (case k15 => k_is)
    (case a16 => k_is)
    (case l16 => k_is)
    (case c16 => k_is)
    (case k16 => k_is)
    (case a17 => k_is)
    (case l17 => k_is)
    (case c17 => k_is)
    (case k17 => k_is)
    (case a18 => k_is)
    (case l18 => k_is)
    (case c18 => k_is)
    (case k18 => k_is)
    (case a19 => k_is)
    (case l19 => k_is)
    (case c19 => k_is)
    (case k19 => k_is)
    (case a20 => k_is)
    (case l20 => k_is)
    (case c20 => k_is)
    (case k20 => k_is)
    (case a21 => k_is)
    (case l21 => k_is)
    (case c21 => k_is)
    (case k21 => k_is)
    (case a22 => k_is)
    (case l22 => k_is)
    (case c22 => k_is)
    (case k22 => k_is)
    (case a23 => k_is)
    (case l23 => k_is)
    (case c23 => k_is)
    (case k23 => k_is)
    (case a24 => k_is)
    (case l24 => k_is)
    (case c24 => k_is)
    (case k24 => k_is)
    (case a25 => k_is)
    (case l25 => k_is)
    (case c25 => k_is)
    (case k25 => k_is)
    (case a26 => k_is)
    (case l26 => k_is)
    (case c26 => k_is)
    (case k26 => k_is)
    (case a27 => k_is)
    (case l27 => k_is)
    (case c27 => k_is)
    (case k27 => k_is)
    (case a28 => k_is)
    (case l28 => k_is)
    (case c28 => k_is)
    (case k28 => k_is)
    (case a29 => k_is)
    (case l29 => k_is)
    (case c29 => k_is)
    (case k29 => k_is)
    (case e0 => rfl)
    (case q0 => k_is)
    (case r0 => rfl)
    (case h0 => first | k_is | kernel_rfl)
    (case n0 => first | k_is | kernel_rfl)
    (case t0 => exact PySem.W.km_tabs_of Y _ (by first | k_mem | decide | simp))
    (case dj => decide)
    (case xa_InvalidOperation => k_is)
    (case xk_InvalidOperation => k_is)
    (case xb_InvalidOperation => k_is)
    (case xt_InvalidOperation => k_is)
    (case xe_InvalidOperation => first | k_exc | k_is | kernel_rfl)
    (case z__law_is_refused_InvalidOperation_InvalidOperation => first | k_is | kernel_rfl)
    (case zz_abs => k_is)
    (case zz_all => k_is)
    (case zz_bool => k_is)
    (case zz_int => k_is)
    (case zz_isinstance => k_is)
    (case zz_len => k_is)
    (case zz_list => k_is)
    (case zz_max => k_is)
    (case zz_min => k_is)
    (case zz_range => k_is)
    (case zz_repr => k_is)
    (case zz_sorted => k_is)
    (case zz_str => k_is)
    (case zz_tuple => k_is)
    (case cn_KINDS => k_is)
    (case cl_KINDS => k_is)
    (case cn_LETTERS => k_is)
    (case cn_MOST_MOVED => k_is)
    (case cn_MOVES => k_is)
    (case cn_PAIR_SIZE => k_is)
    (case cn_SHARES => k_is)
    (case cn_SUMS => k_is)
    (case cn_WORDS => k_is)
#print axioms PySem.Challenge.cw_loggedalike_k25_whole_leads_moved_holds

