import PyProof.Rows.All
import Wide.All
import OpenK.AllK
import Wide.FinOn
import HandS.ForMost
import HandS.Deep
import HandS.Conv
import HandS.Wide
import HandS.Flow
import HandS.TupAny
import KE.KeyNested
import KE.KDictCopyH
import HandS.IsInst
import HandS.More
import KE.SortKeyHeap
import HandS.SortKw
import HandS.TupLen
import HandS.DictEq
import HandS.TupLe
import KE.GoesEnum
import KE.GoesMore
import KE.SortData
import PyProof.WalkInts
import HandS.EndBits
import PySem.Challenge.RW_leasttold_k37_room_steps_and_wire_steps
set_option Elab.async false
set_option linter.all false
set_option maxRecDepth 100000
set_option maxHeartbeats 4000000
/-! M1: data D, what stands for it in a heap (Rp), worlds and steps, own trees, slots. -/
namespace My
open PySem L2

/-- plain data -/
inductive D where
  | non
  | bl (b : Bool)
  | int (i : Int)
  | str (s : Str)
  | lst (xs : List D)
  | tup (xs : List D)
  | dct (ks vs : List D)
  | obj (c : Nat) (ns : List Str) (vs : List D)
  | nst (ks : List D)

structure Tab where
  K : PySem.W.Frag
  cls : Nat → Addr
  w : PySem.World

def dKey : Key → D
  | .inl i => .int i
  | .inr s => .str s

/-- a dict that may be read at a: its keys and its values -/
def DicAt (H : Hp) (a : Addr) (ks : List D) (vs : List V) : Prop :=
  ∃ kvs : List (List Key × V), H a = some (.dT kvs) ∧ ks = kvs.map (fun p => D.tup (p.1.map dKey)) ∧ vs = kvs.map (·.2)

mutual
/-- a key of nested tuples of ints -/
def nkOf : D → Option NestedKey
  | .int i => some (.num i)
  | .tup ds => (nkAll ds).map .tup
  | _ => none
def nkAll : List D → Option (List NestedKey)
  | [] => some []
  | d :: ds => (nkOf d).bind fun k => (nkAll ds).map (k :: ·)
end
/-- a dict whose keys are such, all its values True: the one object -/
def entN (w : PySem.World) (p : NestedKey × Addr) : DictEntry := entryOfKey (nestedKind default w) (p.1, p.2, .bool true)
def NdO (w : PySem.World) (a : Addr) (kas : List (NestedKey × Addr)) : HO := .ext fun h => ∃ o es ep, h.get? a = some o ∧ o.ExactDict ∧ o.data = .dict es ep ∧ es.toList = kas.map (entN w)
structure NdAt (w : PySem.World) (H : Hp) (a : Addr) (kas : List (NestedKey × Addr)) : Prop where
  at_ : H a = some (NdO w a kas)
  lo : (a == sysModules) = false
  len : kas.length ≤ sizeLine
  nd : (kas.map (·.1)).Nodup
  dep : ∀ p ∈ kas, p.1.depth ≤ 8
mutual
def Rp (T : Tab) (G : Hp) : D → V → Prop
  | .non, v => v = .non
  | .bl b, v => v = .bl b
  | .int i, v => v = .int i
  | .str s, v => v = .str s
  | .lst ds, v => ∃ a vs, v = .ref a ∧ SqL T.K G a vs ∧ RpL T G ds vs
  | .tup ds, v => ∃ a vs, v = .ref a ∧ SqT T.K G a vs ∧ RpL T G ds vs
  | .dct ks ds, v => ∃ a vs, v = .ref a ∧ DicAt G a ks vs ∧ RpL T G ds vs
  | .obj c ns ds, v => ∃ a dx vs, v = .ref a ∧ G a = some (.ins (T.cls c) dx (ns.zip vs)) ∧ ns.length = vs.length ∧ RpL T G ds vs
  | .nst ks, v => ∃ a kas, v = .ref a ∧ NdAt T.w G a kas ∧ nkAll ks = some (kas.map (·.1)) ∧ RpL T G ks (kas.map fun p => V.ref p.2)
def RpL (T : Tab) (G : Hp) : List D → List V → Prop
  | [], vs => vs = []
  | d :: ds, vs => ∃ v r, vs = v :: r ∧ Rp T G d v ∧ RpL T G ds r
end

def Sub (G H : Hp) : Prop := ∀ a o, G a = some o → H a = some o
theorem Sub.refl (G : Hp) : Sub G G := fun _ _ h => h
theorem Sub.trans {A B C : Hp} (h : Sub A B) (k : Sub B C) : Sub A C := fun a o e => k a o (h a o e)
theorem Sub.new {G H : Hp} {p : Addr} {o : HO} (h : Sub G H) (n : G p = none) : Sub G (upd H p o) := fun a u e => by
  rw [upd_ne (ne_of_none e n)]
  exact h a u e
theorem Sub.rd {G H : Hp} (h : Sub G H) {a : Addr} {u : HO} (r : Rd G a u) : Rd H a u := by
  rcases r with r | ⟨o, r⟩
  · exact .inl (h _ _ r)
  · exact .inr ⟨o, h _ _ r⟩
theorem Sub.sqL {K : PySem.W.Frag} {G H : Hp} (h : Sub G H) {a : Addr} {xs : List V} (r : SqL K G a xs) : SqL K H a xs := r.elim (fun q => .inl (h.rd q)) .inr
theorem Sub.sqT {K : PySem.W.Frag} {G H : Hp} (h : Sub G H) {a : Addr} {xs : List V} (r : SqT K G a xs) : SqT K H a xs := r.elim (fun q => .inl (h.rd q)) .inr
theorem Sub.dic {G H : Hp} (h : Sub G H) {a : Addr} {ks : List D} {vs : List V} (r : DicAt G a ks vs) : DicAt H a ks vs :=
  let ⟨k, r, e⟩ := r
  ⟨k, h _ _ r, e⟩

section
variable {T : Tab} {G H : Hp}
mutual
theorem Rp.mono (h : Sub G H) : ∀ (d : D) (v : V), Rp T G d v → Rp T H d v
  | .non, _, r => r
  | .bl _, _, r => r
  | .int _, _, r => r
  | .str _, _, r => r
  | .lst ds, _, ⟨a, vs, e, q, r⟩ => ⟨a, vs, e, h.sqL q, RpL.mono h ds vs r⟩
  | .tup ds, _, ⟨a, vs, e, q, r⟩ => ⟨a, vs, e, h.sqT q, RpL.mono h ds vs r⟩
  | .dct ks ds, _, ⟨a, vs, e, q, r⟩ => ⟨a, vs, e, h.dic q, RpL.mono h ds vs r⟩
  | .obj c ns ds, _, ⟨a, dx, vs, e, q, l, r⟩ => ⟨a, dx, vs, e, h _ _ q, l, RpL.mono h ds vs r⟩
  | .nst ks, _, ⟨a, kas, e, q, l, r⟩ => ⟨a, kas, e, ⟨h _ _ q.at_, q.lo, q.len, q.nd, q.dep⟩, l, RpL.mono h ks _ r⟩
theorem RpL.mono (h : Sub G H) : ∀ (ds : List D) (vs : List V), RpL T G ds vs → RpL T H ds vs
  | [], _, r => r
  | d :: ds, _, ⟨v, r, e, q, k⟩ => ⟨v, r, e, Rp.mono h d v q, RpL.mono h ds r k⟩
end
theorem RpL.length : ∀ {ds : List D} {vs : List V}, RpL T G ds vs → ds.length = vs.length
  | [], vs, r => by
    have e : vs = [] := r
    rw [e]
    rfl
  | d :: ds, vs, ⟨v, r, e, q, k⟩ => by
    rw [e, List.length_cons, List.length_cons, RpL.length k]
theorem RpL.get : ∀ {ds : List D} {vs : List V} {i : Nat} {d : D}, RpL T G ds vs → ds[i]? = some d → ∃ v, vs[i]? = some v ∧ Rp T G d v
  | [], _, _, _, _, e => by simp at e
  | d :: ds, vs, 0, d', ⟨v, r, e, q, k⟩, h => by
    have e' : d = d' := by simpa using h
    subst e'
    exact ⟨v, by rw [e]; rfl, q⟩
  | d :: ds, vs, i + 1, d', ⟨v, r, e, q, k⟩, h => by
    obtain ⟨u, h1, h2⟩ := RpL.get (i := i) k (by simpa using h)
    exact ⟨u, by rw [e]; simpa using h1, h2⟩
theorem RpL.getV : ∀ {ds : List D} {vs : List V} {i : Nat} {v : V}, RpL T G ds vs → vs[i]? = some v → ∃ d, ds[i]? = some d ∧ Rp T G d v
  | [], vs, i, v, r, h => by
    have e : vs = [] := r
    rw [e] at h
    simp at h
  | d :: ds, vs, 0, v', ⟨v, r, e, q, k⟩, h => by
    rw [e] at h
    have e' : v = v' := by simpa using h
    subst e'
    exact ⟨d, rfl, q⟩
  | d :: ds, vs, i + 1, v', ⟨v, r, e, q, k⟩, h => by
    rw [e] at h
    obtain ⟨u, h1, h2⟩ := RpL.getV (i := i) k (by simpa using h)
    exact ⟨u, by simpa using h1, h2⟩
theorem RpL.append : ∀ {ds es : List D} {vs us : List V}, RpL T G ds vs → RpL T G es us → RpL T G (ds ++ es) (vs ++ us)
  | [], _, vs, _, r, s => by
    have e : vs = [] := r
    rw [e]
    exact s
  | d :: ds, es, vs, us, ⟨v, r, e, q, k⟩, s => ⟨v, r ++ us, by rw [e]; rfl, q, RpL.append k s⟩
theorem RpL.one {d : D} {v : V} (r : Rp T G d v) : RpL T G [d] [v] := ⟨v, [], rfl, r, rfl⟩
theorem RpL.cons {d : D} {v : V} {ds : List D} {vs : List V} (r : Rp T G d v) (s : RpL T G ds vs) : RpL T G (d :: ds) (v :: vs) := ⟨v, vs, rfl, r, s⟩
theorem RpL.take : ∀ {ds : List D} {vs : List V} (n : Nat), RpL T G ds vs → RpL T G (ds.take n) (vs.take n)
  | _, _, 0, _ => rfl
  | [], vs, n + 1, r => by
    have e : vs = [] := r
    rw [e]
    rfl
  | d :: ds, vs, n + 1, ⟨v, r, e, q, k⟩ => by
    rw [e]
    exact ⟨v, r.take n, rfl, q, RpL.take n k⟩
theorem RpL.drop : ∀ {ds : List D} {vs : List V} (n : Nat), RpL T G ds vs → RpL T G (ds.drop n) (vs.drop n)
  | _, _, 0, r => r
  | [], vs, n + 1, r => by
    have e : vs = [] := r
    rw [e]
    rfl
  | d :: ds, vs, n + 1, ⟨v, r, e, q, k⟩ => by
    rw [e]
    exact RpL.drop n k
theorem RpL.set : ∀ {ds : List D} {vs : List V} (i : Nat) {d : D} {v : V}, RpL T G ds vs → Rp T G d v → RpL T G (ds.set i d) (vs.set i v)
  | [], vs, _, _, _, r, _ => by
    have e : vs = [] := r
    rw [e]
    rfl
  | d' :: ds, vs, 0, d, v, ⟨v', r, e, q, k⟩, s => by
    rw [e]
    exact ⟨v, r, rfl, s, k⟩
  | d' :: ds, vs, i + 1, d, v, ⟨v', r, e, q, k⟩, s => by
    rw [e]
    exact ⟨v', r.set i v, rfl, q, RpL.set i k s⟩
theorem RpL.eraseIdx : ∀ {ds : List D} {vs : List V} (i : Nat), RpL T G ds vs → RpL T G (ds.eraseIdx i) (vs.eraseIdx i)
  | [], vs, _, r => by
    have e : vs = [] := r
    rw [e]
    rfl
  | d' :: ds, vs, 0, ⟨v', r, e, q, k⟩ => by
    rw [e]
    exact k
  | d' :: ds, vs, i + 1, ⟨v', r, e, q, k⟩ => by
    rw [e]
    exact ⟨v', r.eraseIdx i, rfl, q, RpL.eraseIdx i k⟩
end

/-! ### worlds -/
structure World where
  G : Hp
  B : Hp
  H : Hp
  gb : Sub G B
  bh : Sub B H
  /-- the object that the def's first argument is, where it may change -/
  pin : V
/-- known for good; known while the def runs; tracked; the own tree that was handed in -/
inductive Md where | p | b | h | q
  deriving DecidableEq
def World.at (W : World) : Md → Hp
  | .p => W.G
  | .b => W.B
  | .h => W.H
  | .q => W.G
theorem World.atH (W : World) : ∀ m : Md, Sub (W.at m) W.H
  | .p => W.gb.trans W.bh
  | .b => W.bh
  | .h => Sub.refl _
  | .q => W.gb.trans W.bh

/-- something stands there that may be owned: no tuple -/
def Mt : Option HO → Prop
  | some (.tup _) => False
  | some _ => True
  | none => False
theorem Mt.ne {o : Option HO} (h : Mt o) : o ≠ none := fun z => by
  rw [z] at h
  exact h
/-- from W to W': what is tracked outside of F stands as it was; what is known (G, B) is known still, nothing that stood becomes known -/
structure Step (F : List Addr) (W W' : World) : Prop where
  g : Sub W.G W'.G
  b : Sub W.B W'.B
  h : ∀ a o, W.H a = some o → a ∉ F → W'.H a = some o
  dom : ∀ a, W.H a ≠ none → W'.H a ≠ none
  nb : ∀ a, Mt (W.H a) → a ∉ F → W.B a = none → W'.B a = none
  ng : ∀ a, Mt (W.H a) → a ∉ F → W.G a = none → W'.G a = none
  pin : W'.pin = W.pin
def NewF (F F' : List Addr) (W : World) : Prop := ∀ a ∈ F', a ∈ F ∨ W.H a = none
theorem NewF.refl (F : List Addr) (W : World) : NewF F F W := fun _ h => .inl h
theorem NewF.out {F F' : List Addr} {W : World} (n : NewF F F' W) {a : Addr} (hf : a ∉ F) (h : W.H a ≠ none) : a ∉ F' := fun hm => (n a hm).elim hf h
theorem Step.refl (F : List Addr) (W : World) : Step F W W := ⟨Sub.refl _, Sub.refl _, fun _ _ h _ => h, fun _ h => h, fun _ _ _ h => h, fun _ _ _ h => h, rfl⟩
theorem Step.back {F : List Addr} {W W' : World} (s : Step F W W') {a : Addr} (h : W'.H a = none) : W.H a = none := by
  cases e : W.H a with
  | none => rfl
  | some o => exact absurd h (s.dom a (by rw [e]; simp))
theorem Step.mt {F : List Addr} {W W' : World} (s : Step F W W') {a : Addr} (h : Mt (W.H a)) (hf : a ∉ F) : Mt (W'.H a) := by
  cases e : W.H a with
  | none => rw [e] at h; exact h.elim
  | some o =>
    rw [s.h a o e hf, ← e]
    exact h
theorem Step.trans {F F1 : List Addr} {W W1 W2 : World} (s : Step F W W1) (n : NewF F F1 W) (t : Step F1 W1 W2) : Step F W W2 where
  g := s.g.trans t.g
  b := s.b.trans t.b
  h := fun a o e hf => t.h a o (s.h a o e hf) (n.out hf (by rw [e]; simp))
  dom := fun a h => t.dom a (s.dom a h)
  nb := fun a h hf e => t.nb a (s.mt h hf) (n.out hf h.ne) (s.nb a h hf e)
  ng := fun a h hf e => t.ng a (s.mt h hf) (n.out hf h.ne) (s.ng a h hf e)
  pin := t.pin.trans s.pin
theorem NewF.trans {F F1 F2 : List Addr} {W W1 : World} (n : NewF F F1 W) (s : Step F W W1) (m : NewF F1 F2 W1) : NewF F F2 W := fun a h => by
  rcases m a h with z | z
  · exact n a z
  · exact .inr (s.back z)
theorem Step.mono {F F' : List Addr} {W W' : World} (s : Step F W W') (h : ∀ a ∈ F, a ∈ F') : Step F' W W' := ⟨s.g, s.b, fun a o e hf => s.h a o e fun z => hf (h a z), s.dom, fun a d hf => s.nb a d fun z => hf (h a z), fun a d hf => s.ng a d fun z => hf (h a z), s.pin⟩
theorem Step.subH {W W' : World} (s : Step [] W W') : Sub W.H W'.H := fun a o e => s.h a o e (by simp)
theorem Step.at {W W' : World} (s : Step [] W W') : ∀ m : Md, Sub (W.at m) (W'.at m)
  | .p => s.g
  | .b => s.b
  | .h => s.subH
  | .q => s.g
theorem Step.pure {W W1 W2 : World} (s : Step [] W W1) (t : Step [] W1 W2) : Step [] W W2 := s.trans (fun _ h => absurd h (by simp)) t
theorem Step.pureL {F : List Addr} {W W1 W2 : World} (s : Step [] W W1) (t : Step F W1 W2) : Step F W W2 :=
  (s.mono (by simp)).trans (NewF.refl _ _) t
theorem Step.pureR {F : List Addr} {W W1 W2 : World} (s : Step F W W1) (t : Step [] W1 W2) : Step F W W2 :=
  s.trans (fun _ h => absurd h (by simp)) t

/-! ### own trees -/
inductive OD where
  | fz (d : D)
  | lst (xs : List OD)
  | dct (ks : List D) (vs : List D)
  | obj (c : Nat) (ns : List Str) (vs : List D)
  | nst (ks : List D)
mutual
def OD.toD : OD → D
  | .fz d => d
  | .lst xs => .lst (OD.toDs xs)
  | .dct ks vs => .dct ks vs
  | .obj c ns vs => .obj c ns vs
  | .nst ks => .nst ks
def OD.toDs : List OD → List D
  | [] => []
  | o :: os => o.toD :: OD.toDs os
end
mutual
def RpO (T : Tab) (m : Md) (W : World) : OD → V → List Addr → Prop
  | .fz d, v, F => F = [] ∧ Rp T (W.at m) d v
  | .lst os, v, F => ∃ a vs F', v = .ref a ∧ F = a :: F' ∧ W.H a = some (.lst vs) ∧ W.B a = none ∧ RpOL T m W os vs F'
  | .dct ks ds, v, F => ∃ a vs, v = .ref a ∧ F = [a] ∧ W.B a = none ∧ (∃ kvs : List (List Key × V), W.H a = some (.dT kvs) ∧ ks = kvs.map (fun p => D.tup (p.1.map dKey)) ∧ vs = kvs.map (·.2)) ∧ RpL T (W.at m) ds vs
  | .obj c ns ds, v, F => ∃ a dx vs, v = .ref a ∧ F = [a] ∧ W.B a = none ∧ W.H a = some (.ins (T.cls c) dx (ns.zip vs)) ∧ ns.length = vs.length ∧ RpL T (W.at m) ds vs
  | .nst ks, v, F => ∃ a kas, v = .ref a ∧ F = [a] ∧ W.B a = none ∧ NdAt T.w W.H a kas ∧ nkAll ks = some (kas.map (·.1)) ∧ RpL T (W.at m) ks (kas.map fun p => V.ref p.2)
def RpOL (T : Tab) (m : Md) (W : World) : List OD → List V → List Addr → Prop
  | [], vs, F => vs = [] ∧ F = []
  | o :: os, vs, F => ∃ v r F1 F2, vs = v :: r ∧ F = F1 ++ F2 ∧ RpO T m W o v F1 ∧ RpOL T m W os r F2
end

section
variable {T : Tab} {W W' : World} {m : Md}
mutual
/-- an own tree whose objects stand as they were -/
theorem RpO.keep (h : Sub (W.at m) (W'.at m)) : ∀ (o : OD) (v : V) (F : List Addr), (∀ a ∈ F, ∀ u, W.H a = some u → W'.H a = some u) → (∀ a ∈ F, W.B a = none → W'.B a = none) → RpO T m W o v F → RpO T m W' o v F
  | .fz d, v, F, _, _, ⟨e, r⟩ => ⟨e, Rp.mono h d v r⟩
  | .lst os, v, F, k, n, ⟨a, vs, F', e, ef, ha, hb, r⟩ => by
    subst ef
    exact ⟨a, vs, F', e, rfl, k a (by simp) _ ha, n a (by simp) hb, RpOL.keep h os vs F' (fun c hc => k c (by simp [hc])) (fun c hc => n c (by simp [hc])) r⟩
  | .dct ks ds, v, F, k, n, ⟨a, vs, e, ef, hb, ⟨kvs, ha, e1, e2⟩, r⟩ => by
    subst ef
    exact ⟨a, vs, e, rfl, n a (by simp) hb, ⟨kvs, k a (by simp) _ ha, e1, e2⟩, RpL.mono h ds vs r⟩
  | .obj c ns ds, v, F, k, n, ⟨a, dx, vs, e, ef, hb, ha, l, r⟩ => by
    subst ef
    exact ⟨a, dx, vs, e, rfl, n a (by simp) hb, k a (by simp) _ ha, l, RpL.mono h ds vs r⟩
  | .nst ks, v, F, k, n, ⟨a, kas, e, ef, hb, ha, l, r⟩ => by
    subst ef
    exact ⟨a, kas, e, rfl, n a (by simp) hb, ⟨k a (by simp) _ ha.at_, ha.lo, ha.len, ha.nd, ha.dep⟩, l, RpL.mono h ks _ r⟩
theorem RpOL.keep (h : Sub (W.at m) (W'.at m)) : ∀ (os : List OD) (vs : List V) (F : List Addr), (∀ a ∈ F, ∀ u, W.H a = some u → W'.H a = some u) → (∀ a ∈ F, W.B a = none → W'.B a = none) → RpOL T m W os vs F → RpOL T m W' os vs F
  | [], _, _, _, _, r => r
  | o :: os, vs, F, k, n, ⟨v, r, F1, F2, e, ef, h1, h2⟩ => by
    subst ef
    exact ⟨v, r, F1, F2, e, rfl, RpO.keep h o v F1 (fun c hc => k c (by simp [hc])) (fun c hc => n c (by simp [hc])) h1, RpOL.keep h os r F2 (fun c hc => k c (by simp [hc])) (fun c hc => n c (by simp [hc])) h2⟩
end
mutual
/-- the objects of an own tree are there, and not known -/
theorem RpO.there : ∀ (o : OD) (v : V) (F : List Addr), RpO T m W o v F → ∀ a ∈ F, Mt (W.H a) ∧ W.B a = none
  | .fz d, v, F, ⟨e, r⟩, a, ha => by rw [e] at ha; simp at ha
  | .lst os, v, F, ⟨c, vs, F', e, ef, hc, hb, r⟩, a, ha => by
    subst ef
    rcases List.mem_cons.mp ha with z | z
    · subst z
      exact ⟨by rw [hc]; trivial, hb⟩
    · exact RpOL.there os vs F' r a z
  | .dct ks ds, v, F, ⟨c, vs, e, ef, hb, ⟨kvs, hc, _⟩, r⟩, a, ha => by
    subst ef
    have z : a = c := by simpa using ha
    subst z
    exact ⟨by rw [hc]; trivial, hb⟩
  | .obj c0 ns ds, v, F, ⟨c, dx, vs, e, ef, hb, hc, l, r⟩, a, ha => by
    subst ef
    have z : a = c := by simpa using ha
    subst z
    exact ⟨by rw [hc]; trivial, hb⟩
  | .nst ks, v, F, ⟨c, kas, e, ef, hb, hc, l, r⟩, a, ha => by
    subst ef
    have z : a = c := by simpa using ha
    subst z
    exact ⟨by rw [hc.at_]; trivial, hb⟩
theorem RpOL.there : ∀ (os : List OD) (vs : List V) (F : List Addr), RpOL T m W os vs F → ∀ a ∈ F, Mt (W.H a) ∧ W.B a = none
  | [], _, F, ⟨_, e⟩, a, ha => by rw [e] at ha; simp at ha
  | o :: os, vs, F, ⟨v, r, F1, F2, e, ef, h1, h2⟩, a, ha => by
    subst ef
    rcases List.mem_append.mp ha with z | z
    · exact RpO.there o v F1 h1 a z
    · exact RpOL.there os r F2 h2 a z
end
end
end My

set_option Elab.async false
set_option linter.all false
set_option maxRecDepth 100000
set_option maxHeartbeats 4000000
/-! M2: an own tree read, made known; the slots. -/
namespace My
open PySem L2

section
variable {T : Tab} {W W' : World} {m : Md}
mutual
/-- an own tree, read as it stands -/
theorem RpO.read : ∀ (o : OD) (v : V) (F : List Addr), RpO T m W o v F → Rp T W.H o.toD v
  | .fz d, v, F, ⟨_, r⟩ => Rp.mono (W.atH m) d v r
  | .lst os, v, F, ⟨a, vs, F', e, _, ha, _, r⟩ => ⟨a, vs, e, .inl (.inl ha), RpOL.read os vs F' r⟩
  | .dct ks ds, v, F, ⟨a, vs, e, _, _, ⟨kvs, ha, e1, e2⟩, r⟩ => ⟨a, vs, e, ⟨kvs, ha, e1, e2⟩, RpL.mono (W.atH m) ds vs r⟩
  | .obj c ns ds, v, F, ⟨a, dx, vs, e, _, _, ha, l, r⟩ => ⟨a, dx, vs, e, ha, l, RpL.mono (W.atH m) ds vs r⟩
  | .nst ks, v, F, ⟨a, kas, e, _, _, ha, l, r⟩ => ⟨a, kas, e, ha, l, RpL.mono (W.atH m) ks _ r⟩
theorem RpOL.read : ∀ (os : List OD) (vs : List V) (F : List Addr), RpOL T m W os vs F → RpL T W.H (OD.toDs os) vs
  | [], _, _, ⟨e, _⟩ => e
  | o :: os, vs, F, ⟨v, r, F1, F2, e, _, h1, h2⟩ => ⟨v, r, e, RpO.read o v F1 h1, RpOL.read os r F2 h2⟩
end
end

/-- the objects of F become known -/
def addK (G H : Hp) (F : List Addr) : Hp := fun a => if a ∈ F then H a else G a
theorem addK_in {G H : Hp} {F : List Addr} {a : Addr} (h : a ∈ F) : addK G H F a = H a := if_pos h
theorem addK_out {G H : Hp} {F : List Addr} {a : Addr} (h : a ∉ F) : addK G H F a = G a := if_neg h
theorem addK_sub {G H : Hp} {F : List Addr} (h : Sub G H) : Sub (addK G H F) H := fun a o e => by
  by_cases z : a ∈ F
  · rw [addK_in z] at e; exact e
  · rw [addK_out z] at e; exact h a o e
theorem addK_up {G H : Hp} {F : List Addr} (h : Sub G H) : Sub G (addK G H F) := fun a o e => by
  by_cases z : a ∈ F
  · rw [addK_in z]; exact h a o e
  · rw [addK_out z]; exact e
def World.know (W : World) (m : Md) (F : List Addr) : World where
  G := match m with
    | .p => addK W.G W.H F
    | .q => addK W.G W.H F
    | _ => W.G
  B := addK W.B W.H F
  H := W.H
  gb := by
    cases m with
    | p =>
      intro a o e
      by_cases z : a ∈ F
      · have e' : addK W.G W.H F a = some o := e
        rw [addK_in z] at e' ⊢
        exact e'
      · have e' : addK W.G W.H F a = some o := e
        rw [addK_out z] at e' ⊢
        exact W.gb a o e'
    | b => exact W.gb.trans (addK_up W.bh)
    | h => exact W.gb.trans (addK_up W.bh)
    | q =>
      intro a o e
      by_cases z : a ∈ F
      · have e' : addK W.G W.H F a = some o := e
        rw [addK_in z] at e' ⊢
        exact e'
      · have e' : addK W.G W.H F a = some o := e
        rw [addK_out z] at e' ⊢
        exact W.gb a o e'
  bh := addK_sub W.bh
  pin := W.pin
theorem World.know_H (W : World) (m : Md) (F : List Addr) : (W.know m F).H = W.H := rfl
theorem World.know_up (W : World) (m : Md) (F : List Addr) : ∀ k : Md, Sub (W.at k) ((W.know m F).at k)
  | .p => by
    cases m with
    | p => exact addK_up (W.gb.trans W.bh)
    | q => exact addK_up (W.gb.trans W.bh)
    | b => exact Sub.refl _
    | h => exact Sub.refl _
  | .q => by
    cases m with
    | p => exact addK_up (W.gb.trans W.bh)
    | q => exact addK_up (W.gb.trans W.bh)
    | b => exact Sub.refl _
    | h => exact Sub.refl _
  | .b => addK_up W.bh
  | .h => Sub.refl _
theorem World.know_in (W : World) {m : Md} {F : List Addr} {a : Addr} (h : a ∈ F) : (W.know m F).at m a = W.H a := by
  cases m with
  | p => exact addK_in h
  | q => exact addK_in h
  | b => exact addK_in h
  | h => rfl

section
variable {T : Tab} {W W' : World} {m : Md}
mutual
/-- an own tree made known -/
theorem RpO.freeze {E : List Addr} : ∀ (o : OD) (v : V) (F : List Addr), (∀ a ∈ F, a ∈ E) → RpO T m W o v F → Rp T ((W.know m E).at m) o.toD v
  | .fz d, v, F, _, ⟨_, r⟩ => Rp.mono (W.know_up m E m) d v r
  | .lst os, v, F, hE, ⟨a, vs, F', e, ef, ha, _, r⟩ => by
    subst ef
    refine ⟨a, vs, e, .inl (.inl ?_), RpOL.freeze os vs F' (fun c hc => hE c (by simp [hc])) r⟩
    rw [W.know_in (hE a (by simp))]
    exact ha
  | .dct ks ds, v, F, hE, ⟨a, vs, e, ef, _, ⟨kvs, ha, e1, e2⟩, r⟩ => by
    subst ef
    refine ⟨a, vs, e, ⟨kvs, ?_, e1, e2⟩, RpL.mono (W.know_up m E m) ds vs r⟩
    rw [W.know_in (hE a (by simp))]
    exact ha
  | .obj c ns ds, v, F, hE, ⟨a, dx, vs, e, ef, _, ha, l, r⟩ => by
    subst ef
    refine ⟨a, dx, vs, e, ?_, l, RpL.mono (W.know_up m E m) ds vs r⟩
    rw [W.know_in (hE a (by simp))]
    exact ha
  | .nst ks, v, F, hE, ⟨a, kas, e, ef, _, ha, l, r⟩ => by
    subst ef
    refine ⟨a, kas, e, ⟨?_, ha.lo, ha.len, ha.nd, ha.dep⟩, l, RpL.mono (W.know_up m E m) ks _ r⟩
    rw [W.know_in (hE a (by simp))]
    exact ha.at_
theorem RpOL.freeze {E : List Addr} : ∀ (os : List OD) (vs : List V) (F : List Addr), (∀ a ∈ F, a ∈ E) → RpOL T m W os vs F → RpL T ((W.know m E).at m) (OD.toDs os) vs
  | [], _, _, _, ⟨e, _⟩ => e
  | o :: os, vs, F, hE, ⟨v, r, F1, F2, e, ef, h1, h2⟩ => by
    subst ef
    exact ⟨v, r, e, RpO.freeze o v F1 (fun c hc => hE c (by simp [hc])) h1, RpOL.freeze os r F2 (fun c hc => hE c (by simp [hc])) h2⟩
end
end
/-- what is new, or own, may become known within a step -/
theorem Step.know {F : List Addr} {W W' : World} (s : Step F W W') (m : Md) {E : List Addr} (h : ∀ a ∈ E, ¬ Mt (W.H a) ∨ a ∈ F) : Step F W (W'.know m E) where
  g := s.g.trans (W'.know_up m E .p)
  b := s.b.trans (W'.know_up m E .b)
  h := s.h
  dom := s.dom
  nb := fun a d hf e => by
    have z : a ∉ E := fun q => (h a q).elim (fun z => z d) hf
    show addK W'.B W'.H E a = none
    rw [addK_out z]
    exact s.nb a d hf e
  ng := fun a d hf e => by
    have z : a ∉ E := fun q => (h a q).elim (fun z => z d) hf
    have k : W'.G a = none := s.ng a d hf e
    cases m with
    | p =>
      show addK W'.G W'.H E a = none
      rw [addK_out z]
      exact k
    | q =>
      show addK W'.G W'.H E a = none
      rw [addK_out z]
      exact k
    | b => exact k
    | h => exact k
  pin := s.pin

/-! ### slots -/
inductive SV where
  | un
  | fz (d : D)
  | own (o : OD)
def RpS (T : Tab) (m : Md) (W : World) : SV → Option V → List Addr → Prop
  | .un, _, F => F = [] ∧ m ≠ .q
  | .fz d, x, F => F = [] ∧ m ≠ .q ∧ ∃ v, x = some v ∧ Rp T (W.at m) d v
  | .own o, x, F => ∃ v, x = some v ∧ RpO T m W o v F ∧ (m = .q → v = W.pin)
def St (T : Tab) (W : World) : List Md → List (Option V) → List SV → List Addr → Prop
  | [], σ, s, F => σ = [] ∧ s = [] ∧ F = []
  | m :: me, σ, s, F => ∃ x σ' sv s' F1 F2, σ = x :: σ' ∧ s = sv :: s' ∧ F = F1 ++ F2 ∧ m ≠ .h ∧ RpS T m W sv x F1 ∧ St T W me σ' s' F2
section
variable {T : Tab} {W W' : World}
theorem Step.at2 {F : List Addr} (s : Step F W W') {m : Md} (h : m ≠ .h) : Sub (W.at m) (W'.at m) := by
  cases m with
  | p => exact s.g
  | b => exact s.b
  | h => exact absurd rfl h
  | q => exact s.g
/-- what a slot's value leans on stands -/
theorem RpS.keep {m : Md} (h : Sub (W.at m) (W'.at m)) (hp : W'.pin = W.pin) : ∀ {sv : SV} {x : Option V} {F : List Addr}, (∀ a ∈ F, ∀ u, W.H a = some u → W'.H a = some u) → (∀ a ∈ F, W.B a = none → W'.B a = none) → RpS T m W sv x F → RpS T m W' sv x F
  | .un, _, _, _, _, e => e
  | .fz d, _, _, _, _, ⟨e, hq, v, ev, r⟩ => ⟨e, hq, v, ev, Rp.mono h d v r⟩
  | .own o, _, F, k, n, ⟨v, e, r, hv⟩ => ⟨v, e, RpO.keep h o v F k n r, fun z => (hv z).trans hp.symm⟩
theorem RpS.there {m : Md} : ∀ {sv : SV} {x : Option V} {F : List Addr}, RpS T m W sv x F → ∀ a ∈ F, Mt (W.H a) ∧ W.B a = none
  | .un, _, F, e, a, ha => by
    have e' : F = [] := e.1
    rw [e'] at ha
    simp at ha
  | .fz d, _, F, ⟨e, _⟩, a, ha => by rw [e] at ha; simp at ha
  | .own o, _, F, ⟨v, _, r, _⟩, a, ha => RpO.there o v F r a ha
theorem St.there : ∀ {me : List Md} {σ : List (Option V)} {s : List SV} {F : List Addr}, St T W me σ s F → ∀ a ∈ F, Mt (W.H a) ∧ W.B a = none
  | [], _, _, F, ⟨_, _, e⟩, a, ha => by rw [e] at ha; simp at ha
  | m :: me, σ, s, F, ⟨x, σ', sv, s', F1, F2, _, _, e, _, h1, h2⟩, a, ha => by
    subst e
    rcases List.mem_append.mp ha with z | z
    · exact h1.there a z
    · exact h2.there a z
theorem St.keep (hp : Sub W.G W'.G) (hb : Sub W.B W'.B) (hpin : W'.pin = W.pin) : ∀ {me : List Md} {σ : List (Option V)} {s : List SV} {F : List Addr}, (∀ a ∈ F, ∀ u, W.H a = some u → W'.H a = some u) → (∀ a ∈ F, W.B a = none → W'.B a = none) → St T W me σ s F → St T W' me σ s F
  | [], _, _, _, _, _, h => h
  | m :: me, σ, s, F, k, n, ⟨x, σ', sv, s', F1, F2, e1, e2, e, hm, h1, h2⟩ => by
    subst e
    have hs : Sub (W.at m) (W'.at m) := by
      cases m with
      | p => exact hp
      | b => exact hb
      | h => exact absurd rfl hm
      | q => exact hp
    exact ⟨x, σ', sv, s', F1, F2, e1, e2, rfl, hm, h1.keep hs hpin (fun a ha => k a (by simp [ha])) (fun a ha => n a (by simp [ha])), h2.keep hp hb hpin (fun a ha => k a (by simp [ha])) (fun a ha => n a (by simp [ha]))⟩
/-- one slot in view -/
theorem St.focus : ∀ {me : List Md} {σ : List (Option V)} {s : List SV} {F : List Addr} {i : Nat} {sv : SV}, St T W me σ s F → s[i]? = some sv →
    ∃ m x F1 A C, me[i]? = some m ∧ m ≠ .h ∧ σ[i]? = some x ∧ F = A ++ (F1 ++ C) ∧ RpS T m W sv x F1 ∧
      ∀ (W' : World) (x' : Option V) (sv' : SV) (F1' : List Addr), Sub W.G W'.G → Sub W.B W'.B → W'.pin = W.pin → (∀ a ∈ A ++ C, ∀ u, W.H a = some u → W'.H a = some u) → (∀ a ∈ A ++ C, W.B a = none → W'.B a = none) →
        RpS T m W' sv' x' F1' → St T W' me (σ.set i x') (s.set i sv') (A ++ (F1' ++ C))
  | [], σ, s, F, i, sv, ⟨e1, e2, _⟩, h => by
    rw [e2] at h
    simp at h
  | m :: me, σ, s, F, 0, sv, ⟨x, σ', sv0, s', F1, F2, e1, e2, e, hm, h1, h2⟩, h => by
    subst e1 e2 e
    have ev : sv0 = sv := by simpa using h
    subst ev
    refine ⟨m, x, F1, [], F2, rfl, hm, rfl, rfl, h1, fun W' x' sv' F1' sg sb sp k n r => ?_⟩
    exact ⟨x', σ', sv', s', F1', F2, rfl, rfl, rfl, hm, r, h2.keep sg sb sp (fun a ha => k a (by simpa using ha)) (fun a ha => n a (by simpa using ha))⟩
  | m :: me, σ, s, F, i + 1, sv, ⟨x, σ', sv0, s', F1, F2, e1, e2, e, hm, h1, h2⟩, h => by
    subst e1 e2 e
    obtain ⟨m2, x2, F3, A, C, g1, g2, g3, g4, g5, g6⟩ := h2.focus (i := i) (sv := sv) (by simpa using h)
    subst g4
    refine ⟨m2, x2, F3, F1 ++ A, C, by simpa using g1, g2, by simpa using g3, by simp, g5, fun W' x' sv' F1' sg sb sp k n r => ?_⟩
    have hs : Sub (W.at m) (W'.at m) := by
      cases m with
      | p => exact sg
      | b => exact sb
      | h => exact absurd rfl hm
      | q => exact sg
    refine ⟨x, σ'.set i x', sv0, s'.set i sv', F1, A ++ (F1' ++ C), rfl, rfl, by simp, hm, h1.keep hs sp (fun a ha => k a (by simp [ha])) (fun a ha => n a (by simp [ha])), ?_⟩
    exact g6 W' x' sv' F1' sg sb sp (fun a ha => k a (by rcases List.mem_append.mp ha with z | z <;> simp [z])) (fun a ha => n a (by rcases List.mem_append.mp ha with z | z <;> simp [z])) r
theorem St.len : ∀ {me : List Md} {σ : List (Option V)} {s : List SV} {F : List Addr}, St T W me σ s F → σ.length = me.length ∧ s.length = me.length
  | [], _, _, _, ⟨e1, e2, _⟩ => by subst e1 e2; exact ⟨rfl, rfl⟩
  | m :: me, _, _, _, ⟨x, σ', sv, s', F1, F2, e1, e2, _, _, _, h⟩ => by
    subst e1 e2
    obtain ⟨g1, g2⟩ := h.len
    exact ⟨by simp [g1], by simp [g2]⟩
/-- a slot may be forgotten -/
theorem St.fz {me : List Md} {σ : List (Option V)} {s : List SV} {F : List Addr} {i : Nat} {d : D} (h : St T W me σ s F) (e : s[i]? = some (.fz d)) : ∃ m v, me[i]? = some m ∧ σ[i]? = some (some v) ∧ Rp T (W.at m) d v := by
  obtain ⟨m, x, F1, A, C, g1, _, g3, _, ⟨_, _, v, ev, r⟩, _⟩ := h.focus e
  exact ⟨m, v, g1, by rw [g3, ev], r⟩
end
end My

set_option Elab.async false
set_option linter.all false
set_option maxRecDepth 100000
set_option maxHeartbeats 4000000
/-! M3: the judgements for expressions that change nothing; their rules. -/
namespace My
open PySem L2

section
variable {T : Tab} {me : List Md} {W W' : World} {σ : List (Option V)} {s : List SV} {F : List Addr}
/-- behind a step that changes nothing the slots hold the same -/
theorem St.step (h : St T W me σ s F) (t : Step [] W W') : St T W' me σ s F :=
  h.keep t.g t.b t.pin (fun a _ u e => t.h a u e (by simp)) fun a ha e => t.nb a (h.there a ha).1 (by simp) e
/-- a slot gets a known value; what it owned is dropped -/
theorem St.put (h : St T W me σ s F) {i : Nat} {m : Md} {d : D} {v : V} (hm : me[i]? = some m) (hq : m ≠ .q) (r : Rp T (W.at m) d v) : ∃ F', St T W me (σ.set i (some v)) (s.set i (.fz d)) F' ∧ (∀ a ∈ F', a ∈ F) ∧ (F.Nodup → F'.Nodup) := by
  have hi : i < s.length := by
    rw [h.len.2]
    exact (List.getElem?_eq_some_iff.mp hm).1
  obtain ⟨m2, x, F1, A, C, g1, g2, g3, g4, g5, g6⟩ := h.focus (List.getElem?_eq_getElem hi)
  have em : m = m2 := Option.some.inj (hm.symm.trans g1)
  subst em
  subst g4
  have k := g6 W (some v) (.fz d) [] (Sub.refl _) (Sub.refl _) rfl (fun _ _ _ e => e) (fun _ _ e => e) ⟨rfl, hq, v, rfl, r⟩
  refine ⟨_, k, fun a ha => ?_, fun nd => ?_⟩
  · rcases List.mem_append.mp ha with z | z
    · simp [z]
    · have z' : a ∈ C := by simpa using z
      simp [z']
  · have e : A ++ ([] ++ C) = A ++ C := by simp
    rw [e]
    exact nd.sublist (List.Sublist.append_left (List.sublist_append_right F1 C) A)
/-- a slot is forgotten -/
theorem St.wipe (h : St T W me σ s F) (i : Nat) (hq : me[i]? ≠ some .q) : ∃ F', St T W me (σ.set i none) (s.set i .un) F' ∧ (∀ a ∈ F', a ∈ F) ∧ (F.Nodup → F'.Nodup) := by
  by_cases hi : i < s.length
  · obtain ⟨m2, x, F1, A, C, g1, g2, g3, g4, g5, g6⟩ := h.focus (List.getElem?_eq_getElem hi)
    subst g4
    have k := g6 W none .un [] (Sub.refl _) (Sub.refl _) rfl (fun _ _ _ e => e) (fun _ _ e => e) ⟨rfl, fun z => hq (by rw [g1, z])⟩
    refine ⟨_, k, fun a ha => ?_, fun nd => ?_⟩
    · rcases List.mem_append.mp ha with z | z
      · simp [z]
      · have z' : a ∈ C := by simpa using z
        simp [z']
    · have e : A ++ ([] ++ C) = A ++ C := by simp
      rw [e]
      exact nd.sublist (List.Sublist.append_left (List.sublist_append_right F1 C) A)
  · have h1 := h.len
    rw [List.set_eq_of_length_le (by omega), List.set_eq_of_length_le (by omega)]
    exact ⟨F, h, fun _ z => z, id⟩
end

/-! ### readings -/
def SP (T : Tab) (me : List Md) (te : TE) (m : Md) (f : List SV → Option D) : Prop :=
  ∀ (W : World) (σ : List (Option V)) (s : List SV) (F : List Addr), St T W me σ s F → ∀ d, f s = some d → ∀ Q : VK, (∀ v W', Step [] W W' → Rp T (W'.at m) d v → Q v W'.H) → te σ W.H Q
/-- a new own tree -/
def SO (T : Tab) (me : List Md) (te : TE) (m : Md) (f : List SV → Option OD) : Prop :=
  ∀ (W : World) (σ : List (Option V)) (s : List SV) (F : List Addr), St T W me σ s F → ∀ o, f s = some o → ∀ Q : VK, (∀ v W' Fr, Step [] W W' → RpO T m W' o v Fr → (∀ a ∈ Fr, W.H a = none) → Fr.Nodup → Q v W'.H) → te σ W.H Q
def SB (T : Tab) (me : List Md) (tt : TT) (f : List SV → Option Bool) : Prop :=
  ∀ (W : World) (σ : List (Option V)) (s : List SV) (F : List Addr), St T W me σ s F → ∀ b, f s = some b → ∀ Q : Bool → Hp → Prop, (∀ W', Step [] W W' → Q b W'.H) → tt σ W.H Q
def SA (T : Tab) (me : List Md) (ta : TA) (m : Md) (f : List SV → Option (List D)) : Prop :=
  ∀ (W : World) (σ : List (Option V)) (s : List SV) (F : List Addr), St T W me σ s F → ∀ ds, f s = some ds → ∀ Q : List V → Hp → Prop, (∀ vs W', Step [] W W' → RpL T (W'.at m) ds vs → Q vs W'.H) → ta σ W.H Q

section
variable {ι : Type}
structure FP (X : ι → Cx) (T : Tab) (me : List Md) (e : Expr) (m : Md) (f : List SV → Option D) : Prop where
  ex : ∃ te, (∀ j, PE (X j) e te) ∧ SP T me te m f
structure FO (X : ι → Cx) (T : Tab) (me : List Md) (e : Expr) (m : Md) (f : List SV → Option OD) : Prop where
  ex : ∃ te, (∀ j, PE (X j) e te) ∧ SO T me te m f
structure FT (X : ι → Cx) (T : Tab) (me : List Md) (e : Expr) (f : List SV → Option Bool) : Prop where
  ex : ∃ tt, (∀ j, PT (X j) e tt) ∧ SB T me tt f
structure FW (X : ι → Cx) (T : Tab) (me : List Md) (e : Expr) (f : List SV → Option Bool) : Prop where
  ex : ∃ tt, (∀ j, PW (X j) e tt) ∧ SB T me tt f
structure FA (X : ι → Cx) (T : Tab) (me : List Md) (es : List Expr) (m : Md) (f : List SV → Option (List D)) : Prop where
  ex : ∃ ta, (∀ j, PA (X j) es ta) ∧ SA T me ta m f
end

def Md.le : Md → Md → Bool
  | .p, _ => true
  | .b, .p => false
  | .b, .q => false
  | .b, _ => true
  | .h, .h => true
  | .h, _ => false
  | .q, .h => true
  | .q, _ => true
theorem World.le (W : World) : ∀ {m k : Md}, m.le k = true → Sub (W.at m) (W.at k)
  | .p, .p, _ => Sub.refl _
  | .p, .b, _ => W.gb
  | .p, .h, _ => W.gb.trans W.bh
  | .p, .q, _ => Sub.refl _
  | .q, .p, _ => Sub.refl _
  | .q, .b, _ => W.gb
  | .q, .h, _ => W.gb.trans W.bh
  | .q, .q, _ => Sub.refl _
  | .b, .b, _ => Sub.refl _
  | .b, .h, _ => W.bh
  | .h, .h, _ => Sub.refl _
  | .b, .p, h => by cases h
  | .b, .q, h => by cases h
  | .h, .q, h => by cases h
  | .h, .p, h => by cases h
  | .h, .b, h => by cases h

/-! ### operations on data, by values -/
def OpD (T : Tab) (m1 m2 m : Md) (r : R2) (g : D → D → Option D) : Prop := ∀ (W : World) (x y : V) (dx dy d : D), Rp T (W.at m1) dx x → Rp T (W.at m2) dy y → g dx dy = some d →
  ∀ Q : VK, (∀ v W', Step [] W W' → Rp T (W'.at m) d v → Q v W'.H) → r x y W.H Q
def UnD (T : Tab) (m1 m : Md) (r : V → Hp → VK → Prop) (g : D → Option D) : Prop := ∀ (W : World) (x : V) (dx d : D), Rp T (W.at m1) dx x → g dx = some d →
  ∀ Q : VK, (∀ v W', Step [] W W' → Rp T (W'.at m) d v → Q v W'.H) → r x W.H Q
def CallD (T : Tab) (m1 m : Md) (r : List V → Hp → VK → Prop) (g : List D → Option D) : Prop := ∀ (W : World) (xs : List V) (dxs : List D) (d : D), RpL T (W.at m1) dxs xs → g dxs = some d →
  ∀ Q : VK, (∀ v W', Step [] W W' → Rp T (W'.at m) d v → Q v W'.H) → r xs W.H Q
def CallO (T : Tab) (m1 m : Md) (r : List V → Hp → VK → Prop) (g : List D → Option OD) : Prop := ∀ (W : World) (xs : List V) (dxs : List D) (o : OD), RpL T (W.at m1) dxs xs → g dxs = some o →
  ∀ Q : VK, (∀ v W' Fr, Step [] W W' → RpO T m W' o v Fr → (∀ a ∈ Fr, W.H a = none) → Fr.Nodup → Q v W'.H) → r xs W.H Q

/-! ### denotations -/
def dVar (i : Nat) (s : List SV) : Option D := match s[i]? with
  | some (.fz d) => some d
  | _ => none
def dOwn (i : Nat) (s : List SV) : Option D := match s[i]? with
  | some (.own o) => some o.toD
  | _ => none
def dC (d : D) (_ : List SV) : Option D := some d
def dOp (g : D → D → Option D) (fa fb : List SV → Option D) (s : List SV) : Option D := (fa s).bind fun a => (fb s).bind fun b => g a b
def dUn (g : D → Option D) (fa : List SV → Option D) (s : List SV) : Option D := (fa s).bind g
def dTest (f : List SV → Option D) (s : List SV) : Option Bool := (f s).bind fun d => match d with
  | .bl b => some b
  | _ => none
def dAndB (f g : List SV → Option Bool) (s : List SV) : Option Bool := (f s).bind fun b => if b then g s else some false
def dOrB (f g : List SV → Option Bool) (s : List SV) : Option Bool := (f s).bind fun b => if b then some true else g s
def dNotB (f : List SV → Option Bool) (s : List SV) : Option Bool := (f s).map (!·)
def dBool (f : List SV → Option Bool) (s : List SV) : Option D := (f s).map D.bl
def dIf (c : List SV → Option Bool) (f g : List SV → Option D) (s : List SV) : Option D := (c s).bind fun b => if b then f s else g s
def dNil (_ : List SV) : Option (List D) := some []
def dCons (f : List SV → Option D) (g : List SV → Option (List D)) (s : List SV) : Option (List D) := (f s).bind fun d => (g s).map fun ds => d :: ds
def dCallB (g : List D → Option D) (fa : List SV → Option (List D)) (s : List SV) : Option D := (fa s).bind g
def dCallO (g : List D → Option OD) (fa : List SV → Option (List D)) (s : List SV) : Option OD := (fa s).bind g

section
variable {ι : Type} {X : ι → Cx} {T : Tab} {me : List Md} {e a b c : Expr} {m m1 m2 : Md} {f fa fb fc : List SV → Option D} {pos : Pos}
theorem bind_some {α β : Type} {x : Option α} {g : α → Option β} {y : β} (h : x.bind g = some y) : ∃ z, x = some z ∧ g z = some y := by
  cases x with
  | none => cases h
  | some z => exact ⟨z, rfl, h⟩
theorem map_some {α β : Type} {x : Option α} {g : α → β} {y : β} (h : x.map g = some y) : ∃ z, x = some z ∧ g z = y := by
  cases x with
  | none => cases h
  | some z => exact ⟨z, rfl, Option.some.inj h⟩
theorem fp_up (k : Md) (h : FP X T me e m f) (l : m.le k = true) : FP X T me e k f := by
  obtain ⟨te, h1, h2⟩ := h.ex
  exact ⟨te, h1, fun W σ s F st d hd Q q => h2 W σ s F st d hd Q fun v W' t r => q v W' t (Rp.mono (W'.le l) d v r)⟩
theorem fp_var (i : Nat) {x : Str} (hN : ∀ j, (X j).N[i]? = some x := by intro _; rfl) (hv : ∀ j, Vis (X j).env.scope x := by intro _; first | exact Or.inl rfl | exact Or.inr (Or.inl rfl) | exact Or.inr (Or.inr rfl)) (hm : me[i]? = some m := by rfl)
    (hd : (x == ("__debug__" : Str)) = false := by decide) (hcd : (x == ("__classdict__" : Str)) = false := by decide) : FP X T me (.Name x pos) m (dVar i) := by
  refine ⟨tVar i, fun j => pe_var (hN j) (hv j) hd hcd, fun W σ s F st d h Q q => ?_⟩
  unfold dVar at h
  split at h
  · rename_i d' e
    cases h
    obtain ⟨m', v, g1, g2, r⟩ := st.fz e
    have em : m = m' := Option.some.inj (hm.symm.trans g1)
    subst em
    exact ⟨v, g2, q v W (Step.refl _ _) r⟩
  · cases h
theorem fp_own (i : Nat) {x : Str} (hN : ∀ j, (X j).N[i]? = some x := by intro _; rfl) (hv : ∀ j, Vis (X j).env.scope x := by intro _; first | exact Or.inl rfl | exact Or.inr (Or.inl rfl) | exact Or.inr (Or.inr rfl))
    (hd : (x == ("__debug__" : Str)) = false := by decide) (hcd : (x == ("__classdict__" : Str)) = false := by decide) : FP X T me (.Name x pos) .h (dOwn i) := by
  refine ⟨tVar i, fun j => pe_var (hN j) (hv j) hd hcd, fun W σ s F st d h Q q => ?_⟩
  unfold dOwn at h
  split at h
  · rename_i o e
    cases h
    obtain ⟨m', x, F1, A, C, g1, _, g3, _, ⟨v, ev, r, _⟩, _⟩ := st.focus e
    exact ⟨v, by rw [g3, ev], q v W (Step.refl _ _) (RpO.read o v F1 r)⟩
  · cases h
theorem fp_int {i : Int} {k} : FP X T me (.Constant (.int i) k pos) .p (dC (.int i)) := by
  refine ⟨tC (.int i), fun j => pe_int, fun W σ s F st d h Q q => ?_⟩
  cases h
  exact q _ W (Step.refl _ _) rfl
theorem fp_bl {i : Bool} {k} : FP X T me (.Constant (.bool i) k pos) .p (dC (.bl i)) := by
  refine ⟨tC (.bl i), fun j => pe_bl, fun W σ s F st d h Q q => ?_⟩
  cases h
  exact q _ W (Step.refl _ _) rfl
theorem fp_non {k} : FP X T me (.Constant .none k pos) .p (dC .non) := by
  refine ⟨tC .non, fun j => pe_non, fun W σ s F st d h Q q => ?_⟩
  cases h
  exact q _ W (Step.refl _ _) rfl
theorem fp_str {x : Str} {k} : FP X T me (.Constant (.str x) k pos) .p (dC (.str x)) := by
  refine ⟨tC (.str x), fun j => pe_str, fun W σ s F st d h Q q => ?_⟩
  cases h
  exact q _ W (Step.refl _ _) rfl
theorem sp_op {ta tb : TE} {r : R2} {g : D → D → Option D} (hr : OpD T m1 m2 m r g) (ha : SP T me ta m1 fa) (hb : SP T me tb m2 fb) : SP T me (tOp r ta tb) m (dOp g fa fb) := fun W σ s F st d h Q q => by
  obtain ⟨da, h1, h⟩ := bind_some h
  obtain ⟨db, h2, h⟩ := bind_some h
  refine ha W σ s F st da h1 _ fun x W1 t1 r1 => ?_
  refine hb W1 σ s F (st.step t1) db h2 _ fun y W2 t2 r2 => ?_
  exact hr W2 x y da db d (Rp.mono (t2.at m1) da x r1) r2 h Q fun v W3 t3 r3 => q v W3 ((t1.pure t2).pure t3) r3
theorem fp_op {op : Operator} {r : R2} {g : D → D → Option D} (ho : ∀ j, OpR (X j) (binaryOp op) r) (hr : OpD T m1 m2 m r g) (ha : FP X T me a m1 fa) (hb : FP X T me b m2 fb) : FP X T me (.BinOp a op b pos) m (dOp g fa fb) := by
  obtain ⟨ta, h1, h2⟩ := ha.ex
  obtain ⟨tb, h3, h4⟩ := hb.ex
  exact ⟨_, fun j => pe_op (ho j) (h1 j) (h3 j), sp_op hr h2 h4⟩
theorem fp_ix {r : R2} {g : D → D → Option D} (ho : ∀ j, IxR (X j) r) (hr : OpD T m1 m2 m r g) (ha : FP X T me a m1 fa) (hb : FP X T me b m2 fb) (hs : PlainIx b := by exact fun _ _ => rfl) : FP X T me (.Subscript a b pos) m (dOp g fa fb) := by
  obtain ⟨ta, h1, h2⟩ := ha.ex
  obtain ⟨tb, h3, h4⟩ := hb.ex
  exact ⟨_, fun j => pe_ix (ho j) (h1 j) (h3 j) hs, sp_op hr h2 h4⟩
theorem fp_un {op : UnaryOp} {r : V → Hp → VK → Prop} {g : D → Option D} (ho : ∀ j, UnR (X j) (unaryOp op) r) (hr : UnD T m1 m r g) (ha : FP X T me a m1 fa) : FP X T me (.UnaryOp op a pos) m (dUn g fa) := by
  obtain ⟨ta, h1, h2⟩ := ha.ex
  refine ⟨_, fun j => pe_un (ho j) (h1 j), fun W σ s F st d h Q q => ?_⟩
  obtain ⟨da, k1, h⟩ := bind_some h
  refine h2 W σ s F st da k1 _ fun x W1 t1 r1 => ?_
  exact hr W1 x da d r1 h Q fun v W2 t2 r2 => q v W2 (t1.pure t2) r2
theorem fp_cmp {op : CmpOp} {r : R2} {g : D → D → Option D} (ho : ∀ j, OpR (X j) (compareOp op) r) (hr : OpD T m1 m2 m r g) (ha : FP X T me a m1 fa) (hb : FP X T me b m2 fb) (hm : behindInMarks op b = false := by first | exact nomark _ | rfl) :
    FP X T me (.Compare a [op] [b] pos) m (dOp g fa fb) := by
  obtain ⟨ta, h1, h2⟩ := ha.ex
  obtain ⟨tb, h3, h4⟩ := hb.ex
  exact ⟨_, fun j => pe_cmpR (ho j) (h1 j) (h3 j) hm, sp_op hr h2 h4⟩
theorem sb_test {te : TE} (h : SP T me te m f) : SB T me (tTest te) (dTest f) := fun W σ s F st b hb Q q => by
  obtain ⟨d, h1, h2⟩ := bind_some hb
  refine h W σ s F st d h1 _ fun v W1 t1 r1 => ?_
  cases d with
  | bl k' =>
    cases h2
    exact ⟨_, r1, q W1 t1⟩
  | _ => cases h2
theorem ft_cmp {op : CmpOp} {r : R2} {g : D → D → Option D} (ho : ∀ j, OpR (X j) (compareOp op) r) (hr : OpD T m1 m2 m r g) (ha : FP X T me a m1 fa) (hb : FP X T me b m2 fb) (hm : behindInMarks op b = false := by first | exact nomark _ | rfl) :
    FT X T me (.Compare a [op] [b] pos) (dTest (dOp g fa fb)) := by
  obtain ⟨ta, h1, h2⟩ := ha.ex
  obtain ⟨tb, h3, h4⟩ := hb.ex
  exact ⟨_, fun j => pt_cmpR (ho j) (h1 j) (h3 j) hm, sb_test (sp_op hr h2 h4)⟩
/-- the truth of any value -/
def dTru : D → Option Bool
  | .non => some false
  | .bl b => some b
  | .int i => some (i != 0)
  | .str y => if y.length ≤ sizeLine then some ((y.length : Int) != 0) else none
  | .lst xs => some (!xs.isEmpty)
  | .tup xs => some (!xs.isEmpty)
  | _ => none
theorem tru_of {H G : Hp} (hs : Sub G H) {d : D} {v : V} {k : Bool} (r : Rp T G d v) (h : dTru d = some k) : TruV T.K v H k := by
  cases d with
  | non => cases r; cases h; rfl
  | bl b => cases r; cases h; rfl
  | int i => cases r; cases h; rfl
  | str y =>
    cases r
    have h' : (if y.length ≤ sizeLine then some ((y.length : Int) != 0) else none) = some k := h
    by_cases hy : y.length ≤ sizeLine
    · rw [if_pos hy] at h'
      cases h'
      exact ⟨hy, rfl⟩
    · rw [if_neg hy] at h'
      cases h'
  | lst xs =>
    obtain ⟨p, vs, rfl, q, rl⟩ := r
    cases h
    refine .inl ⟨vs, hs.sqL q, ?_⟩
    have e := rl.length
    cases xs <;> cases vs <;> first | rfl | (simp at e)
  | tup xs =>
    obtain ⟨p, vs, rfl, q, rl⟩ := r
    cases h
    refine .inr (.inl ⟨vs, hs.sqT q, ?_⟩)
    have e := rl.length
    cases xs <;> cases vs <;> first | rfl | (simp at e)
  | dct _ _ => cases h
  | nst _ => cases h
  | obj _ _ _ => cases h
def dTruth (f : List SV → Option D) (s : List SV) : Option Bool := (f s).bind dTru
theorem ft_truth (h : FP X T me a m f) (hK : ∀ j, (X j).K = T.K) (he : ∀ j whole, isTrue a (X j).env whole = (do let v ← whole; standAt a.pos; holding [v] (truthy v)) := by intro _ _; rfl) : FT X T me a (dTruth f) := by
  obtain ⟨ta, h1, h2⟩ := h.ex
  refine ⟨fun σ H Q => ta σ H fun x H' => ∃ k, TruV T.K x H' k ∧ Q k H', fun j => by have := pt_truth (h1 j) (he j); rw [hK j] at this; exact this, fun W σ s F st b hb Q q => ?_⟩
  obtain ⟨d, k1, k2⟩ := bind_some hb
  refine h2 W σ s F st d k1 _ fun v W1 t1 r1 => ⟨b, tru_of (W1.atH m) r1 k2, q W1 t1⟩
variable {p1 p2 p3 : List SV → Option Bool} {rest : List Expr}
theorem sb_and {t u : TT} (h1 : SB T me t p1) (h2 : SB T me u p2) : SB T me (tAnd t u) (dAndB p1 p2) := fun W σ s F st b hb Q q => by
  obtain ⟨k, k1, k2⟩ := bind_some hb
  refine h1 W σ s F st k k1 _ fun W1 t1 => ?_
  cases k with
  | true => exact h2 W1 σ s F (st.step t1) b k2 Q fun W2 t2 => q W2 (t1.pure t2)
  | false =>
    cases k2
    exact q W1 t1
theorem sb_or {t u : TT} (h1 : SB T me t p1) (h2 : SB T me u p2) : SB T me (tOr t u) (dOrB p1 p2) := fun W σ s F st b hb Q q => by
  obtain ⟨k, k1, k2⟩ := bind_some hb
  refine h1 W σ s F st k k1 _ fun W1 t1 => ?_
  cases k with
  | false => exact h2 W1 σ s F (st.step t1) b k2 Q fun W2 t2 => q W2 (t1.pure t2)
  | true =>
    cases k2
    exact q W1 t1
theorem fw_and1 (h : FT X T me a p1) : FW X T me (.BoolOp .And [a] pos) p1 := let ⟨t, h1, h2⟩ := h.ex; ⟨t, fun j => pw_and1 (h1 j), h2⟩
theorem fw_or1 (h : FT X T me a p1) : FW X T me (.BoolOp .Or [a] pos) p1 := let ⟨t, h1, h2⟩ := h.ex; ⟨t, fun j => pw_or1 (h1 j), h2⟩
theorem fw_and (h : FT X T me a p1) (k : FW X T me (.BoolOp .And (b :: rest) pos) p2) : FW X T me (.BoolOp .And (a :: b :: rest) pos) (dAndB p1 p2) :=
  let ⟨t, h1, h2⟩ := h.ex; let ⟨u, h3, h4⟩ := k.ex; ⟨_, fun j => pw_and (h1 j) (h3 j), sb_and h2 h4⟩
theorem fw_or (h : FT X T me a p1) (k : FW X T me (.BoolOp .Or (b :: rest) pos) p2) : FW X T me (.BoolOp .Or (a :: b :: rest) pos) (dOrB p1 p2) :=
  let ⟨t, h1, h2⟩ := h.ex; let ⟨u, h3, h4⟩ := k.ex; ⟨_, fun j => pw_or (h1 j) (h3 j), sb_or h2 h4⟩
theorem ft_w (h : FW X T me a p1) : FT X T me a p1 := let ⟨t, h1, h2⟩ := h.ex; ⟨t, fun j => (h1 j).pt, h2⟩
theorem ft_not (h : FT X T me a p1) : FT X T me (.UnaryOp .Not a pos) (dNotB p1) := by
  obtain ⟨t, h1, h2⟩ := h.ex
  refine ⟨_, fun j => pt_not (h1 j), fun W σ s F st b hb Q q => ?_⟩
  obtain ⟨k, k1, k2⟩ := map_some hb
  subst k2
  exact h2 W σ s F st k k1 _ fun W1 t1 => q W1 t1
/-- and, or, not as values: bools -/
theorem fp_andV (h : FP X T me a m1 fa) (k : FP X T me (.BoolOp .And (b :: rest) pos) m2 fb) : FP X T me (.BoolOp .And (a :: b :: rest) pos) .p (dBool (dAndB (dTest fa) (dTest fb))) := by
  obtain ⟨t, h1, h2⟩ := h.ex
  obtain ⟨u, h3, h4⟩ := k.ex
  refine ⟨_, fun j => pe_and (h1 j) (h3 j), fun W σ s F st d hd Q q => ?_⟩
  obtain ⟨r, hd', e0⟩ := map_some hd
  subst e0
  obtain ⟨k, k0, k2⟩ := bind_some hd'
  obtain ⟨da, k1, k3⟩ := bind_some k0
  refine h2 W σ s F st da k1 _ fun v W1 t1 r1 => ?_
  cases da with
  | bl c =>
    have ek : c = k := Option.some.inj k3
    subst ek
    refine ⟨c, r1, ?_⟩
    cases c with
    | true =>
      obtain ⟨db, k4, k5⟩ := bind_some (show dTest fb s = some r from k2)
      cases db with
      | bl c2 =>
        have er : c2 = r := Option.some.inj k5
        subst er
        exact h4 W1 σ s F (st.step t1) _ k4 Q fun v W2 t2 r2 => q v W2 (t1.pure t2) r2
      | _ => cases k5
    | false =>
      cases k2
      exact q _ W1 t1 rfl
  | _ => cases k3
theorem fp_orV (h : FP X T me a m1 fa) (k : FP X T me (.BoolOp .Or (b :: rest) pos) m2 fb) : FP X T me (.BoolOp .Or (a :: b :: rest) pos) .p (dBool (dOrB (dTest fa) (dTest fb))) := by
  obtain ⟨t, h1, h2⟩ := h.ex
  obtain ⟨u, h3, h4⟩ := k.ex
  refine ⟨_, fun j => pe_or (h1 j) (h3 j), fun W σ s F st d hd Q q => ?_⟩
  obtain ⟨r, hd', e0⟩ := map_some hd
  subst e0
  obtain ⟨k, k0, k2⟩ := bind_some hd'
  obtain ⟨da, k1, k3⟩ := bind_some k0
  refine h2 W σ s F st da k1 _ fun v W1 t1 r1 => ?_
  cases da with
  | bl c =>
    have ek : c = k := Option.some.inj k3
    subst ek
    refine ⟨c, r1, ?_⟩
    cases c with
    | false =>
      obtain ⟨db, k4, k5⟩ := bind_some (show dTest fb s = some r from k2)
      cases db with
      | bl c2 =>
        have er : c2 = r := Option.some.inj k5
        subst er
        exact h4 W1 σ s F (st.step t1) _ k4 Q fun v W2 t2 r2 => q v W2 (t1.pure t2) r2
      | _ => cases k5
    | true =>
      cases k2
      exact q _ W1 t1 rfl
  | _ => cases k3
theorem fp_one {op} (h : FP X T me a m fa) : FP X T me (.BoolOp op [a] pos) m fa := let ⟨t, h1, h2⟩ := h.ex; ⟨t, fun j => pe_one (h1 j), h2⟩
theorem fp_notV (h : FP X T me a m1 fa) : FP X T me (.UnaryOp .Not a pos) .p (dBool (dNotB (dTest fa))) := by
  obtain ⟨t, h1, h2⟩ := h.ex
  refine ⟨_, fun j => pe_not (h1 j), fun W σ s F st d hd Q q => ?_⟩
  obtain ⟨r, hd', e0⟩ := map_some hd
  subst e0
  obtain ⟨k, k0, k2⟩ := map_some hd'
  obtain ⟨da, k1, k3⟩ := bind_some k0
  refine h2 W σ s F st da k1 _ fun v W1 t1 r1 => ?_
  cases da with
  | bl c =>
    have ek : c = k := Option.some.inj k3
    subst ek
    cases k2
    exact ⟨c, r1, q _ W1 t1 rfl⟩
  | _ => cases k3
theorem fp_if (hc : FT X T me c p1) (ha : FP X T me a m fa) (hb : FP X T me b m fb) : FP X T me (.IfExp c a b pos) m (dIf p1 fa fb) := by
  obtain ⟨t, h1, h2⟩ := hc.ex
  obtain ⟨u, h3, h4⟩ := ha.ex
  obtain ⟨w, h5, h6⟩ := hb.ex
  refine ⟨_, fun j => pe_ifExp (h1 j) (h3 j) (h5 j), fun W σ s F st d hd Q q => ?_⟩
  obtain ⟨k, k1, k2⟩ := bind_some hd
  refine h2 W σ s F st k k1 _ fun W1 t1 => ?_
  cases k with
  | true => exact h4 W1 σ s F (st.step t1) d k2 Q fun v W2 t2 r2 => q v W2 (t1.pure t2) r2
  | false => exact h6 W1 σ s F (st.step t1) d k2 Q fun v W2 t2 r2 => q v W2 (t1.pure t2) r2
variable {es : List Expr} {fs : List SV → Option (List D)}
theorem fa_nil : FA X T me [] m dNil := ⟨tNil, fun _ => pa_nil, fun W σ s F st ds h Q q => by cases h; exact q [] W (Step.refl _ _) rfl⟩
theorem fa_cons (h : FP X T me e m f) (k : FA X T me es m fs) (hs : ∀ j, starEach (e :: es) (X j).env = (false, eval e (X j).env) :: starEach es (X j).env := by intro _; rfl) : FA X T me (e :: es) m (dCons f fs) := by
  obtain ⟨t, h1, h2⟩ := h.ex
  obtain ⟨u, h3, h4⟩ := k.ex
  refine ⟨_, fun j => pa_cons (h1 j) (h3 j) (hs j), fun W σ s F st ds hd Q q => ?_⟩
  obtain ⟨d, k1, k2⟩ := bind_some hd
  obtain ⟨dr, k3, e0⟩ := map_some k2
  subst e0
  refine h2 W σ s F st d k1 _ fun v W1 t1 r1 => ?_
  refine h4 W1 σ s F (st.step t1) dr k3 _ fun vs W2 t2 r2 => ?_
  exact q _ W2 (t1.pure t2) ⟨v, vs, rfl, Rp.mono (t2.at m) d v r1, r2⟩
/-- a built-in function, a built-in class, called -/
theorem fp_callB {r : List V → Hp → VK → Prop} {g : List D → Option D} {id : String} {x : Str} {p : Pos} (hc : ∀ j, CallR (X j) (.builtin id) r) (hr : CallD T m1 m r g) (hg : ∀ j, Gl (X j) x) (hm : ∀ j, (X j).mg x = none) (hv : bootBuiltins x = some (.builtin id)) (ha : FA X T me (e :: es) m1 fs)
    (hn : x ≠ "__name__" := by decide) (hdb : (x == ("__debug__" : Str)) = false := by decide) (he : ∀ j, starEach (e :: es) (X j).env = (false, eval e (X j).env) :: starEach es (X j).env := by intro _; rfl) (hpl : ∀ j, (backTo pos (starEach es (X j).env)).any (·.1) = false := by intro _; rfl) :
    FP X T me (.Call (.Name x p) (e :: es) [] pos) m (dCallB g fs) := by
  obtain ⟨t, h1, h2⟩ := ha.ex
  refine ⟨_, fun j => pe_callB (hc j) (hg j) (hm j) hv (h1 j) hn hdb (he j) (hpl j), fun W σ s F st d hd Q q => ?_⟩
  obtain ⟨ds, k1, k2⟩ := bind_some hd
  refine h2 W σ s F st ds k1 _ fun vs W1 t1 r1 => ?_
  exact hr W1 vs ds d r1 k2 Q fun v W2 t2 r2 => q v W2 (t1.pure t2) r2
theorem fp_callTy {r : List V → Hp → VK → Prop} {g : List D → Option D} {id : String} {x : Str} {p : Pos} (hc : ∀ j, CallR (X j) (.type id) r) (hr : CallD T m1 m r g) (hg : ∀ j, Gl (X j) x) (hm : ∀ j, (X j).mg x = none) (hv : bootBuiltins x = some (.type id)) (ha : FA X T me (e :: es) m1 fs)
    (hn : x ≠ "__name__" := by decide) (hdb : (x == ("__debug__" : Str)) = false := by decide) (he : ∀ j, starEach (e :: es) (X j).env = (false, eval e (X j).env) :: starEach es (X j).env := by intro _; rfl) (hpl : ∀ j, (backTo pos (starEach es (X j).env)).any (·.1) = false := by intro _; rfl) :
    FP X T me (.Call (.Name x p) (e :: es) [] pos) m (dCallB g fs) := by
  obtain ⟨t, h1, h2⟩ := ha.ex
  refine ⟨_, fun j => pe_callTy (hc j) (hg j) (hm j) hv (h1 j) hn hdb (he j) (hpl j), fun W σ s F st d hd Q q => ?_⟩
  obtain ⟨ds, k1, k2⟩ := bind_some hd
  refine h2 W σ s F st ds k1 _ fun vs W1 t1 r1 => ?_
  exact hr W1 vs ds d r1 k2 Q fun v W2 t2 r2 => q v W2 (t1.pure t2) r2
theorem fo_callB {r : List V → Hp → VK → Prop} {g : List D → Option OD} {id : String} {x : Str} {p : Pos} (hc : ∀ j, CallR (X j) (.builtin id) r) (hr : CallO T m1 m r g) (hg : ∀ j, Gl (X j) x) (hm : ∀ j, (X j).mg x = none) (hv : bootBuiltins x = some (.builtin id)) (ha : FA X T me (e :: es) m1 fs)
    (hn : x ≠ "__name__" := by decide) (hdb : (x == ("__debug__" : Str)) = false := by decide) (he : ∀ j, starEach (e :: es) (X j).env = (false, eval e (X j).env) :: starEach es (X j).env := by intro _; rfl) (hpl : ∀ j, (backTo pos (starEach es (X j).env)).any (·.1) = false := by intro _; rfl) :
    FO X T me (.Call (.Name x p) (e :: es) [] pos) m (dCallO g fs) := by
  obtain ⟨t, h1, h2⟩ := ha.ex
  refine ⟨_, fun j => pe_callB (hc j) (hg j) (hm j) hv (h1 j) hn hdb (he j) (hpl j), fun W σ s F st d hd Q q => ?_⟩
  obtain ⟨ds, k1, k2⟩ := bind_some hd
  refine h2 W σ s F st ds k1 _ fun vs W1 t1 r1 => ?_
  exact hr W1 vs ds d r1 k2 Q fun v W2 Fr t2 r2 n2 nd => q v W2 Fr (t1.pure t2) r2 (fun a ha => t1.back (n2 a ha)) nd
theorem fo_callTy {r : List V → Hp → VK → Prop} {g : List D → Option OD} {id : String} {x : Str} {p : Pos} (hc : ∀ j, CallR (X j) (.type id) r) (hr : CallO T m1 m r g) (hg : ∀ j, Gl (X j) x) (hm : ∀ j, (X j).mg x = none) (hv : bootBuiltins x = some (.type id)) (ha : FA X T me (e :: es) m1 fs)
    (hn : x ≠ "__name__" := by decide) (hdb : (x == ("__debug__" : Str)) = false := by decide) (he : ∀ j, starEach (e :: es) (X j).env = (false, eval e (X j).env) :: starEach es (X j).env := by intro _; rfl) (hpl : ∀ j, (backTo pos (starEach es (X j).env)).any (·.1) = false := by intro _; rfl) :
    FO X T me (.Call (.Name x p) (e :: es) [] pos) m (dCallO g fs) := by
  obtain ⟨t, h1, h2⟩ := ha.ex
  refine ⟨_, fun j => pe_callTy (hc j) (hg j) (hm j) hv (h1 j) hn hdb (he j) (hpl j), fun W σ s F st d hd Q q => ?_⟩
  obtain ⟨ds, k1, k2⟩ := bind_some hd
  refine h2 W σ s F st ds k1 _ fun vs W1 t1 r1 => ?_
  exact hr W1 vs ds d r1 k2 Q fun v W2 Fr t2 r2 n2 nd => q v W2 Fr (t1.pure t2) r2 (fun a ha => t1.back (n2 a ha)) nd
/-- a new tree, made known at once -/
def dFr (f : List SV → Option OD) (s : List SV) : Option D := (f s).map OD.toD
theorem fp_fr {fo : List SV → Option OD} (h : FO X T me e m fo) : FP X T me e m (dFr fo) := by
  obtain ⟨t, h1, h2⟩ := h.ex
  refine ⟨t, h1, fun W σ s F st d hd Q q => ?_⟩
  obtain ⟨o, k1, rfl⟩ := map_some hd
  refine h2 W σ s F st o k1 _ fun v W1 Fr t1 r1 n1 nd => ?_
  exact q v (W1.know m Fr) (t1.know m fun a ha => .inl (by rw [n1 a ha]; exact id)) (RpO.freeze o v Fr (fun _ z => z) r1)
end
end My

set_option Elab.async false
set_option linter.all false
set_option maxRecDepth 100000
set_option maxHeartbeats 4000000
/-! M4: operators, subscripts, displays, built-in functions on data. -/
namespace My
open PySem L2

/-! ### new objects -/
def World.lay (W : World) (p : Addr) (o : HO) (n : W.H p = none) : World where
  G := W.G
  B := W.B
  H := upd W.H p o
  gb := W.gb
  bh := W.bh.new (by
    cases e : W.B p with
    | none => rfl
    | some u =>
      have := W.bh p u e
      rw [n] at this
      cases this)
  pin := W.pin
theorem World.freshB (W : World) {p : Addr} (n : W.H p = none) : W.B p = none := by
  cases e : W.B p with
  | none => rfl
  | some u =>
    have := W.bh p u e
    rw [n] at this
    cases this
theorem World.freshG (W : World) {p : Addr} (n : W.H p = none) : W.G p = none := by
  cases e : W.G p with
  | none => rfl
  | some u =>
    have := W.bh p u (W.gb p u e)
    rw [n] at this
    cases this
theorem World.lay_step (W : World) {p : Addr} {o : HO} (n : W.H p = none) : Step [] W (W.lay p o n) where
  g := Sub.refl _
  b := Sub.refl _
  h := fun a u e _ => by
    show upd W.H p o a = some u
    rw [upd_ne (ne_of_none e n)]
    exact e
  dom := fun a h => by
    show upd W.H p o a ≠ none
    unfold upd
    split
    · simp
    · exact h
  nb := fun _ _ _ e => e
  ng := fun _ _ _ e => e
  pin := rfl
theorem RpOL.of : ∀ {T : Tab} {m : Md} {W : World} {ds : List D} {vs : List V}, RpL T (W.at m) ds vs → RpOL T m W (ds.map .fz) vs []
  | _, _, _, [], vs, r => ⟨r, rfl⟩
  | T, m, W, d :: ds, vs, ⟨v, r, e, q, k⟩ => ⟨v, r, [], [], e, rfl, ⟨rfl, q⟩, RpOL.of k⟩
theorem toDs_fz : ∀ ds : List D, OD.toDs (ds.map .fz) = ds
  | [] => rfl
  | d :: ds => by
    show d :: OD.toDs (ds.map .fz) = d :: ds
    rw [toDs_fz ds]
/-- a flat own list -/
def oL (ds : List D) : OD := .lst (ds.map .fz)
theorem toD_oL (ds : List D) : (oL ds).toD = .lst ds := congrArg D.lst (toDs_fz ds)
theorem World.newL {T : Tab} {m : Md} (W : World) {p : Addr} (n : W.H p = none) {ds : List D} {vs : List V} (r : RpL T (W.at m) ds vs) : RpO T m (W.lay p (.lst vs) n) (oL ds) (.ref p) [p] :=
  ⟨p, vs, [], rfl, rfl, upd_same, W.freshB n, RpOL.of (RpL.mono (W.lay_step n |>.at m) ds vs r)⟩
theorem World.newT {T : Tab} {m : Md} (W : World) {p : Addr} (n : W.H p = none) {ds : List D} {vs : List V} (r : RpL T (W.at m) ds vs) :
    Rp T (((W.lay p (.tup vs) n).know m [p]).at m) (.tup ds) (.ref p) := by
  refine ⟨p, vs, rfl, .inl (.inl ?_), RpL.mono (((W.lay_step n (o := .tup vs)).at m).trans ((W.lay p (.tup vs) n).know_up m [p] m)) ds vs r⟩
  rw [World.know_in _ (by simp)]
  exact upd_same
theorem World.newT_step {m : Md} (W : World) {p : Addr} (n : W.H p = none) {o : HO} : Step [] W ((W.lay p o n).know m [p]) :=
  (W.lay_step n).know m fun a ha => .inl (by
    have e : a = p := by simpa using ha
    rw [e, n]
    exact id)

/-! ### ints -/
def dI (C : Int → Int → Bool) (g : Int → Int → Int) : D → D → Option D
  | .int i, .int j => if C i j then some (.int (g i j)) else none
  | _, _ => none
def dIB (g : Int → Int → Bool) : D → D → Option D
  | .int i, .int j => some (.bl (g i j))
  | _, _ => none
theorem int2 {C : Int → Int → Bool} {g : Int → Int → Int} {x y d : D} (h : dI C g x y = some d) : ∃ i j, x = .int i ∧ y = .int j ∧ C i j = true ∧ d = .int (g i j) := by
  cases x with
  | int i =>
    cases y with
    | int j =>
      have h' : (if C i j = true then some (D.int (g i j)) else none) = some d := h
      by_cases c : C i j = true
      · rw [if_pos c] at h'
        exact ⟨i, j, rfl, rfl, c, (Option.some.inj h').symm⟩
      · rw [if_neg c] at h'
        cases h'
    | _ => cases h
  | _ => cases h
theorem opd_I {T : Tab} {m1 m2 : Md} {C : Int → Int → Prop} {c : Int → Int → Bool} {g : Int → Int → Int} (hc : ∀ i j, c i j = true → C i j) : OpD T m1 m2 .p (rI C fun i j => .int (g i j)) (dI c g) := fun W x y dx dy d r1 r2 h Q q => by
  obtain ⟨i, j, rfl, rfl, k, rfl⟩ := int2 h
  exact ⟨i, j, r1, r2, hc i j k, q _ W (Step.refl _ _) rfl⟩
theorem opd_I0 {T : Tab} {m1 m2 : Md} {g : Int → Int → Int} : OpD T m1 m2 .p (rI0 fun i j => .int (g i j)) (dI (fun _ _ => true) g) := fun W x y dx dy d r1 r2 h Q q => by
  obtain ⟨i, j, rfl, rfl, _, rfl⟩ := int2 h
  exact ⟨i, j, r1, r2, q _ W (Step.refl _ _) rfl⟩
theorem opd_B0 {T : Tab} {m1 m2 : Md} {g : Int → Int → Bool} : OpD T m1 m2 .p (rI0 fun i j => .bl (g i j)) (dIB g) := fun W x y dx dy d r1 r2 h Q q => by
  cases dx with
  | int i =>
    cases dy with
    | int j =>
      cases h
      exact ⟨i, j, r1, r2, q _ W (Step.refl _ _) rfl⟩
    | _ => cases h
  | _ => cases h
def mulOk (i j : Int) : Bool := decide (i.natAbs.log2 + j.natAbs.log2 < 1000000)
def modOk (_ j : Int) : Bool := decide (j ≠ 0)
def divOk (_ j : Int) : Bool := decide (0 < j ∧ j.natAbs.log2 < 9000)
def powOk (i j : Int) : Bool := decide (0 ≤ j ∧ j ≤ 1000000 ∧ i.natAbs < 2 ^ 64)
def shrOk (_ j : Int) : Bool := decide (0 ≤ j)
abbrev dSub := dI (fun _ _ => true) fun i j => i - j
abbrev dMul := dI mulOk fun i j => i * j
abbrev dMod := dI modOk fun i j => i.fmod j
abbrev dDiv := dI divOk fun i j => i / j
abbrev dPow := dI powOk fun i j => i ^ j.toNat
abbrev dShl := dI powOk fun i j => i * 2 ^ j.toNat
abbrev dShr := dI shrOk fun i j => i / 2 ^ j.toNat
abbrev dBAnd := dI (fun _ _ => true) fun i j => Builtin.bitAnd i j
abbrev dBOr := dI (fun _ _ => true) fun i j => Builtin.bitOr i j
abbrev dBXor := dI (fun _ _ => true) fun i j => Builtin.bitXor i j
abbrev dLt := dIB fun i j => decide (i < j)
abbrev dLe := dIB fun i j => decide (i ≤ j)
abbrev dGt := dIB fun i j => decide (j < i)
abbrev dGe := dIB fun i j => decide (j ≤ i)
section
variable {ι : Type} {X : ι → Cx} {T : Tab} {me : List Md} {e a b c : Expr} {m m1 m2 : Md} {f fa fb fc : List SV → Option D} {pos : Pos}
theorem fp_sub (ha : FP X T me a m1 fa) (hb : FP X T me b m2 fb) : FP X T me (.BinOp a .Sub b pos) .p (dOp dSub fa fb) := fp_op (fun _ => op_sub) opd_I0 ha hb
theorem fp_mul (ha : FP X T me a m1 fa) (hb : FP X T me b m2 fb) : FP X T me (.BinOp a .Mult b pos) .p (dOp dMul fa fb) := fp_op (fun _ => op_mulW) (opd_I fun i j h => (of_decide_eq_true h : i.natAbs.log2 + j.natAbs.log2 < 1000000)) ha hb
theorem fp_mod (ha : FP X T me a m1 fa) (hb : FP X T me b m2 fb) : FP X T me (.BinOp a .Mod b pos) .p (dOp dMod fa fb) := fp_op (fun _ => op_modN) (opd_I fun _ _ h => of_decide_eq_true h) ha hb
theorem fp_div (ha : FP X T me a m1 fa) (hb : FP X T me b m2 fb) : FP X T me (.BinOp a .FloorDiv b pos) .p (dOp dDiv fa fb) := fp_op (fun _ => op_fdivW) (opd_I fun i j h => (of_decide_eq_true h : 0 < j ∧ j.natAbs.log2 < 9000)) ha hb
theorem fp_pow (ha : FP X T me a m1 fa) (hb : FP X T me b m2 fb) : FP X T me (.BinOp a .Pow b pos) .p (dOp dPow fa fb) := fp_op (fun _ => op_pow) (opd_I fun i j h => (of_decide_eq_true h : 0 ≤ j ∧ j ≤ 1000000 ∧ i.natAbs < 2 ^ 64)) ha hb
theorem fp_shl (ha : FP X T me a m1 fa) (hb : FP X T me b m2 fb) : FP X T me (.BinOp a .LShift b pos) .p (dOp dShl fa fb) := fp_op (fun _ => op_shl) (opd_I fun i j h => (of_decide_eq_true h : 0 ≤ j ∧ j ≤ 1000000 ∧ i.natAbs < 2 ^ 64)) ha hb
theorem fp_shr (ha : FP X T me a m1 fa) (hb : FP X T me b m2 fb) : FP X T me (.BinOp a .RShift b pos) .p (dOp dShr fa fb) := fp_op (fun _ => op_shr) (opd_I fun _ _ h => of_decide_eq_true h) ha hb
theorem fp_band (ha : FP X T me a m1 fa) (hb : FP X T me b m2 fb) : FP X T me (.BinOp a .BitAnd b pos) .p (dOp dBAnd fa fb) := fp_op (fun _ => op_and) opd_I0 ha hb
theorem fp_bor (ha : FP X T me a m1 fa) (hb : FP X T me b m2 fb) : FP X T me (.BinOp a .BitOr b pos) .p (dOp dBOr fa fb) := fp_op (fun _ => op_or) opd_I0 ha hb
theorem fp_lt (ha : FP X T me a m1 fa) (hb : FP X T me b m2 fb) : FP X T me (.Compare a [.Lt] [b] pos) .p (dOp dLt fa fb) := fp_cmp (fun _ => op_lt) opd_B0 ha hb
theorem fp_le (ha : FP X T me a m1 fa) (hb : FP X T me b m2 fb) : FP X T me (.Compare a [.LtE] [b] pos) .p (dOp dLe fa fb) := fp_cmp (fun _ => op_le) opd_B0 ha hb
theorem fp_gt (ha : FP X T me a m1 fa) (hb : FP X T me b m2 fb) : FP X T me (.Compare a [.Gt] [b] pos) .p (dOp dGt fa fb) := fp_cmp (fun _ => op_gt) opd_B0 ha hb
theorem fp_ge (ha : FP X T me a m1 fa) (hb : FP X T me b m2 fb) : FP X T me (.Compare a [.GtE] [b] pos) .p (dOp dGe fa fb) := fp_cmp (fun _ => op_ge) opd_B0 ha hb
theorem ft_lt (ha : FP X T me a m1 fa) (hb : FP X T me b m2 fb) : FT X T me (.Compare a [.Lt] [b] pos) (dTest (dOp dLt fa fb)) := ft_cmp (fun _ => op_lt) opd_B0 ha hb
theorem ft_le (ha : FP X T me a m1 fa) (hb : FP X T me b m2 fb) : FT X T me (.Compare a [.LtE] [b] pos) (dTest (dOp dLe fa fb)) := ft_cmp (fun _ => op_le) opd_B0 ha hb
theorem ft_gt (ha : FP X T me a m1 fa) (hb : FP X T me b m2 fb) : FT X T me (.Compare a [.Gt] [b] pos) (dTest (dOp dGt fa fb)) := ft_cmp (fun _ => op_gt) opd_B0 ha hb
theorem ft_ge (ha : FP X T me a m1 fa) (hb : FP X T me b m2 fb) : FT X T me (.Compare a [.GtE] [b] pos) (dTest (dOp dGe fa fb)) := ft_cmp (fun _ => op_ge) opd_B0 ha hb
/-- -a -/
def dNeg : D → Option D
  | .int i => some (.int (-i))
  | _ => none
theorem fp_neg (ha : FP X T me a m1 fa) : FP X T me (.UnaryOp .USub a pos) .p (dUn dNeg fa) := fp_un (fun _ => un_neg) (fun W x dx d r h Q q => by
  cases dx with
  | int i =>
    cases h
    exact ⟨i, r, q _ W (Step.refl _ _) rfl⟩
  | _ => cases h) ha

/-! ### a + b -/
def dAdd : D → D → Option D
  | .int i, .int j => some (.int (i + j))
  | .str a, .str b => if a.length + b.length ≤ sizeLine then some (.str (a ++ b)) else none
  | .tup a, .tup b => if a.length + b.length ≤ sizeLine then some (.tup (a ++ b)) else none
  | _, _ => none
def rAddD (K : PySem.W.Frag) : R2 := fun x y H Q => rI0 (fun i j => .int (i + j)) x y H Q ∨ (∃ i j, x = .str i ∧ y = .str j ∧ i.length + j.length ≤ sizeLine ∧ Q (.str (i ++ j)) H) ∨ rCatA K x y H Q
theorem opd_add {T : Tab} {m : Md} : OpD T m m m (rAddD T.K) dAdd := fun W x y dx dy d r1 r2 h Q q => by
  cases dx with
  | int i =>
    cases dy with
    | int j =>
      cases h
      exact .inl ⟨i, j, r1, r2, q _ W (Step.refl _ _) rfl⟩
    | _ => cases h
  | str i =>
    cases dy with
    | str j =>
      have h' : (if i.length + j.length ≤ sizeLine then some (D.str (i ++ j)) else none) = some d := h
      by_cases c : i.length + j.length ≤ sizeLine
      · rw [if_pos c] at h'
        cases h'
        exact .inr (.inl ⟨i, j, r1, r2, c, q _ W (Step.refl _ _) rfl⟩)
      · rw [if_neg c] at h'
        cases h'
    | _ => cases h
  | tup i =>
    cases dy with
    | tup j =>
      have h' : (if i.length + j.length ≤ sizeLine then some (D.tup (i ++ j)) else none) = some d := h
      by_cases c : i.length + j.length ≤ sizeLine
      · rw [if_pos c] at h'
        cases h'
        obtain ⟨p1, v1, rfl, s1, l1⟩ := r1
        obtain ⟨p2, v2, rfl, s2, l2⟩ := r2
        have e1 := l1.length
        have e2 := l2.length
        refine .inr (.inr ⟨p1, p2, v1, v2, rfl, rfl, (W.atH m).sqT s1, (W.atH m).sqT s2, by omega, fun z => ?_, fun z1 z2 => ?_, fun z1 z2 p n => ?_⟩)
        · subst z
          have : i = [] := List.eq_nil_of_length_eq_zero (by simpa using e1)
          subst this
          exact q _ W (Step.refl _ _) ⟨p2, v2, rfl, s2, l2⟩
        · subst z2
          have : j = [] := List.eq_nil_of_length_eq_zero (by simpa using e2)
          subst this
          exact q _ W (Step.refl _ _) ⟨p1, v1, rfl, s1, by rw [List.append_nil]; exact l1⟩
        · exact q _ _ (W.newT_step n (m := m)) (W.newT n (l1.append l2))
      · rw [if_neg c] at h'
        cases h'
    | _ => cases h
  | _ => cases dy <;> cases h
theorem fp_add (hK : ∀ j, (X j).K = T.K) (ha : FP X T me a m fa) (hb : FP X T me b m fb) : FP X T me (.BinOp a .Add b pos) m (dOp dAdd fa fb) :=
  fp_op (fun j => by
    have h : OpR (X j) (binaryOp .Add) (rAddD (X j).K) := op_add.or (op_add_str.or op_catA)
    rw [hK j] at h
    exact h) opd_add ha hb
/-- ints alone: known whatever the two are -/
abbrev dAddI := dI (fun _ _ => true) fun i j => i + j
theorem fp_addI (ha : FP X T me a m1 fa) (hb : FP X T me b m2 fb) : FP X T me (.BinOp a .Add b pos) .p (dOp dAddI fa fb) := fp_op (fun _ => op_add) opd_I0 ha hb

/-! ### subscripts -/
def dIx : D → D → Option D
  | .lst ds, .int i => atI ds i
  | .tup ds, .int i => atI ds i
  | .str z, .int i => if z.length ≤ sizeLine then (atI z.cps.toList i).map fun c => .str ⟨#[c]⟩ else none
  | _, _ => none
theorem RpL.atI {T : Tab} {G : Hp} {ds : List D} {vs : List V} {i : Int} {d : D} (r : RpL T G ds vs) (h : L2.atI ds i = some d) : ∃ v, L2.atI vs i = some v ∧ Rp T G d v := by
  unfold L2.atI at h ⊢
  rw [← r.length]
  obtain ⟨k, e, h'⟩ := bind_some h
  obtain ⟨v, h1, h2⟩ := r.get h'
  exact ⟨v, by rw [e]; exact h1, h2⟩
theorem opd_ix {T : Tab} {m m2 : Md} : OpD T m m2 m (rIx T.K) dIx := fun W x y dx dy d r1 r2 h Q q => by
  cases dy with
  | int i =>
    cases r2
    cases dx with
    | lst ds =>
      obtain ⟨p, vs, rfl, s, l⟩ := r1
      obtain ⟨v, e, rv⟩ := l.atI h
      exact .inl ⟨p, vs, i, v, rfl, rfl, (W.atH m).sqL s, e, q v W (Step.refl _ _) rv⟩
    | tup ds =>
      obtain ⟨p, vs, rfl, s, l⟩ := r1
      obtain ⟨v, e, rv⟩ := l.atI h
      exact .inr (.inl ⟨p, vs, i, v, rfl, rfl, (W.atH m).sqT s, e, q v W (Step.refl _ _) rv⟩)
    | str z =>
      cases r1
      have h' : (if z.length ≤ sizeLine then (L2.atI z.cps.toList i).map (fun c => D.str ⟨#[c]⟩) else none) = some d := h
      by_cases c : z.length ≤ sizeLine
      · rw [if_pos c] at h'
        obtain ⟨k, e, rfl⟩ := map_some h'
        exact .inr (.inr ⟨z, i, k, rfl, rfl, c, e, q _ W (Step.refl _ _) rfl⟩)
      · rw [if_neg c] at h'
        cases h'
    | _ => cases h
  | _ => cases dx <;> cases h
theorem fp_sub_ix (hK : ∀ j, (X j).K = T.K) (ha : FP X T me a m fa) (hb : FP X T me b m2 fb) (hs : PlainIx b := by exact fun _ _ => rfl) : FP X T me (.Subscript a b pos) m (dOp dIx fa fb) :=
  fp_ix (fun j => by
    have h : IxR (X j) (rIx (X j).K) := ix_seq
    rw [hK j] at h
    exact h) opd_ix ha hb hs
/-- xs[lo:hi] -/
def dPart (f : List SV → Option D) (s : List SV) : Option (Option Int) := (f s).bind fun d => match d with
  | .int i => some (some i)
  | _ => none
def dNoPart (_ : List SV) : Option (Option Int) := some none
def cutD (xs : List D) (lo hi : Option Int) : List D := (xs.drop (HT.sIx xs.length 0 lo)).take (HT.sIx xs.length xs.length hi - HT.sIx xs.length 0 lo)
theorem RpL.cut {T : Tab} {G : Hp} {ds : List D} {vs : List V} (r : RpL T G ds vs) (lo hi : Option Int) : RpL T G (cutD ds lo hi) (cutV vs lo hi) := by
  unfold cutD cutV
  rw [← r.length]
  exact (r.drop _).take _
def SOp (T : Tab) (me : List Md) (to : TO) (f : List SV → Option (Option Int)) : Prop :=
  ∀ (W : World) (σ : List (Option V)) (s : List SV) (F : List Addr), St T W me σ s F → ∀ o, f s = some o → ∀ Q : Option Int → Hp → Prop, (∀ W', Step [] W W' → Q o W'.H) → to σ W.H Q
structure FPo (X : ι → Cx) (T : Tab) (me : List Md) (e : Option Expr) (f : List SV → Option (Option Int)) : Prop where
  ex : ∃ to, (∀ j, PO (X j) e to) ∧ SOp T me to f
theorem fpo_none : FPo X T me none dNoPart := ⟨tNoPart, fun _ => po_none, fun W σ s F st o h Q q => by cases h; exact q W (Step.refl _ _)⟩
theorem fpo_some (h : FP X T me e m f) : FPo X T me (some e) (dPart f) := by
  obtain ⟨t, h1, h2⟩ := h.ex
  refine ⟨tPart t, fun j => po_some (h1 j), fun W σ s F st o ho Q q => ?_⟩
  obtain ⟨d, k1, k2⟩ := bind_some ho
  refine h2 W σ s F st d k1 _ fun v W1 t1 r1 => ?_
  cases d with
  | int i =>
    cases k2
    exact ⟨i, r1, q W1 t1⟩
  | _ => cases k2
def dSlL (f : List SV → Option D) (l h : List SV → Option (Option Int)) (s : List SV) : Option OD := (f s).bind fun d => (l s).bind fun lo => (h s).bind fun hi => match d with
  | .lst ds => some (oL (cutD ds lo hi))
  | _ => none
theorem fo_slice {lo hi : Option Expr} {l h : List SV → Option (Option Int)} {p2 : Pos} (hK : ∀ j, (X j).K = T.K) (he : FP X T me e m f) (hl : FPo X T me lo l) (hh : FPo X T me hi h) : FO X T me (.Subscript e (.Slice lo hi none p2) pos) m (dSlL f l h) := by
  obtain ⟨t, h1, h2⟩ := he.ex
  obtain ⟨u, h3, h4⟩ := hl.ex
  obtain ⟨w, h5, h6⟩ := hh.ex
  refine ⟨tSl (rSlL T.K) t u w, fun j => ?_, fun W σ s F st o ho Q q => ?_⟩
  · have k : SlR (X j) (rSlL (X j).K) := sl_list
    rw [hK j] at k
    exact pe_slice k (h1 j) (h3 j) (h5 j)
  · obtain ⟨d, k1, ho⟩ := bind_some ho
    obtain ⟨lo, k2, ho⟩ := bind_some ho
    obtain ⟨hi, k3, ho⟩ := bind_some ho
    refine h2 W σ s F st d k1 _ fun v W1 t1 r1 => ?_
    refine h4 W1 σ s F (st.step t1) lo k2 _ fun W2 t2 => ?_
    refine h6 W2 σ s F (st.step (t1.pure t2)) hi k3 _ fun W3 t3 => ?_
    cases d with
    | lst ds =>
      cases ho
      obtain ⟨p, vs, rfl, sq, l⟩ := Rp.mono ((t2.pure t3).at m) _ v r1
      refine ⟨p, vs, rfl, (W3.atH m).sqL sq, fun a n => ?_⟩
      refine q (.ref a) (W3.lay a (.lst (cutV vs lo hi)) n) [a] (((t1.pure t2).pure t3).pure (W3.lay_step n)) (W3.newL n (l.cut lo hi)) (fun b hb => ?_) (by simp)
      have e : b = a := by simpa using hb
      rw [e]
      exact ((t1.pure t2).pure t3).back n
    | _ => cases ho

/-! ### displays -/
variable {es : List Expr} {fs : List SV → Option (List D)}
def dTup (fs : List SV → Option (List D)) (s : List SV) : Option D := (fs s).bind fun ds => if ds.length ≤ sizeLine then some (.tup ds) else none
theorem fp_tup {k} (h : FA X T me es m fs) : FP X T me (.Tuple es k pos) m (dTup fs) := by
  obtain ⟨t, h1, h2⟩ := h.ex
  refine ⟨tTup t, fun j => pe_tup (h1 j), fun W σ s F st d hd Q q => ?_⟩
  obtain ⟨ds, k1, k2⟩ := bind_some hd
  by_cases c : ds.length ≤ sizeLine
  · rw [if_pos c] at k2
    cases k2
    refine h2 W σ s F st ds k1 _ fun vs W1 t1 r1 => ⟨by rw [← r1.length]; exact c, fun p n => ?_⟩
    exact q _ _ (t1.pure (W1.newT_step n (m := m))) (W1.newT n r1)
  · rw [if_neg c] at k2
    cases k2
def dLst (fs : List SV → Option (List D)) (s : List SV) : Option OD := (fs s).bind fun ds => if ds.length ≤ sizeLine then some (oL ds) else none
theorem fo_lst (h : FA X T me es m fs) : FO X T me (.List es pos) m (dLst fs) := by
  obtain ⟨t, h1, h2⟩ := h.ex
  refine ⟨tLst t, fun j => pe_lst (h1 j), fun W σ s F st o hd Q q => ?_⟩
  obtain ⟨ds, k1, k2⟩ := bind_some hd
  by_cases c : ds.length ≤ sizeLine
  · rw [if_pos c] at k2
    cases k2
    refine h2 W σ s F st ds k1 _ fun vs W1 t1 r1 => ⟨by rw [← r1.length]; exact c, fun p n => ?_⟩
    refine q (.ref p) (W1.lay p (.lst vs) n) [p] (t1.pure (W1.lay_step n)) (W1.newL n r1) (fun b hb => ?_) (by simp)
    have e : b = p := by simpa using hb
    rw [e]
    exact t1.back n
  · rw [if_neg c] at k2
    cases k2

/-! ### built-in functions -/
def dLen : List D → Option D
  | [.lst ds] => some (.int ds.length)
  | [.tup ds] => some (.int ds.length)
  | [.str z] => if z.length ≤ sizeLine then some (.int z.length) else none
  | _ => none
theorem cd_len {T : Tab} {m : Md} : CallD T m .p (fun xs H Q => ∃ x n, xs = [x] ∧ LenV T.K x H n ∧ Q (.int n) H) dLen := fun W xs dxs d r h Q q => by
  cases dxs with
  | nil => cases h
  | cons dx r2 =>
    cases r2 with
    | cons _ _ => cases dx <;> cases h
    | nil =>
      obtain ⟨v, vr, rfl, rv, e⟩ := r
      have e' : vr = [] := e
      subst e'
      cases dx with
      | lst ds =>
        cases h
        obtain ⟨p, vs, rfl, s, l⟩ := rv
        exact ⟨_, ds.length, rfl, .inl ⟨vs, (W.atH m).sqL s, l.length⟩, q _ W (Step.refl _ _) rfl⟩
      | tup ds =>
        cases h
        obtain ⟨p, vs, rfl, s, l⟩ := rv
        exact ⟨_, ds.length, rfl, .inr ⟨vs, (W.atH m).sqT s, l.length⟩, q _ W (Step.refl _ _) rfl⟩
      | str z =>
        cases rv
        have h' : (if z.length ≤ sizeLine then some (D.int z.length) else none) = some d := h
        by_cases c : z.length ≤ sizeLine
        · rw [if_pos c] at h'
          cases h'
          exact ⟨_, z.length, rfl, ⟨c, rfl⟩, q _ W (Step.refl _ _) rfl⟩
        · rw [if_neg c] at h'
          cases h'
      | _ => cases h
theorem cr_len' (hK : ∀ j, (X j).K = T.K) : ∀ j, CallR (X j) (.builtin "len") (fun xs H Q => ∃ x n, xs = [x] ∧ LenV T.K x H n ∧ Q (.int n) H) := fun j => by
  have h : CallR (X j) (.builtin "len") (fun xs H Q => ∃ x n, xs = [x] ∧ LenV (X j).K x H n ∧ Q (.int n) H) := call_len
  rw [hK j] at h
  exact h
/-- int(x), abs(x) -/
def dInt : List D → Option D
  | [.int i] => some (.int i)
  | [.bl k] => some (.int (if k then 1 else 0))
  | _ => none
theorem cd_int {T : Tab} {m : Md} : CallD T m .p (fun xs H Q => (∃ i, xs = [.int i] ∧ Q (.int i) H) ∨ ∃ k, xs = [.bl k] ∧ Q (.int (if k then 1 else 0)) H) dInt := fun W xs dxs d r h Q q => by
  cases dxs with
  | nil => cases h
  | cons dx r2 =>
    cases r2 with
    | cons _ _ => cases dx <;> cases h
    | nil =>
      obtain ⟨v, vr, rfl, rv, e⟩ := r
      have e' : vr = [] := e
      subst e'
      cases dx with
      | int i =>
        cases h
        cases rv
        exact .inl ⟨i, rfl, q _ W (Step.refl _ _) rfl⟩
      | bl k =>
        cases h
        cases rv
        exact .inr ⟨k, rfl, q _ W (Step.refl _ _) rfl⟩
      | _ => cases h
def dAbs : List D → Option D
  | [.int i] => some (.int (if i < 0 then -i else i))
  | _ => none
theorem cd_abs {T : Tab} {m : Md} : CallD T m .p (fun xs H Q => ∃ i, xs = [.int i] ∧ Q (.int (if i < 0 then -i else i)) H) dAbs := fun W xs dxs d r h Q q => by
  cases dxs with
  | nil => cases h
  | cons dx r2 =>
    cases r2 with
    | cons _ _ => cases dx <;> cases h
    | nil =>
      obtain ⟨v, vr, rfl, rv, e⟩ := r
      have e' : vr = [] := e
      subst e'
      cases dx with
      | int i =>
        cases h
        cases rv
        exact ⟨i, rfl, q _ W (Step.refl _ _) rfl⟩
      | _ => cases h
/-- sum of a list of ints -/
def allI : List D → Option (List Int)
  | [] => some []
  | .int i :: ds => (allI ds).map (i :: ·)
  | _ :: _ => none
theorem allI_vs {T : Tab} {G : Hp} : ∀ {ds : List D} {vs : List V} {ns : List Int}, RpL T G ds vs → allI ds = some ns → vs = ns.map V.int
  | [], vs, ns, r, h => by
    cases h
    exact r
  | d :: ds, vs, ns, ⟨v, vr, e, q, k⟩, h => by
    cases d with
    | int i =>
      obtain ⟨ms, h1, rfl⟩ := map_some h
      rw [e, show v = .int i from q, allI_vs k h1]
      rfl
    | _ => cases h
def dSum : List D → Option D
  | [.lst ds] => (allI ds).map fun ns => .int ns.sum
  | _ => none
theorem cd_sum {T : Tab} {m : Md} : CallD T m .p (rSum T.K) dSum := fun W xs dxs d r h Q q => by
  cases dxs with
  | nil => cases h
  | cons dx r2 =>
    cases r2 with
    | cons _ _ => cases dx <;> cases h
    | nil =>
      obtain ⟨v, vr, rfl, rv, e⟩ := r
      have e' : vr = [] := e
      subst e'
      cases dx with
      | lst ds =>
        obtain ⟨p, vs, rfl, s, l⟩ := rv
        obtain ⟨ns, h1, rfl⟩ := map_some h
        have ev := allI_vs l h1
        subst ev
        exact ⟨p, ns, rfl, (W.atH m).sqL s, q _ W (Step.refl _ _) rfl⟩
      | _ => cases h
theorem cr_sum' (hK : ∀ j, (X j).K = T.K) (hc : ∀ j, (X j).calm = true) : ∀ j, CallR (X j) (.builtin "sum") (rSum T.K) := fun j => by
  have h : CallR (X j) (.builtin "sum") (rSum (X j).K) := cr_sum (hc j)
  rw [hK j] at h
  exact h
/-- list(xs) -/
def dList : List D → Option OD
  | [.lst ds] => some (oL ds)
  | [.tup ds] => some (oL ds)
  | _ => none
def rListC (K : PySem.W.Frag) : List V → Hp → VK → Prop := fun xs H Q => ∃ p ys, xs = [.ref p] ∧ (SqL K H p ys ∨ SqT K H p ys) ∧ ∀ l, H l = none → Q (.ref l) (upd H l (.lst ys))
theorem co_list {T : Tab} {m : Md} : CallO T m m (rListC T.K) dList := fun W xs dxs o r h Q q => by
  cases dxs with
  | nil => cases h
  | cons dx r2 =>
    cases r2 with
    | cons _ _ => cases dx <;> cases h
    | nil =>
      obtain ⟨v, vr, rfl, rv, e⟩ := r
      have e' : vr = [] := e
      subst e'
      have fin : ∀ (ds : List D) (vs : List V), RpL T (W.at m) ds vs → o = oL ds → ∀ l, W.H l = none → Q (.ref l) (upd W.H l (.lst vs)) := fun ds vs rl eo l n => by
        subst eo
        refine q (.ref l) (W.lay l (.lst vs) n) [l] (W.lay_step n) (W.newL n rl) (fun b hb => ?_) (by simp)
        have e : b = l := by simpa using hb
        rw [e]
        exact n
      cases dx with
      | lst ds =>
        cases h
        obtain ⟨p, vs, rfl, s, l⟩ := rv
        exact ⟨p, vs, rfl, .inl ((W.atH m).sqL s), fin ds vs l rfl⟩
      | tup ds =>
        cases h
        obtain ⟨p, vs, rfl, s, l⟩ := rv
        exact ⟨p, vs, rfl, .inr ((W.atH m).sqT s), fin ds vs l rfl⟩
      | _ => cases h
theorem cr_list' (hK : ∀ j, (X j).K = T.K) : ∀ j, CallR (X j) (.type "list") (rListC T.K) := fun j => by
  have h : CallR (X j) (.type "list") (rListC (X j).K) := call_list_of
  rw [hK j] at h
  exact h
/-- tuple(xs) -/
def dTuple : List D → Option D
  | [.lst ds] => some (.tup ds)
  | [.tup ds] => some (.tup ds)
  | _ => none
def rTupC (K : PySem.W.Frag) : List V → Hp → VK → Prop := fun xs H Q => ∃ p ys, xs = [.ref p] ∧ ((SqL K H p ys ∧ ∀ l, H l = none → Q (.ref l) (upd H l (.tup ys))) ∨ (SqT K H p ys ∧ Q (.ref p) H))
theorem cd_tuple {T : Tab} {m : Md} : CallD T m m (rTupC T.K) dTuple := fun W xs dxs d r h Q q => by
  cases dxs with
  | nil => cases h
  | cons dx r2 =>
    cases r2 with
    | cons _ _ => cases dx <;> cases h
    | nil =>
      obtain ⟨v, vr, rfl, rv, e⟩ := r
      have e' : vr = [] := e
      subst e'
      cases dx with
      | lst ds =>
        cases h
        obtain ⟨p, vs, rfl, s, l⟩ := rv
        exact ⟨p, vs, rfl, .inl ⟨(W.atH m).sqL s, fun a n => q _ _ (W.newT_step n (m := m)) (W.newT n l)⟩⟩
      | tup ds =>
        cases h
        obtain ⟨p, vs, rfl, s, l⟩ := rv
        exact ⟨p, vs, rfl, .inr ⟨(W.atH m).sqT s, q _ W (Step.refl _ _) ⟨p, vs, rfl, s, l⟩⟩⟩
      | _ => cases h
theorem cr_tuple' (hK : ∀ j, (X j).K = T.K) : ∀ j, CallR (X j) (.type "tuple") (rTupC T.K) := fun j => by
  have h : CallR (X j) (.type "tuple") (rTupC (X j).K) := call_tuple_of
  rw [hK j] at h
  exact h
end

/-! ### ==, != of data; in; is None -/
mutual
def D.py : D → PyData
  | .non => .none
  | .bl b => .bool b
  | .int i => .int i
  | .str s => .str s
  | .lst xs => .list (D.pys xs)
  | .tup xs => .tuple (D.pys xs)
  | .dct _ _ => .dict []
  | .nst _ => .dict []
  | .obj _ _ _ => .dict []
def D.pys : List D → List PyData
  | [] => []
  | d :: ds => d.py :: D.pys ds
end
mutual
theorem Rp.dp {T : Tab} {G H : Hp} (hs : Sub G H) : ∀ (d : D) (v : V), d.py.canLay0 = true → Rp T G d v → Dp T.K H v d.py
  | .non, v, _, r => by cases r; exact .non
  | .bl b, v, _, r => by cases r; exact .bl b
  | .int i, v, _, r => by cases r; exact .int i
  | .str x, v, _, r => by cases r; exact .str x
  | .lst ds, v, h, ⟨a, vs, e, q, k⟩ => by
    subst e
    exact .lst (hs.sqL q) (RpL.dp hs ds vs (by simpa [D.py, PyData.canLay0] using h) k)
  | .tup ds, v, h, ⟨a, vs, e, q, k⟩ => by
    subst e
    exact .tup (hs.sqT q) (RpL.dp hs ds vs (by simpa [D.py, PyData.canLay0] using h) k)
  | .dct _ _, _, h, _ => by simp [D.py, PyData.canLay0] at h
  | .nst _, _, h, _ => by simp [D.py, PyData.canLay0] at h
  | .obj _ _ _, _, h, _ => by simp [D.py, PyData.canLay0] at h
theorem RpL.dp {T : Tab} {G H : Hp} (hs : Sub G H) : ∀ (ds : List D) (vs : List V), PyData.canLayAll0 (D.pys ds) = true → RpL T G ds vs → DpAll T.K H vs (D.pys ds)
  | [], vs, _, r => by
    have e : vs = [] := r
    subst e
    exact .nil
  | d :: ds, vs, h, ⟨v, r, e, q, k⟩ => by
    subst e
    have h' : d.py.canLay0 = true ∧ PyData.canLayAll0 (D.pys ds) = true := by
      simpa [D.pys, PyData.canLayAll0] using h
    exact .cons (Rp.dp hs d v h'.1 q) (RpL.dp hs ds r h'.2 k)
end
/-- may be compared -/
def D.ok (d : D) : Bool := SeqAt.shaped d.py
def D.eqv (a b : D) : Bool := PyData.eqv a.py b.py
def dEq (a b : D) : Option D := if a.ok && b.ok then some (.bl (a.eqv b)) else none
def dNe (a b : D) : Option D := if a.ok && b.ok then some (.bl (!a.eqv b)) else none
theorem Rp.dpo {T : Tab} {G H : Hp} (hs : Sub G H) {d : D} {v : V} (h : d.ok = true) (r : Rp T G d v) : Dp T.K H v d.py := Rp.dp hs d v (SeqAt.canLay_of_shaped h) r
theorem opd_eq {T : Tab} {m1 m2 : Md} : OpD T m1 m2 .p (rEqD T.K) dEq := fun W x y dx dy d r1 r2 h Q q => by
  unfold dEq at h
  by_cases c : (dx.ok && dy.ok) = true
  · rw [if_pos c] at h
    cases h
    rw [Bool.and_eq_true] at c
    exact ⟨_, _, Rp.dpo (W.atH m1) c.1 r1, Rp.dpo (W.atH m2) c.2 r2, c.1, c.2, q _ W (Step.refl _ _) rfl⟩
  · rw [if_neg c] at h
    cases h
theorem opd_ne {T : Tab} {m1 m2 : Md} : OpD T m1 m2 .p (rNeD T.K) dNe := fun W x y dx dy d r1 r2 h Q q => by
  unfold dNe at h
  by_cases c : (dx.ok && dy.ok) = true
  · rw [if_pos c] at h
    cases h
    rw [Bool.and_eq_true] at c
    exact ⟨_, _, Rp.dpo (W.atH m1) c.1 r1, Rp.dpo (W.atH m2) c.2 r2, c.1, c.2, q _ W (Step.refl _ _) rfl⟩
  · rw [if_neg c] at h
    cases h
/-- x in xs, xs a list of data -/
def dIn (x y : D) : Option D := match y with
  | .lst ds => if x.ok && y.ok then some (.bl (ds.any fun z => z.eqv x)) else none
  | _ => none
def dNotIn (x y : D) : Option D := match y with
  | .lst ds => if x.ok && y.ok then some (.bl (!ds.any fun z => z.eqv x)) else none
  | _ => none
theorem any_pys {x : D} : ∀ ds : List D, ((D.pys ds).any fun z => PyData.eqv z x.py) = ds.any fun z => z.eqv x
  | [] => rfl
  | d :: ds => by
    show (PyData.eqv d.py x.py || (D.pys ds).any _) = (d.eqv x || ds.any _)
    rw [any_pys ds]
    rfl
theorem opd_in {T : Tab} {m1 m2 : Md} : OpD T m1 m2 .p (rInD T.K) dIn := fun W x y dx dy d r1 r2 h Q q => by
  cases dy with
  | lst ds =>
    have h' : (if (dx.ok && (D.lst ds).ok) = true then some (D.bl (ds.any fun z => z.eqv dx)) else none) = some d := h
    by_cases c : (dx.ok && (D.lst ds).ok) = true
    · rw [if_pos c] at h'
      cases h'
      rw [Bool.and_eq_true] at c
      refine ⟨_, D.pys ds, Rp.dpo (W.atH m1) c.1 r1, Rp.dpo (W.atH m2) c.2 r2, c.1, c.2, ?_⟩
      rw [any_pys]
      exact q _ W (Step.refl _ _) rfl
    · rw [if_neg c] at h'
      cases h'
  | _ => cases h
theorem opd_notIn {T : Tab} {m1 m2 : Md} : OpD T m1 m2 .p (rNotInD T.K) dNotIn := fun W x y dx dy d r1 r2 h Q q => by
  cases dy with
  | lst ds =>
    have h' : (if (dx.ok && (D.lst ds).ok) = true then some (D.bl (!ds.any fun z => z.eqv dx)) else none) = some d := h
    by_cases c : (dx.ok && (D.lst ds).ok) = true
    · rw [if_pos c] at h'
      cases h'
      rw [Bool.and_eq_true] at c
      refine ⟨_, D.pys ds, Rp.dpo (W.atH m1) c.1 r1, Rp.dpo (W.atH m2) c.2 r2, c.1, c.2, ?_⟩
      rw [any_pys]
      exact q _ W (Step.refl _ _) rfl
    · rw [if_neg c] at h'
      cases h'
  | _ => cases h
def D.isNon : D → Bool
  | .non => true
  | _ => false
theorem Rp.isNon {T : Tab} {G : Hp} {d : D} {v : V} (r : Rp T G d v) : decide (v = V.non) = d.isNon := by
  cases d with
  | non => cases r; rfl
  | bl _ => cases r; rfl
  | int _ => cases r; rfl
  | str _ => cases r; rfl
  | lst _ => obtain ⟨_, _, rfl, _⟩ := r; rfl
  | tup _ => obtain ⟨_, _, rfl, _⟩ := r; rfl
  | dct _ _ => obtain ⟨_, _, rfl, _⟩ := r; rfl
  | obj _ _ _ => obtain ⟨_, _, _, rfl, _⟩ := r; rfl
  | nst _ => obtain ⟨_, _, rfl, _⟩ := r; rfl
def dIs (x y : D) : Option D := match y with
  | .non => some (.bl x.isNon)
  | _ => none
def dIsNot (x y : D) : Option D := match y with
  | .non => some (.bl (!x.isNon))
  | _ => none
theorem opd_is {T : Tab} {m1 m2 : Md} : OpD T m1 m2 .p (fun x y H Q => y = .non ∧ Q (.bl (decide (x = .non))) H) dIs := fun W x y dx dy d r1 r2 h Q q => by
  cases dy with
  | non =>
    cases h
    exact ⟨r2, by rw [r1.isNon]; exact q _ W (Step.refl _ _) rfl⟩
  | _ => cases h
theorem opd_isNot {T : Tab} {m1 m2 : Md} : OpD T m1 m2 .p (fun x y H Q => y = .non ∧ Q (.bl (!decide (x = .non))) H) dIsNot := fun W x y dx dy d r1 r2 h Q q => by
  cases dy with
  | non =>
    cases h
    exact ⟨r2, by rw [r1.isNon]; exact q _ W (Step.refl _ _) rfl⟩
  | _ => cases h
section
variable {ι : Type} {X : ι → Cx} {T : Tab} {me : List Md} {e a b c : Expr} {m m1 m2 : Md} {f fa fb fc : List SV → Option D} {pos : Pos}
/-- what of the context the rules ask -/
structure XOk (X : ι → Cx) (T : Tab) (k : Nat) : Prop where
  K : ∀ j, (X j).K = T.K
  calm : ∀ j, (X j).calm = true
  room : ∀ j, Room k (X j).A
theorem XOk.eqR {k : Nat} (o : XOk X T k) : ∀ j, OpR (X j) (compareOp .Eq) (rEqD T.K) := fun j => by
  have h : OpR (X j) (compareOp .Eq) (rEqD (X j).K) := op_eqD (o.room j).units
  rw [o.K j] at h
  exact h
theorem XOk.neR {k : Nat} (o : XOk X T k) : ∀ j, OpR (X j) (compareOp .NotEq) (rNeD T.K) := fun j => by
  have h : OpR (X j) (compareOp .NotEq) (rNeD (X j).K) := op_neD (o.room j).units
  rw [o.K j] at h
  exact h
end
end My

set_option Elab.async false
set_option linter.all false
set_option maxRecDepth 100000
set_option maxHeartbeats 4000000
/-! M5: what is walked, targets, list comprehensions; calls of defs that change nothing. -/
namespace My
open PySem L2

/-! ### what is walked -/
/-- J yields the data ds, wherever what was known at W stands -/
structure ItOk (T : Tab) (ms m : Md) (J : It) (ds : List D) (W : World) : Prop where
  go : ∀ (W2 : World) (i : Nat), Sub (W.at ms) (W2.at ms) → i < ds.length → J.go i W2.H
  yld : ∀ (W2 : World) (i : Nat) (x : V) (H' : Hp), Sub (W.at ms) (W2.at ms) → i < ds.length → J.yld i W2.H x H' → ∃ W3 d, Step [] W2 W3 ∧ H' = W3.H ∧ ds[i]? = some d ∧ Rp T (W3.at m) d x
  stop : ∀ (W2 : World) (i : Nat), Sub (W.at ms) (W2.at ms) → ds.length ≤ i → J.stop i W2.H
def SI (T : Tab) (me : List Md) (wi : TI) (ms m : Md) (f : List SV → Option (List D)) : Prop :=
  ∀ (W : World) (σ : List (Option V)) (s : List SV) (F : List Addr), St T W me σ s F → ∀ ds, f s = some ds → ∀ R : It → Hp → Prop, (∀ J W', Step [] W W' → ItOk T ms m J ds W' → R J W'.H) → wi σ W.H R
structure FI {ι : Type} (X : ι → Cx) (T : Tab) (me : List Md) (tg iter : Expr) (ms m : Md) (f : List SV → Option (List D)) : Prop where
  ex : ∃ wi, (∀ j, PI (X j) tg iter wi) ∧ SI T me wi ms m f
theorem it_list {T : Tab} {m : Md} {W : World} {a : Addr} {vs : List V} {ds : List D} (hq : SqL T.K (W.at m) a vs) (r : RpL T (W.at m) ds vs) : ItOk T m m (Itl T.K a) ds W where
  go := fun W2 i hs hi => by
    obtain ⟨v, h1, _⟩ := r.get (List.getElem?_eq_getElem hi)
    exact ⟨vs, v, (W2.atH m).sqL (hs.sqL hq), h1⟩
  yld := fun W2 i x H' hs hi y => by
    obtain ⟨e, y⟩ := y
    have h1 := y vs ((W2.atH m).sqL (hs.sqL hq))
    obtain ⟨d, h2, h3⟩ := r.getV h1
    exact ⟨W2, d, Step.refl _ _, e, h2, Rp.mono hs d x h3⟩
  stop := fun W2 i hs hi => ⟨vs, (W2.atH m).sqL (hs.sqL hq), by rw [← r.length]; exact hi⟩
theorem it_tup {T : Tab} {m : Md} {W : World} {a : Addr} {vs : List V} {ds : List D} (hq : SqT T.K (W.at m) a vs) (r : RpL T (W.at m) ds vs) : ItOk T m m (Itt T.K a) ds W where
  go := fun W2 i hs hi => by
    obtain ⟨v, h1, _⟩ := r.get (List.getElem?_eq_getElem hi)
    exact ⟨vs, v, (W2.atH m).sqT (hs.sqT hq), h1⟩
  yld := fun W2 i x H' hs hi y => by
    obtain ⟨e, y⟩ := y
    have h1 := y vs ((W2.atH m).sqT (hs.sqT hq))
    obtain ⟨d, h2, h3⟩ := r.getV h1
    exact ⟨W2, d, Step.refl _ _, e, h2, Rp.mono hs d x h3⟩
  stop := fun W2 i hs hi => ⟨vs, (W2.atH m).sqT (hs.sqT hq), by rw [← r.length]; exact hi⟩
/-- lo, lo + 1, .. (n of them) -/
def rngD (lo : Int) (n : Nat) : List D := (List.range n).map fun (i : Nat) => D.int (lo + (i : Int))
theorem rngD_length (lo : Int) (n : Nat) : (rngD lo n).length = n := by unfold rngD; rw [List.length_map, List.length_range]
theorem rngD_get {lo : Int} {n i : Nat} (h : i < n) : (rngD lo n)[i]? = some (.int (lo + (i : Int))) := by
  unfold rngD
  rw [List.getElem?_map, List.getElem?_range h]
  rfl
theorem it_range {T : Tab} {W : World} (lo : Int) (n : Nat) : ItOk T .p .p (Itr lo n) (rngD lo n) W where
  go := fun W2 i _ hi => by
    rw [rngD_length] at hi
    exact hi
  yld := fun W2 i x H' _ hi y => by
    obtain ⟨e, y⟩ := y
    rw [rngD_length] at hi
    exact ⟨W2, _, Step.refl _ _, e, rngD_get hi, y⟩
  stop := fun W2 i _ hi => by
    rw [rngD_length] at hi
    exact hi
def dItems (f : List SV → Option D) (s : List SV) : Option (List D) := (f s).bind fun d => match d with
  | .lst ds => some ds
  | _ => none
def dItemsT (f : List SV → Option D) (s : List SV) : Option (List D) := (f s).bind fun d => match d with
  | .tup ds => some ds
  | _ => none
def rngOk (j : Int) : Bool := Nat.ble j.natAbs 1000000000000000
theorem rngOk_to {j : Int} (h : rngOk j = true) : -(2 ^ 62) ≤ j ∧ j < 2 ^ 62 := by
  have := Nat.le_of_ble_eq_true h
  omega
theorem rngOk_of {j : Int} (h : j.natAbs ≤ 1000000000000000) : rngOk j = true := Nat.ble_eq_true_of_le h
def dRange1 (f : List SV → Option (List D)) (s : List SV) : Option (List D) := (f s).bind fun ds => match ds with
  | [.int n] => if rngOk n then some (rngD 0 n.toNat) else none
  | _ => none
def dRange2 (f : List SV → Option (List D)) (s : List SV) : Option (List D) := (f s).bind fun ds => match ds with
  | [.int i, .int n] => if rngOk i && rngOk n then some (rngD i (n - i).toNat) else none
  | _ => none
section
variable {ι : Type} {X : ι → Cx} {T : Tab} {me : List Md} {tg e a b : Expr} {m m1 m2 : Md} {f : List SV → Option D} {fs : List SV → Option (List D)} {pos p : Pos}
theorem fi_up (k : Md) (h : FI X T me tg e m1 m fs) (l : m.le k = true) : FI X T me tg e m1 k fs := by
  obtain ⟨wi, h1, h2⟩ := h.ex
  refine ⟨wi, h1, fun W σ s F st ds hd R q => h2 W σ s F st ds hd R fun J W1 t1 ok => q J W1 t1 ⟨ok.go, fun W2 i x H' hs hi y => ?_, ok.stop⟩⟩
  obtain ⟨W3, d, a1, a2, a3, a4⟩ := ok.yld W2 i x H' hs hi y
  exact ⟨W3, d, a1, a2, a3, Rp.mono (W3.le l) d x a4⟩
theorem fi_list (hK : ∀ j, (X j).K = T.K) (h : FP X T me e m f) : FI X T me tg e m m (dItems f) := by
  obtain ⟨te, h1, h2⟩ := h.ex
  refine ⟨iList T.K te, fun j => by have := pi_list (tg := tg) (h1 j); rw [hK j] at this; exact this, fun W σ s F st ds hd R q => ?_⟩
  obtain ⟨d, k1, k2⟩ := bind_some hd
  refine h2 W σ s F st d k1 _ fun v W1 t1 r1 => ?_
  cases d with
  | lst xs =>
    cases k2
    obtain ⟨a, vs, rfl, sq, l⟩ := r1
    exact ⟨a, rfl, ⟨vs, (W1.atH m).sqL sq⟩, q _ W1 t1 (it_list sq l)⟩
  | _ => cases k2
theorem fi_tup (hK : ∀ j, (X j).K = T.K) (h : FP X T me e m f) : FI X T me tg e m m (dItemsT f) := by
  obtain ⟨te, h1, h2⟩ := h.ex
  refine ⟨iTup T.K te, fun j => by have := pi_tup (tg := tg) (h1 j); rw [hK j] at this; exact this, fun W σ s F st ds hd R q => ?_⟩
  obtain ⟨d, k1, k2⟩ := bind_some hd
  refine h2 W σ s F st d k1 _ fun v W1 t1 r1 => ?_
  cases d with
  | tup xs =>
    cases k2
    obtain ⟨a, vs, rfl, sq, l⟩ := r1
    exact ⟨a, rfl, ⟨vs, (W1.atH m).sqT sq⟩, q _ W1 t1 (it_tup sq l)⟩
  | _ => cases k2
theorem fi_range1 (hg : ∀ j, Gl (X j) "range") (hm : ∀ j, (X j).mg "range" = none) (h : FA X T me [a] m fs) (hs : ∀ j, starEach [a] (X j).env = [(false, eval a (X j).env)] := by intro _; rfl) : FI X T me tg (.Call (.Name "range" p) [a] [] pos) .p .p (dRange1 fs) := by
  obtain ⟨ta, h1, h2⟩ := h.ex
  refine ⟨iRng1 ta, fun j => pi_range1 (hg j) (hm j) (h1 j) (hs j), fun W σ s F st ds hd R q => ?_⟩
  obtain ⟨as, k1, k2⟩ := bind_some hd
  refine h2 W σ s F st as k1 _ fun vs W1 t1 r1 => ?_
  split at k2
  · rename_i n
    by_cases c : rngOk n = true
    · rw [if_pos c] at k2
      cases k2
      obtain ⟨v, vr, rfl, rv, e⟩ := r1
      have e' : vr = [] := e
      subst e'
      cases rv
      have c' := rngOk_to c
      exact ⟨n, rfl, c'.1, c'.2, q _ W1 t1 (it_range 0 n.toNat)⟩
    · rw [if_neg c] at k2
      cases k2
  · cases k2
theorem fi_range2 (hg : ∀ j, Gl (X j) "range") (hm : ∀ j, (X j).mg "range" = none) (h : FA X T me [a, b] m fs) (hs : ∀ j, starEach [a, b] (X j).env = [(false, eval a (X j).env), (false, eval b (X j).env)] := by intro _; rfl) (hs2 : ∀ j, starEach [b] (X j).env = [(false, eval b (X j).env)] := by intro _; rfl) :
    FI X T me tg (.Call (.Name "range" p) [a, b] [] pos) .p .p (dRange2 fs) := by
  obtain ⟨ta, h1, h2⟩ := h.ex
  refine ⟨iRng2 ta, fun j => pi_range2 (hg j) (hm j) (h1 j) (hs j) (hs2 j), fun W σ s F st ds hd R q => ?_⟩
  obtain ⟨as, k1, k2⟩ := bind_some hd
  refine h2 W σ s F st as k1 _ fun vs W1 t1 r1 => ?_
  split at k2
  · rename_i i n
    by_cases c : (rngOk i && rngOk n) = true
    · rw [if_pos c] at k2
      cases k2
      obtain ⟨v, vr, rfl, rv, v2, vr2, rfl, rv2, e⟩ := r1
      have e' : vr2 = [] := e
      subst e'
      cases rv
      cases rv2
      rw [Bool.and_eq_true] at c
      have c1 := rngOk_to c.1
      have c2 := rngOk_to c.2
      exact ⟨i, n, rfl, ⟨c1.1, c1.2, c2.1, c2.2⟩, q _ W1 t1 (it_range i (n - i).toNat)⟩
    · rw [if_neg c] at k2
      cases k2
  · cases k2
end

/-! ### targets -/
/-- the target's names lie in vs -/
def SG (T : Tab) (me : List Md) (g : TG) (m : Md) (vs : List Nat) (bind : D → List SV → Option (List SV)) : Prop :=
  ∀ (W : World) (σ : List (Option V)) (s : List SV) (F : List Addr) (x : V) (d : D) (s' : List SV), St T W me σ s F → Rp T (W.at m) d x → bind d s = some s' → ∀ Q : List (Option V) → Hp → Prop,
    (∀ σ' W' F', Step [] W W' → St T W' me σ' s' F' → (∀ a ∈ F', a ∈ F) → (F.Nodup → F'.Nodup) → wipe σ' vs = wipe σ vs → Q σ' W'.H) → g x σ W.H Q
structure FG {ι : Type} (X : ι → Cx) (T : Tab) (me : List Md) (tg : Expr) (m : Md) (vs : List Nat) (bind : D → List SV → Option (List SV)) : Prop where
  ex : ∃ g, (∀ j, PG (X j) tg g) ∧ SG T me g m vs bind
def bName (i : Nat) (d : D) (s : List SV) : Option (List SV) := some (s.set i (.fz d))
theorem set_wipe {σ : List (Option V)} {i : Nat} {x : Option V} : ∀ {vs : List Nat}, i ∈ vs → wipe (σ.set i x) vs = wipe σ vs
  | v :: vs, h => by
    show (wipe (σ.set i x) vs).set v none = (wipe σ vs).set v none
    by_cases e : i ∈ vs
    · rw [set_wipe e]
    · have e2 : i = v := by
        rcases List.mem_cons.mp h with z | z
        · exact z
        · exact absurd z e
      subst e2
      have k : ∀ us : List Nat, i ∉ us → wipe (σ.set i x) us = (wipe σ us).set i x := by
        intro us
        induction us with
        | nil => intro _; rfl
        | cons u us ih =>
          intro hu
          show (wipe (σ.set i x) us).set u none = ((wipe σ us).set u none).set i x
          rw [ih (fun z => hu (List.mem_cons_of_mem _ z))]
          rw [List.set_comm _ _ (fun z => hu (by rw [z]; exact List.mem_cons_self))]
      rw [k vs e, List.set_set]
section
variable {ι : Type} {X : ι → Cx} {T : Tab} {me : List Md} {m : Md} {pos : Pos}
theorem fg_name (i : Nat) {x : Str} {vs : List Nat} (hN : ∀ j, (X j).N.Nodup) (hi : ∀ j, (X j).N[i]? = some x := by intro _; rfl) (hx : ∀ j, Loc (X j).env.scope x := by intro _; first | exact Or.inl rfl | exact Or.inr rfl)
    (hf : ∀ j, (X j).fn x = true ∨ (X j).env.scope.names.lookup x = some .local := by intro _; first | exact .inl rfl | exact .inr rfl) (hm : me[i]? = some m := by rfl) (hq : m ≠ .q := by decide) (hv : i ∈ vs := by decide) : FG X T me (.Name x pos) m vs (bName i) := by
  refine ⟨gName i, fun j => pg_name (hN j) (hi j) (hx j) (hf j), fun W σ s F v d s' st r hb Q q => ?_⟩
  cases hb
  obtain ⟨F', st', sub, nd⟩ := st.put hm hq r
  exact q _ W F' (Step.refl _ _) st' sub nd (set_wipe hv)
end

/-! ### comprehensions -/
def Blk {ι : Type} (X : ι → Cx) (scope : Scope) : ι × Shared × Hp × Addr × List (Str × Addr) × List Addr → Cx :=
  fun q => (X q.1).blk q.2.1 q.2.2.1 scope (compEnvC scope q.2.2.2.2.1 q.2.2.2.1 (X q.1).env) q.2.2.2.2.2
def wipeS (s : List SV) : List Nat → List SV
  | [] => s
  | v :: vs => (wipeS s vs).set v .un
theorem st_wipes {T : Tab} {W : World} {me : List Md} {σ : List (Option V)} {s : List SV} {F : List Addr} (st : St T W me σ s F) : ∀ vs : List Nat, (∀ v ∈ vs, me[v]? ≠ some .q) → ∃ F', St T W me (L2.wipe σ vs) (wipeS s vs) F' ∧ (∀ a ∈ F', a ∈ F) ∧ (F.Nodup → F'.Nodup)
  | [], _ => ⟨F, st, fun _ z => z, id⟩
  | v :: vs, hq => by
    obtain ⟨F1, s1, h1, n1⟩ := st_wipes st vs fun u hu => hq u (by simp [hu])
    obtain ⟨F2, s2, h2, n2⟩ := s1.wipe v (hq v (by simp))
    exact ⟨F2, s2, fun a z => h1 a (h2 a z), fun z => n2 (n1 z)⟩
def wipe_wipe (σ : List (Option V)) : ∀ vs : List Nat, wipe (wipe σ vs) vs = wipe σ vs := by
  intro vs
  have k : ∀ (us : List Nat) (τ : List (Option V)), (∀ i ∈ us, τ[i]? = none ∨ τ[i]? = some none) → wipe τ us = τ := by
    intro us
    induction us with
    | nil => intro _ _; rfl
    | cons u us ih =>
      intro τ h
      show (wipe τ us).set u none = τ
      rw [ih τ fun i hi => h i (List.mem_cons_of_mem _ hi)]
      rcases h u List.mem_cons_self with e | e
      · exact List.set_eq_of_length_le (List.getElem?_eq_none_iff.mp e)
      · apply List.ext_getElem?
        intro i
        by_cases hi : u = i
        · subst hi
          rw [e]
          have := (List.getElem?_eq_some_iff.mp e).1
          rw [List.getElem?_set_self this]
        · rw [List.getElem?_set_ne hi]
  refine k vs (wipe σ vs) fun i hi => ?_
  cases e : (wipe σ vs)[i]? with
  | none => exact .inl rfl
  | some x =>
    cases x with
    | none => exact .inr rfl
    | some y => exact absurd hi (wipe_some e).2
structure FTs {ι : Type} (X : ι → Cx) (T : Tab) (me : List Md) (ifs : List Expr) (p : List SV → Option Bool) : Prop where
  ex : ∃ tt, (∀ j, PTs (X j) ifs tt) ∧ SB T me tt p
def dYes (_ : List SV) : Option Bool := some true
theorem fts_nil {ι : Type} {X : ι → Cx} {T : Tab} {me : List Md} : FTs X T me [] dYes := ⟨tYes, fun _ => pts_nil, fun W σ s F st b h Q q => by cases h; exact q W (Step.refl _ _)⟩
theorem fts_one {ι : Type} {X : ι → Cx} {T : Tab} {me : List Md} {c : Expr} {p : List SV → Option Bool} (h : FT X T me c p) : FTs X T me [c] p := let ⟨t, h1, h2⟩ := h.ex; ⟨t, fun j => pts_one (h1 j), h2⟩
def lcGo (s : List SV) (bind : D → List SV → Option (List SV)) (p : List SV → Option Bool) (fe : List SV → Option D) : List D → Option (List D)
  | [] => some []
  | d :: ds => (bind d s).bind fun s1 => (p s1).bind fun b => if b then (fe s1).bind fun y => (lcGo s bind p fe ds).map (y :: ·) else lcGo s bind p fe ds
def dLc (fi : List SV → Option (List D)) (vs : List Nat) (bind : D → List SV → Option (List SV)) (p : List SV → Option Bool) (fe : List SV → Option D) (s : List SV) : Option OD :=
  (fi s).bind fun ds => if ds.length ≤ sizeLine then (lcGo (wipeS s vs) bind p fe ds).map oL else none
/-- the object at p changes -/
def World.mut (W : World) (p : Addr) (o : HO) (n : W.B p = none) : World where
  G := W.G
  B := W.B
  H := upd W.H p o
  gb := W.gb
  bh := W.bh.new n
  pin := W.pin
theorem RpO.flat {T : Tab} {m : Md} {W : World} {p : Addr} {ds : List D} {vs : List V} (h : W.H p = some (.lst vs)) (n : W.B p = none) (r : RpL T (W.at m) ds vs) : RpO T m W (oL ds) (.ref p) [p] := ⟨p, vs, [], rfl, rfl, h, n, RpOL.of r⟩
section
variable {ι : Type} {X : ι → Cx} {T : Tab} {me : List Md} {tg iter elt : Expr} {ifs : List Expr} {ms m m2 : Md} {scope : Scope} {own : List (Str × Nat)} {pos : Pos} {fi : List SV → Option (List D)} {bind : D → List SV → Option (List SV)} {p : List SV → Option Bool} {fe : List SV → Option D}
theorem so_lc {wi : TI} {g : TG} {tt : TT} {te : TE} {vs : List Nat} (hi : SI T me wi ms m fi) (hg : SG T me g m vs bind) (ht : SB T me tt p) (he : SP T me te m2 fe) (hm : m2 ≠ .h) (hq : ∀ v ∈ vs, me[v]? ≠ some .q) : SO T me (tLc wi g tt te vs) m2 (dLc fi vs bind p fe) := fun W σ s F st o ho Q q => by
  obtain ⟨ds, k1, ho⟩ := bind_some ho
  by_cases c : ds.length ≤ sizeLine
  · rw [if_pos c] at ho
    obtain ⟨ys, k2, rfl⟩ := map_some ho
    refine hi W σ s F st ds k1 _ fun J W1 t1 it => ?_
    intro Dl hD
    obtain ⟨F0, st0, _, _⟩ := st_wipes (st.step t1) vs hq
    -- the invariant
    refine ⟨fun i n H => ∃ (W2 : World) (done rest : List D) (acc : List V), H = W2.H ∧ n = ds.length - i ∧ i ≤ ds.length ∧ Step [] W1 W2 ∧ W2.H Dl = some (.lst acc) ∧ W2.B Dl = none ∧ RpL T (W2.at m2) done acc ∧ done.length ≤ i ∧
      lcGo (wipeS s vs) bind p fe (ds.drop i) = some rest ∧ done ++ rest = ys, ⟨ds.length, W1.lay Dl (.lst []) hD, [], ys, [], rfl, by simp, Nat.zero_le _, W1.lay_step hD, upd_same, W1.freshB hD, rfl, Nat.zero_le _, by simpa using k2, rfl⟩, ?_⟩
    rintro i n H ⟨W2, done, rest, acc, rfl, rfl, hle, t2, eD, nB, rl, hdl, k3, k4⟩
    have hsub : Sub (W1.at ms) (W2.at ms) := t2.at ms
    by_cases hlt : i < ds.length
    · refine .inr ⟨it.go W2 i hsub hlt, fun H' => ∃ (W2 : World) (done rest : List D) (acc : List V), H' = W2.H ∧ Step [] W1 W2 ∧ W2.H Dl = some (.lst acc) ∧ W2.B Dl = none ∧ RpL T (W2.at m2) done acc ∧ done.length ≤ i + 1 ∧
        lcGo (wipeS s vs) bind p fe (ds.drop (i + 1)) = some rest ∧ done ++ rest = ys, ?_, fun x H' y => ?_⟩
      · rintro H' ⟨W3, done, rest, acc, rfl, a1, a2, a3, a4, a5, a6, a7⟩
        exact ⟨ds.length - (i + 1), by omega, W3, done, rest, acc, rfl, rfl, hlt, a1, a2, a3, a4, a5, a6, a7⟩
      · obtain ⟨W3, d, t3, rfl, hd, rd⟩ := it.yld W2 i x H' hsub hlt y
        have edrop : ds.drop i = d :: ds.drop (i + 1) := by
          rw [List.drop_eq_getElem_cons hlt]
          have := (List.getElem?_eq_some_iff.mp hd).2
          rw [this]
        rw [edrop] at k3
        obtain ⟨s1, b1, k3⟩ := bind_some k3
        obtain ⟨bb, b2, k3⟩ := bind_some k3
        have t13 := t2.pure t3
        refine hg W3 (wipe σ vs) (wipeS s vs) F0 x d s1 (st0.step t13) rd b1 _ fun σ2 W4 F4 t4 st4 _ _ hw => ?_
        refine ⟨by rw [hw, wipe_wipe], ht W4 σ2 s1 F4 st4 bb b2 _ fun W5 t5 => ?_⟩
        have t25 := (t3.pure t4).pure t5
        have t15 := t2.pure t25
        have eD5 : W5.H Dl = some (.lst acc) := t25.h _ _ eD (by simp)
        have nB5 : W5.B Dl = none := t25.nb Dl (by rw [eD]; trivial) (by simp) nB
        cases bb with
        | true =>
          have k5 := k3
          rw [if_pos rfl] at k5
          obtain ⟨y, b3, k5⟩ := bind_some k5
          obtain ⟨rest', k6, rfl⟩ := map_some k5
          show te σ2 W5.H _
          refine he W5 σ2 s1 F4 (st4.step t5) y b3 _ fun v W6 t6 rv => ?_
          have t26 := t25.pure t6
          have eD6 : W6.H Dl = some (.lst acc) := t26.h _ _ eD (by simp)
          have nB6 : W6.B Dl = none := t26.nb Dl (by rw [eD]; trivial) (by simp) nB
          have hla : acc.length = done.length := rl.length.symm
          refine ⟨acc, eD6, by omega, W6.mut Dl (.lst (acc ++ [v])) nB6, done ++ [y], rest', acc ++ [v], rfl, ?_, upd_same, nB6, ?_, by simp; omega, k6, by simpa using k4⟩
          · have t16 := t15.pure t6
            exact ⟨t16.g, t16.b, fun a u e _ => by
              show upd W6.H Dl _ a = some u
              rw [upd_ne (ne_of_none e hD)]
              exact t16.h a u e (by simp), fun a h => by
              show upd W6.H Dl _ a ≠ none
              unfold upd
              split
              · simp
              · exact t16.dom a h, t16.nb, t16.ng, t16.pin⟩
          · have e : (W6.mut Dl (.lst (acc ++ [v])) nB6).at m2 = W6.at m2 := by
              cases m2 with
              | p => rfl
              | b => rfl
              | h => exact absurd rfl hm
              | q => rfl
            rw [e]
            exact (RpL.mono (t26.at m2) done acc rl).append (RpL.one rv)
        | false =>
          have k5 : lcGo (wipeS s vs) bind p fe (ds.drop (i + 1)) = some rest := k3
          show ∃ (W2 : World) (done rest : List D) (acc : List V), W5.H = W2.H ∧ _
          exact ⟨W5, done, rest, acc, rfl, t15, eD5, nB5, RpL.mono (t25.at m2) done acc rl, by omega, k5, k4⟩
    · have e : i = ds.length := by omega
      refine .inl ⟨it.stop W2 i hsub (by omega), ?_⟩
      subst e
      rw [List.drop_length] at k3
      cases k3
      rw [List.append_nil] at k4
      subst k4
      exact q (.ref Dl) W2 [Dl] (t1.pure t2) (RpO.flat eD nB rl) (fun a ha => by
        have e : a = Dl := by simpa using ha
        rw [e]
        exact t1.back hD) (by simp)
  · rw [if_neg c] at ho
    cases ho
theorem fo_lc (hc : ∀ j, (X j).calm = true) (hN : ∀ j, (X j).N.Nodup) (hi : FI X T me tg iter ms m fi) (ok : ∀ j, BlkOk (X j).N (X j).env.scope scope own) (hg : FG (Blk X scope) T me tg m (own.map (·.2)) bind) (ht : FTs (Blk X scope) T me ifs p) (he : FP (Blk X scope) T me elt m2 fe)
    (hm : m2 ≠ .h := by decide) (hq : ∀ v ∈ own.map (·.2), me[v]? ≠ some .q := by decide) (hs : ∀ j, ∀ x, foldedSetIterable iter (X j).env x = pure x := by intro _ _; rfl) : FO X T me (.ListComp elt [⟨tg, iter, ifs, 0⟩] scope pos) m2 (dLc fi (own.map (·.2)) bind p fe) := by
  obtain ⟨wi, h1, h2⟩ := hi.ex
  obtain ⟨g, h3, h4⟩ := hg.ex
  obtain ⟨tt, h5, h6⟩ := ht.ex
  obtain ⟨te, h7, h8⟩ := he.ex
  exact ⟨_, fun j => pe_lc (hc j) (hN j) (h1 j) (ok j) (fun s H C cl fp => h3 (j, s, H, C, cl, fp)) (fun s H C cl fp => h5 (j, s, H, C, cl, fp)) (fun s H C cl fp => h7 (j, s, H, C, cl, fp)) (hs j), so_lc h2 h4 h6 h8 hm hq⟩
end
end My

set_option Elab.async false
set_option linter.all false
set_option maxRecDepth 100000
set_option maxHeartbeats 4000000
/-! M6: statements, and expressions that change what the def owns. -/
namespace My
open PySem L2

inductive Out where
  | nx (s : List SV)
  | rt (o : OD) (s : List SV)
  | bk (s : List SV)
  | ct (s : List SV)
def OutOk (T : Tab) (me : List Md) (W : World) (F : List Addr) (out : Out) (N : Ends) : Prop := match out with
  | .nx s' => ∀ σ' W' F', Step F W W' → NewF F F' W → St T W' me σ' s' F' → F'.Nodup → N.nx σ' W'.H
  | .bk s' => ∀ σ' W' F', Step F W W' → NewF F F' W → St T W' me σ' s' F' → F'.Nodup → N.bk σ' W'.H
  | .ct s' => ∀ σ' W' F', Step F W W' → NewF F F' W → St T W' me σ' s' F' → F'.Nodup → N.ct σ' W'.H
  | .rt o s' => ∀ v σ' W' F' Fr, Step F W W' → NewF F (F' ++ Fr) W → St T W' me σ' s' F' → RpO T .p W' o v Fr → (F' ++ Fr).Nodup → N.rt v W'.H
def SS (T : Tab) (me : List Md) (ts : TS) (f : List SV → Option Out) : Prop :=
  ∀ (W : World) (σ : List (Option V)) (s : List SV) (F : List Addr), St T W me σ s F → F.Nodup → ∀ out, f s = some out → ∀ N : Ends, OutOk T me W F out N → ts N σ W.H
def SX (T : Tab) (me : List Md) (te : TE) (m : Md) (f : List SV → Option (D × List SV)) : Prop :=
  ∀ (W : World) (σ : List (Option V)) (s : List SV) (F : List Addr), St T W me σ s F → F.Nodup → ∀ d s', f s = some (d, s') → ∀ Q : VK, (∀ v W' F', Step F W W' → NewF F F' W → St T W' me σ s' F' → F'.Nodup → Rp T (W'.at m) d v → Q v W'.H) → te σ W.H Q
/-- .. a new own tree -/
def SXo (T : Tab) (me : List Md) (te : TE) (m : Md) (f : List SV → Option (OD × List SV)) : Prop :=
  ∀ (W : World) (σ : List (Option V)) (s : List SV) (F : List Addr), St T W me σ s F → F.Nodup → ∀ o s', f s = some (o, s') → ∀ Q : VK, (∀ v W' F' Fr, Step F W W' → NewF F (F' ++ Fr) W → St T W' me σ s' F' → (F' ++ Fr).Nodup → RpO T m W' o v Fr → Q v W'.H) → te σ W.H Q
def SXb (T : Tab) (me : List Md) (tt : TT) (f : List SV → Option (Bool × List SV)) : Prop :=
  ∀ (W : World) (σ : List (Option V)) (s : List SV) (F : List Addr), St T W me σ s F → F.Nodup → ∀ b s', f s = some (b, s') → ∀ Q : Bool → Hp → Prop, (∀ W' F', Step F W W' → NewF F F' W → St T W' me σ s' F' → F'.Nodup → Q b W'.H) → tt σ W.H Q
section
variable {ι : Type}
structure FS (X : ι → Cx) (T : Tab) (me : List Md) (st : Stmt) (f : List SV → Option Out) : Prop where
  ex : ∃ ts, (∀ j, PS (X j) st ts) ∧ SS T me ts f
structure FSs (X : ι → Cx) (T : Tab) (me : List Md) (sts : List Stmt) (f : List SV → Option Out) : Prop where
  ex : ∃ ts, (∀ j, PSs (X j) sts ts) ∧ SS T me ts f
structure FX (X : ι → Cx) (T : Tab) (me : List Md) (e : Expr) (m : Md) (f : List SV → Option (D × List SV)) : Prop where
  ex : ∃ te, (∀ j, PE (X j) e te) ∧ SX T me te m f
structure FXo (X : ι → Cx) (T : Tab) (me : List Md) (e : Expr) (m : Md) (f : List SV → Option (OD × List SV)) : Prop where
  ex : ∃ te, (∀ j, PE (X j) e te) ∧ SXo T me te m f
structure FXb (X : ι → Cx) (T : Tab) (me : List Md) (e : Expr) (f : List SV → Option (Bool × List SV)) : Prop where
  ex : ∃ tt, (∀ j, PT (X j) e tt) ∧ SXb T me tt f
end

/-! ### own lists that change -/
theorem World.mut_step (W : World) {F : List Addr} {a : Addr} {o : HO} (n : W.B a = none) (h : a ∈ F) (hd : W.H a ≠ none) : Step F W (W.mut a o n) where
  g := Sub.refl _
  b := Sub.refl _
  h := fun c u e hf => by
    show upd W.H a o c = some u
    rw [upd_ne (fun z => hf (by rw [z]; exact h))]
    exact e
  dom := fun c h => by
    show upd W.H a o c ≠ none
    unfold upd
    split
    · simp
    · exact h
  nb := fun _ _ _ e => e
  ng := fun _ _ _ e => e
  pin := rfl
section
variable {T : Tab} {m : Md} {W W' : World}
theorem RpOL.append : ∀ {os us : List OD} {vs ws : List V} {F F2 : List Addr}, RpOL T m W os vs F → RpOL T m W us ws F2 → RpOL T m W (os ++ us) (vs ++ ws) (F ++ F2)
  | [], us, vs, ws, F, F2, ⟨e, ef⟩, h => by
    subst e ef
    exact h
  | o :: os, us, vs, ws, F, F2, ⟨v, r, F3, F4, e, ef, h1, h2⟩, h => by
    subst e ef
    exact ⟨v, r ++ ws, F3, F4 ++ F2, rfl, by simp, h1, RpOL.append h2 h⟩
theorem RpOL.length : ∀ {os : List OD} {vs : List V} {F : List Addr}, RpOL T m W os vs F → os.length = vs.length
  | [], _, _, ⟨e, _⟩ => by rw [e]; rfl
  | o :: os, _, _, ⟨v, r, F3, F4, e, _, _, h2⟩ => by rw [e, List.length_cons, List.length_cons, RpOL.length h2]
theorem RpOL.one {o : OD} {v : V} {F : List Addr} (h : RpO T m W o v F) : RpOL T m W [o] [v] F := ⟨v, [], F, [], rfl, by simp, h, rfl, rfl⟩
theorem RpOL.take : ∀ {os : List OD} {vs : List V} {F : List Addr} (n : Nat), RpOL T m W os vs F → ∃ F1 F2, F = F1 ++ F2 ∧ RpOL T m W (os.take n) (vs.take n) F1 ∧ RpOL T m W (os.drop n) (vs.drop n) F2
  | os, vs, F, 0, h => ⟨[], F, rfl, ⟨rfl, rfl⟩, h⟩
  | [], _, _, n + 1, ⟨e, ef⟩ => by
    subst e ef
    exact ⟨[], [], rfl, ⟨rfl, rfl⟩, ⟨rfl, rfl⟩⟩
  | o :: os, _, _, n + 1, ⟨v, r, F3, F4, e, ef, h1, h2⟩ => by
    subst e ef
    obtain ⟨F1, F2, e, k1, k2⟩ := RpOL.take n h2
    subst e
    exact ⟨F3 ++ F1, F2, by simp, ⟨v, r.take n, F3, F1, rfl, rfl, h1, k1⟩, k2⟩
theorem RpOL.set : ∀ {os : List OD} {vs : List V} {F : List Addr} (j : Nat) {d : D} {v : V}, RpOL T m W os vs F → Rp T (W.at m) d v → ∃ F', RpOL T m W (os.set j (.fz d)) (vs.set j v) F' ∧ F'.Sublist F
  | [], _, F, _, _, _, ⟨e, ef⟩, _ => by
    subst e ef
    exact ⟨[], ⟨rfl, rfl⟩, List.Sublist.refl _⟩
  | o :: os, _, _, 0, d, v, ⟨v0, r, F3, F4, e, ef, h1, h2⟩, h => by
    subst e ef
    exact ⟨F4, ⟨v, r, [], F4, rfl, rfl, ⟨rfl, h⟩, h2⟩, List.sublist_append_right _ _⟩
  | o :: os, _, _, j + 1, d, v, ⟨v0, r, F3, F4, e, ef, h1, h2⟩, h => by
    subst e ef
    obtain ⟨F', k1, k2⟩ := RpOL.set j h2 h
    exact ⟨F3 ++ F', ⟨v0, r.set j v, F3, F', rfl, rfl, h1, k1⟩, List.Sublist.append_left k2 _⟩
theorem RpOL.erase : ∀ {os : List OD} {vs : List V} {F : List Addr} {j : Nat} {d : D}, RpOL T m W os vs F → os[j]? = some (.fz d) → ∃ v, vs[j]? = some v ∧ Rp T (W.at m) d v ∧ RpOL T m W (os.eraseIdx j) (vs.eraseIdx j) F
  | [], _, _, _, _, _, h => by simp at h
  | o :: os, _, _, 0, d, ⟨v0, r, F3, F4, e, ef, h1, h2⟩, h => by
    subst e ef
    have e : o = .fz d := by simpa using h
    subst e
    obtain ⟨e, rr⟩ := h1
    subst e
    exact ⟨v0, rfl, rr, h2⟩
  | o :: os, _, _, j + 1, d, ⟨v0, r, F3, F4, e, ef, h1, h2⟩, h => by
    subst e ef
    obtain ⟨v, k1, k2, k3⟩ := RpOL.erase (j := j) h2 (by simpa using h)
    exact ⟨v, by simpa using k1, k2, ⟨v0, r.eraseIdx j, F3, F4, rfl, rfl, h1, k3⟩⟩
/-- the own list in the slot i, and what becomes of the slots when it changes -/
theorem St.ownL {me : List Md} {σ : List (Option V)} {s : List SV} {F : List Addr} {i : Nat} {os : List OD} (st : St T W me σ s F) (nd : F.Nodup) (e : s[i]? = some (.own (.lst os))) :
    ∃ m a vs F', me[i]? = some m ∧ m ≠ .h ∧ σ[i]? = some (some (.ref a)) ∧ W.H a = some (.lst vs) ∧ W.B a = none ∧ a ∈ F ∧ RpOL T m W os vs F' ∧
      ∀ (W' : World) (os' : List OD) (vs' : List V), W'.pin = W.pin → W'.G = W.G → W'.B = W.B → W'.H = upd W.H a (.lst vs') → (Sub (W.at m) (W'.at m) → RpOL T m W' os vs F' → ∃ F'', RpOL T m W' os' vs' F'' ∧ F''.Sublist F') →
        ∃ F3, Step F W W' ∧ NewF F F3 W ∧ St T W' me σ (s.set i (.own (.lst os'))) F3 ∧ F3.Nodup := by
  obtain ⟨m, x, F1, A, C, g1, g2, g3, g4, ⟨v, ev, ⟨a, vs, F', ea, ef, ha, hb, r⟩, hv⟩, g6⟩ := st.focus e
  subst ef ev ea g4
  refine ⟨m, a, vs, F', g1, g2, g3, ha, hb, by simp, r, fun W' os' vs' eP eG eB eH hr => ?_⟩
  have hnd : a ∉ F' ∧ a ∉ A ∧ a ∉ C := by
    rw [List.nodup_append] at nd
    obtain ⟨_, n2, n3⟩ := nd
    rw [List.cons_append, List.nodup_cons] at n2
    have n4 := n2.1
    exact ⟨fun z => n4 (by simp [z]), fun z => n3 a z a (by simp) rfl, fun z => n4 (by simp [z])⟩
  have sg : Sub W.G W'.G := by rw [eG]; exact Sub.refl _
  have sb : Sub W.B W'.B := by rw [eB]; exact Sub.refl _
  have hoth : ∀ c, c ≠ a → ∀ u, W.H c = some u → W'.H c = some u := fun c hc u e => by rw [eH, upd_ne hc]; exact e
  have sm : Sub (W.at m) (W'.at m) := by
    cases m with
    | p => exact sg
    | b => exact sb
    | h => exact absurd rfl g2
    | q => exact sg
  have r' : RpOL T m W' os vs F' := RpOL.keep sm os vs F' (fun c hc => hoth c (fun z => hnd.1 (z ▸ hc))) (fun c _ e => by rw [eB]; exact e) r
  obtain ⟨F'', r2, hsub⟩ := hr sm r'
  have hsl : (A ++ (a :: F'' ++ C)).Sublist (A ++ (a :: F' ++ C)) := List.Sublist.append_left (List.Sublist.append_right (hsub.cons₂ a) C) A
  refine ⟨A ++ (a :: F'' ++ C), ⟨sg, sb, fun c u e hf => hoth c (fun z => hf (by rw [z]; simp)) u e, fun c h => ?_, fun c _ _ e => by rw [eB]; exact e, fun c _ _ e => by rw [eG]; exact e, eP⟩, fun c hc => .inl (hsl.subset hc), ?_, nd.sublist hsl⟩
  · rw [eH]
    unfold upd
    split
    · simp
    · exact h
  · have k := g6 W' (some (.ref a)) (.own (.lst os')) (a :: F'') sg sb eP (fun c hc u e => hoth c (fun z => by
        subst z
        rcases List.mem_append.mp hc with q | q
        · exact hnd.2.1 q
        · exact hnd.2.2 q) u e) (fun c _ e => by rw [eB]; exact e) ⟨.ref a, rfl, ⟨a, vs', F'', rfl, rfl, by rw [eH]; exact upd_same, by rw [eB]; exact hb, r2⟩, fun z => (hv z).trans eP.symm⟩
    rw [show σ.set i (some (V.ref a)) = σ from by
      apply List.ext_getElem?
      intro n
      by_cases hn : i = n
      · subst hn
        rw [g3, List.getElem?_set_self (List.getElem?_eq_some_iff.mp g3).1]
      · rw [List.getElem?_set_ne hn]] at k
    exact k
end

/-! ### statements -/
def dSeq (f g : List SV → Option Out) (s : List SV) : Option Out := (f s).bind fun o => match o with
  | .nx s1 => g s1
  | o => some o
def dNx (s : List SV) : Option Out := some (.nx s)
def dCt (s : List SV) : Option Out := some (.ct s)
def dBk (s : List SV) : Option Out := some (.bk s)
def dSet (i : Nat) (f : List SV → Option D) (s : List SV) : Option Out := (f s).map fun d => .nx (s.set i (.fz d))
def dSetO (i : Nat) (f : List SV → Option OD) (s : List SV) : Option Out := (f s).map fun o => .nx (s.set i (.own o))
def dSetX (i : Nat) (f : List SV → Option (D × List SV)) (s : List SV) : Option Out := (f s).map fun r => .nx (r.2.set i (.fz r.1))
def dSetXo (i : Nat) (f : List SV → Option (OD × List SV)) (s : List SV) : Option Out := (f s).map fun r => .nx (r.2.set i (.own r.1))
def dDrop (f : List SV → Option D) (s : List SV) : Option Out := (f s).map fun _ => .nx s
def dDropX (f : List SV → Option (D × List SV)) (s : List SV) : Option Out := (f s).map fun r => .nx r.2
def dIfS (c : List SV → Option Bool) (f g : List SV → Option Out) (s : List SV) : Option Out := (c s).bind fun b => if b then f s else g s
def dIfX (c : List SV → Option (Bool × List SV)) (f g : List SV → Option Out) (s : List SV) : Option Out := (c s).bind fun r => if r.1 then f r.2 else g r.2
def dRet (f : List SV → Option D) (s : List SV) : Option Out := (f s).map fun d => .rt (.fz d) s
def dRetO (f : List SV → Option OD) (s : List SV) : Option Out := (f s).map fun o => .rt o s
def dRetX (f : List SV → Option (D × List SV)) (s : List SV) : Option Out := (f s).map fun r => .rt (.fz r.1) r.2
def dRetXo (f : List SV → Option (OD × List SV)) (s : List SV) : Option Out := (f s).map fun r => .rt r.1 r.2
/-- return x, x an own tree of the def -/
def dRetI (i : Nat) (s : List SV) : Option Out := match s[i]? with
  | some (.own o) => some (.rt o (s.set i .un))
  | _ => none
def forGo (bind : D → List SV → Option (List SV)) (body : List SV → Option Out) : List D → List SV → Option Out
  | [], s => some (.nx s)
  | d :: ds, s => (bind d s).bind fun s1 => (body s1).bind fun o => match o with
    | .nx s2 => forGo bind body ds s2
    | .ct s2 => forGo bind body ds s2
    | .bk s2 => some (.nx s2)
    | .rt r s2 => some (.rt r s2)
def dFor (fi : List SV → Option (List D)) (bind : D → List SV → Option (List SV)) (body : List SV → Option Out) (s : List SV) : Option Out := (fi s).bind fun ds => forGo bind body ds s
def whileGo (c : List SV → Option Bool) (body : List SV → Option Out) : Nat → List SV → Option Out
  | 0, _ => none
  | n + 1, s => (c s).bind fun b => if b then (body s).bind fun o => match o with
    | .nx s2 => whileGo c body n s2
    | .ct s2 => whileGo c body n s2
    | .bk s2 => some (.nx s2)
    | .rt r s2 => some (.rt r s2)
    else some (.nx s)
/-- x[k] = v, x an own list -/
def dSetIx (i : Nat) (fk fv : List SV → Option D) (s : List SV) : Option Out := (fv s).bind fun d => (fk s).bind fun k => match s[i]?, k with
  | some (.own (.lst os)), .int n => (ixN os.length n).map fun j => .nx (s.set i (.own (.lst (os.set j (.fz d)))))
  | _, _ => none
/-- x[k] op= v, x an own list -/
def dAugIx (g : D → D → Option D) (i : Nat) (fk fv : List SV → Option D) (s : List SV) : Option Out := (fk s).bind fun k => match s[i]?, k with
  | some (.own (.lst os)), .int n => (atI (OD.toDs os) n).bind fun a => (fv s).bind fun d => (g a d).bind fun r => (ixN os.length n).map fun j => .nx (s.set i (.own (.lst (os.set j (.fz r)))))
  | _, _ => none
def dAug (g : D → D → Option D) (i : Nat) (fv : List SV → Option D) (s : List SV) : Option Out := (dVar i s).bind fun a => (fv s).bind fun d => (g a d).map fun r => .nx (s.set i (.fz r))
def dApp (i : Nat) (fv : List SV → Option D) (s : List SV) : Option Out := (fv s).bind fun d => match s[i]? with
  | some (.own (.lst os)) => if os.length < sizeLine then some (.nx (s.set i (.own (.lst (os ++ [.fz d]))))) else none
  | _ => none
def isOwnL (i : Nat) (s : List SV) : Bool := match s[i]? with
  | some (.own (.lst _)) => true
  | _ => false
theorem isOwnL_of {i : Nat} {s : List SV} (h : isOwnL i s = true) : ∃ os, s[i]? = some (.own (.lst os)) := by
  unfold isOwnL at h
  split at h
  · rename_i os e
    exact ⟨os, e⟩
  · cases h
def dAppX (i : Nat) (fv : List SV → Option (D × List SV)) (s : List SV) : Option Out := if isOwnL i s then (fv s).bind fun r => match r.2[i]? with
  | some (.own (.lst os)) => if os.length < sizeLine then some (.nx (r.2.set i (.own (.lst (os ++ [.fz r.1]))))) else none
  | _ => none else none

section
variable {T : Tab} {me : List Md} {m : Md}
theorem OutOk.mono {W W1 : World} {F F1 : List Addr} {out : Out} {N : Ends} (t : Step F W W1) (n : NewF F F1 W) (h : OutOk T me W F out N) : OutOk T me W1 F1 out N := by
  cases out with
  | nx s' => exact fun σ' W' F' t2 n2 st nd => h σ' W' F' (t.trans n t2) (n.trans t n2) st nd
  | bk s' => exact fun σ' W' F' t2 n2 st nd => h σ' W' F' (t.trans n t2) (n.trans t n2) st nd
  | ct s' => exact fun σ' W' F' t2 n2 st nd => h σ' W' F' (t.trans n t2) (n.trans t n2) st nd
  | rt o s' => exact fun v σ' W' F' Fr t2 n2 st r nd => h v σ' W' F' Fr (t.trans n t2) (n.trans t n2) st r nd
theorem ss_seq {t u : TS} {f g : List SV → Option Out} (h1 : SS T me t f) (h2 : SS T me u g) : SS T me (tSeq t u) (dSeq f g) := fun W σ s F st nd out h N ok => by
  obtain ⟨o, k1, k2⟩ := bind_some h
  refine h1 W σ s F st nd o k1 _ ?_
  cases o with
  | nx s1 => exact fun σ' W' F' t1 n1 st1 nd1 => h2 W' σ' s1 F' st1 nd1 out k2 N (ok.mono t1 n1)
  | bk s1 => cases k2; exact ok
  | ct s1 => cases k2; exact ok
  | rt r s1 => cases k2; exact ok
theorem St.setF {W : World} {σ : List (Option V)} {s : List SV} {F : List Addr} (st : St T W me σ s F) (nd : F.Nodup) {i : Nat} {d : D} {v : V} (hm : me[i]? = some m) (hq : m ≠ .q) (r : Rp T (W.at m) d v) :
    ∃ F', NewF F F' W ∧ St T W me (σ.set i (some v)) (s.set i (.fz d)) F' ∧ F'.Nodup := by
  obtain ⟨F', h1, h2, h3⟩ := st.put hm hq r
  exact ⟨F', fun a h => .inl (h2 a h), h1, h3 nd⟩
theorem ss_set {te : TE} {f : List SV → Option D} {i : Nat} (h : SP T me te m f) (hm : me[i]? = some m) (hq : m ≠ .q) : SS T me (tAsg te (gName i)) (dSet i f) := fun W σ s F st nd out ho N ok => by
  obtain ⟨d, k1, rfl⟩ := map_some ho
  refine h W σ s F st d k1 _ fun v W1 t1 r1 => ?_
  obtain ⟨F', n1, st1, nd1⟩ := (st.step t1).setF nd hm hq r1
  exact ok _ W1 F' (t1.mono (by simp)) (fun a ha => (n1 a ha).imp id t1.back) st1 nd1
/-- a slot gets a new own tree -/
theorem St.setO {W : World} {σ : List (Option V)} {s : List SV} {F Fr : List Addr} (st : St T W me σ s F) {i : Nat} {o : OD} {v : V} (hm : me[i]? = some m) (hq : m ≠ .q) (r : RpO T m W o v Fr) (nd : (F ++ Fr).Nodup) :
    ∃ F', (∀ a ∈ F', a ∈ F ++ Fr) ∧ St T W me (σ.set i (some v)) (s.set i (.own o)) F' ∧ F'.Nodup := by
  have hi : i < s.length := by
    rw [st.len.2]
    exact (List.getElem?_eq_some_iff.mp hm).1
  obtain ⟨m2, x, F1, A, C, g1, g2, g3, g4, g5, g6⟩ := st.focus (List.getElem?_eq_getElem hi)
  have em : m = m2 := Option.some.inj (hm.symm.trans g1)
  subst em
  subst g4
  refine ⟨A ++ (Fr ++ C), fun a ha => ?_, g6 W (some v) (.own o) Fr (Sub.refl _) (Sub.refl _) rfl (fun _ _ _ e => e) (fun _ _ e => e) ⟨v, rfl, r, fun z => absurd z hq⟩, ?_⟩
  · rcases List.mem_append.mp ha with z | z
    · simp [z]
    · rcases List.mem_append.mp z with z | z
      · simp [z]
      · simp [z]
  · have e : (A ++ (F1 ++ C) ++ Fr).Perm (F1 ++ (A ++ (Fr ++ C))) := by
      have p1 : (A ++ (F1 ++ C) ++ Fr).Perm (F1 ++ (A ++ C) ++ Fr) := by
        refine List.Perm.append_right Fr ?_
        rw [← List.append_assoc, ← List.append_assoc]
        exact List.Perm.append_right C List.perm_append_comm
      refine p1.trans ?_
      rw [List.append_assoc, List.append_assoc]
      exact List.Perm.append_left F1 (List.Perm.append_left A List.perm_append_comm)
    have nd2 := e.nodup_iff.mp nd
    exact (List.nodup_append.mp nd2).2.1
theorem ss_setO {te : TE} {f : List SV → Option OD} {i : Nat} (h : SO T me te m f) (hm : me[i]? = some m) (hq : m ≠ .q) : SS T me (tAsg te (gName i)) (dSetO i f) := fun W σ s F st nd out ho N ok => by
  obtain ⟨o, k1, rfl⟩ := map_some ho
  refine h W σ s F st o k1 _ fun v W1 Fr t1 r1 n1 ndr => ?_
  have nd2 : (F ++ Fr).Nodup := List.nodup_append.mpr ⟨nd, ndr, fun a ha b hb e => by
    subst e
    exact (st.there a ha).1.ne (n1 a hb)⟩
  obtain ⟨F', h1, st1, nd1⟩ := (st.step t1).setO hm hq r1 nd2
  exact ok _ W1 F' (t1.mono (by simp)) (fun a ha => (List.mem_append.mp (h1 a ha)).imp id (n1 a)) st1 nd1
theorem ss_setX {te : TE} {f : List SV → Option (D × List SV)} {i : Nat} (h : SX T me te m f) (hm : me[i]? = some m) (hq : m ≠ .q) : SS T me (tAsg te (gName i)) (dSetX i f) := fun W σ s F st nd out ho N ok => by
  obtain ⟨⟨d, s1⟩, k1, rfl⟩ := map_some ho
  refine h W σ s F st nd d s1 k1 _ fun v W1 F1 t1 n1 st1 nd1 r1 => ?_
  obtain ⟨F', n2, st2, nd2⟩ := st1.setF nd1 hm hq r1
  exact ok _ W1 F' t1 (n1.trans t1 n2) st2 nd2
theorem ss_setXo {te : TE} {f : List SV → Option (OD × List SV)} {i : Nat} (h : SXo T me te m f) (hm : me[i]? = some m) (hq : m ≠ .q) : SS T me (tAsg te (gName i)) (dSetXo i f) := fun W σ s F st nd out ho N ok => by
  obtain ⟨⟨o, s1⟩, k1, rfl⟩ := map_some ho
  refine h W σ s F st nd o s1 k1 _ fun v W1 F1 Fr t1 n1 st1 nd1 r1 => ?_
  obtain ⟨F', h1, st2, nd2⟩ := st1.setO hm hq r1 nd1
  exact ok _ W1 F' t1 (fun a ha => n1 a (h1 a ha)) st2 nd2
theorem ss_drop {te : TE} {f : List SV → Option D} (h : SP T me te m f) : SS T me (tDrop te) (dDrop f) := fun W σ s F st nd out ho N ok => by
  obtain ⟨d, k1, rfl⟩ := map_some ho
  exact h W σ s F st d k1 _ fun v W1 t1 r1 => ok σ W1 F (t1.mono (by simp)) (NewF.refl _ _) (st.step t1) nd
theorem ss_dropX {te : TE} {f : List SV → Option (D × List SV)} (h : SX T me te m f) : SS T me (tDrop te) (dDropX f) := fun W σ s F st nd out ho N ok => by
  obtain ⟨⟨d, s1⟩, k1, rfl⟩ := map_some ho
  exact h W σ s F st nd d s1 k1 _ fun v W1 F1 t1 n1 st1 nd1 r1 => ok σ W1 F1 t1 n1 st1 nd1
theorem ss_if {tc : TT} {t u : TS} {c : List SV → Option Bool} {f g : List SV → Option Out} (hc : SB T me tc c) (h1 : SS T me t f) (h2 : SS T me u g) : SS T me (tIfS tc t u) (dIfS c f g) := fun W σ s F st nd out ho N ok => by
  obtain ⟨b, k1, k2⟩ := bind_some ho
  refine hc W σ s F st b k1 _ fun W1 t1 => ?_
  have ok1 := ok.mono (t1.mono (F' := F) (by simp)) (NewF.refl F W)
  cases b with
  | true => exact h1 W1 σ s F (st.step t1) nd out k2 N ok1
  | false => exact h2 W1 σ s F (st.step t1) nd out k2 N ok1
theorem ss_ifX {tc : TT} {t u : TS} {c : List SV → Option (Bool × List SV)} {f g : List SV → Option Out} (hc : SXb T me tc c) (h1 : SS T me t f) (h2 : SS T me u g) : SS T me (tIfS tc t u) (dIfX c f g) := fun W σ s F st nd out ho N ok => by
  obtain ⟨⟨b, s1⟩, k1, k2⟩ := bind_some ho
  refine hc W σ s F st nd b s1 k1 _ fun W1 F1 t1 n1 st1 nd1 => ?_
  have ok1 := ok.mono t1 n1
  cases b with
  | true => exact h1 W1 σ s1 F1 st1 nd1 out k2 N ok1
  | false => exact h2 W1 σ s1 F1 st1 nd1 out k2 N ok1
theorem ss_ret {te : TE} {f : List SV → Option D} (h : SP T me te .p f) : SS T me (tRet te) (dRet f) := fun W σ s F st nd out ho N ok => by
  obtain ⟨d, k1, rfl⟩ := map_some ho
  refine h W σ s F st d k1 _ fun v W1 t1 r1 => ?_
  exact ok v σ W1 F [] (t1.mono (by simp)) (by rw [List.append_nil]; exact NewF.refl _ _) (st.step t1) ⟨rfl, r1⟩ (by rw [List.append_nil]; exact nd)
theorem ss_retX {te : TE} {f : List SV → Option (D × List SV)} (h : SX T me te .p f) : SS T me (tRet te) (dRetX f) := fun W σ s F st nd out ho N ok => by
  obtain ⟨⟨d, s1⟩, k1, rfl⟩ := map_some ho
  refine h W σ s F st nd d s1 k1 _ fun v W1 F1 t1 n1 st1 nd1 r1 => ?_
  exact ok v σ W1 F1 [] t1 (by rw [List.append_nil]; exact n1) st1 ⟨rfl, r1⟩ (by rw [List.append_nil]; exact nd1)
theorem ss_retO {te : TE} {f : List SV → Option OD} (h : SO T me te .p f) : SS T me (tRet te) (dRetO f) := fun W σ s F st nd out ho N ok => by
  obtain ⟨o, k1, rfl⟩ := map_some ho
  refine h W σ s F st o k1 _ fun v W1 Fr t1 r1 n1 ndr => ?_
  refine ok v σ W1 F Fr (t1.mono (by simp)) (fun a ha => (List.mem_append.mp ha).imp id (n1 a)) (st.step t1) r1 (List.nodup_append.mpr ⟨nd, ndr, fun a ha b hb e => by
    subst e
    exact (st.there a ha).1.ne (n1 a hb)⟩)
theorem ss_retXo {te : TE} {f : List SV → Option (OD × List SV)} (h : SXo T me te .p f) : SS T me (tRet te) (dRetXo f) := fun W σ s F st nd out ho N ok => by
  obtain ⟨⟨o, s1⟩, k1, rfl⟩ := map_some ho
  exact h W σ s F st nd o s1 k1 _ fun v W1 F1 Fr t1 n1 st1 nd1 r1 => ok v σ W1 F1 Fr t1 n1 st1 r1 nd1
theorem ss_retI {i : Nat} (hm : me[i]? = some .p) : SS T me (tRet (tVar i)) (dRetI i) := fun W σ s F st nd out ho N ok => by
  unfold dRetI at ho
  split at ho
  · rename_i o e
    cases ho
    obtain ⟨m2, x, F1, A, C, g1, g2, g3, g4, ⟨v, ev, r, hv⟩, g6⟩ := st.focus e
    have em : Md.p = m2 := Option.some.inj (hm.symm.trans g1)
    subst em ev g4
    have k := g6 W (some v) .un [] (Sub.refl _) (Sub.refl _) rfl (fun _ _ _ e => e) (fun _ _ e => e) ⟨rfl, by decide⟩
    rw [show σ.set i (some v) = σ from by
      apply List.ext_getElem?
      intro n
      by_cases hn : i = n
      · subst hn
        rw [g3, List.getElem?_set_self (List.getElem?_eq_some_iff.mp g3).1]
      · rw [List.getElem?_set_ne hn]] at k
    have e : (A ++ (F1 ++ C)).Perm ((A ++ ([] ++ C)) ++ F1) := by
      rw [List.nil_append, List.append_assoc]
      exact List.Perm.append_left A List.perm_append_comm
    refine ⟨v, g3, ok v σ W _ F1 (Step.refl _ _) (fun a ha => .inl (e.mem_iff.mpr ha)) k r (e.nodup_iff.mp nd)⟩
  · cases ho
theorem ss_next : SS T me tNext dNx := fun W σ s F st nd out ho N ok => by
  cases ho
  exact ok σ W F (Step.refl _ _) (NewF.refl _ _) st nd
theorem ss_cont : SS T me tCont dCt := fun W σ s F st nd out ho N ok => by
  cases ho
  exact ok σ W F (Step.refl _ _) (NewF.refl _ _) st nd
theorem ss_break : SS T me tBreak dBk := fun W σ s F st nd out ho N ok => by
  cases ho
  exact ok σ W F (Step.refl _ _) (NewF.refl _ _) st nd
theorem ss_for {wi : TI} {g : TG} {tb : TS} {ms : Md} {vs : List Nat} {fi : List SV → Option (List D)} {bind : D → List SV → Option (List SV)} {body : List SV → Option Out} (hi : SI T me wi ms m fi) (hg : SG T me g m vs bind) (hb : SS T me tb body) (hms : ms ≠ .h) :
    SS T me (tFor wi g tb) (dFor fi bind body) := fun W σ s F st nd out ho N ok => by
  obtain ⟨ds, k1, k2⟩ := bind_some ho
  refine hi W σ s F st ds k1 _ fun J W1 t1 it => ?_
  have ok1 : OutOk T me W1 F out N := ok.mono (t1.mono (by simp)) (NewF.refl F W)
  refine ⟨fun i n σ' H => ∃ (W2 : World) (s2 : List SV) (F2 : List Addr), H = W2.H ∧ n = ds.length - i ∧ i ≤ ds.length ∧ Step F W1 W2 ∧ NewF F F2 W1 ∧ St T W2 me σ' s2 F2 ∧ F2.Nodup ∧ forGo bind body (ds.drop i) s2 = some out,
    ⟨ds.length, W1, s, F, rfl, by simp, Nat.zero_le _, Step.refl _ _, NewF.refl _ _, st.step t1, nd, by simpa using k2⟩, ?_⟩
  rintro i n σ2 H ⟨W2, s2, F2, rfl, rfl, hle, t2, n2, st2, nd2, k3⟩
  have hsub : Sub (W1.at ms) (W2.at ms) := t2.at2 hms
  by_cases hlt : i < ds.length
  · refine .inr ⟨it.go W2 i hsub hlt, fun σ' H' => ∃ (W2 : World) (s2 : List SV) (F2 : List Addr), H' = W2.H ∧ Step F W1 W2 ∧ NewF F F2 W1 ∧ St T W2 me σ' s2 F2 ∧ F2.Nodup ∧ forGo bind body (ds.drop (i + 1)) s2 = some out, ?_, fun x H' y => ?_⟩
    · rintro σ' H' ⟨W3, s3, F3, rfl, a1, a2, a3, a4, a5⟩
      exact ⟨ds.length - (i + 1), by omega, W3, s3, F3, rfl, rfl, hlt, a1, a2, a3, a4, a5⟩
    · obtain ⟨W3, d, t3, rfl, hd, rd⟩ := it.yld W2 i x H' hsub hlt y
      have edrop : ds.drop i = d :: ds.drop (i + 1) := by
        rw [List.drop_eq_getElem_cons hlt]
        have := (List.getElem?_eq_some_iff.mp hd).2
        rw [this]
      rw [edrop] at k3
      obtain ⟨s1, b1, k3⟩ := bind_some k3
      obtain ⟨o, b2, k3⟩ := bind_some k3
      refine hg W3 σ2 s2 F2 x d s1 (st2.step t3) rd b1 _ fun σ4 W4 F4 t4 st4 sub4 nd4 _ => ?_
      have t34 := t3.pure t4
      have t24 : Step F2 W2 W4 := t34.mono (by simp)
      have n24 : NewF F2 F4 W2 := fun a ha => .inl (sub4 a ha)
      have t14 : Step F W1 W4 := t2.trans n2 t24
      have n14 : NewF F F4 W1 := n2.trans t2 n24
      refine hb W4 σ4 s1 F4 st4 (nd4 nd2) o b2 _ ?_
      cases o with
      | nx s5 => exact fun σ5 W5 F5 t5 n5 st5 nd5 => ⟨W5, s5, F5, rfl, t14.trans n14 t5, n14.trans t14 n5, st5, nd5, k3⟩
      | ct s5 => exact fun σ5 W5 F5 t5 n5 st5 nd5 => ⟨W5, s5, F5, rfl, t14.trans n14 t5, n14.trans t14 n5, st5, nd5, k3⟩
      | bk s5 =>
        cases k3
        exact fun σ5 W5 F5 t5 n5 st5 nd5 => ok1 σ5 W5 F5 (t14.trans n14 t5) (n14.trans t14 n5) st5 nd5
      | rt r s5 =>
        cases k3
        exact fun v σ5 W5 F5 Fr t5 n5 st5 r5 nd5 => ok1 v σ5 W5 F5 Fr (t14.trans n14 t5) (n14.trans t14 n5) st5 r5 nd5
  · have e : i = ds.length := by omega
    refine .inl ⟨it.stop W2 i hsub (by omega), ?_⟩
    subst e
    rw [List.drop_length] at k3
    cases k3
    exact ok1 σ2 W2 F2 t2 n2 st2 nd2
theorem ss_while {tc : TT} {tb : TS} {c : List SV → Option Bool} {body : List SV → Option Out} (fuel : Nat) (hc : SB T me tc c) (hb : SS T me tb body) : SS T me (tWhile tc tb) (whileGo c body fuel) := fun W σ s F st nd out ho N ok => by
  refine ⟨fun n σ' H => ∃ (W2 : World) (s2 : List SV) (F2 : List Addr), H = W2.H ∧ Step F W W2 ∧ NewF F F2 W ∧ St T W2 me σ' s2 F2 ∧ F2.Nodup ∧ whileGo c body n s2 = some out, ⟨fuel, W, s, F, rfl, Step.refl _ _, NewF.refl _ _, st, nd, ho⟩, ?_⟩
  rintro n σ2 H ⟨W2, s2, F2, rfl, t2, n2, st2, nd2, k⟩
  cases n with
  | zero => cases k
  | succ n =>
    obtain ⟨b, k1, k2⟩ := bind_some k
    refine hc W2 σ2 s2 F2 st2 b k1 _ fun W3 t3 => ?_
    have t23 : Step F2 W2 W3 := t3.mono (by simp)
    have t13 : Step F W W3 := t2.trans n2 t23
    have st3 := st2.step t3
    cases b with
    | true =>
      rw [if_pos rfl] at k2
      obtain ⟨o, k3, k4⟩ := bind_some k2
      refine ⟨fun σ' H' => ∃ (W2 : World) (s2 : List SV) (F2 : List Addr), H' = W2.H ∧ Step F W W2 ∧ NewF F F2 W ∧ St T W2 me σ' s2 F2 ∧ F2.Nodup ∧ whileGo c body n s2 = some out, fun σ' H' ⟨W4, s4, F4, e, a1, a2, a3, a4, a5⟩ => ⟨n, Nat.lt_succ_self _, W4, s4, F4, e, a1, a2, a3, a4, a5⟩, ?_⟩
      refine hb W3 σ2 s2 F2 st3 nd2 o k3 _ ?_
      cases o with
      | nx s5 => exact fun σ5 W5 F5 t5 n5 st5 nd5 => ⟨W5, s5, F5, rfl, t13.trans n2 t5, n2.trans t13 n5, st5, nd5, k4⟩
      | ct s5 => exact fun σ5 W5 F5 t5 n5 st5 nd5 => ⟨W5, s5, F5, rfl, t13.trans n2 t5, n2.trans t13 n5, st5, nd5, k4⟩
      | bk s5 =>
        cases k4
        exact fun σ5 W5 F5 t5 n5 st5 nd5 => ok σ5 W5 F5 (t13.trans n2 t5) (n2.trans t13 n5) st5 nd5
      | rt r s5 =>
        cases k4
        exact fun v σ5 W5 F5 Fr t5 n5 st5 r5 nd5 => ok v σ5 W5 F5 Fr (t13.trans n2 t5) (n2.trans t13 n5) st5 r5 nd5
    | false =>
      rw [if_neg (by decide)] at k2
      cases k2
      exact ok σ2 W3 F2 t13 n2 st3 nd2
/-- x[k] = v -/
theorem ss_setIx {to tk tv : TE} {fk fv : List SV → Option D} {i : Nat} {m1 : Md} (hto : to = tVar i) (hk : SP T me tk m1 fk) (hv : SP T me tv m fv) (hm : me[i]? = some m) : SS T me (tAsg tv (gSub to tk rSetL)) (dSetIx i fk fv) := fun W σ s F st nd out ho N ok => by
  subst hto
  obtain ⟨d, k1, ho⟩ := bind_some ho
  obtain ⟨k, k2, ho⟩ := bind_some ho
  split at ho
  · rename_i os n e
    obtain ⟨j, k3, rfl⟩ := map_some ho
    refine hv W σ s F st d k1 _ fun v W1 t1 r1 => ?_
    obtain ⟨m2, x, F1, A, C, g1, g2, g3, g4, ⟨v0, ev, ⟨a, vs, F', ea, ef, ha, hb, r⟩, hv0⟩, g6⟩ := (st.step t1).focus e
    subst ev ea
    refine ⟨.ref a, g3, hk W1 σ s F (st.step t1) _ k2 _ fun vk W2 t2 r2 => ?_⟩
    cases r2
    have st2 := st.step (t1.pure t2)
    obtain ⟨m3, a3, vs3, F3, q1, q2, q3, q4, q5, q6, q7, q8⟩ := st2.ownL nd e
    have ea3 : a = a3 := by
      rw [g3] at q3
      exact V.ref.inj (Option.some.inj (Option.some.inj q3))
    subst ea3
    have em : m = m3 := Option.some.inj (hm.symm.trans q1)
    subst em
    have hlen := RpOL.length q7
    refine ⟨a, vs3, n, j, rfl, rfl, q4, by rw [← hlen]; exact k3, ?_⟩
    have rv2 : Rp T (W2.at m) d v := Rp.mono (t2.at m) d v r1
    obtain ⟨F5, b1, b2, b3, b4⟩ := q8 (W2.mut a (.lst (vs3.set j v)) q5) (os.set j (.fz d)) (vs3.set j v) rfl rfl rfl rfl fun sm hr => RpOL.set j hr (Rp.mono sm d v rv2)
    have t12 := t1.pure t2
    exact ok σ _ F5 (t12.pureL b1) (fun c hc => (b2 c hc).imp id t12.back) b3 b4
  · cases ho
/-- x op= v -/
theorem ss_aug {te : TE} {ti : TIp} {g : D → D → Option D} {fv : List SV → Option D} {i : Nat} {m1 : Md} (h : SP T me te m1 fv) (hm : me[i]? = some m) (hq : m ≠ .q) (hr : OpD T m m1 m ti g) : SS T me (tAug i te ti) (dAug g i fv) := fun W σ s F st nd out ho N ok => by
  obtain ⟨a, k1, ho⟩ := bind_some ho
  obtain ⟨d, k2, ho⟩ := bind_some ho
  obtain ⟨r, k3, rfl⟩ := map_some ho
  unfold dVar at k1
  split at k1
  · rename_i a' e
    cases k1
    obtain ⟨m', v, g1, g2, rv⟩ := st.fz e
    have em : m = m' := Option.some.inj (hm.symm.trans g1)
    subst em
    refine ⟨v, g2, h W σ s F st d k2 _ fun y W1 t1 r1 => ?_⟩
    refine hr W1 v y a d r (Rp.mono (t1.at m) a v rv) r1 k3 _ fun z W2 t2 r2 => ?_
    obtain ⟨F', n1, st1, nd1⟩ := (st.step (t1.pure t2)).setF nd hm hq r2
    exact ok _ W2 F' ((t1.pure t2).mono (by simp)) (fun a ha => (n1 a ha).imp id (t1.pure t2).back) st1 nd1
  · cases k1
/-- x[k] op= v, x an own list -/
theorem ss_augIx {to tk tv : TE} {ti : TIp} {g : D → D → Option D} {fk fv : List SV → Option D} {i : Nat} {m1 m2 : Md} (hto : to = tVar i) (hk : SP T me tk m1 fk) (hv : SP T me tv m2 fv) (hm : me[i]? = some m) (hr : OpD T .h m2 m ti g) :
    SS T me (tAugS to tk tv (rIxL T.K) ti rSetL) (dAugIx g i fk fv) := fun W σ s F st nd out ho N ok => by
  subst hto
  obtain ⟨k, k1, ho⟩ := bind_some ho
  split at ho
  · rename_i os n e
    obtain ⟨da, k2, ho⟩ := bind_some ho
    obtain ⟨d, k3, ho⟩ := bind_some ho
    obtain ⟨r, k4, ho⟩ := bind_some ho
    obtain ⟨j, k5, rfl⟩ := map_some ho
    obtain ⟨m3, x, F1, A, C, g1, g2, g3, g4, ⟨v0, ev, ⟨a, vs, F', ea, ef, ha, hb, rr⟩, hv0⟩, g6⟩ := st.focus e
    subst ev ea
    refine ⟨.ref a, g3, hk W σ s F st _ k1 _ fun vk W1 t1 r1 => ?_⟩
    cases r1
    have ha1 : W1.H a = some (.lst vs) := t1.h a _ ha (by simp)
    have rd : RpL T W1.H (OD.toDs os) vs := RpL.mono t1.subH _ _ (RpOL.read os vs F' rr)
    obtain ⟨va, e1, rva⟩ := rd.atI k2
    refine ⟨a, vs, n, va, rfl, rfl, .inl (.inl ha1), e1, ?_⟩
    refine hv W1 σ s F (st.step t1) d k3 _ fun y W2 t2 r2 => ?_
    refine hr W2 va y da d r (Rp.mono t2.subH da va rva) r2 k4 _ fun z W3 t3 r3 => ?_
    have t13 := (t1.pure t2).pure t3
    have st3 := st.step t13
    obtain ⟨m4, a3, vs3, F3, q1, q2, q3, q4, q5, q6, q7, q8⟩ := st3.ownL nd e
    have ea3 : a = a3 := by
      rw [g3] at q3
      exact V.ref.inj (Option.some.inj (Option.some.inj q3))
    subst ea3
    have em : m = m4 := Option.some.inj (hm.symm.trans q1)
    subst em
    have hlen := RpOL.length q7
    refine ⟨a, vs3, n, j, rfl, rfl, q4, by rw [← hlen]; exact k5, ?_⟩
    obtain ⟨F5, b1, b2, b3, b4⟩ := q8 (W3.mut a (.lst (vs3.set j z)) q5) (os.set j (.fz r)) (vs3.set j z) rfl rfl rfl rfl fun sm hr => RpOL.set j hr (Rp.mono sm r z r3)
    exact ok σ _ F5 (t13.pureL b1) (fun c hc => (b2 c hc).imp id t13.back) b3 b4
  · cases ho
/-- x.append(v) -/
theorem ss_app {K : PySem.W.Frag} {to tv : TE} {fv : List SV → Option D} {i : Nat} (hto : to = tVar i) (hv : SP T me tv m fv) (hm : me[i]? = some m) : SS T me (tDrop (tBM K "list" rAppend to (tCons tv tNil))) (dApp i fv) := fun W σ s F st nd out ho N ok => by
  subst hto
  obtain ⟨d, k1, ho⟩ := bind_some ho
  split at ho
  · rename_i os e
    by_cases c : os.length < sizeLine
    · rw [if_pos c] at ho
      cases ho
      obtain ⟨m3, x, F1, A, C, g1, g2, g3, g4, ⟨v0, ev, ⟨a, vs, F', ea, ef, ha, hb, rr⟩, hv0⟩, g6⟩ := st.focus e
      subst ev ea
      refine ⟨.ref a, g3, .inl ⟨rfl, vs, .inl (.inl ha)⟩, hv W σ s F st d k1 _ fun v W1 t1 r1 => ?_⟩
      have st1 := st.step t1
      obtain ⟨m4, a3, vs3, F3, q1, q2, q3, q4, q5, q6, q7, q8⟩ := st1.ownL nd e
      have ea3 : a = a3 := by
        rw [g3] at q3
        exact V.ref.inj (Option.some.inj (Option.some.inj q3))
      subst ea3
      have em : m = m4 := Option.some.inj (hm.symm.trans q1)
      subst em
      have hlen := RpOL.length q7
      refine ⟨a, vs3, v, rfl, rfl, q4, by rw [← hlen]; exact c, ?_⟩
      obtain ⟨F5, b1, b2, b3, b4⟩ := q8 (W1.mut a (.lst (vs3 ++ [v])) q5) (os ++ [.fz d]) (vs3 ++ [v]) rfl rfl rfl rfl fun sm hr => ⟨_, hr.append (RpOL.one (o := .fz d) (F := []) ⟨rfl, Rp.mono sm d v r1⟩), by simp⟩
      exact ok σ _ F5 (t1.pureL b1) (fun c hc => (b2 c hc).imp id t1.back) b3 b4
    · rw [if_neg c] at ho
      cases ho
  · cases ho
/-- x.append(v), v changes what the def owns -/
theorem ss_appX {K : PySem.W.Frag} {to tv : TE} {fv : List SV → Option (D × List SV)} {i : Nat} (hto : to = tVar i) (hv : SX T me tv m fv) (hm : me[i]? = some m) :
    SS T me (tDrop (tBM K "list" rAppend to (tCons tv tNil))) (dAppX i fv) := fun W σ s F st nd out ho N ok => by
  subst hto
  by_cases c0 : isOwnL i s = true
  case neg =>
    unfold dAppX at ho
    rw [if_neg c0] at ho
    cases ho
  unfold dAppX at ho
  rw [if_pos c0] at ho
  obtain ⟨⟨d, s1⟩, k1, ho⟩ := bind_some ho
  split at ho
  · rename_i os e
    have e : s1[i]? = some (.own (.lst os)) := e
    by_cases c : os.length < sizeLine
    · rw [if_pos c] at ho
      cases ho
      obtain ⟨os0, e0⟩ := isOwnL_of c0
      obtain ⟨m3, x, F1, A, C, g1, g2, g3, g4, ⟨v0, ev, ⟨a, vs, F', ea, ef, ha, hb, rr⟩, hv0⟩, g6⟩ := st.focus e0
      subst ev ea
      refine ⟨.ref a, g3, .inl ⟨rfl, vs, .inl (.inl ha)⟩, hv W σ s F st nd d s1 k1 _ fun v W1 F1 t1 n1 st1 nd1 r1 => ?_⟩
      obtain ⟨m4, a3, vs3, F3, q1, q2, q3, q4, q5, q6, q7, q8⟩ := st1.ownL nd1 e
      have ea3 : a = a3 := by
        rw [g3] at q3
        exact V.ref.inj (Option.some.inj (Option.some.inj q3))
      subst ea3
      have em : m = m4 := Option.some.inj (hm.symm.trans q1)
      subst em
      have hlen := RpOL.length q7
      refine ⟨a, vs3, v, rfl, rfl, q4, by rw [← hlen]; exact c, ?_⟩
      obtain ⟨F5, b1, b2, b3, b4⟩ := q8 (W1.mut a (.lst (vs3 ++ [v])) q5) (os ++ [.fz d]) (vs3 ++ [v]) rfl rfl rfl rfl fun sm hr => ⟨_, hr.append (RpOL.one (o := .fz d) (F := []) ⟨rfl, Rp.mono sm d v r1⟩), by simp⟩
      exact ok σ _ F5 (t1.trans n1 b1) (n1.trans t1 b2) b3 b4
    · rw [if_neg c] at ho
      cases ho
  · cases ho
end
end My

set_option Elab.async false
set_option linter.all false
set_option maxRecDepth 100000
set_option maxHeartbeats 4000000
/-! M7: what a def promises; calls; a def's body keeps its promise. -/
namespace My
open PySem PyProof.Rows L2

def ArgsR (T : Tab) (W : World) : List Md → List D → List V → Prop
  | [], ds, vs => ds = [] ∧ vs = []
  | m :: ms, ds, vs => ∃ d dr v vr, ds = d :: dr ∧ vs = v :: vr ∧ Rp T (W.at m) d v ∧ ArgsR T W ms dr vr
/-- nothing that stood changes: values in, a value out that is known for good -/
def spP (T : Tab) (ms : List Md) (g : List D → Option D) : Sp := fun vs H Q _ => ∃ (W : World) (ds : List D) (r : D), W.H = H ∧ ArgsR T W ms ds vs ∧ g ds = some r ∧ ∀ v W', Step [] W W' → Rp T W'.G r v → Q v W'.H
/-- .. a new own tree out -/
def spO (T : Tab) (ms : List Md) (g : List D → Option OD) : Sp := fun vs H Q _ => ∃ (W : World) (ds : List D) (r : OD), W.H = H ∧ ArgsR T W ms ds vs ∧ g ds = some r ∧ ∀ v W' Fr, Step [] W W' → RpO T .p W' r v Fr → (∀ a ∈ Fr, W.H a = none) → Fr.Nodup → Q v W'.H
/-- the first argument is an own tree of the caller's, and changes -/
def spM (T : Tab) (ms : List Md) (g : OD → List D → Option (OD × OD)) : Sp := fun vs H Q _ => ∃ (W : World) (o : OD) (F : List Addr) (v0 : V) (vr : List V) (ds : List D) (r o' : OD), vs = v0 :: vr ∧ W.H = H ∧ RpO T .p W o v0 F ∧ F.Nodup ∧ ArgsR T W ms ds vr ∧ g o ds = some (r, o') ∧
  ∀ v W' F' Fr, Step F W W' → NewF F (F' ++ Fr) W → RpO T .p W' o' v0 F' → RpO T .p W' r v Fr → (F' ++ Fr).Nodup → Q v W'.H

/-! ### arguments with their modes -/
def SAm (T : Tab) (me : List Md) (ta : TA) (ms : List Md) (f : List SV → Option (List D)) : Prop :=
  ∀ (W : World) (σ : List (Option V)) (s : List SV) (F : List Addr), St T W me σ s F → ∀ ds, f s = some ds → ∀ Q : List V → Hp → Prop, (∀ vs W', Step [] W W' → ArgsR T W' ms ds vs → Q vs W'.H) → ta σ W.H Q
structure FAm {ι : Type} (X : ι → Cx) (T : Tab) (me : List Md) (es : List Expr) (ms : List Md) (f : List SV → Option (List D)) : Prop where
  ex : ∃ ta, (∀ j, PA (X j) es ta) ∧ SAm T me ta ms f
def callOk : List Md → List Md → Bool
  | [], [] => true
  | .p :: ms, .p :: cs => callOk ms cs
  | .b :: ms, _ :: cs => callOk ms cs
  | _, _ => false
theorem ArgsR.step {T : Tab} {W W' : World} (t : Step [] W W') : ∀ {ms : List Md} {ds : List D} {vs : List V}, ArgsR T W ms ds vs → ArgsR T W' ms ds vs
  | [], _, _, h => h
  | m :: ms, _, _, ⟨d, dr, v, vr, e1, e2, r, k⟩ => ⟨d, dr, v, vr, e1, e2, Rp.mono (t.at m) d v r, k.step t⟩

/-- for a call: all that is tracked may be read -/
def World.open (W : World) : World where
  G := W.G
  B := W.H
  H := W.H
  gb := W.gb.trans W.bh
  bh := Sub.refl _
  pin := W.pin
theorem ArgsR.open {T : Tab} {W : World} : ∀ {ms cs : List Md} {ds : List D} {vs : List V}, callOk ms cs = true → ArgsR T W cs ds vs → ArgsR T W.open ms ds vs
  | [], [], _, _, _, h => h
  | .p :: ms, .p :: cs, _, _, hc, ⟨d, dr, v, vr, e1, e2, r, k⟩ => ⟨d, dr, v, vr, e1, e2, r, ArgsR.open (ms := ms) hc k⟩
  | .b :: ms, c :: cs, _, _, hc, ⟨d, dr, v, vr, e1, e2, r, k⟩ => ⟨d, dr, v, vr, e1, e2, Rp.mono (W.atH c) d v r, ArgsR.open (ms := ms) (by cases c <;> exact hc) k⟩
  | .h :: _, _, _, _, hc, _ => by cases hc
  | [], _ :: _, _, _, hc, _ => by cases hc
  | .p :: _, [], _, _, hc, _ => by cases hc
  | .b :: _, [], _, _, hc, _ => by cases hc
  | .p :: _, .b :: _, _, _, hc, _ => by cases hc
  | .p :: _, .h :: _, _, _, hc, _ => by cases hc
  | .p :: _, .q :: _, _, _, hc, _ => by cases hc
  | .q :: _, _, _, _, hc, _ => by cases hc
/-- behind such a call: the caller's own stays its own -/
def World.back (W W2 : World) (t : Step [] W.open W2) : World where
  G := W2.G
  B := fun a => if (W2.G a).isSome then W2.G a else if (W.H a).isSome then W.B a else W2.B a
  H := W2.H
  gb := fun a o e => by
    show (if (W2.G a).isSome then W2.G a else if (W.H a).isSome then W.B a else W2.B a) = some o
    rw [if_pos (by rw [e]; rfl)]
    exact e
  bh := fun a o e => by
    have e' : (if (W2.G a).isSome then W2.G a else if (W.H a).isSome then W.B a else W2.B a) = some o := e
    by_cases c : (W2.G a).isSome = true
    · rw [if_pos c] at e'
      exact W2.bh a o (W2.gb a o e')
    · rw [if_neg c] at e'
      by_cases c2 : (W.H a).isSome = true
      · rw [if_pos c2] at e'
        exact t.h a o (W.bh a o e') (by simp)
      · rw [if_neg c2] at e'
        exact W2.bh a o e'
  pin := W.pin
theorem World.back_step (W W2 : World) (t : Step [] W.open W2) : Step [] W (W.back W2 t) where
  g := t.g
  b := fun a o e => by
    show (if (W2.G a).isSome then W2.G a else if (W.H a).isSome then W.B a else W2.B a) = some o
    have e1 : W2.H a = some o := t.h a o (W.bh a o e) (by simp)
    by_cases c : (W2.G a).isSome = true
    · rw [if_pos c]
      obtain ⟨u, hu⟩ := Option.isSome_iff_exists.mp c
      have := W2.bh a u (W2.gb a u hu)
      rw [e1] at this
      cases this
      exact hu
    · rw [if_neg c, if_pos (by rw [W.bh a o e]; rfl)]
      exact e
  h := t.h
  dom := t.dom
  nb := fun a h _ e => by
    show (if (W2.G a).isSome then W2.G a else if (W.H a).isSome then W.B a else W2.B a) = none
    have g0 : W.G a = none := by
      cases q : W.G a with
      | none => rfl
      | some u =>
        rw [W.gb a u q] at e
        cases e
    rw [t.ng a h (by simp) g0, if_neg (by simp), if_pos (Option.isSome_iff_ne_none.mpr h.ne)]
    exact e
  ng := t.ng
  pin := rfl

/-- a def of the module, by its name: it keeps its promise -/
structure Cal (X : Cx) (k : Nat) (x : Str) (ps : List Str) (sp : Sp) : Prop where
  ex : ∃ f fd, FnOk X.prog X.w X.K X.mg X.base CX0 k f fd ps sp ∧ X.mg x = some (.ref f) ∧ PySem.W.keepIn X.K (.ref f) = true ∧ Binds X.K fd ps []
def dCallF (g : List D → Option D) (fs : List SV → Option (List D)) (s : List SV) : Option D := (fs s).bind g
def dCallFo (g : List D → Option OD) (fs : List SV → Option (List D)) (s : List SV) : Option OD := (fs s).bind g
section
variable {ι : Type} {X : ι → Cx} {T : Tab} {me : List Md} {e : Expr} {es : List Expr} {m : Md} {ms cs : List Md} {f : List SV → Option D} {fs : List SV → Option (List D)} {pos p : Pos} {k : Nat} {x : Str} {ps : List Str}
theorem fam_nil : FAm X T me [] [] dNil := ⟨tNil, fun _ => pa_nil, fun W σ s F st ds h Q q => by cases h; exact q [] W (Step.refl _ _) ⟨rfl, rfl⟩⟩
theorem fam_cons (h : FP X T me e m f) (k : FAm X T me es ms fs) (hs : ∀ j, starEach (e :: es) (X j).env = (false, eval e (X j).env) :: starEach es (X j).env := by intro _; rfl) : FAm X T me (e :: es) (m :: ms) (dCons f fs) := by
  obtain ⟨t, h1, h2⟩ := h.ex
  obtain ⟨u, h3, h4⟩ := k.ex
  refine ⟨_, fun j => pa_cons (h1 j) (h3 j) (hs j), fun W σ s F st ds hd Q q => ?_⟩
  obtain ⟨d, k1, k2⟩ := bind_some hd
  obtain ⟨dr, k3, e0⟩ := map_some k2
  subst e0
  refine h2 W σ s F st d k1 _ fun v W1 t1 r1 => ?_
  refine h4 W1 σ s F (st.step t1) dr k3 _ fun vs W2 t2 r2 => ?_
  exact q _ W2 (t1.pure t2) ⟨d, dr, v, vs, rfl, rfl, Rp.mono (t2.at m) d v r1, r2⟩
theorem sp_call {ta : TA} {g : List D → Option D} (h : SAm T me ta cs fs) (hc : callOk ms cs = true) : SP T me (tCall (spP T ms g) [] E0 ta) .p (dCallF g fs) := fun W σ s F st d hd Q q => by
  obtain ⟨ds, k1, k2⟩ := bind_some hd
  refine h W σ s F st ds k1 _ fun vs W1 t1 r1 => ?_
  refine ⟨W1.open, ds, d, rfl, by rw [List.append_nil]; exact r1.open hc, k2, fun v W2 t2 r2 => ?_⟩
  exact q v (W1.back W2 t2) (t1.pure (W1.back_step W2 t2)) r2
theorem so_call {ta : TA} {g : List D → Option OD} (h : SAm T me ta cs fs) (hc : callOk ms cs = true) : SO T me (tCall (spO T ms g) [] E0 ta) .p (dCallFo g fs) := fun W σ s F st o hd Q q => by
  obtain ⟨ds, k1, k2⟩ := bind_some hd
  refine h W σ s F st ds k1 _ fun vs W1 t1 r1 => ?_
  refine ⟨W1.open, ds, o, rfl, by rw [List.append_nil]; exact r1.open hc, k2, fun v W2 Fr t2 r2 n2 nd => ?_⟩
  refine q v (W1.back W2 t2) Fr (t1.pure (W1.back_step W2 t2)) ?_ (fun a ha => t1.back (n2 a ha)) nd
  refine RpO.keep (W := W2) (W' := W1.back W2 t2) (Sub.refl _) o v Fr (fun a _ u e => e) (fun a ha e => ?_) r2
  show (if (W2.G a).isSome then W2.G a else if (W1.H a).isSome then W1.B a else W2.B a) = none
  have g0 : W2.G a = none := by
    cases q : W2.G a with
    | none => rfl
    | some u =>
      rw [W2.gb a u q] at e
      cases e
  have n' : W1.H a = none := n2 a ha
  rw [g0, n']
  exact e
theorem pe_cal {t : TA} {sp : Sp} {Y : Cx} (C : Cal Y k x ps sp) (hr : Room k Y.A) (hg : Gl Y x) (ha : PA Y (e :: es) t) (hdb : (x == ("__debug__" : Str)) = false := by decide) (he : starEach (e :: es) Y.env = (false, eval e Y.env) :: starEach es Y.env) (hpl : (backTo pos (starEach es Y.env)).any (·.1) = false) :
    PE Y (.Call (.Name x p) (e :: es) [] pos) (tCall sp [] E0 t) := by
  obtain ⟨f, fd, G, hm, hk, hb⟩ := C.ex
  exact pe_call G hr hg hm hk hb .nil pass0 ha hdb he hpl
theorem fp_call {g : List D → Option D} (C : ∀ j, Cal (X j) k x ps (spP T ms g)) (hr : ∀ j, Room k (X j).A) (ha : FAm X T me (e :: es) cs fs) (hc : callOk ms cs = true := by rfl) (hg : ∀ j, Gl (X j) x := by intro _; rfl) (hdb : (x == ("__debug__" : Str)) = false := by decide)
    (he : ∀ j, starEach (e :: es) (X j).env = (false, eval e (X j).env) :: starEach es (X j).env := by intro _; rfl) (hpl : ∀ j, (backTo pos (starEach es (X j).env)).any (·.1) = false := by intro _; rfl) : FP X T me (.Call (.Name x p) (e :: es) [] pos) .p (dCallF g fs) := by
  obtain ⟨t, h1, h2⟩ := ha.ex
  exact ⟨_, fun j => pe_cal (C j) (hr j) (hg j) (h1 j) hdb (he j) (hpl j), sp_call h2 hc⟩
theorem fo_call {g : List D → Option OD} (C : ∀ j, Cal (X j) k x ps (spO T ms g)) (hr : ∀ j, Room k (X j).A) (ha : FAm X T me (e :: es) cs fs) (hc : callOk ms cs = true := by rfl) (hg : ∀ j, Gl (X j) x := by intro _; rfl) (hdb : (x == ("__debug__" : Str)) = false := by decide)
    (he : ∀ j, starEach (e :: es) (X j).env = (false, eval e (X j).env) :: starEach es (X j).env := by intro _; rfl) (hpl : ∀ j, (backTo pos (starEach es (X j).env)).any (·.1) = false := by intro _; rfl) : FO X T me (.Call (.Name x p) (e :: es) [] pos) .p (dCallFo g fs) := by
  obtain ⟨t, h1, h2⟩ := ha.ex
  exact ⟨_, fun j => pe_cal (C j) (hr j) (hg j) (h1 j) hdb (he j) (hpl j), so_call h2 hc⟩
end

/-! ### calls that change an own tree of the caller's -/
def World.openM (W : World) (F : List Addr) (h : ∀ a ∈ F, W.B a = none) : World where
  G := W.G
  B := fun a => if a ∈ F then none else W.H a
  H := W.H
  gb := fun a o e => by
    show (if a ∈ F then none else W.H a) = some o
    have hb := W.gb a o e
    rw [if_neg (fun z => by rw [h a z] at hb; cases hb)]
    exact W.bh a o hb
  bh := fun a o e => by
    have e' : (if a ∈ F then none else W.H a) = some o := e
    by_cases c : a ∈ F
    · rw [if_pos c] at e'
      cases e'
    · rw [if_neg c] at e'
      exact e'
  pin := W.pin
theorem ArgsR.openM {T : Tab} {W : World} {F : List Addr} {h : ∀ a ∈ F, W.B a = none} : ∀ {ms cs : List Md} {ds : List D} {vs : List V}, callOk ms cs = true → cs.all (fun c => c.le .b) = true → ArgsR T W cs ds vs → ArgsR T (W.openM F h) ms ds vs
  | [], [], _, _, _, _, k => k
  | .p :: ms, .p :: cs, _, _, hc, ha, ⟨d, dr, v, vr, e1, e2, r, k⟩ => ⟨d, dr, v, vr, e1, e2, r, ArgsR.openM (ms := ms) hc (by rw [List.all_cons, Bool.and_eq_true] at ha; exact ha.2) k⟩
  | .b :: ms, c :: cs, _, _, hc, ha, ⟨d, dr, v, vr, e1, e2, r, k⟩ => by
    rw [List.all_cons, Bool.and_eq_true] at ha
    refine ⟨d, dr, v, vr, e1, e2, Rp.mono (fun a o e => ?_) d v r, ArgsR.openM (ms := ms) (by cases c <;> exact hc) ha.2 k⟩
    have e3 := W.le ha.1 a o e
    show (if a ∈ F then none else W.H a) = some o
    rw [if_neg (fun z => by
      have := h a z
      have e4 : W.B a = some o := e3
      rw [this] at e4
      cases e4)]
    exact W.bh a o e3
  | .h :: _, _, _, _, hc, _, _ => by cases hc
  | [], _ :: _, _, _, hc, _, _ => by cases hc
  | .p :: _, [], _, _, hc, _, _ => by cases hc
  | .b :: _, [], _, _, hc, _, _ => by cases hc
  | .p :: _, .b :: _, _, _, hc, _, _ => by cases hc
  | .p :: _, .h :: _, _, _, hc, _, _ => by cases hc
  | .p :: _, .q :: _, _, _, hc, _, _ => by cases hc
  | .q :: _, _, _, _, hc, _, _ => by cases hc
def World.backM (W : World) (F : List Addr) (h : ∀ a ∈ F, W.B a = none) (W2 : World) (t : Step F (W.openM F h) W2) : World where
  G := W2.G
  B := fun a => if (W2.G a).isSome then W2.G a else if (W.H a).isSome then W.B a else W2.B a
  H := W2.H
  gb := fun a o e => by
    show (if (W2.G a).isSome then W2.G a else if (W.H a).isSome then W.B a else W2.B a) = some o
    rw [if_pos (by rw [e]; rfl)]
    exact e
  bh := fun a o e => by
    have e' : (if (W2.G a).isSome then W2.G a else if (W.H a).isSome then W.B a else W2.B a) = some o := e
    by_cases c : (W2.G a).isSome = true
    · rw [if_pos c] at e'
      exact W2.bh a o (W2.gb a o e')
    · rw [if_neg c] at e'
      by_cases c2 : (W.H a).isSome = true
      · rw [if_pos c2] at e'
        exact t.h a o (W.bh a o e') (fun z => by rw [h a z] at e'; cases e')
      · rw [if_neg c2] at e'
        exact W2.bh a o e'
  pin := W.pin
theorem World.backM_step (W : World) (F : List Addr) (h : ∀ a ∈ F, W.B a = none) (W2 : World) (t : Step F (W.openM F h) W2) : Step F W (W.backM F h W2 t) where
  g := t.g
  b := fun a o e => by
    show (if (W2.G a).isSome then W2.G a else if (W.H a).isSome then W.B a else W2.B a) = some o
    have e1 : W2.H a = some o := t.h a o (W.bh a o e) (fun z => by rw [h a z] at e; cases e)
    by_cases c : (W2.G a).isSome = true
    · rw [if_pos c]
      obtain ⟨u, hu⟩ := Option.isSome_iff_exists.mp c
      have := W2.bh a u (W2.gb a u hu)
      rw [e1] at this
      cases this
      exact hu
    · rw [if_neg c, if_pos (by rw [W.bh a o e]; rfl)]
      exact e
  h := t.h
  dom := t.dom
  nb := fun a hd f e => by
    show (if (W2.G a).isSome then W2.G a else if (W.H a).isSome then W.B a else W2.B a) = none
    have g0 : W.G a = none := by
      cases q : W.G a with
      | none => rfl
      | some u =>
        rw [W.gb a u q] at e
        cases e
    rw [t.ng a hd f g0, if_neg (by simp), if_pos (Option.isSome_iff_ne_none.mpr hd.ne)]
    exact e
  ng := t.ng
  pin := rfl
theorem RpO.backM {T : Tab} {W : World} {F : List Addr} {h : ∀ a ∈ F, W.B a = none} {W2 : World} (t : Step F (W.openM F h) W2) {o : OD} {v : V} {Fr : List Addr} (n : ∀ a ∈ Fr, a ∈ F ∨ W.H a = none) (r : RpO T .p W2 o v Fr) : RpO T .p (W.backM F h W2 t) o v Fr :=
  RpO.keep (W := W2) (W' := W.backM F h W2 t) (Sub.refl _) o v Fr (fun a _ u e => e) (fun a ha e => by
    show (if (W2.G a).isSome then W2.G a else if (W.H a).isSome then W.B a else W2.B a) = none
    have eG : W2.G a = none := by
      cases q : W2.G a with
      | none => rfl
      | some u =>
        rw [W2.gb a u q] at e
        cases e
    rw [eG, if_neg (by simp), e]
    rcases n a ha with z | z
    · rw [h a z]
      split <;> rfl
    · rw [z]
      rfl) r
mutual
theorem RpO.mode {T : Tab} {W : World} {m m' : Md} (h : W.at m = W.at m') : ∀ (o : OD) (v : V) (F : List Addr), RpO T m W o v F → RpO T m' W o v F
  | .fz d, v, F, ⟨e, r⟩ => ⟨e, by rw [← h]; exact r⟩
  | .lst os, v, F, ⟨a, vs, F', e, ef, ha, hb, r⟩ => ⟨a, vs, F', e, ef, ha, hb, RpOL.mode h os vs F' r⟩
  | .dct ks ds, v, F, ⟨a, vs, e, ef, hb, k, r⟩ => ⟨a, vs, e, ef, hb, k, by rw [← h]; exact r⟩
  | .obj c ns ds, v, F, ⟨a, dx, vs, e, ef, hb, k, l, r⟩ => ⟨a, dx, vs, e, ef, hb, k, l, by rw [← h]; exact r⟩
  | .nst ks, v, F, ⟨a, kas, e, ef, hb, k, l, r⟩ => ⟨a, kas, e, ef, hb, k, l, by rw [← h]; exact r⟩
theorem RpOL.mode {T : Tab} {W : World} {m m' : Md} (h : W.at m = W.at m') : ∀ (os : List OD) (vs : List V) (F : List Addr), RpOL T m W os vs F → RpOL T m' W os vs F
  | [], _, _, r => r
  | o :: os, vs, F, ⟨v, r, F1, F2, e, ef, h1, h2⟩ => ⟨v, r, F1, F2, e, ef, RpO.mode h o v F1 h1, RpOL.mode h os r F2 h2⟩
end
/-- f(x, ..): x an own tree -/
def dCallM (g : OD → List D → Option (OD × OD)) (i : Nat) (fs : List SV → Option (List D)) (s : List SV) : Option (OD × List SV) := (fs s).bind fun ds => match s[i]? with
  | some (.own o) => (g o ds).map fun r => (r.1, s.set i (.own r.2))
  | _ => none
section
variable {T : Tab} {me : List Md} {ms cs : List Md} {fs : List SV → Option (List D)}
theorem sxo_call {ta : TA} {g : OD → List D → Option (OD × OD)} {i : Nat} (h : SAm T me ta cs fs) (hm : me[i]? = some .p ∨ me[i]? = some .q) (hc : callOk ms cs = true) (hcb : cs.all (fun c => c.le .b) = true) : SXo T me (tCall (spM T ms g) [] E0 (tCons (tVar i) ta)) .p (dCallM g i fs) := fun W σ s F st nd o s' hd Q q => by
  obtain ⟨ds, k1, k2⟩ := bind_some hd
  split at k2
  · rename_i o0 e
    obtain ⟨⟨r, o1⟩, k3, k4⟩ := map_some k2
    have e1 : r = o := congrArg Prod.fst k4
    have e2 : s.set i (.own o1) = s' := congrArg Prod.snd k4
    subst e1 e2
    obtain ⟨m0, x, F1, A, C, g1, g2, g3, g4, ⟨v0, ev, ro0, hv0⟩, g6⟩ := st.focus e
    have em : m0 = .p ∨ m0 = .q := hm.imp (fun z => (Option.some.inj (z.symm.trans g1)).symm) (fun z => (Option.some.inj (z.symm.trans g1)).symm)
    have ro : RpO T .p W o0 v0 F1 := by
      rcases em with z | z
      · rw [z] at ro0; exact ro0
      · rw [z] at ro0; exact RpO.mode (m := .q) (m' := .p) rfl _ _ _ ro0
    subst ev g4
    refine ⟨v0, g3, h W σ s _ st ds k1 _ fun vs W1 t1 r1 => ?_⟩
    have ro1 : RpO T .p W1 o0 v0 F1 := RpO.keep (m := .p) t1.g o0 v0 F1 (fun a _ u e => t1.h a u e (by simp)) (fun a ha e => t1.nb a (RpO.there o0 v0 F1 ro a ha).1 (by simp) e) ro
    have hB : ∀ a ∈ F1, W1.B a = none := fun a ha => (RpO.there o0 v0 F1 ro1 a ha).2
    have hdom : ∀ a ∈ A ++ (F1 ++ C), W1.H a ≠ none := fun a ha => t1.dom a (st.there a ha).1.ne
    have hdis : (∀ a ∈ A ++ C, a ∉ F1) ∧ F1.Nodup ∧ (A ++ C).Nodup := by
      have p : (A ++ (F1 ++ C)).Perm (F1 ++ (A ++ C)) := by
        rw [← List.append_assoc, ← List.append_assoc]
        exact List.Perm.append_right C List.perm_append_comm
      have nd2 := List.nodup_append.mp (p.nodup_iff.mp nd)
      exact ⟨fun a ha z => nd2.2.2 a z a ha rfl, nd2.1, nd2.2.1⟩
    refine ⟨W1.openM F1 hB, o0, F1, v0, vs ++ [], ds, r, o1, rfl, rfl, ?_, hdis.2.1, by rw [List.append_nil]; exact r1.openM hc hcb, k3, fun v W2 F' Fr t2 n2 r2 r3 nd3 => ?_⟩
    · exact RpO.keep (W := W1) (W' := W1.openM F1 hB) (Sub.refl _) o0 v0 F1 (fun a _ u e => e) (fun a ha _ => if_pos ha) ro1
    · have hB2 := W1.backM_step F1 hB W2 t2
      have n2' : ∀ a ∈ F' ++ Fr, a ∈ F1 ∨ W1.H a = none := n2
      have t3 : Step (A ++ (F1 ++ C)) W (W1.backM F1 hB W2 t2) := t1.pureL (hB2.mono fun a ha => by simp [ha])
      refine q v (W1.backM F1 hB W2 t2) (A ++ (F' ++ C)) Fr t3 (fun a ha => ?_) ?_ ?_ (r3.backM t2 fun a ha => n2' a (by simp [ha]))
      · rcases List.mem_append.mp ha with z | z
        · rcases List.mem_append.mp z with z | z
          · exact .inl (by simp [z])
          · rcases List.mem_append.mp z with z | z
            · exact (n2' a (by simp [z])).imp (fun y => by simp [y]) t1.back
            · exact .inl (by simp [z])
        · exact (n2' a (by simp [z])).imp (fun y => by simp [y]) t1.back
      · have k := g6 (W1.backM F1 hB W2 t2) (some v0) (.own o1) F' t3.g t3.b t3.pin (fun a ha u e => hB2.h a u (t1.h a u e (by simp)) (hdis.1 a ha)) (fun a ha e => hB2.nb a (t1.mt (st.there a (by rcases List.mem_append.mp ha with z | z <;> simp [z])).1 (by simp)) (hdis.1 a ha) (t1.nb a (st.there a (by rcases List.mem_append.mp ha with z | z <;> simp [z])).1 (by simp) e))
          ⟨v0, rfl, by
            have r4 := r2.backM t2 fun a ha => n2' a (by simp [ha])
            rcases em with z | z
            · rw [z]; exact r4
            · rw [z]; exact RpO.mode (m := .p) (m' := .q) rfl _ _ _ r4, fun z => (hv0 z).trans t3.pin.symm⟩
        rw [show σ.set i (some v0) = σ from by
          apply List.ext_getElem?
          intro n
          by_cases hn : i = n
          · subst hn
            rw [g3, List.getElem?_set_self (List.getElem?_eq_some_iff.mp g3).1]
          · rw [List.getElem?_set_ne hn]] at k
        exact k
      · have p : (A ++ (F' ++ C) ++ Fr).Perm ((F' ++ Fr) ++ (A ++ C)) := by
          have p1 : (A ++ (F' ++ C)).Perm (F' ++ (A ++ C)) := by
            rw [← List.append_assoc, ← List.append_assoc]
            exact List.Perm.append_right C List.perm_append_comm
          refine (List.Perm.append_right Fr p1).trans ?_
          rw [List.append_assoc, List.append_assoc F' Fr]
          exact List.Perm.append_left F' List.perm_append_comm
        refine p.nodup_iff.mpr (List.nodup_append.mpr ⟨nd3, hdis.2.2, fun a ha b hb e => ?_⟩)
        subst e
        rcases n2' a ha with z | z
        · exact hdis.1 a hb z
        · exact hdom a (by rcases List.mem_append.mp hb with y | y <;> simp [y]) z
  · cases k2
end
section
variable {ι : Type} {X : ι → Cx} {T : Tab} {me : List Md} {e : Expr} {es : List Expr} {m : Md} {ms cs : List Md} {f : List SV → Option D} {fs : List SV → Option (List D)} {pos p py : Pos} {k : Nat} {x y : Str} {ps : List Str}
theorem fxo_call {g : OD → List D → Option (OD × OD)} (i : Nat) (C : ∀ j, Cal (X j) k x ps (spM T ms g)) (hr : ∀ j, Room k (X j).A) (ha : FAm X T me es cs fs) (hm : me[i]? = some .p ∨ me[i]? = some .q := by first | exact .inl rfl | exact .inr rfl) (hc : callOk ms cs = true := by rfl) (hcb : cs.all (fun c => c.le .b) = true := by rfl) (hg : ∀ j, Gl (X j) x := by intro _; rfl)
    (hN : ∀ j, (X j).N[i]? = some y := by intro _; rfl) (hv : ∀ j, Vis (X j).env.scope y := by intro _; first | exact Or.inl rfl | exact Or.inr (Or.inl rfl) | exact Or.inr (Or.inr rfl)) (hdb : (x == ("__debug__" : Str)) = false := by decide) (hd : (y == ("__debug__" : Str)) = false := by decide) (hcd : (y == ("__classdict__" : Str)) = false := by decide)
    (he : ∀ j, starEach (.Name y py :: es) (X j).env = (false, eval (.Name y py) (X j).env) :: starEach es (X j).env := by intro _; rfl) (hpl : ∀ j, (backTo pos (starEach es (X j).env)).any (·.1) = false := by intro _; rfl) : FXo X T me (.Call (.Name x p) (.Name y py :: es) [] pos) .p (dCallM g i fs) := by
  obtain ⟨t, h1, h2⟩ := ha.ex
  exact ⟨_, fun j => pe_cal (C j) (hr j) (hg j) (pa_cons (pe_var (hN j) (hv j) hd hcd) (h1 j) (he j)) hdb (he j) (hpl j), sxo_call h2 hm hc hcb⟩
end

/-! ### a def's body keeps its promise -/
def initS (n : Nat) (ds : List D) : List SV := ds.map .fz ++ List.replicate (n - ds.length) .un
def runP (fb : List SV → Option Out) (n : Nat) (ds : List D) : Option D := (fb (initS n ds)).bind fun o => match o with
  | .rt o _ => some o.toD
  | .nx _ => some .non
  | _ => none
def runO (fb : List SV → Option Out) (n : Nat) (ds : List D) : Option OD := (fb (initS n ds)).bind fun o => match o with
  | .rt o _ => some o
  | .nx _ => some (.fz .non)
  | _ => none
def initM (n : Nat) (o : OD) (ds : List D) : List SV := .own o :: initS (n - 1) ds
def slot0 (s : List SV) : Option OD := match s[0]? with
  | some (SV.own o) => some o
  | _ => none
theorem slot0_of {s : List SV} {o : OD} (h : slot0 s = some o) : s[0]? = some (SV.own o) := by
  unfold slot0 at h
  split at h
  · rename_i e
    rw [e, Option.some.inj h]
  · cases h
def runM (fb : List SV → Option Out) (n : Nat) (o : OD) (ds : List D) : Option (OD × OD) := (fb (initM n o ds)).bind fun (r : Out) => match r with
  | .rt r s => (slot0 s).map fun o' => (r, o')
  | .nx s => (slot0 s).map fun o' => (OD.fz .non, o')
  | _ => none
theorem St.rest {T : Tab} {W : World} : ∀ {me : List Md}, (∀ m ∈ me, m ≠ .h ∧ m ≠ .q) → St T W me (List.replicate me.length none) (List.replicate me.length .un) []
  | [], _ => ⟨rfl, rfl, rfl⟩
  | m :: me, h => ⟨none, _, .un, _, [], [], rfl, rfl, rfl, (h m (by simp)).1, ⟨rfl, (h m (by simp)).2⟩, St.rest fun m' hm => h m' (by simp [hm])⟩
theorem St.init {T : Tab} {W : World} : ∀ {ms rest : List Md} {ds : List D} {vs : List V}, (∀ m ∈ ms ++ rest, m ≠ .h ∧ m ≠ .q) → ArgsR T W ms ds vs → St T W (ms ++ rest) (vs.map some ++ List.replicate rest.length none) (ds.map .fz ++ List.replicate rest.length .un) []
  | [], rest, ds, vs, h, ⟨e1, e2⟩ => by
    subst e1 e2
    exact St.rest h
  | m :: ms, rest, ds, vs, h, ⟨d, dr, v, vr, e1, e2, r, k⟩ => by
    subst e1 e2
    exact ⟨some v, _, .fz d, _, [], [], rfl, rfl, rfl, (h m (by simp)).1, ⟨rfl, (h m (by simp)).2, v, rfl, r⟩, St.init (fun m' hm => h m' (by simp [hm])) k⟩
theorem ArgsR.pin {T : Tab} {W : World} {v0 : V} : ∀ {ms : List Md} {ds : List D} {vs : List V}, ArgsR T W ms ds vs → ArgsR T { W with pin := v0 } ms ds vs
  | [], _, _, h => h
  | m :: ms, _, _, ⟨d, dr, v, vr, e1, e2, r, k⟩ => ⟨d, dr, v, vr, e1, e2, by cases m <;> exact r, k.pin⟩
theorem ArgsR.len {T : Tab} {W : World} : ∀ {ms : List Md} {ds : List D} {vs : List V}, ArgsR T W ms ds vs → ds.length = ms.length ∧ vs.length = ms.length
  | [], _, _, ⟨e1, e2⟩ => by subst e1 e2; exact ⟨rfl, rfl⟩
  | m :: ms, _, _, ⟨d, dr, v, vr, e1, e2, _, k⟩ => by
    subst e1 e2
    obtain ⟨h1, h2⟩ := k.len
    exact ⟨by simp [h1], by simp [h2]⟩
section
variable {P : Program} {w : PySem.World} {K : PySem.W.Frag} {mg : Str → Option Value} {base : Heap} {T : Tab} {x qual : Str} {st : Stmt} {f : Addr} {fd : FuncData} {N ps : List Str} {k : Nat} {ms rest : List Md} {fb : List SV → Option Out}
/-- the context of the body -/
abbrev bodyX (P : Program) (w : PySem.World) (K : PySem.W.Frag) (mg : Str → Option Value) (base : Heap) (N : List Str) (qual : Str) (st : Stmt) (f : Addr) (cdv : Value) (A : Around) (outer : List Env) (s : Shared) (H : Hp) (E : XK) : Unit → Cx := fun _ => (cxOf CX0 P w K mg base N qual (defScope st) f cdv A outer s H E).nox
theorem start_eq {vs : List V} {n : Nat} (h : vs.length + n = N.length) : L2.start N vs = vs.map some ++ List.replicate n none := by
  unfold L2.start
  rw [show N.length - vs.length = n from by omega]
theorem initS_eq {ds : List D} {n k : Nat} (h : ds.length + k = n) : initS n ds = ds.map .fz ++ List.replicate k .un := by
  unfold initS
  rw [show n - ds.length = k from by omega]
theorem fn_P (F : Fun K x qual st f fd) (S : FnScope N ps (defScope st)) (hp : ps.length = ms.length) (hn : ms.length + rest.length = N.length) (hh : (ms ++ rest).all (fun m => m != .h && m != .q) = true)
    (hb : ∀ (cdv : Value) (A : Around) (outer : List Env) (s : Shared) (H : Hp) (E : XK), Room k (A.deeper (envOfC qual (defScope st) s.heap.objs.size f cdv)) → FSs (bodyX P w K mg base N qual st f cdv A outer s H E) T (ms ++ rest) (defBody st) fb) :
    FnOk P w K mg base CX0 (k + 1) f fd ps (spP T ms (runP fb N.length)) := by
  have hh' : ∀ m ∈ ms ++ rest, m ≠ .h ∧ m ≠ .q := fun m hm => by
    have := List.all_eq_true.mp hh m hm
    cases m with
    | p => exact ⟨by decide, by decide⟩
    | b => exact ⟨by decide, by decide⟩
    | h => cases this
    | q => cases this
  refine F.ok S (fun vs H Q E h => ?_) (fun cdv A outer s H vs Q E hr h => ?_)
  · obtain ⟨W, ds, r, _, a, _, _⟩ := h
    rw [a.len.2, hp]
  · obtain ⟨W, ds, r, rfl, a, hd, q⟩ := h
    obtain ⟨t, h1, h2⟩ := (hb cdv A outer s W.H E hr).ex
    refine ⟨t, h1 (), ?_⟩
    obtain ⟨l1, l2⟩ := a.len
    rw [start_eq (n := rest.length) (by omega)]
    have st0 := St.init hh' a
    obtain ⟨out, k1, k2⟩ := bind_some hd
    rw [initS_eq (k := rest.length) (by omega)] at k1
    refine h2 W _ _ [] st0 List.nodup_nil out k1 _ ?_
    cases out with
    | nx s' =>
      cases k2
      exact fun σ' W' F' t1 n1 _ _ => q .non W' t1 rfl
    | rt o s' =>
      cases k2
      exact fun v σ' W' F' Fr t1 n1 _ r1 nd1 => q v (W'.know .p Fr) (t1.know .p fun a ha => .inl ((n1 a (by simp [ha])).elim (fun z => absurd z (by simp)) (fun z => by rw [z]; exact id))) (RpO.freeze o v Fr (fun _ z => z) r1)
    | bk s' => cases k2
    | ct s' => cases k2
theorem fn_O (F : Fun K x qual st f fd) (S : FnScope N ps (defScope st)) (hp : ps.length = ms.length) (hn : ms.length + rest.length = N.length) (hh : (ms ++ rest).all (fun m => m != .h && m != .q) = true)
    (hb : ∀ (cdv : Value) (A : Around) (outer : List Env) (s : Shared) (H : Hp) (E : XK), Room k (A.deeper (envOfC qual (defScope st) s.heap.objs.size f cdv)) → FSs (bodyX P w K mg base N qual st f cdv A outer s H E) T (ms ++ rest) (defBody st) fb) :
    FnOk P w K mg base CX0 (k + 1) f fd ps (spO T ms (runO fb N.length)) := by
  have hh' : ∀ m ∈ ms ++ rest, m ≠ .h ∧ m ≠ .q := fun m hm => by
    have := List.all_eq_true.mp hh m hm
    cases m with
    | p => exact ⟨by decide, by decide⟩
    | b => exact ⟨by decide, by decide⟩
    | h => cases this
    | q => cases this
  refine F.ok S (fun vs H Q E h => ?_) (fun cdv A outer s H vs Q E hr h => ?_)
  · obtain ⟨W, ds, r, _, a, _, _⟩ := h
    rw [a.len.2, hp]
  · obtain ⟨W, ds, r, rfl, a, hd, q⟩ := h
    obtain ⟨t, h1, h2⟩ := (hb cdv A outer s W.H E hr).ex
    refine ⟨t, h1 (), ?_⟩
    obtain ⟨l1, l2⟩ := a.len
    rw [start_eq (n := rest.length) (by omega)]
    have st0 := St.init hh' a
    obtain ⟨out, k1, k2⟩ := bind_some hd
    rw [initS_eq (k := rest.length) (by omega)] at k1
    refine h2 W _ _ [] st0 List.nodup_nil out k1 _ ?_
    cases out with
    | nx s' =>
      cases k2
      exact fun σ' W' F' t1 n1 _ _ => q .non W' [] t1 ⟨rfl, rfl⟩ (fun a ha => absurd ha (by simp)) List.nodup_nil
    | rt o s' =>
      cases k2
      exact fun v σ' W' F' Fr t1 n1 _ r1 nd1 => q v W' Fr t1 r1 (fun a ha => (n1 a (by simp [ha])).elim (fun z => absurd z (by simp)) id) (List.nodup_append.mp nd1).2.1
    | bk s' => cases k2
    | ct s' => cases k2
theorem fn_M (F : Fun K x qual st f fd) (S : FnScope N ps (defScope st)) (hp : ps.length = ms.length + 1) (hn : ms.length + 1 + rest.length = N.length) (hh : (ms ++ rest).all (fun m => m != .h && m != .q) = true)
    (hb : ∀ (cdv : Value) (A : Around) (outer : List Env) (s : Shared) (H : Hp) (E : XK), Room k (A.deeper (envOfC qual (defScope st) s.heap.objs.size f cdv)) → FSs (bodyX P w K mg base N qual st f cdv A outer s H E) T (.q :: (ms ++ rest)) (defBody st) fb) :
    FnOk P w K mg base CX0 (k + 1) f fd ps (spM T ms (runM fb N.length)) := by
  have hh' : ∀ m ∈ ms ++ rest, m ≠ .h ∧ m ≠ .q := fun m hm => by
    have := List.all_eq_true.mp hh m hm
    cases m with
    | p => exact ⟨by decide, by decide⟩
    | b => exact ⟨by decide, by decide⟩
    | h => cases this
    | q => cases this
  refine F.ok S (fun vs H Q E h => ?_) (fun cdv A outer s H vs Q E hr h => ?_)
  · obtain ⟨W, o, F, v0, vr, ds, r, o', rfl, _, _, _, a, _⟩ := h
    rw [List.length_cons, a.len.2, hp]
  · obtain ⟨W, o, F, v0, vr, ds, r, o', rfl, rfl, ro, nd, a, hd, q⟩ := h
    obtain ⟨t, h1, h2⟩ := (hb cdv A outer s W.H E hr).ex
    refine ⟨t, h1 (), ?_⟩
    obtain ⟨l1, l2⟩ := a.len
    rw [start_eq (n := rest.length) (by rw [List.length_cons]; omega)]
    -- the world in which the first argument is the pinned one
    have keepA : ArgsR T { W with pin := v0 } ms ds vr := a.pin
    have st1 := St.init hh' keepA
    have st0 : St T { W with pin := v0 } (.q :: (ms ++ rest)) (some v0 :: (vr.map some ++ List.replicate rest.length none)) (.own o :: (ds.map .fz ++ List.replicate rest.length .un)) F := by
      refine ⟨some v0, _, .own o, _, F, [], rfl, rfl, by simp, by decide, ⟨v0, rfl, ?_, fun _ => rfl⟩, st1⟩
      exact RpO.keep (W := W) (W' := { W with pin := v0 }) (m := .q) (Sub.refl _) o v0 F (fun _ _ _ e => e) (fun _ _ e => e) (RpO.mode (m := .p) (m' := .q) rfl _ _ _ ro)
    have pinned : ∀ {σ' : List (Option V)} {W' : World} {s' : List SV} {F' : List Addr} {o' : OD}, W'.pin = v0 → St T W' (.q :: (ms ++ rest)) σ' s' F' → s'[0]? = some (SV.own o') → ∃ F1 C, F' = F1 ++ C ∧ RpO T .p W' o' v0 F1 := fun {σ' W' s' F' o'} hp st' e => by
      obtain ⟨x, σ2, sv, s2, F1, F2, e1, e2, e3, _, h1, _⟩ := st'
      subst e2
      have e4 : sv = .own o' := by simpa using e
      subst e4
      obtain ⟨v, _, r, hv⟩ := h1
      have ev : v = v0 := (hv rfl).trans hp
      subst ev
      exact ⟨F1, F2, e3, RpO.mode (m := .q) (m' := .p) rfl _ _ _ r⟩
    have unpin : ∀ {W' : World}, Step F { W with pin := v0 } W' → Step F W { W' with pin := W.pin } := fun t => ⟨t.g, t.b, t.h, t.dom, t.nb, t.ng, rfl⟩
    have unpinR : ∀ {W' : World} {o : OD} {v : V} {Fr : List Addr}, RpO T .p W' o v Fr → RpO T .p { W' with pin := W.pin } o v Fr := fun {W' o v Fr} r => RpO.keep (W := W') (W' := { W' with pin := W.pin }) (m := .p) (Sub.refl _) o v Fr (fun _ _ _ e => e) (fun _ _ e => e) r
    obtain ⟨out, k1, k2⟩ := bind_some hd
    have ei : initM N.length o ds = .own o :: (ds.map .fz ++ List.replicate rest.length .un) := by
      unfold initM
      rw [initS_eq (k := rest.length) (by omega)]
    rw [ei] at k1
    refine h2 { W with pin := v0 } _ _ F st0 nd out k1 _ ?_
    cases out with
    | nx s' =>
      obtain ⟨o2, e', k3⟩ := map_some k2
      have e := slot0_of e'
      cases k3
      intro σ' W' F' t1 n1 st2 nd2
      obtain ⟨F1, C, e3, r3⟩ := pinned t1.pin st2 e
      subst e3
      exact q .non { W' with pin := W.pin } F1 [] (unpin t1) (fun a ha => n1 a (by simp at ha; simp [ha])) (unpinR r3) ⟨rfl, rfl⟩ (by rw [List.append_nil]; exact (List.nodup_append.mp nd2).1)
    | rt r2 s' =>
      obtain ⟨o2, e', k3⟩ := map_some k2
      have e := slot0_of e'
      cases k3
      intro v σ' W' F' Fr t1 n1 st2 r2 nd2
      obtain ⟨F1, C, e3, r3⟩ := pinned t1.pin st2 e
      subst e3
      refine q v { W' with pin := W.pin } F1 Fr (unpin t1) (fun a ha => n1 a (by rcases List.mem_append.mp ha with z | z <;> simp [z])) (unpinR r3) (unpinR r2) ?_
      refine nd2.sublist ?_
      rw [List.append_assoc]
      exact List.Sublist.append_left (List.sublist_append_right C Fr) F1
    | bk s' => cases k2
    | ct s' => cases k2
end
end My

set_option Elab.async false
set_option linter.all false
set_option maxRecDepth 100000
set_option maxHeartbeats 4000000
/-! M8: the rules for statements over the syntax; expressions with effects. -/
namespace My
open PySem PyProof.Rows L2
section
variable {ι : Type} {X : ι → Cx} {T : Tab} {me : List Md} {e a b c : Expr} {es : List Expr} {m m1 m2 : Md} {f fa fb : List SV → Option D} {fo : List SV → Option OD} {fx gx : List SV → Option (D × List SV)} {fxo : List SV → Option (OD × List SV)} {pos pos' p : Pos} {x y : Str} {st : Stmt} {sts : List Stmt} {g g1 g2 : List SV → Option Out} {p1 p2 : List SV → Option Bool} {q1 q2 : List SV → Option (Bool × List SV)}
theorem fss_nil : FSs X T me [] dNx := ⟨tNext, fun _ => pss_nil, ss_next⟩
theorem fss_cons (h : FS X T me st g1) (k : FSs X T me sts g2) : FSs X T me (st :: sts) (dSeq g1 g2) := let ⟨t, h1, h2⟩ := h.ex; let ⟨u, h3, h4⟩ := k.ex; ⟨_, fun j => pss_cons (h1 j) (h3 j), ss_seq h2 h4⟩
theorem fss_one (h : FS X T me st g1) : FSs X T me [st] g1 := let ⟨t, h1, h2⟩ := h.ex; ⟨t, fun j => pss_one (h1 j), h2⟩
theorem fs_set (i : Nat) (hN : ∀ j, (X j).N.Nodup) (h : FP X T me e m f) (hm : me[i]? = some m := by rfl) (hq : m ≠ .q := by decide) (hi : ∀ j, (X j).N[i]? = some x := by intro _; rfl) (hx : ∀ j, Loc (X j).env.scope x := by intro _; first | exact Or.inl rfl | exact Or.inr rfl)
    (hs : ∀ j, swapsWith e (some (.Name x pos')) pos.line (X j).env = pure false := by intro _; rfl) (hf : ∀ j, (X j).fn x = true ∨ (X j).env.scope.names.lookup x = some .local := by intro _; first | exact .inl rfl | exact .inr rfl) : FS X T me (.Assign [.Name x pos'] e pos) (dSet i f) :=
  let ⟨t, h1, h2⟩ := h.ex; ⟨_, fun j => ps_set (hN j) (hi j) (hx j) (h1 j) (hs j) (hf j), ss_set h2 hm hq⟩
theorem fs_setO (i : Nat) (hN : ∀ j, (X j).N.Nodup) (h : FO X T me e m fo) (hm : me[i]? = some m := by rfl) (hq : m ≠ .q := by decide) (hi : ∀ j, (X j).N[i]? = some x := by intro _; rfl) (hx : ∀ j, Loc (X j).env.scope x := by intro _; first | exact Or.inl rfl | exact Or.inr rfl)
    (hs : ∀ j, swapsWith e (some (.Name x pos')) pos.line (X j).env = pure false := by intro _; rfl) (hf : ∀ j, (X j).fn x = true ∨ (X j).env.scope.names.lookup x = some .local := by intro _; first | exact .inl rfl | exact .inr rfl) : FS X T me (.Assign [.Name x pos'] e pos) (dSetO i fo) :=
  let ⟨t, h1, h2⟩ := h.ex; ⟨_, fun j => ps_set (hN j) (hi j) (hx j) (h1 j) (hs j) (hf j), ss_setO h2 hm hq⟩
theorem fs_setX (i : Nat) (hN : ∀ j, (X j).N.Nodup) (h : FX X T me e m fx) (hm : me[i]? = some m := by rfl) (hq : m ≠ .q := by decide) (hi : ∀ j, (X j).N[i]? = some x := by intro _; rfl) (hx : ∀ j, Loc (X j).env.scope x := by intro _; first | exact Or.inl rfl | exact Or.inr rfl)
    (hs : ∀ j, swapsWith e (some (.Name x pos')) pos.line (X j).env = pure false := by intro _; rfl) (hf : ∀ j, (X j).fn x = true ∨ (X j).env.scope.names.lookup x = some .local := by intro _; first | exact .inl rfl | exact .inr rfl) : FS X T me (.Assign [.Name x pos'] e pos) (dSetX i fx) :=
  let ⟨t, h1, h2⟩ := h.ex; ⟨_, fun j => ps_set (hN j) (hi j) (hx j) (h1 j) (hs j) (hf j), ss_setX h2 hm hq⟩
theorem fs_setXo (i : Nat) (hN : ∀ j, (X j).N.Nodup) (h : FXo X T me e m fxo) (hm : me[i]? = some m := by rfl) (hq : m ≠ .q := by decide) (hi : ∀ j, (X j).N[i]? = some x := by intro _; rfl) (hx : ∀ j, Loc (X j).env.scope x := by intro _; first | exact Or.inl rfl | exact Or.inr rfl)
    (hs : ∀ j, swapsWith e (some (.Name x pos')) pos.line (X j).env = pure false := by intro _; rfl) (hf : ∀ j, (X j).fn x = true ∨ (X j).env.scope.names.lookup x = some .local := by intro _; first | exact .inl rfl | exact .inr rfl) : FS X T me (.Assign [.Name x pos'] e pos) (dSetXo i fxo) :=
  let ⟨t, h1, h2⟩ := h.ex; ⟨_, fun j => ps_set (hN j) (hi j) (hx j) (h1 j) (hs j) (hf j), ss_setXo h2 hm hq⟩
theorem fs_drop (h : FP X T me e m f) (hs : ∀ j, swapsWith e none pos.line (X j).env = pure false := by intro _; rfl) : FS X T me (.Expr e pos) (dDrop f) := let ⟨t, h1, h2⟩ := h.ex; ⟨_, fun j => ps_expr (h1 j) (hs j), ss_drop h2⟩
theorem fs_dropX (h : FX X T me e m fx) (hs : ∀ j, swapsWith e none pos.line (X j).env = pure false := by intro _; rfl) : FS X T me (.Expr e pos) (dDropX fx) := let ⟨t, h1, h2⟩ := h.ex; ⟨_, fun j => ps_expr (h1 j) (hs j), ss_dropX h2⟩
theorem fs_if {sa sb : List Stmt} (hc : FT X T me c p1) (ha : FSs X T me sa g1) (hb : FSs X T me sb g2) : FS X T me (.If c sa sb pos) (dIfS p1 g1 g2) := let ⟨t, h1, h2⟩ := hc.ex; let ⟨u, h3, h4⟩ := ha.ex; let ⟨w, h5, h6⟩ := hb.ex; ⟨_, fun j => ps_if (h1 j) (h3 j) (h5 j), ss_if h2 h4 h6⟩
theorem fs_ifX {sa sb : List Stmt} (hc : FXb X T me c q1) (ha : FSs X T me sa g1) (hb : FSs X T me sb g2) : FS X T me (.If c sa sb pos) (dIfX q1 g1 g2) := let ⟨t, h1, h2⟩ := hc.ex; let ⟨u, h3, h4⟩ := ha.ex; let ⟨w, h5, h6⟩ := hb.ex; ⟨_, fun j => ps_if (h1 j) (h3 j) (h5 j), ss_ifX h2 h4 h6⟩
theorem fs_ret (h : FP X T me e .p f) : FS X T me (.Return (some e) pos) (dRet f) := let ⟨t, h1, h2⟩ := h.ex; ⟨_, fun j => ps_ret (h1 j), ss_ret h2⟩
theorem fs_retO (h : FO X T me e .p fo) : FS X T me (.Return (some e) pos) (dRetO fo) := let ⟨t, h1, h2⟩ := h.ex; ⟨_, fun j => ps_ret (h1 j), ss_retO h2⟩
theorem fs_retX (h : FX X T me e .p fx) : FS X T me (.Return (some e) pos) (dRetX fx) := let ⟨t, h1, h2⟩ := h.ex; ⟨_, fun j => ps_ret (h1 j), ss_retX h2⟩
theorem fs_retXo (h : FXo X T me e .p fxo) : FS X T me (.Return (some e) pos) (dRetXo fxo) := let ⟨t, h1, h2⟩ := h.ex; ⟨_, fun j => ps_ret (h1 j), ss_retXo h2⟩
theorem fs_retI (i : Nat) (hm : me[i]? = some .p := by rfl) (hN : ∀ j, (X j).N[i]? = some x := by intro _; rfl) (hv : ∀ j, Vis (X j).env.scope x := by intro _; first | exact Or.inl rfl | exact Or.inr (Or.inl rfl) | exact Or.inr (Or.inr rfl))
    (hd : (x == ("__debug__" : Str)) = false := by decide) (hcd : (x == ("__classdict__" : Str)) = false := by decide) : FS X T me (.Return (some (.Name x p)) pos) (dRetI i) := ⟨_, fun j => ps_ret (pe_var (hN j) (hv j) hd hcd), ss_retI hm⟩
theorem fs_pass : FS X T me (.Pass pos) dNx := ⟨_, fun _ => ps_pass, ss_next⟩
theorem fs_cont : FS X T me (.Continue pos) dCt := ⟨_, fun _ => ps_continue, ss_cont⟩
theorem fs_break : FS X T me (.Break pos) dBk := ⟨_, fun _ => ps_break, ss_break⟩
theorem fs_for {tg iter : Expr} {body : List Stmt} {ms : Md} {vs : List Nat} {fi : List SV → Option (List D)} {bind : D → List SV → Option (List SV)} {fbd : List SV → Option Out} (hp : ∀ j, PassesOwn (model (X j).prog (X j).w) (X j).A (X j).env (X j).xe) (hc : ∀ j, (X j).calm = true) (hi : FI X T me tg iter ms m fi) (hg : FG X T me tg m vs bind) (hb : FSs X T me body fbd) (hms : ms ≠ .h := by decide)
    (hs : ∀ j, ∀ x, foldedSetIterable iter (X j).env x = pure x := by intro _ _; rfl) : FS X T me (.For tg iter body [] pos) (dFor fi bind fbd) :=
  let ⟨t, h1, h2⟩ := hi.ex; let ⟨u, h3, h4⟩ := hg.ex; let ⟨w, h5, h6⟩ := hb.ex; ⟨_, fun j => ps_for (hp j) (hc j) (h1 j) (h3 j) (h5 j) (hs j), ss_for h2 h4 h6 hms⟩
theorem fs_while (fuel : Nat) {body : List Stmt} {fbd : List SV → Option Out} (hp : ∀ j, PassesOwn (model (X j).prog (X j).w) (X j).A (X j).env (X j).xe) (hc : FT X T me c p1) (hb : FSs X T me body fbd) : FS X T me (.While c body [] pos) (whileGo p1 fbd fuel) :=
  let ⟨t, h1, h2⟩ := hc.ex; let ⟨w, h5, h6⟩ := hb.ex; ⟨_, fun j => ps_while (hp j) (h1 j) (h5 j), ss_while fuel h2 h6⟩
/-- y = [..] on one line -/
theorem fs_setLc (i : Nat) {tg iter elt : Expr} {ifs : List Expr} {ms : Md} {scope : Scope} {own : List (Str × Nat)} {lpos spos : Pos} {fi : List SV → Option (List D)} {bind : D → List SV → Option (List SV)} {pr : List SV → Option Bool} {fe : List SV → Option D}
    (hc : ∀ j, (X j).calm = true) (hN : ∀ j, (X j).N.Nodup) (hi : FI X T me tg iter ms m fi) (ok : ∀ j, BlkOk (X j).N (X j).env.scope scope own) (hg : FG (Blk X scope) T me tg m (own.map (·.2)) bind) (ht : FTs (Blk X scope) T me ifs pr) (he : FP (Blk X scope) T me elt m2 fe)
    (hm : me[i]? = some m2 := by rfl) (hh : m2 ≠ .h := by decide) (hq : m2 ≠ .q := by decide) (hqs : ∀ v ∈ own.map (·.2), me[v]? ≠ some .q := by decide) (hy : ∀ j, (X j).N[i]? = some y := by intro _; rfl) (hyl : ∀ j, (X j).env.scope.names.lookup y = some .local := by intro _; rfl)
    (hsw : ∀ j, swapsWith (.ListComp elt [⟨tg, iter, ifs, 0⟩] scope lpos) (some (.Name y pos')) spos.line (X j).env = pure true := by intro _; exact sw_true rfl rfl rfl (by decide +kernel)) (hs : ∀ j, ∀ x, foldedSetIterable iter (X j).env x = pure x := by intro _ _; rfl) :
    FS X T me (.Assign [.Name y pos'] (.ListComp elt [⟨tg, iter, ifs, 0⟩] scope lpos) spos) (dSetO i (dLc fi (own.map (·.2)) bind pr fe)) := by
  obtain ⟨wi, h1, h2⟩ := hi.ex
  obtain ⟨g, h3, h4⟩ := hg.ex
  obtain ⟨tt, h5, h6⟩ := ht.ex
  obtain ⟨te, h7, h8⟩ := he.ex
  exact ⟨_, fun j => ps_setLc (hc j) (hN j) (hy j) (hyl j) (hsw j) (h1 j) (ok j) (fun s H C cl fp => h3 (j, s, H, C, cl, fp)) (fun s H C cl fp => h5 (j, s, H, C, cl, fp)) (fun s H C cl fp => h7 (j, s, H, C, cl, fp)) (hs j), ss_setO (so_lc h2 h4 h6 h8 hh hqs) hm hq⟩
/-- x[k] = v, x an own list -/
theorem fs_setIx (i : Nat) {tpos : Pos} (hk : FP X T me b m1 fb) (hv : FP X T me e m f) (hm : me[i]? = some m := by rfl) (hN : ∀ j, (X j).N[i]? = some x := by intro _; rfl) (hvi : ∀ j, Vis (X j).env.scope x := by intro _; first | exact Or.inl rfl | exact Or.inr (Or.inl rfl) | exact Or.inr (Or.inr rfl))
    (hd : (x == ("__debug__" : Str)) = false := by decide) (hcd : (x == ("__classdict__" : Str)) = false := by decide)
    (ha : ∀ j, ∀ v, assign (.Subscript (.Name x p) b tpos) (X j).env v = (do
      let ov ← holding [v] (eval (.Name x p) (X j).env)
      let iv ← holding [v, ov] (eval b (X j).env)
      standAt tpos
      holding [v, ov, iv] (setItem ov iv v)
      release [v, ov, iv] []) := by intro _ _; rfl)
    (hs : ∀ j, swapsWithSole [.Subscript (.Name x p) b tpos] e pos.line (X j).env = pure false := by intro _; rfl) (hw : ∀ j, swappedStores [.Subscript (.Name x p) b tpos] e (X j).env = pure none := by intro _; rfl)
    (h1 : ∀ j, (assignEach [.Subscript (.Name x p) b tpos] (X j).env).map (·.2) = [assign (.Subscript (.Name x p) b tpos) (X j).env] := by intro _; rfl) : FS X T me (.Assign [.Subscript (.Name x p) b tpos] e pos) (dSetIx i fb f) := by
  obtain ⟨tk, k1, k2⟩ := hk.ex
  obtain ⟨tv, k3, k4⟩ := hv.ex
  exact ⟨_, fun j => ps_asg (k3 j) (pg_sub (pe_var (hN j) (hvi j) hd hcd) (k1 j) set_list (ha j)) (hs j) (hw j) (h1 j), ss_setIx rfl k2 k4 hm⟩
theorem pget_list {Y : Cx} : PGet Y (rIxL Y.K) := by
  intro pins s σ H o i ov iv Q I ro ri h
  obtain ⟨p, xs, k, v, rfl, rfl, hq, ha, q⟩ := h
  cases ro
  obtain ⟨t, rfl⟩ := ri
  obtain ⟨its, r, pl, hz⟩ := I.list hq
  obtain ⟨j, h1, h2, h3, h4, h5⟩ := atI_get ha
  obtain ⟨u, eu, ru⟩ := r.get h2
  have hl := r.length
  have hn := line63
  have fin : EP Y pins σ Q u s := ⟨v, H, I, ru, q⟩
  by_cases h0 : 0 ≤ k
  · have hj : k.toNat = j := by
      rw [seqIndex_of h0 h5] at h1
      exact Option.some.inj h1
    exact wpAny_getItem_list pl.isList h0 (by omega) (by rw [hj]; simpa using eu) fin
  · have hj : (k + (its.toArray.size : Int)).toNat = j := by
      rw [seqIndex_neg (by omega) h4] at h1
      rw [List.size_toArray, ← hl]
      exact Option.some.inj h1
    exact wpAny_getItem_list_neg pl.isList (by omega) (by rw [List.size_toArray] <;> omega) (by omega) (by rw [hj]; simpa using eu) fin
theorem pip_add {Y : Cx} : PIp Y .Add (rI0 fun i j => .int (i + j)) := fun pins s σ H x y v u Q I rx ry h => by
  obtain ⟨i, j, e1, e2, q⟩ := h
  exact ip_add pins s σ H x y v u Q I rx ry ⟨i, j, e1, e2, q⟩
theorem pip_sub {Y : Cx} : PIp Y .Sub (rI0 fun i j => .int (i - j)) := fun pins s σ H x y v u Q I rx ry h => by
  obtain ⟨i, j, e1, e2, q⟩ := h
  exact ip_sub pins s σ H x y v u Q I rx ry ⟨i, j, e1, e2, q⟩
theorem opd_addQ {T : Tab} {m1 m2 m : Md} : OpD T m1 m2 m (rI0 fun i j => .int (i + j)) dAddI := fun W x y dx dy d r1 r2 h Q q => by
  obtain ⟨i, j, rfl, rfl, _, rfl⟩ := int2 h
  exact ⟨i, j, r1, r2, q _ W (Step.refl _ _) rfl⟩
theorem opd_subQ {T : Tab} {m1 m2 m : Md} : OpD T m1 m2 m (rI0 fun i j => .int (i - j)) dSub := fun W x y dx dy d r1 r2 h Q q => by
  obtain ⟨i, j, rfl, rfl, _, rfl⟩ := int2 h
  exact ⟨i, j, r1, r2, q _ W (Step.refl _ _) rfl⟩
/-- x[k] += v, x an own list -/
theorem fs_addIx (i : Nat) {tpos : Pos} (hK : ∀ j, (X j).K = T.K) (hk : FP X T me b m1 fb) (hv : FP X T me e m2 f) (hm : me[i]? = some m := by rfl) (hN : ∀ j, (X j).N[i]? = some x := by intro _; rfl) (hvi : ∀ j, Vis (X j).env.scope x := by intro _; first | exact Or.inl rfl | exact Or.inr (Or.inl rfl) | exact Or.inr (Or.inr rfl))
    (hd : (x == ("__debug__" : Str)) = false := by decide) (hcd : (x == ("__classdict__" : Str)) = false := by decide)
    (ha : ∀ ov iv new, augStore b ov iv new = (do holding [new, ov, iv] (setItem ov iv new); release [new, ov, iv] []; pure .next) := by intros; rfl) : FS X T me (.AugAssign (.Subscript (.Name x p) b tpos) .Add e pos) (dAugIx dAddI i fb f) := by
  obtain ⟨tk, k1, k2⟩ := hk.ex
  obtain ⟨tv, k3, k4⟩ := hv.ex
  exact ⟨_, fun j => ps_augS (pe_var (hN j) (hvi j) hd hcd) (k1 j) (by have h : PGet (X j) (rIxL (X j).K) := pget_list; rw [hK j] at h; exact h) (k3 j) pip_add set_list ha, ss_augIx rfl k2 k4 hm opd_addQ⟩
theorem fs_aug (i : Nat) (hN : ∀ j, (X j).N.Nodup) (h : FP X T me e m1 f) (hm : me[i]? = some m := by rfl) (hq : m ≠ .q := by decide) (hi : ∀ j, (X j).N[i]? = some x := by intro _; rfl) (hx : ∀ j, Loc (X j).env.scope x := by intro _; first | exact Or.inl rfl | exact Or.inr rfl)
    (hf : ∀ j, (X j).fn x = true ∨ (X j).env.scope.names.lookup x = some .local := by intro _; first | exact .inl rfl | exact .inr rfl) : FS X T me (.AugAssign (.Name x pos') .Add e pos) (dAug dAddI i f) :=
  let ⟨t, h1, h2⟩ := h.ex; ⟨_, fun j => ps_aug (hN j) (hi j) (hx j) (h1 j) pip_add (hf j), ss_aug h2 hm hq opd_addQ⟩
/-- x.append(v), x an own list -/
theorem fs_app (i : Nat) {apos : Pos} (hv : FP X T me e m f) (hm : me[i]? = some m := by rfl) (hN : ∀ j, (X j).N[i]? = some x := by intro _; rfl) (hvi : ∀ j, Vis (X j).env.scope x := by intro _; first | exact Or.inl rfl | exact Or.inr (Or.inl rfl) | exact Or.inr (Or.inr rfl))
    (hK : ∀ j, (X j).K = T.K) (hd : (x == ("__debug__" : Str)) = false := by decide) (hcd : (x == ("__classdict__" : Str)) = false := by decide)
    (hbase : ∀ j : ι, attributeBase (.Name x p) "append" (X j).env (eval (.Name x p) (X j).env) = eval (.Name x p) (X j).env := by intro _; rfl)
    (hfew : ∀ j : ι, ((backTo pos' (starEach [e] (X j).env)).all (fun x => !x.1) && (backToKw pos' (keywordEach [] (X j).env)).all (fun x => x.1.isSome)
      && decide ([e].length + ([] : List Keyword).length + (if ([] : List Keyword).isEmpty then 0 else 1) < 30)) = true := by intro _; rfl)
    (hline : (apos.endLine == pos'.line) = true := by rfl) (hs : ∀ j, starEach [e] (X j).env = (false, eval e (X j).env) :: starEach [] (X j).env := by intro _; rfl) (hplain : ∀ j : ι, (backTo pos' (starEach [] (X j).env)).any (·.1) = false := by intro _; rfl)
    (hsw : ∀ j, swapsWith (.Call (.Attribute (.Name x p) "append" apos) [e] [] pos') none pos.line (X j).env = pure false := by intro _; rfl) : FS X T me (.Expr (.Call (.Attribute (.Name x p) "append" apos) [e] [] pos') pos) (dApp i f) := by
  obtain ⟨tv, k3, k4⟩ := hv.ex
  refine ⟨tDrop (tBM T.K "list" rAppend (tVar i) (tCons tv tNil)), fun j => ?_, ss_app rfl k4 hm⟩
  have h := pe_bm PySem.F.plainAttrs_list PySem.F.slot_list_append PySem.F.type_list_append mt_append (pe_var (X := X j) (hN j) (hvi j) hd hcd (pos := p)) (pa_cons (k3 j) pa_nil (hs j)) (hbase j) (hfew j) hline (hs j) (hplain j)
  rw [hK j] at h
  exact ps_expr h (hsw j)
theorem fs_appX (i : Nat) {apos : Pos} (hv : FX X T me e m fx) (hm : me[i]? = some m := by rfl) (hN : ∀ j, (X j).N[i]? = some x := by intro _; rfl) (hvi : ∀ j, Vis (X j).env.scope x := by intro _; first | exact Or.inl rfl | exact Or.inr (Or.inl rfl) | exact Or.inr (Or.inr rfl))
    (hK : ∀ j, (X j).K = T.K) (hd : (x == ("__debug__" : Str)) = false := by decide) (hcd : (x == ("__classdict__" : Str)) = false := by decide)
    (hbase : ∀ j : ι, attributeBase (.Name x p) "append" (X j).env (eval (.Name x p) (X j).env) = eval (.Name x p) (X j).env := by intro _; rfl)
    (hfew : ∀ j : ι, ((backTo pos' (starEach [e] (X j).env)).all (fun x => !x.1) && (backToKw pos' (keywordEach [] (X j).env)).all (fun x => x.1.isSome)
      && decide ([e].length + ([] : List Keyword).length + (if ([] : List Keyword).isEmpty then 0 else 1) < 30)) = true := by intro _; rfl)
    (hline : (apos.endLine == pos'.line) = true := by rfl) (hs : ∀ j, starEach [e] (X j).env = (false, eval e (X j).env) :: starEach [] (X j).env := by intro _; rfl) (hplain : ∀ j : ι, (backTo pos' (starEach [] (X j).env)).any (·.1) = false := by intro _; rfl)
    (hsw : ∀ j, swapsWith (.Call (.Attribute (.Name x p) "append" apos) [e] [] pos') none pos.line (X j).env = pure false := by intro _; rfl) : FS X T me (.Expr (.Call (.Attribute (.Name x p) "append" apos) [e] [] pos') pos) (dAppX i fx) := by
  obtain ⟨tv, k3, k4⟩ := hv.ex
  refine ⟨tDrop (tBM T.K "list" rAppend (tVar i) (tCons tv tNil)), fun j => ?_, ss_appX rfl k4 hm⟩
  have h := pe_bm PySem.F.plainAttrs_list PySem.F.slot_list_append PySem.F.type_list_append mt_append (pe_var (X := X j) (hN j) (hvi j) hd hcd (pos := p)) (pa_cons (k3 j) pa_nil (hs j)) (hbase j) (hfew j) hline (hs j) (hplain j)
  rw [hK j] at h
  exact ps_expr h (hsw j)

/-! ### expressions with effects -/
def xOf (f : List SV → Option D) (s : List SV) : Option (D × List SV) := (f s).map fun d => (d, s)
def xOfO (f : List SV → Option OD) (s : List SV) : Option (OD × List SV) := (f s).map fun d => (d, s)
def xFr (f : List SV → Option (OD × List SV)) (s : List SV) : Option (D × List SV) := (f s).map fun r => (r.1.toD, r.2)
def xOp (g : D → D → Option D) (fa fb : List SV → Option (D × List SV)) (s : List SV) : Option (D × List SV) := (fa s).bind fun ra => (fb ra.2).bind fun rb => (g ra.1 rb.1).map fun d => (d, rb.2)
def xUn (g : D → Option D) (fa : List SV → Option (D × List SV)) (s : List SV) : Option (D × List SV) := (fa s).bind fun ra => (g ra.1).map fun d => (d, ra.2)
def xTest (f : List SV → Option (D × List SV)) (s : List SV) : Option (Bool × List SV) := (f s).bind fun r => match r.1 with
  | .bl b => some (b, r.2)
  | _ => none
def xbOf (f : List SV → Option Bool) (s : List SV) : Option (Bool × List SV) := (f s).map fun b => (b, s)
def xAnd (f g : List SV → Option (Bool × List SV)) (s : List SV) : Option (Bool × List SV) := (f s).bind fun r => if r.1 then g r.2 else some (false, r.2)
def xOr (f g : List SV → Option (Bool × List SV)) (s : List SV) : Option (Bool × List SV) := (f s).bind fun r => if r.1 then some (true, r.2) else g r.2
def xNot (f : List SV → Option (Bool × List SV)) (s : List SV) : Option (Bool × List SV) := (f s).map fun r => (!r.1, r.2)
def xIf (c : List SV → Option (Bool × List SV)) (f g : List SV → Option (D × List SV)) (s : List SV) : Option (D × List SV) := (c s).bind fun r => if r.1 then f r.2 else g r.2
theorem sx_of {te : TE} (h : SP T me te m f) : SX T me te m (xOf f) := fun W σ s F st nd d s' hd Q q => by
  obtain ⟨d0, k1, k2⟩ := map_some hd
  cases k2
  exact h W σ s F st d k1 _ fun v W1 t1 r1 => q v W1 F (t1.mono (by simp)) (NewF.refl _ _) (st.step t1) nd r1
theorem fx_of (h : FP X T me e m f) : FX X T me e m (xOf f) := let ⟨t, h1, h2⟩ := h.ex; ⟨t, h1, sx_of h2⟩
theorem fxo_of (h : FO X T me e m fo) : FXo X T me e m (xOfO fo) := by
  obtain ⟨t, h1, h2⟩ := h.ex
  refine ⟨t, h1, fun W σ s F st nd o s' hd Q q => ?_⟩
  obtain ⟨d0, k1, k2⟩ := map_some hd
  cases k2
  refine h2 W σ s F st o k1 _ fun v W1 Fr t1 r1 n1 ndr => ?_
  exact q v W1 F Fr (t1.mono (by simp)) (fun a ha => (List.mem_append.mp ha).imp id (n1 a)) (st.step t1) (List.nodup_append.mpr ⟨nd, ndr, fun a ha b hb e => by
    subst e
    exact (st.there a ha).1.ne (n1 a hb)⟩) r1
theorem fx_fr (h : FXo X T me e m fxo) : FX X T me e m (xFr fxo) := by
  obtain ⟨t, h1, h2⟩ := h.ex
  refine ⟨t, h1, fun W σ s F st nd d s' hd Q q => ?_⟩
  obtain ⟨⟨o, s1⟩, k1, k2⟩ := map_some hd
  cases k2
  refine h2 W σ s F st nd o s1 k1 _ fun v W1 F1 Fr t1 n1 st1 nd1 r1 => ?_
  have nd2 := List.nodup_append.mp nd1
  refine q v (W1.know m Fr) F1 (t1.know m fun a ha => (n1 a (by simp [ha])).symm.imp (fun z => by rw [z]; exact id) id) (fun a ha => n1 a (by simp [ha])) ?_ nd2.1 (RpO.freeze o v Fr (fun _ z => z) r1)
  exact st1.keep (W1.know_up m Fr .p) (W1.know_up m Fr .b) rfl (fun _ _ _ e => e) fun a ha e => by
    show addK W1.B W1.H Fr a = none
    rw [addK_out (fun z => nd2.2.2 a ha a z rfl)]
    exact e
theorem sx_op {ta tb : TE} {r : R2} {g : D → D → Option D} (hr : OpD T m1 m2 m r g) (ha : SX T me ta m1 fx) (hb : SX T me tb m2 gx) (hm : m1 ≠ .h) : SX T me (tOp r ta tb) m (xOp g fx gx) := fun W σ s F st nd d s' h Q q => by
  obtain ⟨⟨da, s1⟩, h1, h⟩ := bind_some h
  obtain ⟨⟨db, s2⟩, h2, h⟩ := bind_some h
  obtain ⟨d0, h3, h4⟩ := map_some h
  cases h4
  refine ha W σ s F st nd da s1 h1 _ fun x W1 F1 t1 n1 st1 nd1 r1 => ?_
  refine hb W1 σ s1 F1 st1 nd1 db s2 h2 _ fun y W2 F2 t2 n2 st2 nd2 r2 => ?_
  exact hr W2 x y da db d (Rp.mono (t2.at2 hm) da x r1) r2 h3 Q fun v W3 t3 r3 => q v W3 F2 ((t1.trans n1 t2).pureR t3) (n1.trans t1 n2) (st2.step t3) nd2 r3
theorem fx_op {op : Operator} {r : R2} {g : D → D → Option D} (ho : ∀ j, OpR (X j) (binaryOp op) r) (hr : OpD T m1 m2 m r g) (ha : FX X T me a m1 fx) (hb : FX X T me b m2 gx) (hm : m1 ≠ .h := by decide) : FX X T me (.BinOp a op b pos) m (xOp g fx gx) :=
  let ⟨t, h1, h2⟩ := ha.ex; let ⟨u, h3, h4⟩ := hb.ex; ⟨_, fun j => pe_op (ho j) (h1 j) (h3 j), sx_op hr h2 h4 hm⟩
theorem fx_addI (ha : FX X T me a m1 fx) (hb : FX X T me b m2 gx) (hm : m1 ≠ .h := by decide) : FX X T me (.BinOp a .Add b pos) .p (xOp dAddI fx gx) := fx_op (fun _ => op_add) opd_I0 ha hb hm
theorem fx_sub (ha : FX X T me a m1 fx) (hb : FX X T me b m2 gx) (hm : m1 ≠ .h := by decide) : FX X T me (.BinOp a .Sub b pos) .p (xOp dSub fx gx) := fx_op (fun _ => op_sub) opd_I0 ha hb hm
theorem fx_mul (ha : FX X T me a m1 fx) (hb : FX X T me b m2 gx) (hm : m1 ≠ .h := by decide) : FX X T me (.BinOp a .Mult b pos) .p (xOp dMul fx gx) := fx_op (fun _ => op_mulW) (opd_I fun i j h => (of_decide_eq_true h : i.natAbs.log2 + j.natAbs.log2 < 1000000)) ha hb hm
theorem fx_ix (hK : ∀ j, (X j).K = T.K) (ha : FX X T me a m fx) (hb : FX X T me b m2 gx) (hm : m ≠ .h := by decide) (hs : PlainIx b := by exact fun _ _ => rfl) : FX X T me (.Subscript a b pos) m (xOp dIx fx gx) := by
  obtain ⟨t, h1, h2⟩ := ha.ex
  obtain ⟨u, h3, h4⟩ := hb.ex
  exact ⟨_, fun j => pe_ix (by have h : IxR (X j) (rIx (X j).K) := ix_seq; rw [hK j] at h; exact h) (h1 j) (h3 j) hs, sx_op opd_ix h2 h4 hm⟩
theorem fx_cmp {op : CmpOp} {r : R2} {g : D → D → Option D} (ho : ∀ j, OpR (X j) (compareOp op) r) (hr : OpD T m1 m2 m r g) (ha : FX X T me a m1 fx) (hb : FX X T me b m2 gx) (hm1 : m1 ≠ .h := by decide) (hm : behindInMarks op b = false := by first | exact nomark _ | rfl) : FX X T me (.Compare a [op] [b] pos) m (xOp g fx gx) :=
  let ⟨t, h1, h2⟩ := ha.ex; let ⟨u, h3, h4⟩ := hb.ex; ⟨_, fun j => pe_cmpR (ho j) (h1 j) (h3 j) hm, sx_op hr h2 h4 hm1⟩
theorem sxb_test {te : TE} (h : SX T me te m fx) : SXb T me (tTest te) (xTest fx) := fun W σ s F st nd b s' hb Q q => by
  obtain ⟨⟨d, s1⟩, h1, h2⟩ := bind_some hb
  refine h W σ s F st nd d s1 h1 _ fun v W1 F1 t1 n1 st1 nd1 r1 => ?_
  cases d with
  | bl k' =>
    cases h2
    exact ⟨_, r1, q W1 F1 t1 n1 st1 nd1⟩
  | _ => cases h2
theorem fxb_cmp {op : CmpOp} {r : R2} {g : D → D → Option D} (ho : ∀ j, OpR (X j) (compareOp op) r) (hr : OpD T m1 m2 m r g) (ha : FX X T me a m1 fx) (hb : FX X T me b m2 gx) (hm1 : m1 ≠ .h := by decide) (hm : behindInMarks op b = false := by first | exact nomark _ | rfl) : FXb X T me (.Compare a [op] [b] pos) (xTest (xOp g fx gx)) :=
  let ⟨t, h1, h2⟩ := ha.ex; let ⟨u, h3, h4⟩ := hb.ex; ⟨_, fun j => pt_cmpR (ho j) (h1 j) (h3 j) hm, sxb_test (sx_op hr h2 h4 hm1)⟩
theorem fxb_of (h : FT X T me c p1) : FXb X T me c (xbOf p1) := by
  obtain ⟨t, h1, h2⟩ := h.ex
  refine ⟨t, h1, fun W σ s F st nd b s' hb Q q => ?_⟩
  obtain ⟨d0, k1, k2⟩ := map_some hb
  cases k2
  exact h2 W σ s F st b k1 _ fun W1 t1 => q W1 F (t1.mono (by simp)) (NewF.refl _ _) (st.step t1) nd
structure FXw (X : ι → Cx) (T : Tab) (me : List Md) (e : Expr) (f : List SV → Option (Bool × List SV)) : Prop where
  ex : ∃ tt, (∀ j, PW (X j) e tt) ∧ SXb T me tt f
variable {rest : List Expr}
theorem sxb_and {t u : TT} (h1 : SXb T me t q1) (h2 : SXb T me u q2) : SXb T me (tAnd t u) (xAnd q1 q2) := fun W σ s F st nd b s' hb Q q => by
  obtain ⟨⟨k, s1⟩, k1, k2⟩ := bind_some hb
  refine h1 W σ s F st nd k s1 k1 _ fun W1 F1 t1 n1 st1 nd1 => ?_
  cases k with
  | true => exact h2 W1 σ s1 F1 st1 nd1 b s' k2 Q fun W2 F2 t2 n2 st2 nd2 => q W2 F2 (t1.trans n1 t2) (n1.trans t1 n2) st2 nd2
  | false =>
    cases k2
    exact q W1 F1 t1 n1 st1 nd1
theorem sxb_or {t u : TT} (h1 : SXb T me t q1) (h2 : SXb T me u q2) : SXb T me (tOr t u) (xOr q1 q2) := fun W σ s F st nd b s' hb Q q => by
  obtain ⟨⟨k, s1⟩, k1, k2⟩ := bind_some hb
  refine h1 W σ s F st nd k s1 k1 _ fun W1 F1 t1 n1 st1 nd1 => ?_
  cases k with
  | false => exact h2 W1 σ s1 F1 st1 nd1 b s' k2 Q fun W2 F2 t2 n2 st2 nd2 => q W2 F2 (t1.trans n1 t2) (n1.trans t1 n2) st2 nd2
  | true =>
    cases k2
    exact q W1 F1 t1 n1 st1 nd1
theorem fxw_and1 (h : FXb X T me a q1) : FXw X T me (.BoolOp .And [a] pos) q1 := let ⟨t, h1, h2⟩ := h.ex; ⟨t, fun j => pw_and1 (h1 j), h2⟩
theorem fxw_or1 (h : FXb X T me a q1) : FXw X T me (.BoolOp .Or [a] pos) q1 := let ⟨t, h1, h2⟩ := h.ex; ⟨t, fun j => pw_or1 (h1 j), h2⟩
theorem fxw_and (h : FXb X T me a q1) (k : FXw X T me (.BoolOp .And (b :: rest) pos) q2) : FXw X T me (.BoolOp .And (a :: b :: rest) pos) (xAnd q1 q2) := let ⟨t, h1, h2⟩ := h.ex; let ⟨u, h3, h4⟩ := k.ex; ⟨_, fun j => pw_and (h1 j) (h3 j), sxb_and h2 h4⟩
theorem fxw_or (h : FXb X T me a q1) (k : FXw X T me (.BoolOp .Or (b :: rest) pos) q2) : FXw X T me (.BoolOp .Or (a :: b :: rest) pos) (xOr q1 q2) := let ⟨t, h1, h2⟩ := h.ex; let ⟨u, h3, h4⟩ := k.ex; ⟨_, fun j => pw_or (h1 j) (h3 j), sxb_or h2 h4⟩
theorem fxb_w (h : FXw X T me a q1) : FXb X T me a q1 := let ⟨t, h1, h2⟩ := h.ex; ⟨t, fun j => (h1 j).pt, h2⟩
theorem fxb_not (h : FXb X T me a q1) : FXb X T me (.UnaryOp .Not a pos) (xNot q1) := by
  obtain ⟨t, h1, h2⟩ := h.ex
  refine ⟨_, fun j => pt_not (h1 j), fun W σ s F st nd b s' hb Q q => ?_⟩
  obtain ⟨⟨k, s1⟩, k1, k2⟩ := map_some hb
  cases k2
  exact h2 W σ s F st nd k _ k1 _ fun W1 F1 t1 n1 st1 nd1 => q W1 F1 t1 n1 st1 nd1
theorem fx_if (hc : FXb X T me c q1) (ha : FX X T me a m fx) (hb : FX X T me b m gx) : FX X T me (.IfExp c a b pos) m (xIf q1 fx gx) := by
  obtain ⟨t, h1, h2⟩ := hc.ex
  obtain ⟨u, h3, h4⟩ := ha.ex
  obtain ⟨w, h5, h6⟩ := hb.ex
  refine ⟨_, fun j => pe_ifExp (h1 j) (h3 j) (h5 j), fun W σ s F st nd d s' hd Q q => ?_⟩
  obtain ⟨⟨k, s1⟩, k1, k2⟩ := bind_some hd
  refine h2 W σ s F st nd k s1 k1 _ fun W1 F1 t1 n1 st1 nd1 => ?_
  cases k with
  | true => exact h4 W1 σ s1 F1 st1 nd1 d s' k2 Q fun v W2 F2 t2 n2 st2 nd2 r2 => q v W2 F2 (t1.trans n1 t2) (n1.trans t1 n2) st2 nd2 r2
  | false => exact h6 W1 σ s1 F1 st1 nd1 d s' k2 Q fun v W2 F2 t2 n2 st2 nd2 r2 => q v W2 F2 (t1.trans n1 t2) (n1.trans t1 n2) st2 nd2 r2
/-- a call that changes an own tree, the answer a known value -/
theorem fx_call {g : OD → List D → Option (OD × OD)} {k : Nat} {ps : List Str} {ms cs : List Md} {fs : List SV → Option (List D)} {py : Pos} (i : Nat) (C : ∀ j, Cal (X j) k x ps (spM T ms g)) (hr : ∀ j, Room k (X j).A) (ha : FAm X T me es cs fs) (hm : me[i]? = some .p ∨ me[i]? = some .q := by first | exact .inl rfl | exact .inr rfl) (hc : callOk ms cs = true := by rfl) (hcb : cs.all (fun c => c.le .b) = true := by rfl) (hg : ∀ j, Gl (X j) x := by intro _; rfl)
    (hN : ∀ j, (X j).N[i]? = some y := by intro _; rfl) (hv : ∀ j, Vis (X j).env.scope y := by intro _; first | exact Or.inl rfl | exact Or.inr (Or.inl rfl) | exact Or.inr (Or.inr rfl)) (hdb : (x == ("__debug__" : Str)) = false := by decide) (hd : (y == ("__debug__" : Str)) = false := by decide) (hcd : (y == ("__classdict__" : Str)) = false := by decide)
    (he : ∀ j, starEach (.Name y py :: es) (X j).env = (false, eval (.Name y py) (X j).env) :: starEach es (X j).env := by intro _; rfl) (hpl : ∀ j, (backTo pos (starEach es (X j).env)).any (·.1) = false := by intro _; rfl) : FX X T me (.Call (.Name x p) (.Name y py :: es) [] pos) .p (xFr (dCallM g i fs)) :=
  fx_fr (fxo_call i C hr ha hm hc hcb hg hN hv hdb hd hcd he hpl)
end
end My

set_option Elab.async false
set_option linter.all false
set_option maxRecDepth 100000
set_option maxHeartbeats 4000000
/-! M9: more rules. -/
namespace My
open PySem PyProof.Rows L2
section
variable {ι : Type} {X : ι → Cx} {T : Tab} {me : List Md} {e a b c : Expr} {es : List Expr} {m m1 m2 : Md} {f fa fb : List SV → Option D} {fo : List SV → Option OD} {fx gx : List SV → Option (D × List SV)} {fxo : List SV → Option (OD × List SV)} {pos pos' p : Pos} {x y : Str}
theorem XOk.blk {k : Nat} {scope : Scope} (o : XOk X T k) : XOk (Blk X scope) T k := ⟨fun q => o.K q.1, fun q => o.calm q.1, fun q => o.room q.1⟩
theorem nd_blk {scope : Scope} (h : ∀ j, (X j).N.Nodup) : ∀ q, ((Blk X scope) q).N.Nodup := fun q => h q.1

/-! ### scalars are known whatever they were read from -/
def D.sc : D → Bool
  | .non => true
  | .bl _ => true
  | .int _ => true
  | .str _ => true
  | _ => false
def dSc (f : List SV → Option D) (s : List SV) : Option D := (f s).bind fun d => if d.sc then some d else none
theorem Rp.sc {T : Tab} {G H : Hp} {d : D} {v : V} (h : d.sc = true) (r : Rp T G d v) : Rp T H d v := by
  cases d with
  | non => exact r
  | bl _ => exact r
  | int _ => exact r
  | str _ => exact r
  | _ => cases h
theorem fp_sc (h : FP X T me e m f) : FP X T me e .p (dSc f) := by
  obtain ⟨t, h1, h2⟩ := h.ex
  refine ⟨t, h1, fun W σ s F st d hd Q q => ?_⟩
  obtain ⟨d0, k1, k2⟩ := bind_some hd
  by_cases c : d0.sc = true
  · rw [if_pos c] at k2
    cases k2
    exact h2 W σ s F st d k1 _ fun v W1 t1 r1 => q v W1 t1 (r1.sc c)
  · rw [if_neg c] at k2
    cases k2

/-! ### an item of an own list -/
def ixOwn (i : Nat) (k : D) (s : List SV) : Option D := match s[i]?, k with
  | some (.own (.lst os)), .int n => (atI os n).bind fun o => match o with
    | .fz d => some d
    | _ => none
  | _, _ => none
def dIxOwn (i : Nat) (fk : List SV → Option D) (s : List SV) : Option D := (fk s).bind fun k => ixOwn i k s
def xIxOwn (i : Nat) (fk : List SV → Option (D × List SV)) (s : List SV) : Option (D × List SV) := if isOwnL i s then (fk s).bind fun r => (ixOwn i r.1 r.2).map fun d => (d, r.2) else none
theorem RpOL.getO {W : World} : ∀ {os : List OD} {vs : List V} {F : List Addr} {i : Nat} {d : D}, RpOL T m W os vs F → os[i]? = some (.fz d) → ∃ v, vs[i]? = some v ∧ Rp T (W.at m) d v
  | [], _, _, _, _, _, h => by simp at h
  | o :: os, _, _, 0, d, ⟨v0, r, F3, F4, e, ef, h1, h2⟩, h => by
    have eo : o = .fz d := by simpa using h
    subst eo e
    exact ⟨v0, rfl, h1.2⟩
  | o :: os, _, _, i + 1, d, ⟨v0, r, F3, F4, e, ef, h1, h2⟩, h => by
    subst e
    obtain ⟨v, k1, k2⟩ := RpOL.getO (i := i) h2 (by simpa using h)
    exact ⟨v, by simpa using k1, k2⟩
theorem RpOL.atO {W : World} {os : List OD} {vs : List V} {F : List Addr} {n : Int} {d : D} (r : RpOL T m W os vs F) (h : atI os n = some (.fz d)) : ∃ v, atI vs n = some v ∧ Rp T (W.at m) d v := by
  unfold L2.atI at h ⊢
  rw [← RpOL.length r]
  obtain ⟨k, e, h'⟩ := bind_some h
  obtain ⟨v, h1, h2⟩ := r.getO h'
  exact ⟨v, by rw [e]; exact h1, h2⟩
theorem ixOwn_of {i : Nat} {k : D} {s : List SV} {d : D} (h : ixOwn i k s = some d) : ∃ os n, s[i]? = some (.own (.lst os)) ∧ k = .int n ∧ atI os n = some (.fz d) := by
  unfold ixOwn at h
  split at h
  · rename_i os n e
    obtain ⟨o, h1, h2⟩ := bind_some h
    cases o with
    | fz d0 =>
      cases h2
      exact ⟨os, n, e, rfl, h1⟩
    | _ => cases h2
  · cases h
theorem fp_ixOwn (i : Nat) (hK : ∀ j, (X j).K = T.K) (hb : FP X T me b m2 fb) (hm : me[i]? = some m := by rfl) (hN : ∀ j, (X j).N[i]? = some x := by intro _; rfl) (hv : ∀ j, Vis (X j).env.scope x := by intro _; first | exact Or.inl rfl | exact Or.inr (Or.inl rfl) | exact Or.inr (Or.inr rfl))
    (hd : (x == ("__debug__" : Str)) = false := by decide) (hcd : (x == ("__classdict__" : Str)) = false := by decide) (hs : PlainIx b := by exact fun _ _ => rfl) : FP X T me (.Subscript (.Name x p) b pos) m (dIxOwn i fb) := by
  obtain ⟨tb, h1, h2⟩ := hb.ex
  refine ⟨tOp (rIxL T.K) (tVar i) tb, fun j => pe_ix (by have h : IxR (X j) (rIxL (X j).K) := ix_list; rw [hK j] at h; exact h) (pe_var (hN j) (hv j) hd hcd) (h1 j) hs, fun W σ s F st d h Q q => ?_⟩
  obtain ⟨k, k1, k2⟩ := bind_some h
  obtain ⟨os, n, e, rfl, e2⟩ := ixOwn_of k2
  obtain ⟨m0, x0, F1, A, C, g1, g2, g3, g4, ⟨v0, ev, ⟨a, vs, F', ea, ef, ha, hb, r⟩, hv0⟩, g6⟩ := st.focus e
  have em : m = m0 := Option.some.inj (hm.symm.trans g1)
  subst em ev ea
  refine ⟨.ref a, g3, h2 W σ s F st _ k1 _ fun vk W1 t1 r1 => ?_⟩
  cases r1
  obtain ⟨v, e3, rv⟩ := r.atO e2
  exact ⟨a, vs, n, v, rfl, rfl, .inl (.inl (t1.h a _ ha (by simp))), e3, q v W1 t1 (Rp.mono (t1.at m) d v rv)⟩
theorem fx_ixOwn (i : Nat) (hK : ∀ j, (X j).K = T.K) (hb : FX X T me b m2 fx) (hm : me[i]? = some m := by rfl) (hN : ∀ j, (X j).N[i]? = some x := by intro _; rfl) (hv : ∀ j, Vis (X j).env.scope x := by intro _; first | exact Or.inl rfl | exact Or.inr (Or.inl rfl) | exact Or.inr (Or.inr rfl))
    (hd : (x == ("__debug__" : Str)) = false := by decide) (hcd : (x == ("__classdict__" : Str)) = false := by decide) (hs : PlainIx b := by exact fun _ _ => rfl) : FX X T me (.Subscript (.Name x p) b pos) m (xIxOwn i fx) := by
  obtain ⟨tb, h1, h2⟩ := hb.ex
  refine ⟨tOp (rIxL T.K) (tVar i) tb, fun j => pe_ix (by have h : IxR (X j) (rIxL (X j).K) := ix_list; rw [hK j] at h; exact h) (pe_var (hN j) (hv j) hd hcd) (h1 j) hs, fun W σ s F st nd d s' h Q q => ?_⟩
  by_cases c0 : isOwnL i s = true
  case neg =>
    unfold xIxOwn at h
    rw [if_neg c0] at h
    cases h
  unfold xIxOwn at h
  rw [if_pos c0] at h
  obtain ⟨⟨k, s1⟩, k1, k2⟩ := bind_some h
  obtain ⟨d0, k3, k4⟩ := map_some k2
  cases k4
  obtain ⟨os0, e0⟩ := isOwnL_of c0
  obtain ⟨m0, x0, F1, A, C, g1, g2, g3, g4, ⟨v0, ev, ⟨a, vs, F', ea, ef, ha, hb, r⟩, hv0⟩, g6⟩ := st.focus e0
  subst ev ea
  refine ⟨.ref a, g3, h2 W σ s F st nd _ s1 k1 _ fun vk W1 F1 t1 n1 st1 nd1 r1 => ?_⟩
  obtain ⟨os, n, e, rfl, e2⟩ := ixOwn_of k3
  cases r1
  obtain ⟨m3, x3, F3, A3, C3, q1, q2, q3, q4, ⟨v3, ev3, ⟨a3, vs3, F3', ea3, ef3, ha3, hb3, r3⟩, hv3⟩, q6⟩ := st1.focus e
  have em : m = m3 := Option.some.inj (hm.symm.trans q1)
  subst em ev3 ea3
  have eA : a = a3 := by
    rw [g3] at q3
    exact V.ref.inj (Option.some.inj (Option.some.inj q3))
  subst eA
  obtain ⟨v, e3, rv⟩ := r3.atO e2
  exact ⟨a, vs3, n, v, rfl, rfl, .inl (.inl ha3), e3, q v W1 F1 t1 n1 st1 nd1 rv⟩

/-! ### an own tree handed on: from then on it is known -/
def xShare (i : Nat) (s : List SV) : Option (D × List SV) := match s[i]? with
  | some (.own o) => some (o.toD, s.set i (.fz o.toD))
  | _ => none
theorem fx_share (i : Nat) (hm : me[i]? = some m := by rfl) (hq : m ≠ .q := by decide) (hN : ∀ j, (X j).N[i]? = some x := by intro _; rfl) (hv : ∀ j, Vis (X j).env.scope x := by intro _; first | exact Or.inl rfl | exact Or.inr (Or.inl rfl) | exact Or.inr (Or.inr rfl))
    (hd : (x == ("__debug__" : Str)) = false := by decide) (hcd : (x == ("__classdict__" : Str)) = false := by decide) : FX X T me (.Name x p) m (xShare i) := by
  refine ⟨tVar i, fun j => pe_var (hN j) (hv j) hd hcd, fun W σ s F st nd d s' h Q q => ?_⟩
  unfold xShare at h
  split at h
  · rename_i o e
    cases h
    obtain ⟨m0, x0, F1, A, C, g1, g2, g3, g4, ⟨v0, ev, r, hv0⟩, g6⟩ := st.focus e
    have em : m = m0 := Option.some.inj (hm.symm.trans g1)
    subst em ev g4
    have rf := RpO.freeze (E := F1) o v0 F1 (fun _ z => z) r
    have hdis : ∀ c ∈ A ++ C, c ∉ F1 := by
      have p : (A ++ (F1 ++ C)).Perm (F1 ++ (A ++ C)) := by
        rw [← List.append_assoc, ← List.append_assoc]
        exact List.Perm.append_right C List.perm_append_comm
      have nd2 := List.nodup_append.mp (p.nodup_iff.mp nd)
      exact fun c hc z => nd2.2.2 c z c hc rfl
    have t : Step (A ++ (F1 ++ C)) W (W.know m F1) := (Step.refl _ W).know m fun c hc => .inr (by simp [hc])
    refine ⟨v0, g3, q v0 (W.know m F1) (A ++ ([] ++ C)) t (fun c hc => .inl ?_) ?_ ?_ rf⟩
    · rcases List.mem_append.mp hc with z | z
      · simp [z]
      · have z' : c ∈ C := by simpa using z
        simp [z']
    · have k := g6 (W.know m F1) (some v0) (.fz o.toD) [] t.g t.b rfl (fun _ _ _ e => e) (fun c hc e => by
        show addK W.B W.H F1 c = none
        rw [addK_out (hdis c hc)]
        exact e) ⟨rfl, hq, v0, rfl, rf⟩
      rw [show σ.set i (some v0) = σ from by
        apply List.ext_getElem?
        intro n
        by_cases hn : i = n
        · subst hn
          rw [g3, List.getElem?_set_self (List.getElem?_eq_some_iff.mp g3).1]
        · rw [List.getElem?_set_ne hn]] at k
      exact k
    · exact nd.sublist (List.Sublist.append_left (by simp) A)
  · cases h
/-- x = y, y an own tree: it is x's from then on -/
def xMove (i : Nat) (s : List SV) : Option (OD × List SV) := match s[i]? with
  | some (.own o) => some (o, s.set i .un)
  | _ => none
theorem fxo_move (i : Nat) (hm : me[i]? = some m := by rfl) (hq : m ≠ .q := by decide) (hN : ∀ j, (X j).N[i]? = some x := by intro _; rfl) (hv : ∀ j, Vis (X j).env.scope x := by intro _; first | exact Or.inl rfl | exact Or.inr (Or.inl rfl) | exact Or.inr (Or.inr rfl))
    (hd : (x == ("__debug__" : Str)) = false := by decide) (hcd : (x == ("__classdict__" : Str)) = false := by decide) : FXo X T me (.Name x p) m (xMove i) := by
  refine ⟨tVar i, fun j => pe_var (hN j) (hv j) hd hcd, fun W σ s F st nd o s' h Q q => ?_⟩
  unfold xMove at h
  split at h
  · rename_i o e
    cases h
    obtain ⟨m0, x0, F1, A, C, g1, g2, g3, g4, ⟨v0, ev, r, hv0⟩, g6⟩ := st.focus e
    have em : m = m0 := Option.some.inj (hm.symm.trans g1)
    subst em ev g4
    have k := g6 W (some v0) .un [] (Sub.refl _) (Sub.refl _) rfl (fun _ _ _ e => e) (fun _ _ e => e) ⟨rfl, hq⟩
    rw [show σ.set i (some v0) = σ from by
      apply List.ext_getElem?
      intro n
      by_cases hn : i = n
      · subst hn
        rw [g3, List.getElem?_set_self (List.getElem?_eq_some_iff.mp g3).1]
      · rw [List.getElem?_set_ne hn]] at k
    have pm : (A ++ (F1 ++ C)).Perm ((A ++ ([] ++ C)) ++ F1) := by
      rw [List.nil_append, List.append_assoc]
      exact List.Perm.append_left A List.perm_append_comm
    exact ⟨v0, g3, q v0 W (A ++ ([] ++ C)) F1 (Step.refl _ _) (fun c hc => .inl (pm.mem_iff.mpr hc)) k (pm.nodup_iff.mp nd) r⟩
  · cases h

/-! ### list + list -/
def dCat (f g : List SV → Option D) (s : List SV) : Option OD := (f s).bind fun a => (g s).bind fun b => match a, b with
  | .lst xs, .lst ys => if xs.length + ys.length ≤ sizeLine then some (oL (xs ++ ys)) else none
  | _, _ => none
def rCatQ (K : PySem.W.Frag) : R2 := fun x y H Q => ∃ l b xs zs, x = .ref l ∧ y = .ref b ∧ SqL K H l xs ∧ SqL K H b zs ∧ xs.length + zs.length ≤ sizeLine ∧ ∀ p, H p = none → Q (.ref p) (upd H p (.lst (xs ++ zs)))
theorem op_catQ {Y : Cx} : OpR Y (binaryOp .Add) (rCatQ Y.K) := by
  intro pins s σ H x y v u Q I rx ry h
  obtain ⟨l, b, xs, zs, rfl, rfl, hH, hB, hz, q⟩ := h
  cases rx
  cases ry
  obtain ⟨its, r, pl, z⟩ := I.list hH
  obtain ⟨its2, r2, pl2, z2⟩ := I.list hB
  have hl := r.length
  have hl2 := r2.length
  obtain ⟨⟨cl1, dd1, da1, so1⟩, g1, g2, k1, g3⟩ := pl.isList
  obtain ⟨⟨cl2, dd2, da2, so2⟩, g4, g5, k2, g6⟩ := pl2.isList
  simp only at g2 g3 g5 g6
  subst g2 g3 g5 g6
  have fits : its.toArray.size + its2.toArray.size ≤ sizeLine := by
    rw [List.size_toArray, List.size_toArray]
    omega
  refine concat_meets (T := "list") ⟨_, g1, rfl⟩ ⟨_, g4, rfl⟩ noFill_list_add seq_list_add
    PySem.F.slot_list_add PySem.F.entry_list_add (PySem.F.args_list_add_2 _ _) (list_addW l b its.toArray its2.toArray k1 k2 dd1 dd2 so1 so2 fits) ⟨g1, g4, ?_⟩
  rw [show its.toArray ++ its2.toArray = (its ++ its2).toArray from by simp]
  exact ⟨.ref _, _, I.lnew (t' := s.toks) (r.append r2) (by rw [List.length_append]; omega), rfl, q _ I.fresh⟩
theorem fo_cat (hK : ∀ j, (X j).K = T.K) (ha : FP X T me a m fa) (hb : FP X T me b m fb) : FO X T me (.BinOp a .Add b pos) m (dCat fa fb) := by
  obtain ⟨t, h1, h2⟩ := ha.ex
  obtain ⟨u, h3, h4⟩ := hb.ex
  refine ⟨tOp (rCatQ T.K) t u, fun j => pe_op (by have h : OpR (X j) (binaryOp .Add) (rCatQ (X j).K) := op_catQ; rw [hK j] at h; exact h) (h1 j) (h3 j), fun W σ s F st o ho Q q => ?_⟩
  obtain ⟨da, k1, ho⟩ := bind_some ho
  obtain ⟨db, k2, ho⟩ := bind_some ho
  cases da with
  | lst xs =>
    cases db with
    | lst ys =>
      have ho : (if xs.length + ys.length ≤ sizeLine then some (oL (xs ++ ys)) else none) = some o := ho
      by_cases c : xs.length + ys.length ≤ sizeLine
      · rw [if_pos c] at ho
        cases ho
        refine h2 W σ s F st _ k1 _ fun v W1 t1 r1 => ?_
        refine h4 W1 σ s F (st.step t1) _ k2 _ fun w W2 t2 r2 => ?_
        obtain ⟨p1, vs, rfl, s1, l1⟩ := Rp.mono (t2.at m) _ v r1
        obtain ⟨p2, ws, rfl, s2, l2⟩ := r2
        refine ⟨p1, p2, vs, ws, rfl, rfl, (W2.atH m).sqL s1, (W2.atH m).sqL s2, by rw [← l1.length, ← l2.length]; exact c, fun p n => ?_⟩
        refine q (.ref p) (W2.lay p (.lst (vs ++ ws)) n) [p] ((t1.pure t2).pure (W2.lay_step n)) (W2.newL n (l1.append l2)) (fun c hc => ?_) (by simp)
        have e : c = p := by simpa using hc
        rw [e]
        exact (t1.pure t2).back n
      · rw [if_neg c] at ho
        cases ho
    | _ => cases ho
  | _ => cases db <;> cases ho

/-! ### isinstance(x, T), T a built-in class -/
def D.ty : D → String
  | .non => "NoneType"
  | .bl _ => "bool"
  | .int _ => "int"
  | .str _ => "str"
  | .lst _ => "list"
  | .tup _ => "tuple"
  | .dct _ _ => "dict"
  | .nst _ => "dict"
  | .obj _ _ _ => "object"
def D.isDct : D → Bool
  | .dct _ _ => true
  | .nst _ => true
  | .obj _ _ _ => true
  | _ => false
def isiB (d : D) (n : String) : Option Bool := if d.isDct then none else kitB d.ty n
def dIsi (n : String) : List D → Option D
  | [d] => (isiB d n).map D.bl
  | _ => none
theorem Rp.tyX {T : Tab} {W : World} {d : D} {v : V} (h : d.isDct = false) (r : Rp T (W.at m) d v) : TyX T.K W.H v (.type d.ty) := by
  cases d with
  | non => cases r; exact .base .non
  | bl b => cases r; exact .base (.bl b)
  | int i => cases r; exact .base (.int i)
  | str z => cases r; exact .base (.str z)
  | lst ds =>
    obtain ⟨a, vs, rfl, q, _⟩ := r
    rcases (W.atH m).sqL q with (q | ⟨o, q⟩) | ⟨o, its, n, h1, h2, _⟩
    · exact .base (.lst q)
    · exact .base (.frz q)
    · exact .kList h1 h2
  | tup ds =>
    obtain ⟨a, vs, rfl, q, _⟩ := r
    rcases (W.atH m).sqT q with (q | ⟨o, q⟩) | ⟨o, its, n, h1, h2, _⟩
    · exact .base (.tup q)
    · exact .fTuple q
    · exact .kTuple h1 h2
  | dct _ _ => cases h
  | nst _ => cases h
  | obj _ _ _ => cases h
theorem fp_isi {n : String} {z : Str} {pz : Pos} (hK : ∀ j, (X j).K = T.K) (hg : ∀ j, Gl (X j) "isinstance") (hm : ∀ j, (X j).mg "isinstance" = none) (hgz : ∀ j, Gl (X j) z) (hmz : ∀ j, (X j).mg z = none) (hvz : bootBuiltins z = some (.type n)) (ha : FP X T me e m f)
    (hnz : z ≠ "__name__" := by decide) (hdz : (z == ("__debug__" : Str)) = false := by decide) (he : ∀ j, starEach [e, .Name z pz] (X j).env = (false, eval e (X j).env) :: starEach [.Name z pz] (X j).env := by intro _; rfl) (he2 : ∀ j, starEach [.Name z pz] (X j).env = (false, eval (.Name z pz) (X j).env) :: starEach [] (X j).env := by intro _; rfl) (hpl : ∀ j, (backTo pos (starEach [.Name z pz] (X j).env)).any (·.1) = false := by intro _; rfl) :
    FP X T me (.Call (.Name "isinstance" p) [e, .Name z pz] [] pos) .p (dCallB (dIsi n) (dCons f dNil)) := by
  obtain ⟨t, h1, h2⟩ := ha.ex
  refine ⟨tCB (rIsi T.K) (tCons t (tCons (tC (.ty n)) tNil)), fun j => ?_, fun W σ s F st d h Q q => ?_⟩
  · have hc : CallR (X j) (.builtin "isinstance") (rIsi (X j).K) := call_isi
    rw [hK j] at hc
    exact pe_callB hc (hg j) (hm j) (by decide +kernel) (pa_cons (h1 j) (pa_cons (pe_bltn (hgz j) (hmz j) hvz rfl hnz hdz) pa_nil (he2 j)) (he j)) (by decide) (by decide) (he j) (hpl j)
  · obtain ⟨ds, k1, k2⟩ := bind_some h
    obtain ⟨d0, k3, k4⟩ := bind_some k1
    cases k4
    obtain ⟨b, k5, rfl⟩ := map_some k2
    unfold isiB at k5
    by_cases c : d0.isDct = true
    · rw [if_pos c] at k5
      cases k5
    · rw [if_neg c] at k5
      refine h2 W σ s F st d0 k3 _ fun v W1 t1 r1 => ?_
      exact ⟨v, .ty n, .type d0.ty, .type n, b, rfl, .ty n, Rp.tyX (by simpa using c) r1, kit_ty k5, q _ W1 t1 rfl⟩

/-! ### tests of values with effects; arguments with effects -/
def xTruth (f : List SV → Option (D × List SV)) (s : List SV) : Option (Bool × List SV) := (f s).bind fun r => (dTru r.1).map fun b => (b, r.2)
theorem fxb_truth (h : FX X T me a m fx) (hK : ∀ j, (X j).K = T.K) (he : ∀ j whole, isTrue a (X j).env whole = (do let v ← whole; standAt a.pos; holding [v] (truthy v)) := by intro _ _; rfl) : FXb X T me a (xTruth fx) := by
  obtain ⟨ta, h1, h2⟩ := h.ex
  refine ⟨fun σ H Q => ta σ H fun x H' => ∃ k, TruV T.K x H' k ∧ Q k H', fun j => by have := pt_truth (h1 j) (he j); rw [hK j] at this; exact this, fun W σ s F st nd b s' hb Q q => ?_⟩
  obtain ⟨⟨d, s1⟩, k1, k2⟩ := bind_some hb
  obtain ⟨b0, k3, k4⟩ := map_some k2
  cases k4
  refine h2 W σ s F st nd d _ k1 _ fun v W1 F1 t1 n1 st1 nd1 r1 => ⟨b, tru_of (W1.atH m) r1 k3, q W1 F1 t1 n1 st1 nd1⟩
def SXa (T : Tab) (me : List Md) (ta : TA) (m : Md) (f : List SV → Option (List D × List SV)) : Prop :=
  ∀ (W : World) (σ : List (Option V)) (s : List SV) (F : List Addr), St T W me σ s F → F.Nodup → ∀ ds s', f s = some (ds, s') → ∀ Q : List V → Hp → Prop, (∀ vs W' F', Step F W W' → NewF F F' W → St T W' me σ s' F' → F'.Nodup → RpL T (W'.at m) ds vs → Q vs W'.H) → ta σ W.H Q
structure FXa (X : ι → Cx) (T : Tab) (me : List Md) (es : List Expr) (m : Md) (f : List SV → Option (List D × List SV)) : Prop where
  ex : ∃ ta, (∀ j, PA (X j) es ta) ∧ SXa T me ta m f
def xNil (s : List SV) : Option (List D × List SV) := some ([], s)
def xCons (f : List SV → Option (D × List SV)) (g : List SV → Option (List D × List SV)) (s : List SV) : Option (List D × List SV) := (f s).bind fun r => (g r.2).map fun t => (r.1 :: t.1, t.2)
def xCallB (g : List D → Option D) (fa : List SV → Option (List D × List SV)) (s : List SV) : Option (D × List SV) := (fa s).bind fun r => (g r.1).map fun d => (d, r.2)
variable {fs : List SV → Option (List D × List SV)}
theorem fxa_nil : FXa X T me [] m xNil := ⟨tNil, fun _ => pa_nil, fun W σ s F st nd ds s' h Q q => by cases h; exact q [] W F (Step.refl _ _) (NewF.refl _ _) st nd rfl⟩
theorem fxa_cons (h : FX X T me e m fx) (k : FXa X T me es m fs) (hm : m ≠ .h := by decide) (hs : ∀ j, starEach (e :: es) (X j).env = (false, eval e (X j).env) :: starEach es (X j).env := by intro _; rfl) : FXa X T me (e :: es) m (xCons fx fs) := by
  obtain ⟨t, h1, h2⟩ := h.ex
  obtain ⟨u, h3, h4⟩ := k.ex
  refine ⟨_, fun j => pa_cons (h1 j) (h3 j) (hs j), fun W σ s F st nd ds s' hd Q q => ?_⟩
  obtain ⟨⟨d, s1⟩, k1, k2⟩ := bind_some hd
  obtain ⟨⟨dr, s2⟩, k3, e0⟩ := map_some k2
  cases e0
  refine h2 W σ s F st nd d s1 k1 _ fun v W1 F1 t1 n1 st1 nd1 r1 => ?_
  refine h4 W1 σ s1 F1 st1 nd1 dr _ k3 _ fun vs W2 F2 t2 n2 st2 nd2 r2 => ?_
  exact q _ W2 F2 (t1.trans n1 t2) (n1.trans t1 n2) st2 nd2 ⟨v, vs, rfl, Rp.mono (t2.at2 hm) d v r1, r2⟩
theorem fx_callB {r : List V → Hp → VK → Prop} {g : List D → Option D} {id : String} {p : Pos} (hc : ∀ j, CallR (X j) (.builtin id) r) (hr : CallD T m1 m r g) (hg : ∀ j, Gl (X j) x) (hm : ∀ j, (X j).mg x = none) (hv : bootBuiltins x = some (.builtin id)) (ha : FXa X T me (e :: es) m1 fs)
    (hn : x ≠ "__name__" := by decide) (hdb : (x == ("__debug__" : Str)) = false := by decide) (he : ∀ j, starEach (e :: es) (X j).env = (false, eval e (X j).env) :: starEach es (X j).env := by intro _; rfl) (hpl : ∀ j, (backTo pos (starEach es (X j).env)).any (·.1) = false := by intro _; rfl) :
    FX X T me (.Call (.Name x p) (e :: es) [] pos) m (xCallB g fs) := by
  obtain ⟨t, h1, h2⟩ := ha.ex
  refine ⟨_, fun j => pe_callB (hc j) (hg j) (hm j) hv (h1 j) hn hdb (he j) (hpl j), fun W σ s F st nd d s' hd Q q => ?_⟩
  obtain ⟨⟨ds, s1⟩, k1, k2⟩ := bind_some hd
  obtain ⟨d0, k3, e0⟩ := map_some k2
  cases e0
  refine h2 W σ s F st nd ds _ k1 _ fun vs W1 F1 t1 n1 st1 nd1 r1 => ?_
  exact hr W1 vs ds d r1 k3 Q fun v W2 t2 r2 => q v W2 F1 (t1.pureR t2) n1 (st1.step t2) nd1 r2
theorem fx_callTy {r : List V → Hp → VK → Prop} {g : List D → Option D} {id : String} {p : Pos} (hc : ∀ j, CallR (X j) (.type id) r) (hr : CallD T m1 m r g) (hg : ∀ j, Gl (X j) x) (hm : ∀ j, (X j).mg x = none) (hv : bootBuiltins x = some (.type id)) (ha : FXa X T me (e :: es) m1 fs)
    (hn : x ≠ "__name__" := by decide) (hdb : (x == ("__debug__" : Str)) = false := by decide) (he : ∀ j, starEach (e :: es) (X j).env = (false, eval e (X j).env) :: starEach es (X j).env := by intro _; rfl) (hpl : ∀ j, (backTo pos (starEach es (X j).env)).any (·.1) = false := by intro _; rfl) :
    FX X T me (.Call (.Name x p) (e :: es) [] pos) m (xCallB g fs) := by
  obtain ⟨t, h1, h2⟩ := ha.ex
  refine ⟨_, fun j => pe_callTy (hc j) (hg j) (hm j) hv (h1 j) hn hdb (he j) (hpl j), fun W σ s F st nd d s' hd Q q => ?_⟩
  obtain ⟨⟨ds, s1⟩, k1, k2⟩ := bind_some hd
  obtain ⟨d0, k3, e0⟩ := map_some k2
  cases e0
  refine h2 W σ s F st nd ds _ k1 _ fun vs W1 F1 t1 n1 st1 nd1 r1 => ?_
  exact hr W1 vs ds d r1 k3 Q fun v W2 t2 r2 => q v W2 F1 (t1.pureR t2) n1 (st1.step t2) nd1 r2
def xTup (fs : List SV → Option (List D × List SV)) (s : List SV) : Option (D × List SV) := (fs s).bind fun r => if r.1.length ≤ sizeLine then some (.tup r.1, r.2) else none
theorem fx_tup {k} (h : FXa X T me es m fs) : FX X T me (.Tuple es k pos) m (xTup fs) := by
  obtain ⟨t, h1, h2⟩ := h.ex
  refine ⟨tTup t, fun j => pe_tup (h1 j), fun W σ s F st nd d s' hd Q q => ?_⟩
  obtain ⟨⟨ds, s1⟩, k1, k2⟩ := bind_some hd
  by_cases c : ds.length ≤ sizeLine
  · have k3 : (if ds.length ≤ sizeLine then some (D.tup ds, s1) else none) = some (d, s') := k2
    rw [if_pos c] at k3
    cases k3
    refine h2 W σ s F st nd ds _ k1 _ fun vs W1 F1 t1 n1 st1 nd1 r1 => ⟨by rw [← r1.length]; exact c, fun p n => ?_⟩
    have tn := W1.newT_step n (m := m) (o := .tup vs)
    exact q _ _ F1 (t1.pureR tn) n1 (st1.step tn) nd1 (W1.newT n r1)
  · have k3 : (if ds.length ≤ sizeLine then some (D.tup ds, s1) else none) = some (d, s') := k2
    rw [if_neg c] at k3
    cases k3
def xLst (fs : List SV → Option (List D × List SV)) (s : List SV) : Option (OD × List SV) := (fs s).bind fun r => if r.1.length ≤ sizeLine then some (oL r.1, r.2) else none
theorem fxo_lst (h : FXa X T me es m fs) : FXo X T me (.List es pos) m (xLst fs) := by
  obtain ⟨t, h1, h2⟩ := h.ex
  refine ⟨tLst t, fun j => pe_lst (h1 j), fun W σ s F st nd o s' hd Q q => ?_⟩
  obtain ⟨⟨ds, s1⟩, k1, k2⟩ := bind_some hd
  by_cases c : ds.length ≤ sizeLine
  · have k3 : (if ds.length ≤ sizeLine then some (oL ds, s1) else none) = some (o, s') := k2
    rw [if_pos c] at k3
    cases k3
    refine h2 W σ s F st nd ds _ k1 _ fun vs W1 F1 t1 n1 st1 nd1 r1 => ⟨by rw [← r1.length]; exact c, fun p n => ?_⟩
    have tn := W1.lay_step n (o := .lst vs)
    refine q (.ref p) (W1.lay p (.lst vs) n) F1 [p] (t1.pureR tn) (fun a ha => ?_) (st1.step tn) (List.nodup_append.mpr ⟨nd1, by simp, fun a ha b hb e => ?_⟩) (W1.newL n r1)
    · rcases List.mem_append.mp ha with z | z
      · exact n1 a z
      · have e : a = p := by simpa using z
        rw [e]
        exact .inr (t1.back n)
    · have e2 : b = p := by simpa using hb
      subst e
      subst e2
      exact (st1.there a ha).1.ne n
  · have k3 : (if ds.length ≤ sizeLine then some (oL ds, s1) else none) = some (o, s') := k2
    rw [if_neg c] at k3
    cases k3
end
end My

set_option Elab.async false
set_option linter.all false
set_option maxRecDepth 100000
set_option maxHeartbeats 4000000
/-! M10: comprehensions with effects, walks whose source has effects, insert, pop, targets that are tuples. -/
namespace My
open PySem PyProof.Rows L2

def notOwn (i : Nat) (s : List SV) : Bool := match s[i]? with
  | some (.own _) => false
  | some _ => true
  | none => false
def wipeOk (s : List SV) : List Nat → Bool
  | [] => true
  | v :: vs => notOwn v (wipeS s vs) && wipeOk s vs
def unwipe (s : List SV) : List Nat → List SV → List SV
  | [], s' => s'
  | v :: vs, s' => unwipe s vs (s'.set v ((wipeS s vs)[v]?.getD .un))
def xlcGo (vs : List Nat) (bind : D → List SV → Option (List SV)) (p : List SV → Option (Bool × List SV)) (fe : List SV → Option (D × List SV)) : List D → List SV → Option (List D × List SV)
  | [], s => some ([], s)
  | d :: ds, s => (bind d s).bind fun s1 => (p s1).bind fun b => if b.1 then (fe b.2).bind fun y => (xlcGo vs bind p fe ds (wipeS y.2 vs)).map fun r => (y.1 :: r.1, r.2) else xlcGo vs bind p fe ds (wipeS b.2 vs)
def xLc (fi : List SV → Option (List D × List SV)) (vs : List Nat) (bind : D → List SV → Option (List SV)) (p : List SV → Option (Bool × List SV)) (fe : List SV → Option (D × List SV)) (s : List SV) : Option (OD × List SV) :=
  (fi s).bind fun u => if decide (u.1.length ≤ sizeLine) && wipeOk u.2 vs then (xlcGo vs bind p fe u.1 (wipeS u.2 vs)).map fun r => (oL r.1, unwipe u.2 vs r.2) else none
/-- what is walked, its source with effects -/
def SIx (T : Tab) (me : List Md) (wi : TI) (ms m : Md) (f : List SV → Option (List D × List SV)) : Prop :=
  ∀ (W : World) (σ : List (Option V)) (s : List SV) (F : List Addr), St T W me σ s F → F.Nodup → ∀ ds s', f s = some (ds, s') → ∀ R : It → Hp → Prop, (∀ J W' F', Step F W W' → NewF F F' W → St T W' me σ s' F' → F'.Nodup → ItOk T ms m J ds W' → R J W'.H) → wi σ W.H R
structure FIx {ι : Type} (X : ι → Cx) (T : Tab) (me : List Md) (tg iter : Expr) (ms m : Md) (f : List SV → Option (List D × List SV)) : Prop where
  ex : ∃ wi, (∀ j, PI (X j) tg iter wi) ∧ SIx T me wi ms m f
def xiOf (f : List SV → Option (List D)) (s : List SV) : Option (List D × List SV) := (f s).map fun ds => (ds, s)
theorem six_of {T : Tab} {me : List Md} {wi : TI} {ms m : Md} {f : List SV → Option (List D)} (h : SI T me wi ms m f) : SIx T me wi ms m (xiOf f) := fun W σ s F st nd ds s' hd R q => by
  obtain ⟨d0, k1, k2⟩ := map_some hd
  cases k2
  exact h W σ s F st ds k1 R fun J W1 t1 it => q J W1 F (t1.mono (by simp)) (NewF.refl _ _) (st.step t1) nd it
theorem fix_of {ι : Type} {X : ι → Cx} {T : Tab} {me : List Md} {tg iter : Expr} {ms m : Md} {f : List SV → Option (List D)} (h : FI X T me tg iter ms m f) : FIx X T me tg iter ms m (xiOf f) := let ⟨t, h1, h2⟩ := h.ex; ⟨t, h1, six_of h2⟩
section
variable {T : Tab} {me : List Md} {m m2 : Md}
theorem notOwn_of {i : Nat} {s : List SV} (h : notOwn i s = true) : ∃ sv, s[i]? = some sv ∧ ∀ o, sv ≠ .own o := by
  unfold notOwn at h
  split at h
  · cases h
  · rename_i sv hn e
    exact ⟨sv, e, fun o z => hn o z⟩
  · cases h
theorem wipeS_un (s : List SV) : ∀ vs : List Nat, ∀ v ∈ vs, (wipeS s vs)[v]? = some .un ∨ (wipeS s vs)[v]? = none := by
  intro us
  induction us with
  | nil => intro v z; simp at z
  | cons u us ih =>
    intro v z
    show ((wipeS s us).set u .un)[v]? = some .un ∨ ((wipeS s us).set u .un)[v]? = none
    by_cases hu : u = v
    · subst hu
      by_cases hl : u < (wipeS s us).length
      · exact .inl (List.getElem?_set_self hl)
      · exact .inr (by rw [List.getElem?_eq_none]; simpa using hl)
    · rw [List.getElem?_set_ne hu]
      exact ih v ((List.mem_cons.mp z).resolve_left fun y => hu y.symm)
/-- the slots of a comprehension's own names get their values back -/
theorem st_unwipe {W W' : World} {σ : List (Option V)} {s : List SV} (sg : Sub W.G W'.G) (sb : Sub W.B W'.B) (sp : W'.pin = W.pin) : ∀ {vs : List Nat} {s' : List SV} {F F' : List Addr}, (∀ v ∈ vs, me[v]? ≠ some .q) → St T W me σ s F → wipeOk s vs = true → St T W' me (L2.wipe σ vs) s' F' →
    (∀ v ∈ vs, s'[v]? = some .un ∨ s'[v]? = none) → ∃ F2, St T W' me σ (unwipe s vs s') F2 ∧ F2 = F'
  | [], s', F, F', _, _, _, h, _ => ⟨F', h, rfl⟩
  | v :: vs, s', F, F', hq, st, hk, h, hun => by
    have hk' : (notOwn v (wipeS s vs) && wipeOk s vs) = true := hk
    rw [Bool.and_eq_true] at hk'
    obtain ⟨sv, e1, hno⟩ := notOwn_of hk'.1
    obtain ⟨F0, st0, _, _⟩ := st_wipes st vs fun u hu => hq u (by simp [hu])
    obtain ⟨m0, x, F1, A, C, g1, g2, g3, g4, g5, _⟩ := st0.focus e1
    have hF1 : F1 = [] ∧ RpS T m0 W' sv x [] := by
      cases sv with
      | un => exact ⟨g5.1, rfl, g5.2⟩
      | fz d =>
        obtain ⟨a1, a2, y, a3, a4⟩ := g5
        refine ⟨a1, rfl, a2, y, a3, Rp.mono ?_ d y a4⟩
        cases m0 with
        | p => exact sg
        | b => exact sb
        | q => exact sg
        | h => exact absurd rfl g2
      | own o => exact absurd rfl (hno o)
    have hlen : v < s'.length := by
      rw [h.len.2]
      exact (List.getElem?_eq_some_iff.mp g1).1
    have eun : s'[v]? = some .un := by
      rcases hun v (by simp) with z | z
      · exact z
      · rw [List.getElem?_eq_getElem hlen] at z
        cases z
    obtain ⟨m3, x3, F3, A3, C3, q1, q2, q3, q4, q5, q6⟩ := h.focus eun
    have em : m0 = m3 := Option.some.inj (g1.symm.trans q1)
    subst em
    have eF3 : F3 = [] := q5.1
    subst eF3
    have k := q6 W' x sv [] (Sub.refl _) (Sub.refl _) rfl (fun _ _ _ e => e) (fun _ _ e => e) hF1.2
    have eσ : (L2.wipe σ (v :: vs)).set v x = L2.wipe σ vs := by
      show ((L2.wipe σ vs).set v none).set v x = L2.wipe σ vs
      rw [List.set_set]
      apply List.ext_getElem?
      intro n
      by_cases hn : v = n
      · subst hn
        rw [g3, List.getElem?_set_self (List.getElem?_eq_some_iff.mp g3).1]
      · rw [List.getElem?_set_ne hn]
    rw [eσ] at k
    have es : (wipeS s vs)[v]?.getD .un = sv := by rw [e1]; rfl
    have k := q4 ▸ k
    have hun' : ∀ u ∈ vs, (s'.set v sv)[u]? = some .un ∨ (s'.set v sv)[u]? = none := fun u hu => by
      by_cases hvu : v = u
      · -- v stands in vs too: its slot is forgotten already
        subst hvu
        rcases wipeS_un s vs v hu with z | z
        · rw [z] at e1
          cases e1
          exact .inl (by rw [List.getElem?_set_self hlen])
        · rw [z] at e1
          cases e1
      · rw [List.getElem?_set_ne hvu]
        exact hun u (by simp [hu])
    obtain ⟨F2, r1, r2⟩ := st_unwipe sg sb sp (vs := vs) (s' := s'.set v sv) (fun u hu => hq u (by simp [hu])) st hk'.2 k hun'
    refine ⟨F2, ?_, r2⟩
    show St T W' me σ (unwipe s vs (s'.set v ((wipeS s vs)[v]?.getD .un))) F2
    rw [es]
    exact r1
theorem sxo_lc {wi : TI} {g : TG} {tt : TT} {te : TE} {vs : List Nat} {ms : Md} {fi : List SV → Option (List D × List SV)} {bind : D → List SV → Option (List SV)} {p : List SV → Option (Bool × List SV)} {fe : List SV → Option (D × List SV)} (hi : SIx T me wi ms m fi) (hg : SG T me g m vs bind) (ht : SXb T me tt p) (he : SX T me te m2 fe) (hm : m2 ≠ .h) (hms : ms ≠ .h) (hq : ∀ v ∈ vs, me[v]? ≠ some .q) :
    SXo T me (tLc wi g tt te vs) m2 (xLc fi vs bind p fe) := fun W σ s F st nd o s' ho Q q => by
  obtain ⟨⟨ds, s0⟩, k1, ho⟩ := bind_some ho
  by_cases c0 : (decide (ds.length ≤ sizeLine) && wipeOk s0 vs) = true
  case neg =>
    have ho : (if (decide (ds.length ≤ sizeLine) && wipeOk s0 vs) = true then (xlcGo vs bind p fe ds (wipeS s0 vs)).map fun r => (oL r.1, unwipe s0 vs r.2) else none) = some (o, s') := ho
    rw [if_neg c0] at ho
    cases ho
  have ho : (if (decide (ds.length ≤ sizeLine) && wipeOk s0 vs) = true then (xlcGo vs bind p fe ds (wipeS s0 vs)).map fun r => (oL r.1, unwipe s0 vs r.2) else none) = some (o, s') := ho
  rw [if_pos c0] at ho
  rw [Bool.and_eq_true] at c0
  have c : ds.length ≤ sizeLine := of_decide_eq_true c0.1
  obtain ⟨⟨ys, sz⟩, k2, e0⟩ := map_some ho
  cases e0
  refine hi W σ s F st nd ds s0 k1 _ fun J W1 Fa t1 na sta nda it => ?_
  intro Dl hD
  obtain ⟨F0, st0, sub0, nd0⟩ := st_wipes sta vs hq
  have stb := st0.step (W1.lay_step hD (o := .lst []))
  have hDF : Dl ∉ F0 := fun z => (st0.there Dl z).1.ne hD
  refine ⟨fun i n H => ∃ (W2 : World) (si : List SV) (Fi : List Addr) (done rest : List D) (acc : List V), H = W2.H ∧ n = ds.length - i ∧ i ≤ ds.length ∧ Step (Dl :: F0) (W1.lay Dl (.lst []) hD) W2 ∧ NewF F0 Fi (W1.lay Dl (.lst []) hD) ∧ St T W2 me (L2.wipe σ vs) si Fi ∧ Fi.Nodup ∧ (∀ v ∈ vs, si[v]? = some .un ∨ si[v]? = none) ∧
      W2.H Dl = some (.lst acc) ∧ W2.B Dl = none ∧ RpL T (W2.at m2) done acc ∧ done.length ≤ i ∧ xlcGo vs bind p fe (ds.drop i) si = some (rest, sz) ∧ done ++ rest = ys,
    ⟨ds.length, W1.lay Dl (.lst []) hD, wipeS s0 vs, F0, [], ys, [], rfl, by simp, Nat.zero_le _, Step.refl _ _, NewF.refl _ _, stb, nd0 nda, wipeS_un s0 vs, upd_same, W1.freshB hD, rfl, Nat.zero_le _, by simpa using k2, rfl⟩, ?_⟩
  rintro i n H ⟨W2, si, Fi, done, rest, acc, rfl, rfl, hle, t2, n2, st2, nd2, hun, eD, nB, rl, hdl, k3, k4⟩
  have hsub : Sub (W1.at ms) (W2.at ms) := ((W1.lay_step hD (o := .lst [])).at ms).trans (t2.at2 hms)
  have hDi : Dl ∉ Fi := n2.out hDF (by show upd W1.H Dl _ Dl ≠ none; rw [upd_same]; simp)
  by_cases hlt : i < ds.length
  · refine .inr ⟨it.go W2 i hsub hlt, fun H' => ∃ (W2 : World) (si : List SV) (Fi : List Addr) (done rest : List D) (acc : List V), H' = W2.H ∧ Step (Dl :: F0) (W1.lay Dl (.lst []) hD) W2 ∧ NewF F0 Fi (W1.lay Dl (.lst []) hD) ∧ St T W2 me (L2.wipe σ vs) si Fi ∧ Fi.Nodup ∧ (∀ v ∈ vs, si[v]? = some .un ∨ si[v]? = none) ∧
        W2.H Dl = some (.lst acc) ∧ W2.B Dl = none ∧ RpL T (W2.at m2) done acc ∧ done.length ≤ i + 1 ∧ xlcGo vs bind p fe (ds.drop (i + 1)) si = some (rest, sz) ∧ done ++ rest = ys, ?_, fun x H' y => ?_⟩
    · rintro H' ⟨W3, si, Fi, done, rest, acc, rfl, a1, a2, a3, a4, a5, a6, a7, a8, a9, a10, a11⟩
      exact ⟨ds.length - (i + 1), by omega, W3, si, Fi, done, rest, acc, rfl, rfl, hlt, a1, a2, a3, a4, a5, a6, a7, a8, a9, a10, a11⟩
    · obtain ⟨W3, d, t3, rfl, hd, rd⟩ := it.yld W2 i x H' hsub hlt y
      have edrop : ds.drop i = d :: ds.drop (i + 1) := by
        rw [List.drop_eq_getElem_cons hlt]
        have := (List.getElem?_eq_some_iff.mp hd).2
        rw [this]
      rw [edrop] at k3
      obtain ⟨s1, b1, k3⟩ := bind_some k3
      obtain ⟨⟨bb, s2⟩, b2, k3⟩ := bind_some k3
      refine hg W3 (L2.wipe σ vs) si Fi x d s1 (st2.step t3) rd b1 _ fun σ2 W4 F4 t4 st4 sub4 nd4 hw => ?_
      refine ⟨by rw [hw, wipe_wipe], ht W4 σ2 s1 F4 st4 (nd4 nd2) bb s2 b2 _ fun W5 F5 t5 n5 st5 nd5 => ?_⟩
      have t24 : Step Fi W2 W4 := (t3.pure t4).mono (by simp)
      have n24 : NewF Fi F4 W2 := fun a ha => .inl (sub4 a ha)
      have t25 : Step Fi W2 W5 := t24.trans n24 t5
      have n25 : NewF Fi F5 W2 := n24.trans t24 n5
      have base : ∀ {W6 : World} {F6 : List Addr}, Step Fi W2 W6 → NewF Fi F6 W2 → Step (Dl :: F0) (W1.lay Dl (.lst []) hD) W6 ∧ NewF F0 F6 (W1.lay Dl (.lst []) hD) ∧ W6.H Dl = some (.lst acc) ∧ W6.B Dl = none := fun {W6 F6} t6 n6 => by
        refine ⟨t2.trans (fun a ha => ?_) t6, fun a ha => ?_, t6.h _ _ eD hDi, t6.nb Dl (by rw [eD]; trivial) hDi nB⟩
        · exact (n2 a ha).imp (fun z => by simp [z]) id
        · rcases n6 a ha with z | z
          · exact n2 a z
          · refine .inr ?_
            cases e9 : (W1.lay Dl (.lst []) hD).H a with
            | none => rfl
            | some u => exact absurd z (t2.dom a (by rw [e9]; simp))
      -- behind the turn the comprehension's own names are forgotten
      have forget : ∀ {W6 : World} {s6 : List SV} {F6 : List Addr}, St T W6 me σ2 s6 F6 → F6.Nodup → ∃ F7, St T W6 me (L2.wipe σ vs) (wipeS s6 vs) F7 ∧ (∀ a ∈ F7, a ∈ F6) ∧ F7.Nodup := fun {W6 s6 F6} st6 nd6 => by
        obtain ⟨F7, a1, a2, a3⟩ := st_wipes st6 vs hq
        rw [hw, wipe_wipe] at a1
        exact ⟨F7, a1, a2, a3 nd6⟩
      cases bb with
      | true =>
        have k5 := k3
        rw [if_pos rfl] at k5
        obtain ⟨⟨y, s3⟩, b3, k5⟩ := bind_some k5
        obtain ⟨⟨rest', s4⟩, k6, e1⟩ := map_some k5
        have er : y :: rest' = rest := congrArg Prod.fst e1
        have es4 : s4 = sz := congrArg Prod.snd e1
        subst er es4
        show te σ2 W5.H _
        refine he W5 σ2 s2 F5 st5 nd5 y s3 b3 _ fun v W6 F6 t6 n6 st6 nd6 rv => ?_
        have t26 := t25.trans n25 t6
        have n26 := n25.trans t25 n6
        obtain ⟨c1, c2, c3, c4⟩ := base t26 n26
        obtain ⟨F7, f1, f2, f3⟩ := forget st6 nd6
        have hDF7 : Dl ∉ F7 := fun z => by
          rcases n26 Dl (f2 Dl z) with y | y
          · exact hDi y
          · rw [eD] at y
            cases y
        have hla : acc.length = done.length := rl.length.symm
        have e9 : (W6.mut Dl (.lst (acc ++ [v])) c4).at m2 = W6.at m2 := by
          cases m2 with
          | p => rfl
          | b => rfl
          | q => rfl
          | h => exact absurd rfl hm
        refine ⟨acc, c3, by omega, W6.mut Dl (.lst (acc ++ [v])) c4, wipeS s3 vs, F7, done ++ [y], rest', acc ++ [v], rfl, ?_, fun a ha => c2 a (f2 a ha), ?_, f3, wipeS_un s3 vs, upd_same, c4, ?_, by simp; omega, k6, by simpa using k4⟩
        · exact ⟨c1.g, c1.b, fun a u e ha => by
            show upd W6.H Dl _ a = some u
            rw [upd_ne (fun z => ha (by simp [z]))]
            exact c1.h a u e ha, fun a h => by
            show upd W6.H Dl _ a ≠ none
            unfold upd
            split
            · simp
            · exact c1.dom a h, c1.nb, c1.ng, c1.pin⟩
        · exact St.keep (W := W6) (W' := W6.mut Dl (.lst (acc ++ [v])) c4) (Sub.refl W6.G) (Sub.refl W6.B) rfl (fun a ha u e => by
            show upd W6.H Dl _ a = some u
            rw [upd_ne (fun z => by subst z; exact hDF7 ha)]
            exact e) (fun _ _ e => e) f1
        · rw [e9]
          exact (RpL.mono (t26.at2 hm) done acc rl).append (RpL.one rv)
      | false =>
        have k5 : xlcGo vs bind p fe (ds.drop (i + 1)) (wipeS s2 vs) = some (rest, sz) := k3
        obtain ⟨c1, c2, c3, c4⟩ := base t25 n25
        obtain ⟨F7, f1, f2, f3⟩ := forget st5 nd5
        show ∃ (W2 : World) (si : List SV) (Fi : List Addr) (done rest : List D) (acc : List V), W5.H = W2.H ∧ _
        exact ⟨W5, wipeS s2 vs, F7, done, rest, acc, rfl, c1, fun a ha => c2 a (f2 a ha), f1, f3, wipeS_un s2 vs, c3, c4, RpL.mono (t25.at2 hm) done acc rl, by omega, k5, k4⟩
  · have e : i = ds.length := by omega
    refine .inl ⟨it.stop W2 i hsub (by omega), ?_⟩
    subst e
    rw [List.drop_length] at k3
    cases k3
    rw [List.append_nil] at k4
    subst k4
    have tL := W1.lay_step hD (o := .lst [])
    have hnew : ∀ a, (W1.lay Dl (.lst []) hD).H a = none → W1.H a = none := fun a z => tL.back z
    have tW1 : Step Fa W1 W2 := (tL.mono (F' := Fa) (by simp)).trans (F1 := Dl :: F0) (fun a ha => by
      rcases List.mem_cons.mp ha with z | z
      · rw [z]
        exact .inr hD
      · exact .inl (sub0 a z)) t2
    obtain ⟨F2, r1, r2⟩ := st_unwipe (W := W1) (W' := W2) tW1.g tW1.b tW1.pin hq sta c0.2 st2 hun
    subst r2
    refine q (.ref Dl) W2 F2 [Dl] (t1.trans na tW1) (fun a ha => ?_) r1 (List.nodup_append.mpr ⟨nd2, by simp, fun a ha b hb e => ?_⟩) (RpO.flat eD nB rl)
    · rcases List.mem_append.mp ha with z | z
      · rcases n2 a z with y | y
        · exact na a (sub0 a y)
        · exact .inr (t1.back (hnew a y))
      · have e : a = Dl := by simpa using z
        rw [e]
        exact .inr (t1.back hD)
    · have e2 : b = Dl := by simpa using hb
      subst e e2
      exact hDi ha
end
end My

set_option Elab.async false
set_option linter.all false
set_option maxRecDepth 100000
set_option maxHeartbeats 4000000
/-! M11: the rules of M10 over programs. -/
namespace My
open PySem PyProof.Rows L2
def dForX (fi : List SV → Option (List D × List SV)) (bind : D → List SV → Option (List SV)) (body : List SV → Option Out) (s : List SV) : Option Out := (fi s).bind fun r => forGo bind body r.1 r.2
def rng1 : List D → Option (List D)
  | [.int n] => if rngOk n then some (rngD 0 n.toNat) else none
  | _ => none
def xRange1 (f : List SV → Option (List D × List SV)) (s : List SV) : Option (List D × List SV) := (f s).bind fun r => (rng1 r.1).map fun ds => (ds, r.2)
section
variable {T : Tab} {me : List Md} {m m1 m2 : Md}
theorem ss_forX {wi : TI} {g : TG} {tb : TS} {ms : Md} {vs : List Nat} {fi : List SV → Option (List D × List SV)} {bind : D → List SV → Option (List SV)} {body : List SV → Option Out} (hi : SIx T me wi ms m fi) (hg : SG T me g m vs bind) (hb : SS T me tb body) (hms : ms ≠ .h) :
    SS T me (tFor wi g tb) (dForX fi bind body) := fun W σ s F st nd out ho N ok => by
  obtain ⟨⟨ds, s0⟩, k1, k2⟩ := bind_some ho
  refine hi W σ s F st nd ds s0 k1 _ fun J W1 F0 t1 n1 st1 nd1 it => ?_
  have ok1 : OutOk T me W1 F0 out N := ok.mono t1 n1
  refine ⟨fun i n σ' H => ∃ (W2 : World) (s2 : List SV) (F2 : List Addr), H = W2.H ∧ n = ds.length - i ∧ i ≤ ds.length ∧ Step F0 W1 W2 ∧ NewF F0 F2 W1 ∧ St T W2 me σ' s2 F2 ∧ F2.Nodup ∧ forGo bind body (ds.drop i) s2 = some out,
    ⟨ds.length, W1, s0, F0, rfl, by simp, Nat.zero_le _, Step.refl _ _, NewF.refl _ _, st1, nd1, by simpa using k2⟩, ?_⟩
  rintro i n σ2 H ⟨W2, s2, F2, rfl, rfl, hle, t2, n2, st2, nd2, k3⟩
  have hsub : Sub (W1.at ms) (W2.at ms) := t2.at2 hms
  by_cases hlt : i < ds.length
  · refine .inr ⟨it.go W2 i hsub hlt, fun σ' H' => ∃ (W2 : World) (s2 : List SV) (F2 : List Addr), H' = W2.H ∧ Step F0 W1 W2 ∧ NewF F0 F2 W1 ∧ St T W2 me σ' s2 F2 ∧ F2.Nodup ∧ forGo bind body (ds.drop (i + 1)) s2 = some out, ?_, fun x H' y => ?_⟩
    · rintro σ' H' ⟨W3, s3, F3, rfl, a1, a2, a3, a4, a5⟩
      exact ⟨ds.length - (i + 1), by omega, W3, s3, F3, rfl, rfl, hlt, a1, a2, a3, a4, a5⟩
    · obtain ⟨W3, d, t3, rfl, hd, rd⟩ := it.yld W2 i x H' hsub hlt y
      have edrop : ds.drop i = d :: ds.drop (i + 1) := by
        rw [List.drop_eq_getElem_cons hlt]
        have := (List.getElem?_eq_some_iff.mp hd).2
        rw [this]
      rw [edrop] at k3
      obtain ⟨s1, b1, k3⟩ := bind_some k3
      obtain ⟨o, b2, k3⟩ := bind_some k3
      refine hg W3 σ2 s2 F2 x d s1 (st2.step t3) rd b1 _ fun σ4 W4 F4 t4 st4 sub4 nd4 _ => ?_
      have t34 := t3.pure t4
      have t24 : Step F2 W2 W4 := t34.mono (by simp)
      have n24 : NewF F2 F4 W2 := fun a ha => .inl (sub4 a ha)
      have t14 : Step F0 W1 W4 := t2.trans n2 t24
      have n14 : NewF F0 F4 W1 := n2.trans t2 n24
      refine hb W4 σ4 s1 F4 st4 (nd4 nd2) o b2 _ ?_
      cases o with
      | nx s5 => exact fun σ5 W5 F5 t5 n5 st5 nd5 => ⟨W5, s5, F5, rfl, t14.trans n14 t5, n14.trans t14 n5, st5, nd5, k3⟩
      | ct s5 => exact fun σ5 W5 F5 t5 n5 st5 nd5 => ⟨W5, s5, F5, rfl, t14.trans n14 t5, n14.trans t14 n5, st5, nd5, k3⟩
      | bk s5 =>
        cases k3
        exact fun σ5 W5 F5 t5 n5 st5 nd5 => ok1 σ5 W5 F5 (t14.trans n14 t5) (n14.trans t14 n5) st5 nd5
      | rt r s5 =>
        cases k3
        exact fun v σ5 W5 F5 Fr t5 n5 st5 r5 nd5 => ok1 v σ5 W5 F5 Fr (t14.trans n14 t5) (n14.trans t14 n5) st5 r5 nd5
  · have e : i = ds.length := by omega
    refine .inl ⟨it.stop W2 i hsub (by omega), ?_⟩
    subst e
    rw [List.drop_length] at k3
    cases k3
    exact ok1 σ2 W2 F2 t2 n2 st2 nd2
end
section
variable {ι : Type} {X : ι → Cx} {T : Tab} {me : List Md} {tg iter elt e a b : Expr} {ifs : List Expr} {ms m m1 m2 : Md} {scope : Scope} {own : List (Str × Nat)} {pos pos' p : Pos} {fi : List SV → Option (List D × List SV)} {fs : List SV → Option (List D × List SV)} {bind : D → List SV → Option (List SV)} {pr : List SV → Option (Bool × List SV)} {fe fx gx : List SV → Option (D × List SV)} {x y : Str}
theorem rng1_of {as ds : List D} (h : rng1 as = some ds) : ∃ n, as = [.int n] ∧ (if rngOk n then some (rngD 0 n.toNat) else none) = some ds := by
  unfold rng1 at h
  split at h
  · exact ⟨_, rfl, h⟩
  · cases h
theorem fix_range1 (hg : ∀ j, Gl (X j) "range") (hm : ∀ j, (X j).mg "range" = none) (h : FXa X T me [a] m fs) (hs : ∀ j, starEach [a] (X j).env = [(false, eval a (X j).env)] := by intro _; rfl) : FIx X T me tg (.Call (.Name "range" p) [a] [] pos) .p .p (xRange1 fs) := by
  obtain ⟨ta, h1, h2⟩ := h.ex
  refine ⟨iRng1 ta, fun j => pi_range1 (hg j) (hm j) (h1 j) (hs j), fun W σ s F st nd ds s' hd R q => ?_⟩
  obtain ⟨⟨as, s1⟩, k1, k2⟩ := bind_some hd
  refine h2 W σ s F st nd as s1 k1 _ fun vs W1 F1 t1 n1 st1 nd1 r1 => ?_
  obtain ⟨ds0, k3, k4⟩ := map_some k2
  cases k4
  clear hd k2
  have k5 : rng1 as = some ds := k3
  clear k3
  obtain ⟨n, rfl, c9⟩ := rng1_of k5
  · by_cases c : rngOk n = true
    · rw [if_pos c] at c9
      cases c9
      obtain ⟨v, vr, rfl, rv, e⟩ := r1
      have e' : vr = [] := e
      subst e'
      cases rv
      have c' := rngOk_to c
      exact ⟨n, rfl, c'.1, c'.2, q _ W1 F1 t1 n1 st1 nd1 (it_range 0 n.toNat)⟩
    · rw [if_neg c] at c9
      cases c9
theorem fs_forX {body : List Stmt} {vs : List Nat} {fbd : List SV → Option Out} (hp : ∀ j, PassesOwn (model (X j).prog (X j).w) (X j).A (X j).env (X j).xe) (hc : ∀ j, (X j).calm = true) (hi : FIx X T me tg iter ms m fi) (hg : FG X T me tg m vs bind) (hb : FSs X T me body fbd) (hms : ms ≠ .h := by decide)
    (hs : ∀ j, ∀ x, foldedSetIterable iter (X j).env x = pure x := by intro _ _; rfl) : FS X T me (.For tg iter body [] pos) (dForX fi bind fbd) :=
  let ⟨t, h1, h2⟩ := hi.ex; let ⟨u, h3, h4⟩ := hg.ex; let ⟨w, h5, h6⟩ := hb.ex; ⟨_, fun j => ps_for (hp j) (hc j) (h1 j) (h3 j) (h5 j) (hs j), ss_forX h2 h4 h6 hms⟩
structure FXts (X : ι → Cx) (T : Tab) (me : List Md) (ifs : List Expr) (p : List SV → Option (Bool × List SV)) : Prop where
  ex : ∃ tt, (∀ j, PTs (X j) ifs tt) ∧ SXb T me tt p
theorem fxts_nil : FXts X T me [] (xbOf dYes) := ⟨tYes, fun _ => pts_nil, fun W σ s F st nd b s' h Q q => by
  cases h
  exact q W F (Step.refl _ _) (NewF.refl _ _) st nd⟩
theorem fxts_one {c : Expr} (h : FXb X T me c pr) : FXts X T me [c] pr := let ⟨t, h1, h2⟩ := h.ex; ⟨t, fun j => pts_one (h1 j), h2⟩
theorem fxo_lc (hc : ∀ j, (X j).calm = true) (hN : ∀ j, (X j).N.Nodup) (hi : FIx X T me tg iter ms m fi) (ok : ∀ j, BlkOk (X j).N (X j).env.scope scope own) (hg : FG (Blk X scope) T me tg m (own.map (·.2)) bind) (ht : FXts (Blk X scope) T me ifs pr) (he : FX (Blk X scope) T me elt m2 fe)
    (hm : m2 ≠ .h := by decide) (hms : ms ≠ .h := by decide) (hq : ∀ v ∈ own.map (·.2), me[v]? ≠ some .q := by decide) (hs : ∀ j, ∀ x, foldedSetIterable iter (X j).env x = pure x := by intro _ _; rfl) : FXo X T me (.ListComp elt [⟨tg, iter, ifs, 0⟩] scope pos) m2 (xLc fi (own.map (·.2)) bind pr fe) := by
  obtain ⟨wi, h1, h2⟩ := hi.ex
  obtain ⟨g, h3, h4⟩ := hg.ex
  obtain ⟨tt, h5, h6⟩ := ht.ex
  obtain ⟨te, h7, h8⟩ := he.ex
  exact ⟨_, fun j => pe_lc (hc j) (hN j) (h1 j) (ok j) (fun s H C cl fp => h3 (j, s, H, C, cl, fp)) (fun s H C cl fp => h5 (j, s, H, C, cl, fp)) (fun s H C cl fp => h7 (j, s, H, C, cl, fp)) (hs j), sxo_lc h2 h4 h6 h8 hm hms hq⟩
theorem fs_setXLc (i : Nat) {lpos spos : Pos}
    (hc : ∀ j, (X j).calm = true) (hN : ∀ j, (X j).N.Nodup) (hi : FIx X T me tg iter ms m fi) (ok : ∀ j, BlkOk (X j).N (X j).env.scope scope own) (hg : FG (Blk X scope) T me tg m (own.map (·.2)) bind) (ht : FXts (Blk X scope) T me ifs pr) (he : FX (Blk X scope) T me elt m2 fe)
    (hm : me[i]? = some m2 := by rfl) (hh : m2 ≠ .h := by decide) (hms : ms ≠ .h := by decide) (hq : m2 ≠ .q := by decide) (hqs : ∀ v ∈ own.map (·.2), me[v]? ≠ some .q := by decide) (hy : ∀ j, (X j).N[i]? = some y := by intro _; rfl) (hyl : ∀ j, (X j).env.scope.names.lookup y = some .local := by intro _; rfl)
    (hsw : ∀ j, swapsWith (.ListComp elt [⟨tg, iter, ifs, 0⟩] scope lpos) (some (.Name y pos')) spos.line (X j).env = pure true := by intro _; exact sw_true rfl rfl rfl (by decide +kernel)) (hs : ∀ j, ∀ x, foldedSetIterable iter (X j).env x = pure x := by intro _ _; rfl) :
    FS X T me (.Assign [.Name y pos'] (.ListComp elt [⟨tg, iter, ifs, 0⟩] scope lpos) spos) (dSetXo i (xLc fi (own.map (·.2)) bind pr fe)) := by
  obtain ⟨wi, h1, h2⟩ := hi.ex
  obtain ⟨g, h3, h4⟩ := hg.ex
  obtain ⟨tt, h5, h6⟩ := ht.ex
  obtain ⟨te, h7, h8⟩ := he.ex
  exact ⟨_, fun j => ps_setLc (hc j) (hN j) (hy j) (hyl j) (hsw j) (h1 j) (ok j) (fun s H C cl fp => h3 (j, s, H, C, cl, fp)) (fun s H C cl fp => h5 (j, s, H, C, cl, fp)) (fun s H C cl fp => h7 (j, s, H, C, cl, fp)) (hs j), ss_setXo (sxo_lc h2 h4 h6 h8 hh hms hqs) hm hq⟩

/-! ### x.insert(k, v), x an own list, k with effects -/
def insD (os : List OD) (n : Int) (d : D) : Option (List OD) := if 0 ≤ n ∧ n.toNat ≤ os.length ∧ os.length < sizeLine then some (os.take n.toNat ++ .fz d :: os.drop n.toNat) else none
def insS (i : Nat) (k d : D) (s : List SV) : Option (List SV) := match s[i]?, k with
  | some (.own (.lst os)), .int n => (insD os n d).map fun os' => s.set i (.own (.lst os'))
  | _, _ => none
theorem insS_of {i : Nat} {k d : D} {s s' : List SV} (h : insS i k d s = some s') : ∃ os n, s[i]? = some (.own (.lst os)) ∧ k = .int n ∧ (0 ≤ n ∧ n.toNat ≤ os.length ∧ os.length < sizeLine) ∧ s' = s.set i (.own (.lst (os.take n.toNat ++ .fz d :: os.drop n.toNat))) := by
  unfold insS at h
  split at h
  · rename_i os n e
    obtain ⟨os', k3, k4⟩ := map_some h
    unfold insD at k3
    by_cases c : 0 ≤ n ∧ n.toNat ≤ os.length ∧ os.length < sizeLine
    · rw [if_pos c] at k3
      cases k3
      exact ⟨os, n, e, rfl, c, k4.symm⟩
    · rw [if_neg c] at k3
      cases k3
  · cases h
def dInsX (i : Nat) (fk fv : List SV → Option (D × List SV)) (s : List SV) : Option Out := if isOwnL i s then (fk s).bind fun rk => (fv rk.2).bind fun rv => (insS i rk.1 rv.1 rv.2).map Out.nx
  else none
def rIns : V → List V → Hp → VK → Prop := fun x vs H Q => ∃ (l : Addr) (xs : List V) (i : Int) (y : V), x = .ref l ∧ vs = [.int i, y] ∧ H l = some (.lst xs) ∧ xs.length < sizeLine ∧ 0 ≤ i ∧ i < 2 ^ 63 ∧
    Q .non (upd H l (.lst (xs.take i.toNat ++ [y] ++ xs.drop i.toNat)))
theorem ss_insX {K : PySem.W.Frag} {to tk tv : TE} {fk fv : List SV → Option (D × List SV)} {i : Nat} (hto : to = tVar i) (hk : SX T me tk .p fk) (hv : SX T me tv m fv) (hm : me[i]? = some m) :
    SS T me (tDrop (tBM K "list" rIns to (tCons tk (tCons tv tNil)))) (dInsX i fk fv) := fun W σ s F st nd out ho N ok => by
  subst hto
  by_cases c0 : isOwnL i s = true
  case neg =>
    unfold dInsX at ho
    rw [if_neg c0] at ho
    cases ho
  unfold dInsX at ho
  rw [if_pos c0] at ho
  obtain ⟨⟨dk, s1⟩, k1, ho⟩ := bind_some ho
  obtain ⟨⟨d, s2⟩, k2, ho⟩ := bind_some ho
  obtain ⟨s3, k3, k4⟩ := map_some ho
  subst k4
  obtain ⟨os, n, e, en, c, e3⟩ := insS_of k3
  have en : dk = .int n := en
  have e : s2[i]? = some (.own (.lst os)) := e
  subst en e3
  obtain ⟨os0, e0⟩ := isOwnL_of c0
  obtain ⟨m3, x, F1, A, C, g1, g2, g3, g4, ⟨v0, ev, ⟨a, vs, F', ea, ef, ha, hb, rr⟩, hv0⟩, g6⟩ := st.focus e0
  subst ev ea
  refine ⟨.ref a, g3, .inl ⟨rfl, vs, .inl (.inl ha)⟩, hk W σ s F st nd _ s1 k1 _ fun vk W1 F1 t1 n1 st1 nd1 r1 => ?_⟩
  cases r1
  refine hv W1 σ s1 F1 st1 nd1 d s2 k2 _ fun v W2 F2 t2 n2 st2 nd2 r2 => ?_
  obtain ⟨m4, a3, vs3, F3, q1, q2, q3, q4, q5, q6, q7, q8⟩ := st2.ownL nd2 e
  have ea3 : a = a3 := by
    rw [g3] at q3
    exact V.ref.inj (Option.some.inj (Option.some.inj q3))
  subst ea3
  have em : m = m4 := Option.some.inj (hm.symm.trans q1)
  subst em
  have hlen := RpOL.length q7
  have hline : sizeLine < 2 ^ 63 := by decide
  refine ⟨a, vs3, n, v, rfl, rfl, q4, by rw [← hlen]; exact c.2.2, c.1, by omega, ?_⟩
  obtain ⟨F5, b1, b2, b3, b4⟩ := q8 (W2.mut a (.lst (vs3.take n.toNat ++ [v] ++ vs3.drop n.toNat)) q5) (os.take n.toNat ++ .fz d :: os.drop n.toNat) (vs3.take n.toNat ++ [v] ++ vs3.drop n.toNat) rfl rfl rfl rfl fun sm hr => by
    obtain ⟨Fa, Fb, e9, h8, h9⟩ := RpOL.take n.toNat hr
    subst e9
    refine ⟨Fa ++ ([] ++ Fb), ?_, by simp⟩
    exact (List.append_assoc (vs3.take n.toNat) [v] (vs3.drop n.toNat)) ▸ h8.append ((RpOL.one (o := .fz d) (F := []) ⟨rfl, Rp.mono sm d v r2⟩).append h9)
  have t12 := t1.trans n1 t2
  have n12 := n1.trans t1 n2
  exact ok σ _ F5 (t12.trans n12 b1) (n12.trans t12 b2) b3 b4
theorem fs_insX (i : Nat) {apos : Pos} (hk : FX X T me e .p fx) (hv : FX X T me a m gx) (hm : me[i]? = some m := by rfl) (hN : ∀ j, (X j).N[i]? = some x := by intro _; rfl) (hvi : ∀ j, Vis (X j).env.scope x := by intro _; first | exact Or.inl rfl | exact Or.inr (Or.inl rfl) | exact Or.inr (Or.inr rfl))
    (hK : ∀ j, (X j).K = T.K) (hd : (x == ("__debug__" : Str)) = false := by decide) (hcd : (x == ("__classdict__" : Str)) = false := by decide)
    (hbase : ∀ j : ι, attributeBase (.Name x p) "insert" (X j).env (eval (.Name x p) (X j).env) = eval (.Name x p) (X j).env := by intro _; rfl)
    (hfew : ∀ j : ι, ((backTo pos' (starEach [e, a] (X j).env)).all (fun x => !x.1) && (backToKw pos' (keywordEach [] (X j).env)).all (fun x => x.1.isSome)
      && decide ([e, a].length + ([] : List Keyword).length + (if ([] : List Keyword).isEmpty then 0 else 1) < 30)) = true := by intro _; rfl)
    (hline : (apos.endLine == pos'.line) = true := by rfl) (hs : ∀ j, starEach [e, a] (X j).env = (false, eval e (X j).env) :: starEach [a] (X j).env := by intro _; rfl) (hs2 : ∀ j, starEach [a] (X j).env = (false, eval a (X j).env) :: starEach [] (X j).env := by intro _; rfl) (hplain : ∀ j : ι, (backTo pos' (starEach [a] (X j).env)).any (·.1) = false := by intro _; rfl)
    (hsw : ∀ j, swapsWith (.Call (.Attribute (.Name x p) "insert" apos) [e, a] [] pos') none pos.line (X j).env = pure false := by intro _; rfl) : FS X T me (.Expr (.Call (.Attribute (.Name x p) "insert" apos) [e, a] [] pos') pos) (dInsX i fx gx) := by
  obtain ⟨tk, k1, k2⟩ := hk.ex
  obtain ⟨tv, k3, k4⟩ := hv.ex
  refine ⟨tDrop (tBM T.K "list" rIns (tVar i) (tCons tk (tCons tv tNil))), fun j => ?_, ss_insX rfl k2 k4 hm⟩
  have h := pe_bm PySem.F.plainAttrs_list PySem.F.slot_list_insert PySem.F.type_list_insert mt_insert (pe_var (X := X j) (hN j) (hvi j) hd hcd (pos := p)) (pa_cons (k1 j) (pa_cons (k3 j) pa_nil (hs2 j)) (hs j)) (hbase j) (hfew j) hline (hs j) (hplain j)
  rw [hK j] at h
  exact ps_expr h (hsw j)
end
end My

set_option Elab.async false
set_option linter.all false
set_option maxRecDepth 100000
set_option maxHeartbeats 4000000
/-! M12: sorted(xs, key=f), f a def of the module whose keys are whole numbers. -/
namespace My
open PySem PySem.W PySem.Calls PyProof.Rows L2

/-- the keys of the items, one by one -/
def KRun (sp : Sp) : List V → Hp → List Int → (List Int → Hp → Prop) → Prop
  | [], H, acc, fin => fin acc H
  | x :: xs, H, acc, fin => sp [x] H (fun v H1 => ∃ n, v = .int n ∧ KRun sp xs H1 (acc ++ [n]) fin) E0
def sortKV (xs : List V) (ns : List Int) : List V := ((xs.zip ns).mergeSort fun p q => decide (p.2 ≤ q.2)).map (·.1)

theorem intsAre_snoc {n : Int} {t : Tok} : ∀ {vs : List Value} {ns : List Int}, IntsAre vs ns → IntsAre (vs ++ [.int n t]) (ns ++ [n])
  | _, _, .nil => .cons n t .nil
  | _, _, .cons a b h => .cons a b (intsAre_snoc h)
theorem intsAre_len : ∀ {vs : List Value} {ns : List Int}, IntsAre vs ns → vs.length = ns.length
  | _, _, .nil => rfl
  | _, _, .cons a b h => congrArg (· + 1) (intsAre_len h)
theorem intsAre_reads {h : Heap} : ∀ {vs : List Value} {ns : List Int}, IntsAre vs ns → EachIs (fun v d => ∃ as, Reads h v d as) vs (ns.map PyData.int)
  | _, _, .nil => .nil
  | _, _, .cons a b r => .cons ⟨[], by constructor⟩ (intsAre_reads r)
theorem each_self {α β : Type} (g : β → α) : ∀ l : List β, EachIs (fun v p => v = g p) (l.map g) l
  | [] => .nil
  | b :: l => .cons rfl (each_self g l)
theorem each_eq {α β : Type} {g : β → α} : ∀ {vs : List α} {l : List β}, EachIs (fun v p => v = g p) vs l → vs = l.map g
  | _, _, .nil => rfl
  | _, _, .cons e r => by rw [e, each_eq r]; rfl
theorem vals_zip3 : ∀ {xs : List V} {us : List Value} {ns : List Int}, Vals xs us → us.length = ns.length → ((us.zip xs).zip ns).map (fun p => p.1.1) = us ∧ ((us.zip xs).zip ns).map (fun p => (p.1.2, p.2)) = xs.zip ns ∧ ((us.zip xs).zip ns).map (fun p => p.2) = ns ∧ ∀ p ∈ (us.zip xs).zip ns, RelV p.1.2 p.1.1
  | _, _, [], .nil, _ => ⟨rfl, rfl, rfl, fun p hp => by simp at hp⟩
  | _, _, n :: ns, .cons r k, h => by
    obtain ⟨a, b, c, d⟩ := vals_zip3 (ns := ns) k (by simpa using h)
    refine ⟨by simp [a], by simp [b], by simp [c], fun p hp => ?_⟩
    simp only [List.zip_cons_cons, List.mem_cons] at hp
    rcases hp with z | z
    · rw [z]; exact r
    · exact d p z
  | _, _, n :: ns, .nil, h => by simp at h
  | _, _, [], .cons r k, h => by simp at h
theorem vals_map {α : Type} {g : α → V} {q : α → Value} : ∀ {l : List α}, (∀ p ∈ l, RelV (g p) (q p)) → Vals (l.map g) (l.map q)
  | [], _ => .nil
  | a :: l, h => .cons (h a (by simp)) (vals_map fun p hp => h p (by simp [hp]))

section
variable {X : Cx} {pins : List (Addr × Obj)} {σ : L2.St} {H : Hp} {s : Shared}
theorem Room.in2 {k : Nat} {A : Around} (r : Room (k + 2) A) : Room k A.in1.in1 := r.in1.in1

/-- what a place needs to be a record of ours -/
structure Free (X : Cx) (pins : List (Addr × Obj)) (a : Addr) : Prop where
  fs : a ∉ X.fs
  loc : a ≠ X.env.locals
  sz : X.s_0.heap.objs.size ≤ a
  cell : ∀ x c, X.env.cells.lookup x = some c → c ≠ a
  pin : ∀ p ∈ X.pn ++ pins, p.1 ≠ a
theorem inv_newAt (I : Inv X pins σ H s) {a : Addr} (h : s.heap.objs.size ≤ a) : Free X pins a where
  fs := I.nofs h
  loc := Nat.ne_of_gt (Nat.lt_of_lt_of_le I.lt h)
  sz := Nat.le_trans I.sz h
  cell := fun x c e z => by
    obtain ⟨v, o, ho, _⟩ := I.cell x c e
    subst z
    exact absurd (Nat.lt_of_lt_of_le (Heap.lt_size ho) h) (Nat.lt_irrefl _)
  pin := fun p hp z => by
    have := (I.pin p hp).1
    rw [z] at this
    exact absurd (Nat.lt_of_lt_of_le (Heap.lt_size this) h) (Nat.lt_irrefl _)
theorem inv_pinTwo (I : Inv X pins σ H s) {k a : Addr} {xs ys : Array Value} {m n : Nat} (fk : Free X pins k) (fa : Free X pins a) (ek : s.heap.get? k = some (seqObj "list" xs m)) (ea : s.heap.get? a = some (seqObj "list" ys n)) (nk : H k = none) (na : H a = none) :
    Inv X ((k, seqObj "list" xs m) :: (a, seqObj "list" ys n) :: pins) σ H s := I.pins_of fun p hp => by
  rcases List.mem_cons.mp hp with e | hp
  · subst e
    exact ⟨ek, nk, fk.loc, fk.fs, fun v z => nomatch z⟩
  · rcases List.mem_cons.mp hp with e | hp
    · subst e
      exact ⟨ea, na, fa.loc, fa.fs, fun v z => nomatch z⟩
    · exact I.pin p (List.mem_append_right _ hp)
theorem inv_unpinTwo {p q : Addr × Obj} (I : Inv X (p :: q :: pins) σ H s) : Inv X pins σ H s := I.pins_of fun r hr => I.pin r (List.mem_append_right _ (List.mem_cons_of_mem _ (List.mem_cons_of_mem _ hr)))
theorem hide1 {h : Heap} {k b : Addr} {u : Obj} (hb : b ≠ k) (e : h.get? b = some u) : (hideAll h [k]).get? b = some u := hideAll_get _ e (by simpa using hb)
/-- the two records are laid aside, at one of them a list is tracked from now on -/
theorem inv_listAt (I : Inv X pins σ H s) {k a : Addr} (fk : Free X pins k) (fa : Free X pins a) (nk : H k = none) (na : H a = none) {h' : Heap} {tk : Nat} {vs : List V} {its : List Value} {c : Nat} (kp : KeepsBut a (hideAll s.heap [k]) h')
    (ha : h'.get? a = some (seqObj "list" its.toArray c)) (hv : Vals vs its) (hz : vs.length ≤ sizeLine) : Inv X pins σ (upd H a (.lst vs)) { s with heap := h', toks := tk } := by
  have I1 : Inv X pins σ H { s with heap := hideAll s.heap [k], toks := s.toks } := I.turned (fun b o hb e => hide1 hb e) nk fk.loc (.inr fk.sz) fk.cell fk.pin
  have I2 : Inv X pins σ H { s with heap := hideAll (hideAll s.heap [k]) [a], toks := s.toks } := I1.turned (t' := s.toks) (fun b o hb e => hide1 hb e) na fa.loc (.inr fa.sz) fa.cell fa.pin
  have hk : ∀ b u, (hideAll (hideAll s.heap [k]) [a]).get? b = some u → b ≠ a ∧ h'.get? b = some u := fun b u e => by
    have hb : b ≠ a := fun z => by
      subst z
      rw [hideAll_none [b] (by simp)] at e
      cases e
    exact ⟨hb, kp b u hb (of_hideAll _ e)⟩
  refine I2.un (t' := tk) ⟨fun b u e _ _ _ => (hk b u e).2, fun b u e _ _ _ => ⟨u.slots, (hk b u e).2⟩, fun b u e n _ => by rw [upd_ne (hk b u e).1]; exact n, fun b u e _ => ⟨u, (hk b u e).2⟩, fun b xs e => by rw [upd_ne (ne_of_none e na)]; exact e,
    fun b u xs e => by rw [upd_ne (ne_of_none e na)]; exact e, fun b ps e => ⟨#[], by rw [upd_ne (ne_of_none e na), e]; simp⟩⟩ ?_
  intro b u e
  by_cases hb : b = a
  · subst hb
    rw [upd_same] at e
    cases e
    exact ⟨hz, its, c, hv, ha⟩
  · rw [upd_ne hb] at e
    exact (I2.hok b u e).stay (fun c v _ q => (hk c v q).2) (fun c q => by rw [upd_ne (ne_of_none q na)]; exact q) fun c xs q => by rw [upd_ne (ne_of_none q na)]; exact q

theorem sort_keyV {k : Nat} {f l : Addr} {fd : FuncData} {ps : List Str} {sp : Sp} {xs : List V} {Q : VK} (F : FnOk X.prog X.w X.K X.mg X.base CX0 k f fd ps sp) (hr : Room (k + 2) X.A) (hb : Binds X.K fd ps []) (I : Inv X pins σ H s) (hs : SqL X.K H l xs)
    (h : KRun sp xs H [] fun ns H1 => ∀ p, H p = none → H1 p = none → Q (.ref p) (upd H1 p (.lst (sortKV xs ns)))) :
    wpAny (model X.prog X.w) X.A (call (.builtin "sorted") [.ref l] [(Str.ofString "key", .ref f)]) (EP X pins σ Q) X.xe s := by
  obtain ⟨its, rv, hl, hz⟩ := I.list hs
  have hzi : its.length ≤ sizeLine := by rw [← rv.length]; exact hz
  refine sorted_of_sort hl.isList hzi (ksk_s1 _ _) (fun _ => ksk_l1 _ _) fun E' => ?_
  rw [ksk_t1]
  generalize hA : s.heap.objs.size + 1 = a
  have hca : (copyHeap s.heap its).get? a = some (seqObj "list" its.toArray 0) := hA ▸ copyHeap_at s.heap its
  have fa : Free X pins a := inv_newAt I (by omega)
  obtain ⟨e1, ho1⟩ : ∃ e1, ((copyHeap s.heap its).update a (Obj.mapSeq fun _ => (#[] : Array Value))).get? a = some (seqObj "list" #[] e1) := ⟨_, get?_update_seq hca fun _ => #[]⟩
  have hks : (((copyHeap s.heap its).update a (Obj.mapSeq fun _ => (#[] : Array Value))).push (seqObj "tuple" its.toArray 0)).objs.size = (copyHeap s.heap its).objs.size + 1 := by rw [size_push', Heap.size_update]
  have hac : a < (copyHeap s.heap its).objs.size := Heap.lt_size hca
  generalize hK : (((copyHeap s.heap its).update a (Obj.mapSeq fun _ => (#[] : Array Value))).push (seqObj "tuple" its.toArray 0)).objs.size = kS at hks
  have hka : kS ≠ a := by omega
  have fk : Free X pins kS := inv_newAt I (by omega)
  unfold ksk_tree
  refine wpAny_bind (listItems_at hca rfl ?_)
  refine wpAny_bind (listUpdate_at hca rfl ?_ (by rw [List.size_toArray]; exact hzi) (Nat.zero_le _))
  refine wpAny_bind (seqEpoch_at ho1 rfl ?_)
  refine wpAny_bind (wpAny_newTuple ?_ (by show its.length ≤ _; exact hzi))
  refine wpAny_bind (wpAny_newList ?_ (Nat.zero_le _))
  refine wpAny_holding ?_
  show wpAny _ _ (ksk_rest a (.ref f) false its.toArray e1 (.ref (((copyHeap s.heap its).update a (Obj.mapSeq fun _ => (#[] : Array Value))).push (seqObj "tuple" its.toArray 0)).objs.size)) _ _ { s with heap := sortingHeap (copyHeap s.heap its) a its }
  rw [hK]
  have old : ∀ b o, s.heap.get? b = some o → (sortingHeap (copyHeap s.heap its) a its).get? b = some o := fun b o e => by
    have hlt := Heap.lt_size e
    exact sortingHeap_old (fun z => absurd hlt (by rw [z, ← hA]; exact Nat.not_lt.mpr (Nat.le_succ _))) (copyHeap_old e)
  have nkS : (sortingHeap (copyHeap s.heap its) a its).get? kS = some (seqObj "list" #[] 0) := hK ▸ Heap.get?_push_size _ rfl
  have naS : (sortingHeap (copyHeap s.heap its) a its).get? a = some (seqObj "list" #[] e1) := Heap.get?_push_of_some _ (Heap.get?_push_of_some _ ho1)
  have I0 : Inv X pins σ H { s with heap := sortingHeap (copyHeap s.heap its) a its } := I.kept (t' := s.toks) old
  have Ha : H a = none := I.hok.fresh (by omega)
  have Hk : H kS = none := I.hok.fresh (by omega)
  unfold ksk_rest
  refine wpAny_bind (wpAny_rule ?_)
  rw [List.forIn_toArray]
  refine wpAny_bind (ksk_fold (fun i s' => ∃ (H' : Hp) (kA : Array Value) (e : Nat) (acc : List Int), Inv X pins σ H' s' ∧ s'.heap.get? kS = some (seqObj "list" kA e) ∧ s'.heap.get? a = some (seqObj "list" #[] e1) ∧ H' kS = none ∧ H' a = none ∧ IntsAre kA.toList acc ∧ acc.length = i ∧
    KRun sp (xs.drop i) H' acc fun ns H1 => ∀ p, H p = none → H1 p = none → Q (.ref p) (upd H1 p (.lst (sortKV xs ns)))) its 0 _
    ⟨H, #[], 0, [], I0, nkS, naS, Hk, Ha, .nil, rfl, by simpa using h⟩ ?step ?done)
  case step =>
    rintro j v s' hj ⟨H', kA, e, acc, J, ek, ea, nk, na, hI, hl', hk⟩
    simp only [Nat.zero_add] at hk hl' ⊢
    have hlen : j < its.length := (List.getElem?_eq_some_iff.mp hj).1
    obtain ⟨x, hx, rx⟩ : ∃ x, xs[j]? = some x ∧ RelV x v := by
      have hxl : j < xs.length := by rw [rv.length]; exact hlen
      refine ⟨_, List.getElem?_eq_getElem hxl, ?_⟩
      obtain ⟨u, eu, ru⟩ := rv.get (List.getElem?_eq_getElem hxl)
      rw [hj] at eu
      cases eu
      exact ru
    have ed : xs.drop j = x :: xs.drop (j + 1) := by
      have hxl : j < xs.length := by rw [rv.length]; exact hlen
      rw [List.drop_eq_getElem_cons hxl]
      rw [(List.getElem?_eq_some_iff.mp hx).2]
    rw [ed] at hk
    have J2 := inv_pinTwo J fk fa ek ea nk na
    have hkA : kA.size = j := by
      have h1 := intsAre_len hI
      rw [Array.length_toList] at h1
      omega
    have r2 : Vals [x] [v] := .cons rx .nil
    have hls : ([v] ++ ([] : List Value)).length = ps.length := by
      have := F.len _ _ _ _ hk
      simpa using this
    have turn := F.run X.A.in1.in1 X.stack s' H' ⟨[v], []⟩ ([v] ++ []) [x] _ E0 (Room.in2 hr) J2.env0.in1.in1 (hb s' [v] J2.kIn hls) (by simpa using r2) hk
    refine wpAny_bind (wpAny_attempt (wpAny_mono (wpAny_call (codeAny_mono turn fun r s2 hq => ?_)) (Q := fun u s2 => EP X ((kS, seqObj "list" kA e) :: (a, seqObj "list" #[] e1) :: pins) σ (fun v H1 => ∃ n, v = .int n ∧ KRun sp (xs.drop (j + 1)) H1 (acc ++ [n]) fun ns H1 => ∀ p, H p = none → H1 p = none → Q (.ref p) (upd H1 p (.lst (sortKV xs ns)))) u s2) (fun u s2 he => ?_) fun _ _ hF => hF))
    · cases r with
      | error er => exact hq.elim
      | ok fl =>
        cases fl with
        | ret u => exact J2.after hq
        | next => exact False.elim hq
        | brk => exact False.elim hq
        | cont => exact False.elim hq
    · obtain ⟨v1, H1, I1, r1, n, e9, hk1⟩ := he
      subst e9
      obtain ⟨t, rfl⟩ := r1
      have p1 := I1.pin (kS, seqObj "list" kA e) (List.mem_append_right _ (by simp))
      have p2 := I1.pin (a, seqObj "list" #[] e1) (List.mem_append_right _ (by simp))
      have ek1 : s2.heap.get? kS = some (seqObj "list" kA e) := p1.1
      have ea1 : s2.heap.get? a = some (seqObj "list" #[] e1) := p2.1
      have s1 := Heap.SameBut.update s2.heap kS (Obj.mapSeq (·.push (.int n t)))
      obtain ⟨c2, hc2⟩ : ∃ c2, (s2.heap.update kS (Obj.mapSeq (·.push (.int n t)))).get? kS = some (seqObj "list" (kA.push (.int n t)) c2) := ⟨_, get?_update_seq ek1 (·.push (.int n t))⟩
      refine wpAny_bind (listUpdate_at ek1 rfl ?_ (by omega) (by rw [Array.size_push]; omega))
      refine wpAny_pure ⟨rfl, H1, kA.push (.int n t), c2, acc ++ [n], ?_, hc2, (s1.2 a hka.symm).trans ea1, p1.2.1, p2.2.1, ?_, by simp [hl'], hk1⟩
      · exact (inv_unpinTwo I1).turned (t' := s2.toks) (fun b o hb e => (s1.2 b hb).trans e) p1.2.1 fk.loc (.inr fk.sz) fk.cell fk.pin
      · rw [Array.toList_push]
        exact intsAre_snoc hI
  case done =>
    rintro s' ⟨H', kA, e, acc, J, ek, ea, nk, na, hI, hl', hk⟩
    simp only [Nat.zero_add] at hk hl'
    have hkA : kA.size = its.length := by
      have h1 := intsAre_len hI
      rw [Array.length_toList] at h1
      omega
    have hxl : xs.length = its.length := rv.length
    rw [List.drop_of_length_le (by omega)] at hk
    have hk : ∀ p, H p = none → H' p = none → Q (.ref p) (upd H' p (.lst (sortKV xs acc))) := hk
    try dsimp only
    refine wpAny_bind (listItems_at ek rfl ?_)
    have hal : AllAlike (acc.map PyData.int) := fun d hd d' hd' => by
      obtain ⟨_, _, rfl⟩ := List.mem_map.mp hd
      obtain ⟨_, _, rfl⟩ := List.mem_map.mp hd'
      rfl
    have hsk : Sortable (acc.map PyData.int) := .inr fun d hd => by
      obtain ⟨_, _, rfl⟩ := List.mem_map.mp hd
      exact ⟨nofun, nofun⟩
    have hR := intsAre_reads (h := s'.heap) hI
    have hun := hr.un
    have S : SortsAt X.prog X.w X.A.in1.in1 s' (dataKind s'.heap (acc.map PyData.int)) kA.toList := SortsAt.data hR hal hsk fun d hd => by
      obtain ⟨_, _, rfl⟩ := List.mem_map.mp hd
      show X.A.units + 2 + 0 < cLine
      omega
    refine keyH_end (h₁ := hideAll s'.heap [kS]) (fun b o _ e => of_hideAll _ e) (hideAll_none _ (by simp)) ek ea hka S hkA hzi fun h' tk c kp ha => ⟨rfl, ?_⟩
    -- the sorted items, as values of the layer
    obtain ⟨z1, z2, z3, z4⟩ := vals_zip3 (ns := acc) rv (by omega)
    have ko : KeyedOut false (((its.zip xs).zip acc).map fun p => PyData.int p.2) its (sortVals (dataKind s'.heap (acc.map PyData.int)) false kA.toList its) := by
      have ez : ((its.zip xs).zip acc).map (fun p => PyData.int p.2) = acc.map PyData.int := by
        have := congrArg (List.map PyData.int) z3
        rw [List.map_map] at this
        exact this
      rw [ez]
      exact ⟨s'.heap, kA.toList, hal, rfl, hR⟩
    have ee := keyedOut_each (R := fun v p => v = p.1.1) (fun p : (Value × V) × Int => PyData.int p.2) ko (by
      have := each_self (fun p : (Value × V) × Int => p.1.1) ((its.zip xs).zip acc)
      rwa [z1] at this)
    rw [dataLe_int] at ee
    have eo := each_eq ee
    have em : (((its.zip xs).zip acc).mergeSort fun p q => decide (p.2 ≤ q.2)).map (fun p => p.1.2) = sortKV xs acc := by
      unfold sortKV
      rw [← z2, ← List.map_mergeSort (r := fun p q : (Value × V) × Int => decide (p.2 ≤ q.2)) (fun _ _ _ _ => rfl), List.map_map]
      rfl
    have hv : Vals (sortKV xs acc) (sortVals (dataKind s'.heap (acc.map PyData.int)) false kA.toList its) := by
      rw [eo, ← em]
      exact vals_map fun p hp => z4 p ((List.mergeSort_perm _ _).mem_iff.mp hp)
    have hlen : (sortKV xs acc).length ≤ sizeLine := by
      unfold sortKV
      rw [List.length_map, List.length_mergeSort, List.length_zip]
      omega
    exact ⟨.ref a, upd H' a (.lst (sortKV xs acc)), inv_listAt J fk fa nk na kp ha hv hlen, rfl, hk a Ha na⟩
end
end My

set_option Elab.async false
set_option linter.all false
set_option maxRecDepth 100000
set_option maxHeartbeats 4000000
/-! M13: sorted(xs, key=f) as a rule. -/
namespace My
open PySem PySem.W PySem.Calls PyProof.Rows L2

def keysD (g : List D → Option D) : List D → Option (List Int)
  | [] => some []
  | d :: ds => (g [d]).bind fun r => match r with
    | .int n => (keysD g ds).map (n :: ·)
    | _ => none
def sortKD (ds : List D) (ns : List Int) : List D := ((ds.zip ns).mergeSort fun p q => decide (p.2 ≤ q.2)).map (·.1)
def dSortK (g : List D → Option D) (f : List SV → Option D) (s : List SV) : Option OD := (f s).bind fun d => match d with
  | .lst ds => (keysD g ds).map fun ns => oL (sortKD ds ns)
  | _ => none
theorem keysD_cons {g : List D → Option D} {d : D} {ds : List D} {ns : List Int} (h : keysD g (d :: ds) = some ns) : ∃ n ns', g [d] = some (.int n) ∧ keysD g ds = some ns' ∧ ns = n :: ns' := by
  obtain ⟨r, h1, h2⟩ := bind_some h
  cases r with
  | int n =>
    obtain ⟨ns', h3, h4⟩ := map_some h2
    exact ⟨n, ns', h1, h3, h4.symm⟩
  | _ => cases h2
theorem rpl_zip3 {T : Tab} {G : Hp} : ∀ {ds : List D} {vs : List V} {ns : List Int}, RpL T G ds vs → ds.length = ns.length → ((ds.zip vs).zip ns).map (fun p => (p.1.1, p.2)) = ds.zip ns ∧ ((ds.zip vs).zip ns).map (fun p => (p.1.2, p.2)) = vs.zip ns ∧ ∀ p ∈ (ds.zip vs).zip ns, Rp T G p.1.1 p.1.2
  | [], vs, ns, r, _ => by
    have e : vs = [] := r
    subst e
    exact ⟨rfl, rfl, fun p hp => by simp at hp⟩
  | d :: ds, vs, [], r, h => by simp at h
  | d :: ds, vs, n :: ns, ⟨v, vr, e, q, k⟩, h => by
    subst e
    obtain ⟨a, b, c⟩ := rpl_zip3 (ns := ns) k (by simpa using h)
    refine ⟨by simp [a], by simp [b], fun p hp => ?_⟩
    simp only [List.zip_cons_cons, List.mem_cons] at hp
    rcases hp with z | z
    · rw [z]; exact q
    · exact c p z
theorem rpl_map {T : Tab} {G : Hp} {α : Type} {g : α → D} {q : α → V} : ∀ {l : List α}, (∀ p ∈ l, Rp T G (g p) (q p)) → RpL T G (l.map g) (l.map q)
  | [], _ => rfl
  | a :: l, h => ⟨_, _, rfl, h a (by simp), rpl_map fun p hp => h p (by simp [hp])⟩
theorem RpL.sortK {T : Tab} {G : Hp} {ds : List D} {vs : List V} {ns : List Int} (r : RpL T G ds vs) (h : ds.length = ns.length) : RpL T G (sortKD ds ns) (sortKV vs ns) := by
  obtain ⟨a, b, c⟩ := rpl_zip3 r h
  have e1 : sortKD ds ns = (((ds.zip vs).zip ns).mergeSort fun p q => decide (p.2 ≤ q.2)).map (fun p => p.1.1) := by
    unfold sortKD
    rw [← a, ← List.map_mergeSort (r := fun p q : (D × V) × Int => decide (p.2 ≤ q.2)) (fun _ _ _ _ => rfl), List.map_map]
    rfl
  have e2 : sortKV vs ns = (((ds.zip vs).zip ns).mergeSort fun p q => decide (p.2 ≤ q.2)).map (fun p => p.1.2) := by
    unfold sortKV
    rw [← b, ← List.map_mergeSort (r := fun p q : (D × V) × Int => decide (p.2 ≤ q.2)) (fun _ _ _ _ => rfl), List.map_map]
    rfl
  rw [e1, e2]
  exact rpl_map fun p hp => c p ((List.mergeSort_perm _ _).mem_iff.mp hp)
def tSortK (K : PySem.W.Frag) (sp : Sp) (t : TE) : TE := fun σ H Q => t σ H fun v H1 => ∃ l xs, [v] = [V.ref l] ∧ SqL K H1 l xs ∧ KRun sp xs H1 [] fun ns H2 => ∀ p, H1 p = none → H2 p = none → Q (.ref p) (upd H2 p (.lst (sortKV xs ns)))
theorem pe_sortK {Y : Cx} {t : TE} {sp : Sp} {k : Nat} {x : Str} {ps : List Str} {e : Expr} {p py pos kpos : Pos} (C : Cal Y k x ps sp) (hr : Room (k + 2) Y.A) (hx : Gl Y x) (hdx : (x == ("__debug__" : Str)) = false) (hg : Gl Y "sorted") (hm : Y.mg "sorted" = none) (ha : PE Y e t)
    (he1 : starEach [e] Y.env = (false, eval e Y.env) :: starEach [] Y.env) (he : backTo pos (starEach [e] Y.env) = (false, eval e Y.env) :: backTo pos (starEach [] Y.env)) (hpl : (backTo pos (starEach [e] Y.env)).any (·.1) = false)
    (hall : (backToKw pos (keywordEach [⟨some "key", .Name x py, kpos⟩] Y.env)).all (·.1.isSome) = true) (hnone : (backToKw pos (keywordEach [⟨some "key", .Name x py, kpos⟩] Y.env)).any (·.1.isNone) = false) (hks : (backToKw pos (keywordEach [⟨some "key", .Name x py, kpos⟩] Y.env)).filterMap (·.1) = [Str.ofString "key"]) :
    PE Y (.Call (.Name "sorted" p) [e] [⟨some "key", .Name x py, kpos⟩] pos) (tSortK Y.K sp t) := by
  obtain ⟨f, fd, F, hf, _, hb⟩ := C.ex
  have hk : PK Y [⟨some "key", .Name x py, kpos⟩] (tCons (tC (.ref f)) tNil) := pk_cons (pe_glob hx hf (v := .ref f) rfl hdx) pk_nil
  refine ⟨fun pins s σ H Q I h => ?_⟩
  refine wpAny_Call_Name_kw (ld_blt I hg hm (show bootBuiltins "sorted" = some (.builtin "sorted") by decide +kernel) ?_ (by decide) (by decide))
  have h1 := (pa_cons ha pa_nil he1).run pos pins s σ H (fun vs H1 => ∃ l xs, vs = [V.ref l] ∧ SqL Y.K H1 l xs ∧ KRun sp xs H1 [] fun ns H2 => ∀ p, H1 p = none → H2 p = none → Q (.ref p) (upd H2 p (.lst (sortKV xs ns)))) I h
  refine PyProof.Rows.callWith_kw (thn h1 fun us s1 ⟨vs, H1, I1, r1, q1⟩ => thn (hk.run pos pins s1 σ H1 (fun zs H2 => zs = [V.ref f] ∧ ∃ l xs, vs = [V.ref l] ∧ SqL Y.K H2 l xs ∧ KRun sp xs H2 [] fun ns H3 => ∀ p, H2 p = none → H3 p = none → Q (.ref p) (upd H3 p (.lst (sortKV xs ns)))) I1 ⟨rfl, q1⟩) fun ws s2 ⟨zs, H2, I2, r2, e2, l, xs, e3, hs, hk2⟩ => ?_) he hpl hall hnone
  rw [hks]
  subst e2 e3
  obtain rfl := Vals.ref1 r1
  obtain rfl := Vals.ref1 r2
  exact sort_keyV F hr hb I2 hs hk2

section
variable {ι : Type} {X : ι → Cx} {T : Tab} {me : List Md} {e : Expr} {m : Md} {f : List SV → Option D} {pos p py kpos : Pos} {k : Nat} {x : Str} {ps : List Str}
theorem krun_of {m : Md} {g : List D → Option D} {fin : List Int → Hp → Prop} : ∀ {ds : List D} {vs : List V} {ns : List Int} {acc : List Int} {W : World}, RpL T (W.at m) ds vs → keysD g ds = some ns → (∀ W', Step [] W W' → fin (acc ++ ns) W'.H) → KRun (spP T [.b] g) vs W.H acc fin
  | [], vs, ns, acc, W, r, h, q => by
    have e : vs = [] := r
    subst e
    cases h
    have := q W (Step.refl _ _)
    rw [List.append_nil] at this
    exact this
  | d :: ds, vs, ns, acc, W, ⟨v, vr, e, r, rr⟩, h, q => by
    subst e
    obtain ⟨n, ns', h1, h2, e2⟩ := keysD_cons h
    subst e2
    refine ⟨W.open, [d], .int n, rfl, ⟨d, [], v, [], rfl, rfl, Rp.mono (W.atH m) d v r, rfl, rfl⟩, h1, fun u W2 t2 r2 => ⟨n, r2, ?_⟩⟩
    have t := W.back_step W2 t2
    refine krun_of (W := W.back W2 t2) (RpL.mono (t.at m) ds vr rr) h2 fun W3 t3 => ?_
    have := q W3 (t.pure t3)
    rw [List.append_assoc]
    exact this
theorem fo_sortK {g : List D → Option D} (C : ∀ j, Cal (X j) k x ps (spP T [.b] g)) (hK : ∀ j, (X j).K = T.K) (hr : ∀ j, Room (k + 2) (X j).A) (ha : FP X T me e m f) (hm : ∀ j, (X j).mg "sorted" = none) (hg : ∀ j, Gl (X j) "sorted" := by intro _; rfl) (hx : ∀ j, Gl (X j) x := by intro _; rfl) (hdx : (x == ("__debug__" : Str)) = false := by decide)
    (he1 : ∀ j, starEach [e] (X j).env = (false, eval e (X j).env) :: starEach [] (X j).env := by intro _; rfl) (he : ∀ j, backTo pos (starEach [e] (X j).env) = (false, eval e (X j).env) :: backTo pos (starEach [] (X j).env) := by intro _; rfl) (hpl : ∀ j, (backTo pos (starEach [e] (X j).env)).any (·.1) = false := by intro _; rfl)
    (hall : ∀ j, (backToKw pos (keywordEach [⟨some "key", .Name x py, kpos⟩] (X j).env)).all (·.1.isSome) = true := by intro _; rfl) (hnone : ∀ j, (backToKw pos (keywordEach [⟨some "key", .Name x py, kpos⟩] (X j).env)).any (·.1.isNone) = false := by intro _; rfl) (hks : ∀ j, (backToKw pos (keywordEach [⟨some "key", .Name x py, kpos⟩] (X j).env)).filterMap (·.1) = [Str.ofString "key"] := by intro _; rfl) :
    FO X T me (.Call (.Name "sorted" p) [e] [⟨some "key", .Name x py, kpos⟩] pos) m (dSortK g f) := by
  obtain ⟨t, h1, h2⟩ := ha.ex
  refine ⟨tSortK T.K (spP T [.b] g) t, fun j => by have := pe_sortK (p := p) (C j) (hr j) (hx j) hdx (hg j) (hm j) (h1 j) (he1 j) (he j) (hpl j) (hall j) (hnone j) (hks j); rw [hK j] at this; exact this, fun W σ s F st o ho Q q => ?_⟩
  obtain ⟨d, k1, k2⟩ := bind_some ho
  cases d with
  | lst ds =>
    obtain ⟨ns, k3, e3⟩ := map_some k2
    subst e3
    refine h2 W σ s F st _ k1 _ fun v W1 t1 r1 => ?_
    obtain ⟨l, vs, rfl, hq, rr⟩ := r1
    refine ⟨l, vs, rfl, (W1.atH m).sqL hq, krun_of rr k3 fun W2 t2 => fun p n1 n2 => ?_⟩
    have hl : ds.length = ns.length := by
      have : ∀ {ds : List D} {ns : List Int}, keysD g ds = some ns → ds.length = ns.length := by
        intro ds
        induction ds with
        | nil => intro ns h; cases h; rfl
        | cons d ds ih =>
          intro ns h
          obtain ⟨n, ns', _, h2, rfl⟩ := keysD_cons h
          simp [ih h2]
      exact this k3
    have rr2 := (RpL.mono (t2.at m) ds vs rr).sortK hl
    refine q (.ref p) (W2.lay p (.lst (sortKV vs ns)) n2) [p] ((t1.pure t2).pure (W2.lay_step n2)) (W2.newL n2 rr2) (fun c hc => ?_) (by simp)
    have e : c = p := by simpa using hc
    rw [e]
    exact (t1.pure t2).back n2
  | _ => cases k2
end
end My

set_option Elab.async false
set_option linter.all false
set_option maxRecDepth 100000
set_option maxHeartbeats 4000000
/-! M14: dicts whose keys are tuples of numbers and texts. -/
namespace My
open PySem PyProof.Rows L2

def keyD : D → Option Key
  | .int i => some (.inl i)
  | .str s => some (.inr s)
  | _ => none
def keysOf : List D → Option (List Key)
  | [] => some []
  | d :: ds => (keyD d).bind fun k => (keysOf ds).map (k :: ·)
def keyT : D → Option (List Key)
  | .tup ds => keysOf ds
  | _ => none
def keysT : List D → Option (List (List Key))
  | [] => some []
  | d :: ds => (keyT d).bind fun k => (keysT ds).map (k :: ·)
def tupK (k : List Key) : D := .tup (k.map dKey)
theorem keysOf_map : ∀ k : List Key, keysOf (k.map dKey) = some k
  | [] => rfl
  | .inl i :: k => by simp [keysOf, keyD, dKey, keysOf_map k]
  | .inr i :: k => by simp [keysOf, keyD, dKey, keysOf_map k]
theorem keysT_map : ∀ k : List (List Key), keysT (k.map tupK) = some k
  | [] => rfl
  | a :: k => by simp [keysT, keyT, tupK, keysOf_map, show keysT (k.map tupK) = some k from keysT_map k]
theorem keysOf_of {T : Tab} {G : Hp} : ∀ {ds : List D} {k : List Key} {vs : List V}, keysOf ds = some k → RpL T G ds vs → vs = k.map kV ∧ ds = k.map dKey
  | [], k, vs, h, r => by
    cases h
    exact ⟨r, rfl⟩
  | d :: ds, k, vs, h, ⟨v, vr, e, r, rr⟩ => by
    obtain ⟨x, h1, h2⟩ := bind_some h
    obtain ⟨k', h3, e2⟩ := map_some h2
    subst e e2
    obtain ⟨a, b⟩ := keysOf_of h3 rr
    subst a b
    cases d with
    | int i => cases h1; cases r; exact ⟨rfl, rfl⟩
    | str i => cases h1; cases r; exact ⟨rfl, rfl⟩
    | _ => cases h1
def memK (k : List Key) (kk : List (List Key)) : Bool := kk.any fun x => decide (x = k)
/-- d[k] = v by keys and values -/
def putD (ks vs : List D) (k : List Key) (v : D) : Option (List D × List D) := (keysT ks).bind fun kk => if kk.length = vs.length ∧ kk.length < sizeLine then
    some (if memK k kk = true then (ks, (kk.zip vs).map fun p => if p.1 = k then v else p.2) else (ks ++ [tupK k], vs ++ [v])) else none

section
variable {T : Tab} {G : Hp} {m : Md} {W : World}
theorem rpl_put {k : List Key} {d : D} {v : V} (r : Rp T G d v) : ∀ {kvs : List (List Key × V)} {ds : List D}, RpL T G ds (kvs.map (·.2)) → RpL T G (((kvs.map (·.1)).zip ds).map fun p => if p.1 = k then d else p.2) ((kvs.map fun kv => if kv.1 = k then (kv.1, v) else kv).map (·.2))
  | [], ds, h => by simp; exact rfl
  | (k0, v0) :: kvs, [], h => by
    have e : (((k0, v0) :: kvs).map (·.2) : List V) = [] := h
    cases e
  | (k0, v0) :: kvs, d0 :: ds, ⟨u, ur, e, q, qr⟩ => by
    have e1 : v0 = u := (List.cons.inj e).1
    have e2 : kvs.map (·.2) = ur := (List.cons.inj e).2
    subst e1 e2
    by_cases c : k0 = k
    · simp only [List.map_cons, List.zip_cons_cons, if_pos c]
      exact ⟨v, _, rfl, r, rpl_put r qr⟩
    · simp only [List.map_cons, List.zip_cons_cons, if_neg c]
      exact ⟨v0, _, rfl, q, rpl_put r qr⟩
theorem put_keys {k : List Key} {v : V} : ∀ kvs : List (List Key × V), (kvs.map fun kv => if kv.1 = k then (kv.1, v) else kv).map (fun p => D.tup (p.1.map dKey)) = kvs.map fun p => D.tup (p.1.map dKey)
  | [] => rfl
  | (k0, v0) :: kvs => by
    by_cases c : k0 = k
    · simp only [List.map_cons, if_pos c, put_keys kvs]
    · simp only [List.map_cons, if_neg c, put_keys kvs]
theorem tupK_map (kvs : List (List Key × V)) : (kvs.map fun p => D.tup (p.1.map dKey)) = (kvs.map (·.1)).map tupK := by simp [tupK]
theorem any_keys {k : List Key} (kvs : List (List Key × V)) : (kvs.any fun kv => decide (kv.1 = k)) = memK k (kvs.map (·.1)) := by
  unfold memK
  rw [List.any_map]
  rfl
theorem putD_of {kvs : List (List Key × V)} {ds ks' ds' : List D} {k : List Key} {d : D} {v : V} (h : putD (kvs.map fun p => D.tup (p.1.map dKey)) ds k d = some (ks', ds')) (r : RpL T G ds (kvs.map (·.2))) (rv : Rp T G d v) :
    kvs.length < sizeLine ∧ ks' = (putK kvs k v).map (fun p => D.tup (p.1.map dKey)) ∧ RpL T G ds' ((putK kvs k v).map (·.2)) := by
  rw [tupK_map] at h
  unfold putD at h
  rw [keysT_map] at h
  have h : (if (kvs.map (·.1)).length = ds.length ∧ (kvs.map (·.1)).length < sizeLine then
    some (if memK k (kvs.map (·.1)) = true then ((kvs.map (·.1)).map tupK, ((kvs.map (·.1)).zip ds).map fun p => if p.1 = k then d else p.2) else ((kvs.map (·.1)).map tupK ++ [tupK k], ds ++ [d])) else none) = some (ks', ds') := h
  by_cases c : (kvs.map (·.1)).length = ds.length ∧ (kvs.map (·.1)).length < sizeLine
  · rw [if_pos c] at h
    rw [List.length_map] at c
    refine ⟨c.2, ?_⟩
    unfold putK
    rw [any_keys]
    by_cases c2 : memK k (kvs.map (·.1)) = true
    · rw [if_pos c2] at h
      rw [if_pos c2]
      cases h
      exact ⟨by rw [put_keys, tupK_map], rpl_put rv r⟩
    · rw [if_neg c2] at h
      rw [if_neg c2]
      cases h
      refine ⟨by rw [List.map_append, tupK_map]; rfl, ?_⟩
      rw [List.map_append]
      exact r.append (RpL.one rv)
  · rw [if_neg c] at h
    cases h
end

/-! ### keys -/
def SKt (T : Tab) (me : List Md) (te : TE) (f : List SV → Option (List Key)) : Prop :=
  ∀ (W : World) (σ : List (Option V)) (s : List SV) (F : List Addr), St T W me σ s F → ∀ k, f s = some k → ∀ Q : VK, (∀ b W', Step [] W W' → W'.H b = some (.tup (k.map kV)) → Q (.ref b) W'.H) → te σ W.H Q
structure FKt {ι : Type} (X : ι → Cx) (T : Tab) (me : List Md) (e : Expr) (f : List SV → Option (List Key)) : Prop where
  ex : ∃ te, (∀ j, PE (X j) e te) ∧ SKt T me te f
def dKt (f : List SV → Option (List D)) (s : List SV) : Option (List Key) := (f s).bind fun ds => match ds with
  | [.lst xs] => keysOf xs
  | _ => none
def dDput (i : Nat) (fk : List SV → Option (List Key)) (fv : List SV → Option D) (s : List SV) : Option Out := (fv s).bind fun d => (fk s).bind fun k => match s[i]? with
  | some (.own (.dct ks vs)) => (putD ks vs k d).map fun r => .nx (s.set i (.own (.dct r.1 r.2)))
  | _ => none
def dNewD (_ : List SV) : Option OD := some (.dct [] [])
def dLenD : List D → Option D
  | [.dct ks _] => if ks.length ≤ sizeLine then some (.int ks.length) else none
  | _ => none
def dInD (fk : List SV → Option (List Key)) (fd : List SV → Option D) (s : List SV) : Option D := (fk s).bind fun k => (fd s).bind fun d => match d with
  | .dct ks _ => (keysT ks).map fun kk => .bl (memK k kk)
  | _ => none
section
variable {ι : Type} {X : ι → Cx} {T : Tab} {me : List Md} {e a b c : Expr} {es : List Expr} {m m1 m2 : Md} {f fa fb : List SV → Option D} {fs : List SV → Option (List D)} {fk : List SV → Option (List Key)} {pos pos' p : Pos} {x y : Str}
theorem fkt_tuple {k} (hK : ∀ j, (X j).K = T.K) (hg : ∀ j, Gl (X j) "tuple") (hm : ∀ j, (X j).mg "tuple" = none) (hv : bootBuiltins "tuple" = some (.type "tuple")) (ha : FA X T me [e] m1 fs)
    (he : ∀ j, starEach [e] (X j).env = (false, eval e (X j).env) :: starEach [] (X j).env := by intro _; rfl) (hpl : ∀ j, (backTo pos (starEach [] (X j).env)).any (·.1) = false := by intro _; rfl) : FKt X T me (.Call (.Name "tuple" k) [e] [] pos) (dKt fs) := by
  obtain ⟨t, h1, h2⟩ := ha.ex
  refine ⟨_, fun j => pe_callTy (cr_tuple' hK j) (hg j) (hm j) hv (h1 j) (by decide) (by decide) (he j) (hpl j), fun W σ s F st k hd Q q => ?_⟩
  obtain ⟨ds, k1, k2⟩ := bind_some hd
  refine h2 W σ s F st ds k1 _ fun vs W1 t1 r1 => ?_
  split at k2
  · rename_i xs
    obtain ⟨v, vr, rfl, ⟨l, ys, rfl, sq, rl⟩, e2⟩ := r1
    have e2' : vr = [] := e2
    subst e2'
    obtain ⟨a, b⟩ := keysOf_of k2 rl
    subst a
    exact ⟨l, _, rfl, .inl ⟨(W1.atH m1).sqL sq, fun z nz => q z (W1.lay z (.tup (k.map kV)) nz) (t1.pure (W1.lay_step nz)) upd_same⟩⟩
  · cases k2
theorem fo_dnew : FO X T me (.Dict [] [] pos) m dNewD := ⟨tDNewT, fun j => pe_dnewT, fun W σ s F st o ho Q q => by
  cases ho
  exact fun z nz => q (.ref z) (W.lay z (.dT []) nz) [z] (W.lay_step nz) ⟨z, [], rfl, rfl, W.freshB nz, ⟨[], upd_same, rfl, rfl⟩, rfl⟩ (fun c hc => by
    have e : c = z := by simpa using hc
    rw [e]
    exact nz) (by simp)⟩
/-- the own dict in the slot i, and what becomes of the slots when it changes -/
theorem St.ownD {W : World} {σ : List (Option V)} {s : List SV} {F : List Addr} {i : Nat} {ks ds : List D} (st : St T W me σ s F) (nd : F.Nodup) (e : s[i]? = some (.own (.dct ks ds))) :
    ∃ m a kvs, me[i]? = some m ∧ m ≠ .h ∧ σ[i]? = some (some (.ref a)) ∧ W.H a = some (.dT kvs) ∧ W.B a = none ∧ a ∈ F ∧ ks = kvs.map (fun p => D.tup (p.1.map dKey)) ∧ RpL T (W.at m) ds (kvs.map (·.2)) ∧
      ∀ (W' : World) (ks' ds' : List D) (kvs' : List (List Key × V)), W'.pin = W.pin → W'.G = W.G → W'.B = W.B → W'.H = upd W.H a (.dT kvs') → ks' = kvs'.map (fun p => D.tup (p.1.map dKey)) → RpL T (W'.at m) ds' (kvs'.map (·.2)) →
        Step F W W' ∧ St T W' me σ (s.set i (.own (.dct ks' ds'))) F := by
  obtain ⟨m, x, F1, A, C, g1, g2, g3, g4, ⟨v, ev, ⟨a, vs, ea, ef, hb, ⟨kvs, ha, e1, e2⟩, r⟩, hv⟩, g6⟩ := st.focus e
  subst ef ev ea g4 e2
  refine ⟨m, a, kvs, g1, g2, g3, ha, hb, by simp, e1, r, fun W' ks' ds' kvs' eP eG eB eH hk hr => ?_⟩
  have hnd : a ∉ A ∧ a ∉ C := by
    rw [List.nodup_append] at nd
    obtain ⟨_, n2, n3⟩ := nd
    rw [List.cons_append, List.nodup_cons] at n2
    exact ⟨fun z => n3 a z a (by simp) rfl, fun z => n2.1 (by simp [z])⟩
  have t : Step (A ++ ([a] ++ C)) W W' := ⟨by rw [eG]; exact Sub.refl _, by rw [eB]; exact Sub.refl _, fun c u e hf => by
    rw [eH, upd_ne (fun z => hf (by simp [z]))]
    exact e, fun c h => by
    rw [eH]
    unfold upd
    split
    · simp
    · exact h, fun c _ _ h => by rw [eB]; exact h, fun c _ _ h => by rw [eG]; exact h, eP⟩
  refine ⟨t, ?_⟩
  have k := g6 W' (some (.ref a)) (.own (.dct ks' ds')) [a] t.g t.b eP (fun c hc u e => by
    have hne : c ≠ a := fun z => by
      subst z
      rcases List.mem_append.mp hc with y | y
      · exact hnd.1 y
      · exact hnd.2 y
    rw [eH, upd_ne hne]
    exact e) (fun c _ h => by rw [eB]; exact h) ⟨_, rfl, ⟨a, _, rfl, rfl, by rw [eB]; exact hb, ⟨kvs', by rw [eH]; exact upd_same, hk, rfl⟩, hr⟩, fun z => by rw [eP]; exact hv z⟩
  rw [show σ.set i (some (.ref a)) = σ from by
    apply List.ext_getElem?
    intro n
    by_cases hn : i = n
    · subst hn
      rw [g3, List.getElem?_set_self (List.getElem?_eq_some_iff.mp g3).1]
    · rw [List.getElem?_set_ne hn]] at k
  exact k
theorem ss_dput {tk tv : TE} {fv : List SV → Option D} {i : Nat} (hk : SKt T me tk fk) (hv : SP T me tv m fv) (hm : me[i]? = some m) : SS T me (sDPut (tVar i) tk tv) (dDput i fk fv) := fun W σ s F st nd out ho N ok => by
  obtain ⟨d, k1, ho⟩ := bind_some ho
  obtain ⟨k, k2, ho⟩ := bind_some ho
  split at ho
  · rename_i ks ds e
    obtain ⟨⟨ks', ds'⟩, k3, e4⟩ := map_some ho
    subst e4
    refine hv W σ s F st d k1 _ fun v W1 t1 r1 => ?_
    have st1 := st.step t1
    obtain ⟨m0, a, kvs, g1, g2, g3, ha, hb, hF, e1, r, g⟩ := st1.ownD nd e
    have em : m = m0 := Option.some.inj (hm.symm.trans g1)
    subst em
    refine ⟨.ref a, g3, hk W1 σ s F st1 k k2 _ fun b W2 t2 hbt => ?_⟩
    have st2 := st1.step t2
    obtain ⟨m0, a2, kvs2, g1', g2', g3', ha2, hb2, hF2, e12, r2, gg⟩ := st2.ownD nd e
    have em : m = m0 := Option.some.inj (hm.symm.trans g1')
    subst em
    have ea : a2 = a := by
      rw [g3] at g3'
      exact (V.ref.inj (Option.some.inj (Option.some.inj g3'))).symm
    subst ea
    rw [e12] at k3
    obtain ⟨z1, z2, z3⟩ := putD_of k3 r2 (Rp.mono (t2.at m) d v r1)
    refine ⟨a2, _, rfl, DPut.t ha2 hbt z1, ?_⟩
    have emt : (W2.mut a2 (.dT (putK kvs2 k v)) hb2).at m = W2.at m ∨ m = .h := by
      cases m with
      | h => exact .inr rfl
      | _ => exact .inl rfl
    obtain ⟨t3, st3⟩ := gg (W2.mut a2 (.dT (putK kvs2 k v)) hb2) ks' ds' (putK kvs2 k v) rfl rfl rfl rfl z2 (by
      rcases emt with z | z
      · rw [z]; exact z3
      · exact absurd z g2)
    exact ok σ _ F (((t1.pure t2).mono (by simp)).trans (NewF.refl _ _) t3) (NewF.refl _ _) st3 nd
  · cases ho
theorem fs_dput (i : Nat) {fv : List SV → Option D} (hu : ∀ j, (X j).A.units + 1 < cLine) (hk : FKt X T me b fk) (hv : FP X T me e m fv) (hm : me[i]? = some m := by rfl) (hN : ∀ j, (X j).N[i]? = some x := by intro _; rfl) (hvi : ∀ j, Vis (X j).env.scope x := by intro _; first | exact Or.inl rfl | exact Or.inr (Or.inl rfl) | exact Or.inr (Or.inr rfl))
    (hd : (x == ("__debug__" : Str)) = false := by decide) (hcd : (x == ("__classdict__" : Str)) = false := by decide) (hs : ∀ j, swapsWith e (some (.Subscript (.Name x p) b pos')) pos.line (X j).env = pure false := by intro _; rfl) :
    FS X T me (.Assign [.Subscript (.Name x p) b pos'] e pos) (dDput i fk fv) := by
  obtain ⟨tk, h1, h2⟩ := hk.ex
  obtain ⟨tv, h3, h4⟩ := hv.ex
  exact ⟨_, fun j => ps_dput (hu j) (pe_var (hN j) (hvi j) hd hcd) (h1 j) (h3 j) (hs j), ss_dput h2 h4 hm⟩
theorem cd_lenD {T : Tab} {m : Md} : CallD T m .p rLenT dLenD := fun W xs dxs d r h Q q => by
  unfold dLenD at h
  split at h
  · rename_i ks vs
    obtain ⟨v, vr, rfl, ⟨a, us, rfl, ⟨kvs, ha, e1, e2⟩, rl⟩, e⟩ := r
    have e' : vr = [] := e
    subst e' e1
    rw [List.length_map] at h
    by_cases c : kvs.length ≤ sizeLine
    · rw [if_pos c] at h
      cases h
      exact ⟨a, kvs, rfl, W.atH m _ _ ha, q _ W (Step.refl _ _) rfl⟩
    · rw [if_neg c] at h
      cases h
  · cases h
theorem sp_inD {tk td : TE} {fd : List SV → Option D} (hk : SKt T me tk fk) (hd : SP T me td m fd) : SP T me (tDIn tk td) .p (dInD fk fd) := fun W σ s F st d ho Q q => by
  obtain ⟨k, k1, ho⟩ := bind_some ho
  obtain ⟨dd, k2, ho⟩ := bind_some ho
  split at ho
  · rename_i ks vs
    obtain ⟨kk, k3, e4⟩ := map_some ho
    subst e4
    refine hk W σ s F st k k1 _ fun b W1 t1 hb => ?_
    refine hd W1 σ s F (st.step t1) _ k2 _ fun v W2 t2 r2 => ?_
    obtain ⟨a, us, rfl, ⟨kvs, ha, e1, e2⟩, rl⟩ := r2
    subst e1 e2
    rw [tupK_map, keysT_map] at k3
    cases k3
    refine ⟨a, _, rfl, DGet.t (W2.atH m _ _ ha) (t2.h _ _ hb (by simp)), ?_⟩
    have e5 : (valV kvs k).isSome = memK k (kvs.map (·.1)) := by
      rw [← any_keys]
      unfold valV
      rw [Option.isSome_map, Bool.eq_iff_iff, List.find?_isSome, List.any_eq_true]
    rw [e5]
    exact q _ W2 (t1.pure t2) rfl
  · cases ho
theorem fp_inD {fd : List SV → Option D} (hu : ∀ j, (X j).A.units + 1 < cLine) (hk : FKt X T me a fk) (hd : FP X T me b m fd) (h1 : behindInMarks .In b = false := by first | exact nobehind _ (by decide) (by decide) | rfl) : FP X T me (.Compare a [.In] [b] pos) .p (dInD fk fd) := by
  obtain ⟨tk, h3, h4⟩ := hk.ex
  obtain ⟨td, h5, h6⟩ := hd.ex
  exact ⟨_, fun j => pe_cmp (pc_din (hu j) (h3 j) (h5 j)) h1, sp_inD h4 h6⟩
end
end My

set_option Elab.async false
set_option linter.all false
set_option maxRecDepth 100000
set_option maxHeartbeats 4000000
/-! M15: walks over own dicts and over the children of own lists. -/
namespace My
open PySem PyProof.Rows L2
/-- J yields the data ds, wherever what stands outside of F0 stands still -/
structure ItF (F0 : List Addr) (T : Tab) (m : Md) (J : It) (ds : List D) (W1 : World) : Prop where
  go : ∀ (W2 : World) (i : Nat), Step F0 W1 W2 → i < ds.length → J.go i W2.H
  yld : ∀ (W2 : World) (i : Nat) (x : V) (H' : Hp), Step F0 W1 W2 → i < ds.length → J.yld i W2.H x H' → ∃ W3 d, Step [] W2 W3 ∧ H' = W3.H ∧ ds[i]? = some d ∧ Rp T (W3.at m) d x
  stop : ∀ (W2 : World) (i : Nat), Step F0 W1 W2 → ds.length ≤ i → J.stop i W2.H
section
variable {T : Tab} {me : List Md} {m m1 m2 : Md}
theorem for_core {J : It} {g : TG} {tb : TS} {vs : List Nat} {ds : List D} {s0 : List SV} {W1 : World} {σ : List (Option V)} {F0 : List Addr} {out : Out} {N : Ends} {bind : D → List SV → Option (List SV)} {body : List SV → Option Out} (it : ItF F0 T m J ds W1) (hg : SG T me g m vs bind) (hb : SS T me tb body)
    (st1 : St T W1 me σ s0 F0) (nd1 : F0.Nodup) (k2 : forGo bind body ds s0 = some out) (ok1 : OutOk T me W1 F0 out N) : tFor (fun _ H R => R J H) g tb N σ W1.H := by
  refine ⟨fun i n σ' H => ∃ (W2 : World) (s2 : List SV) (F2 : List Addr), H = W2.H ∧ n = ds.length - i ∧ i ≤ ds.length ∧ Step F0 W1 W2 ∧ NewF F0 F2 W1 ∧ St T W2 me σ' s2 F2 ∧ F2.Nodup ∧ forGo bind body (ds.drop i) s2 = some out,
    ⟨ds.length, W1, s0, F0, rfl, by simp, Nat.zero_le _, Step.refl _ _, NewF.refl _ _, st1, nd1, by simpa using k2⟩, ?_⟩
  rintro i n σ2 H ⟨W2, s2, F2, rfl, rfl, hle, t2, n2, st2, nd2, k3⟩
  by_cases hlt : i < ds.length
  · refine .inr ⟨it.go W2 i t2 hlt, fun σ' H' => ∃ (W2 : World) (s2 : List SV) (F2 : List Addr), H' = W2.H ∧ Step F0 W1 W2 ∧ NewF F0 F2 W1 ∧ St T W2 me σ' s2 F2 ∧ F2.Nodup ∧ forGo bind body (ds.drop (i + 1)) s2 = some out, ?_, fun x H' y => ?_⟩
    · rintro σ' H' ⟨W3, s3, F3, rfl, a1, a2, a3, a4, a5⟩
      exact ⟨ds.length - (i + 1), by omega, W3, s3, F3, rfl, rfl, hlt, a1, a2, a3, a4, a5⟩
    · obtain ⟨W3, d, t3, rfl, hd, rd⟩ := it.yld W2 i x H' t2 hlt y
      have edrop : ds.drop i = d :: ds.drop (i + 1) := by
        rw [List.drop_eq_getElem_cons hlt]
        have := (List.getElem?_eq_some_iff.mp hd).2
        rw [this]
      rw [edrop] at k3
      obtain ⟨s1, b1, k3⟩ := bind_some k3
      obtain ⟨o, b2, k3⟩ := bind_some k3
      refine hg W3 σ2 s2 F2 x d s1 (st2.step t3) rd b1 _ fun σ4 W4 F4 t4 st4 sub4 nd4 _ => ?_
      have t34 := t3.pure t4
      have t24 : Step F2 W2 W4 := t34.mono (by simp)
      have n24 : NewF F2 F4 W2 := fun a ha => .inl (sub4 a ha)
      have t14 : Step F0 W1 W4 := t2.trans n2 t24
      have n14 : NewF F0 F4 W1 := n2.trans t2 n24
      refine hb W4 σ4 s1 F4 st4 (nd4 nd2) o b2 _ ?_
      cases o with
      | nx s5 => exact fun σ5 W5 F5 t5 n5 st5 nd5 => ⟨W5, s5, F5, rfl, t14.trans n14 t5, n14.trans t14 n5, st5, nd5, k3⟩
      | ct s5 => exact fun σ5 W5 F5 t5 n5 st5 nd5 => ⟨W5, s5, F5, rfl, t14.trans n14 t5, n14.trans t14 n5, st5, nd5, k3⟩
      | bk s5 =>
        cases k3
        exact fun σ5 W5 F5 t5 n5 st5 nd5 => ok1 σ5 W5 F5 (t14.trans n14 t5) (n14.trans t14 n5) st5 nd5
      | rt r s5 =>
        cases k3
        exact fun v σ5 W5 F5 Fr t5 n5 st5 r5 nd5 => ok1 v σ5 W5 F5 Fr (t14.trans n14 t5) (n14.trans t14 n5) st5 r5 nd5
  · have e : i = ds.length := by omega
    refine .inl ⟨it.stop W2 i t2 (by omega), ?_⟩
    subst e
    rw [List.drop_length] at k3
    cases k3
    exact ok1 σ2 W2 F2 t2 n2 st2 nd2

/-- the walk over the keys of an own dict; the dict is given up -/
def dForKeys (i : Nat) (bind : D → List SV → Option (List SV)) (body : List SV → Option Out) (s : List SV) : Option Out := match s[i]? with
  | some (.own (.dct ks _)) => forGo bind body ks (s.set i .un)
  | _ => none
theorem ss_forKeys {g : TG} {tb : TS} {vs : List Nat} {i : Nat} {bind : D → List SV → Option (List SV)} {body : List SV → Option Out} (hg : SG T me g .p vs bind) (hb : SS T me tb body) (hm : me[i]? = some m) (hq : m ≠ .q) :
    SS T me (tLock (tFor (iKeys (tVar i)) g tb)) (dForKeys i bind body) := fun W σ s F st nd out ho N ok => by
  unfold dForKeys at ho
  split at ho
  · rename_i ks ds e
    obtain ⟨m0, x, F1, A, C, g1, g2, g3, g4, ⟨v, ev, ⟨a, us, ea, ef, hb0, ⟨kvs, ha, e1, e2⟩, r⟩, hv⟩, g6⟩ := st.focus e
    have em : m = m0 := Option.some.inj (hm.symm.trans g1)
    subst em ef ev ea g4 e2 e1
    refine ⟨a, .dT kvs, ha, trivial, fun od => ?_⟩
    have hnd : a ∉ A ++ C := by
      rw [List.nodup_append] at nd
      obtain ⟨_, n2, n3⟩ := nd
      rw [List.cons_append, List.nodup_cons] at n2
      intro z
      rcases List.mem_append.mp z with y | y
      · exact n3 a y a (by simp) rfl
      · exact n2.1 (by simpa using y)
    have ndA : (A ++ C).Nodup := nd.sublist (List.Sublist.append_left (by simp) A)
    have sub : ∀ c ∈ A ++ C, c ∈ A ++ ([a] ++ C) := fun c hc => by
      rcases List.mem_append.mp hc with y | y
      · simp [y]
      · simp [y]
    have tl : Step (A ++ ([a] ++ C)) W (W.mut a (.frz od (.dT kvs)) hb0) := W.mut_step hb0 (by simp) (by rw [ha]; simp)
    have hH : (W.mut a (.frz od (.dT kvs)) hb0).H a = some (.frz od (.dT kvs)) := upd_same
    have stl : St T (W.mut a (.frz od (.dT kvs)) hb0) me σ (s.set i .un) (A ++ C) := by
      have k := g6 (W.mut a (.frz od (.dT kvs)) hb0) (some (.ref a)) .un [] (Sub.refl _) (Sub.refl _) rfl (fun c hc u e => by
        show upd W.H a _ c = some u
        rw [upd_ne (fun z => hnd (by rw [← z]; exact hc))]
        exact e) (fun _ _ e => e) ⟨rfl, hq⟩
      rw [show σ.set i (some (.ref a)) = σ from by
        apply List.ext_getElem?
        intro n
        by_cases hn : i = n
        · subst hn
          rw [g3, List.getElem?_set_self (List.getElem?_eq_some_iff.mp g3).1]
        · rw [List.getElem?_set_ne hn]] at k
      simpa using k
    refine ⟨.ref a, g3, a, od, rfl, .inr ⟨kvs, upd_same, ?_⟩⟩
    have kept : ∀ {W2 : World}, Step (A ++ C) (W.mut a (.frz od (.dT kvs)) hb0) W2 → W2.H a = some (.frz od (.dT kvs)) ∧ W2.B a = none := fun {W2} t2 => ⟨t2.h _ _ hH hnd, t2.nb a (by rw [hH]; trivial) hnd hb0⟩
    have back : ∀ {W2 : World} {F2 : List Addr}, Step (A ++ C) (W.mut a (.frz od (.dT kvs)) hb0) W2 → NewF (A ++ C) F2 (W.mut a (.frz od (.dT kvs)) hb0) → ∀ hb2 : W2.B a = none, a ∉ F2 ∧ Step (A ++ ([a] ++ C)) W (W2.mut a (.dT kvs) hb2) ∧ NewF (A ++ ([a] ++ C)) F2 W := fun {W2 F2} t2 n2 hb2 => by
      have hout : a ∉ F2 := n2.out hnd (by rw [hH]; simp)
      have t3 : Step (a :: F2) W2 (W2.mut a (.dT kvs) hb2) := W2.mut_step hb2 (by simp) (by rw [(kept t2).1]; simp)
      have t2' : Step (A ++ ([a] ++ C)) (W.mut a (.frz od (.dT kvs)) hb0) W2 := t2.mono sub
      have n2' : NewF (A ++ ([a] ++ C)) (a :: F2) (W.mut a (.frz od (.dT kvs)) hb0) := fun c hc => by
        rcases List.mem_cons.mp hc with z | z
        · exact .inl (by simp [z])
        · exact (n2 c z).imp (sub c) id
      refine ⟨hout, tl.trans (NewF.refl _ _) (t2'.trans n2' t3), fun c hc => (n2 c hc).imp (sub c) tl.back⟩
    have keepS : ∀ {W2 : World} {F2 : List Addr} {σ2 : List (Option V)} {s2 : List SV}, ∀ hb2 : W2.B a = none, a ∉ F2 → St T W2 me σ2 s2 F2 → St T (W2.mut a (.dT kvs) hb2) me σ2 s2 F2 := fun {W2 F2 σ2 s2} hb2 ho st2 =>
      St.keep (W := W2) (W' := W2.mut a (.dT kvs) hb2) (Sub.refl W2.G) (Sub.refl W2.B) rfl (fun c hc u e => by
        show upd W2.H a _ c = some u
        rw [upd_ne (fun z => ho (by rw [← z]; exact hc))]
        exact e) (fun _ _ e => e) st2
    have it : ItF (A ++ C) T .p (Itkt a od kvs) (kvs.map fun p => D.tup (p.1.map dKey)) (W.mut a (.frz od (.dT kvs)) hb0) := by
      refine ⟨fun W2 n t2 hn => ⟨(kept t2).1, by simpa using hn⟩, fun W2 n x H' t2 hn y => ?_, fun W2 n t2 hn => ⟨(kept t2).1, by simpa using hn⟩⟩
      obtain ⟨rfl, k, v, q, e3, rfl, hq2⟩ := y
      refine ⟨W2.know .p [q], tupK k, (Step.refl [] W2).know .p (fun c hc => .inl (by
        have z : c = q := by simpa using hc
        rw [z, hq2]
        exact id)), rfl, by rw [List.getElem?_map, e3]; rfl, ?_⟩
      refine ⟨q, k.map kV, rfl, .inl (.inl ?_), rpl_map (g := dKey) (q := kV) fun p _ => ?_⟩
      · rw [W2.know_in (by simp)]
        exact hq2
      · cases p <;> rfl
    refine for_core it hg hb stl ndA ho ?_
    cases out with
    | nx s' => exact fun σ' W' F' t n st' nd' => ⟨(kept t).1, by
        obtain ⟨h1, h2, h3⟩ := back t n (kept t).2
        exact ok σ' _ F' h2 h3 (keepS (kept t).2 h1 st') nd'⟩
    | bk s' => exact fun σ' W' F' t n st' nd' => ⟨(kept t).1, by
        obtain ⟨h1, h2, h3⟩ := back t n (kept t).2
        exact ok σ' _ F' h2 h3 (keepS (kept t).2 h1 st') nd'⟩
    | ct s' => exact fun σ' W' F' t n st' nd' => ⟨(kept t).1, by
        obtain ⟨h1, h2, h3⟩ := back t n (kept t).2
        exact ok σ' _ F' h2 h3 (keepS (kept t).2 h1 st') nd'⟩
    | rt o s' => exact fun v σ' W' F' Fr t n st' r' nd' => ⟨(kept t).1, by
        obtain ⟨h1, h2, h3⟩ := back t n (kept t).2
        refine ok v σ' _ F' Fr h2 h3 (keepS (kept t).2 (fun z => h1 (by simp [z])) st') (RpO.keep (m := .p) (W := W') (W' := W'.mut a (.dT kvs) (kept t).2) (Sub.refl W'.G) o v Fr (fun c hc u e => ?_) (fun _ _ e => e) r') nd'
        show upd W'.H a _ c = some u
        rw [upd_ne (fun z => h1 (by rw [← z]; simp [hc]))]
        exact e⟩
  · cases ho
end
section
variable {ι : Type} {X : ι → Cx} {T : Tab} {me : List Md} {tg : Expr} {m : Md} {pos p : Pos} {x : Str}
theorem fs_forKeys (i : Nat) {body : List Stmt} {vs : List Nat} {bind : D → List SV → Option (List SV)} {fbd : List SV → Option Out} (hp : ∀ j, PassesOwn (model (X j).prog (X j).w) (X j).A (X j).env (X j).xe) (hc : ∀ j, (X j).calm = true) (hg : FG X T me tg .p vs bind) (hb : FSs X T me body fbd)
    (hm : me[i]? = some m := by rfl) (hq : m ≠ .q := by decide) (hN : ∀ j, (X j).N[i]? = some x := by intro _; rfl) (hvi : ∀ j, Vis (X j).env.scope x := by intro _; first | exact Or.inl rfl | exact Or.inr (Or.inl rfl) | exact Or.inr (Or.inr rfl))
    (hd : (x == ("__debug__" : Str)) = false := by decide) (hcd : (x == ("__classdict__" : Str)) = false := by decide) (hs : ∀ j, ∀ v, foldedSetIterable (.Name x p) (X j).env v = pure v := by intro _ _; rfl) : FS X T me (.For tg (.Name x p) body [] pos) (dForKeys i bind fbd) :=
  let ⟨u, h3, h4⟩ := hg.ex; let ⟨w, h5, h6⟩ := hb.ex; ⟨_, fun j => ps_lock (ps_for (hp j) (hc j) (pi_keys (pe_var (hN j) (hvi j) hd hcd)) (h3 j) (h5 j) (hs j)), ss_forKeys h4 h6 hm hq⟩
end
/-! ### for x in xs: .., xs an own list whose items are own, too: x is the item itself; the list is given up -/
def forOwnGo (v : Nat) (body : List SV → Option Out) : List OD → List SV → Option Out
  | [], s => some (.nx s)
  | o :: os, s => (body (s.set v (.own o))).bind fun out => match out with
    | .nx s1 => forOwnGo v body os s1
    | .ct s1 => forOwnGo v body os s1
    | .bk s1 => some (.nx s1)
    | .rt r s1 => some (.rt r s1)
def dForOwn (i v : Nat) (body : List SV → Option Out) (s : List SV) : Option Out := match s[i]? with
  | some (.own (.lst os)) => forOwnGo v body os (s.set i .un)
  | _ => none
section
variable {T : Tab} {me : List Md} {m m1 m2 : Md}
theorem RpOL.split {W : World} : ∀ {os : List OD} {vs : List V} {F : List Addr} {n : Nat} {o : OD}, RpOL T m W os vs F → os[n]? = some o → ∃ v, vs[n]? = some v
  | [], _, _, _, _, _, h => by simp at h
  | _ :: os, _, _, 0, o, ⟨v, r, F1, F2, e, _, _, _⟩, _ => ⟨v, by rw [e]; rfl⟩
  | _ :: os, _, _, n + 1, o, ⟨v, r, F1, F2, e, _, _, h2⟩, h => by
    obtain ⟨u, hu⟩ := RpOL.split (n := n) h2 (by simpa using h)
    exact ⟨u, by rw [e]; simpa using hu⟩
theorem ss_forOwn {K : PySem.W.Frag} {tb : TS} {i v : Nat} {body : List SV → Option Out} (hb : SS T me tb body) (hm : me[i]? = some m) (hq : m ≠ .q) (hv : me[v]? = some m) : SS T me (tFor (iList K (tVar i)) (gName v) tb) (dForOwn i v body) := fun W σ s F st nd out ho N ok => by
  unfold dForOwn at ho
  split at ho
  · rename_i os e
    obtain ⟨m0, x, F1, A, C, g1, g2, g3, g4, ⟨v0, ev, ⟨a, us, Fc, ea, ef, ha, hb0, rc⟩, hv0⟩, g6⟩ := st.focus e
    have em : m = m0 := Option.some.inj (hm.symm.trans g1)
    subst em ef ev ea g4
    have stu : St T W me σ (s.set i .un) (A ++ C) := by
      have k := g6 W (some (.ref a)) .un [] (Sub.refl _) (Sub.refl _) rfl (fun _ _ _ e => e) (fun _ _ e => e) ⟨rfl, hq⟩
      rw [show σ.set i (some (.ref a)) = σ from by
        apply List.ext_getElem?
        intro n
        by_cases hn : i = n
        · subst hn
          rw [g3, List.getElem?_set_self (List.getElem?_eq_some_iff.mp g3).1]
        · rw [List.getElem?_set_ne hn]] at k
      simpa using k
    have pm : (A ++ ((a :: Fc) ++ C)).Perm (a :: ((A ++ C) ++ Fc)) := by
      have p1 : (A ++ ((a :: Fc) ++ C)).Perm ((a :: Fc) ++ (A ++ C)) := by
        rw [← List.append_assoc, ← List.append_assoc]
        exact List.Perm.append_right C List.perm_append_comm
      refine p1.trans ?_
      rw [List.cons_append]
      exact List.Perm.cons a List.perm_append_comm
    have nd1 := List.nodup_cons.mp (pm.nodup_iff.mp nd)
    have hlen := RpOL.length rc
    refine ⟨.ref a, g3, a, rfl, ⟨us, .inl (.inl ha)⟩, ?_⟩
    refine ⟨fun n k σ' H => ∃ (W2 : World) (s2 : List SV) (F2 Fr : List Addr), H = W2.H ∧ k = os.length - n ∧ n ≤ os.length ∧ Step ((A ++ C) ++ Fc) W W2 ∧ NewF ((A ++ C) ++ Fc) (F2 ++ Fr) W ∧ St T W2 me σ' s2 F2 ∧ RpOL T m W2 (os.drop n) (us.drop n) Fr ∧ (F2 ++ Fr).Nodup ∧ forOwnGo v body (os.drop n) s2 = some out,
      ⟨os.length, W, s.set i .un, A ++ C, Fc, rfl, by simp, Nat.zero_le _, Step.refl _ _, NewF.refl _ _, stu, rc, nd1.2, by simpa using ho⟩, ?_⟩
    rintro n k σ2 H ⟨W2, s2, F2, Fr, rfl, rfl, hle, t2, n2, st2, r2, nd2, k3⟩
    have haH : W2.H a = some (.lst us) := t2.h _ _ ha nd1.1
    have sub : ∀ c ∈ (A ++ C) ++ Fc, c ∈ A ++ ((a :: Fc) ++ C) := fun c hc => pm.mem_iff.mpr (List.mem_cons_of_mem _ hc)
    by_cases hlt : n < os.length
    · have hun : us[n]? = some us[n] := List.getElem?_eq_getElem (by omega)
      refine .inr ⟨⟨us, us[n], .inl (.inl haH), hun⟩, fun σ' H' => ∃ (W2 : World) (s2 : List SV) (F2 Fr : List Addr), H' = W2.H ∧ Step ((A ++ C) ++ Fc) W W2 ∧ NewF ((A ++ C) ++ Fc) (F2 ++ Fr) W ∧ St T W2 me σ' s2 F2 ∧ RpOL T m W2 (os.drop (n + 1)) (us.drop (n + 1)) Fr ∧ (F2 ++ Fr).Nodup ∧ forOwnGo v body (os.drop (n + 1)) s2 = some out, ?_, fun x H' y => ?_⟩
      · rintro σ' H' ⟨W3, s3, F3, F4, rfl, a1, a2, a3, a4, a5, a6⟩
        exact ⟨os.length - (n + 1), by omega, W3, s3, F3, F4, rfl, rfl, hlt, a1, a2, a3, a4, a5, a6⟩
      · obtain ⟨rfl, y⟩ := y
        have ex := y us (.inl (.inl haH))
        rw [hun] at ex
        have ex : us[n] = x := Option.some.inj ex
        have e1 : os.drop n = os[n] :: os.drop (n + 1) := List.drop_eq_getElem_cons hlt
        have e2 : us.drop n = x :: us.drop (n + 1) := by rw [List.drop_eq_getElem_cons (by omega), ex]
        rw [e1] at k3
        rw [e1, e2] at r2
        obtain ⟨v1, vr, Fa, Fb, e3, e4, ra, rb⟩ := r2
        obtain ⟨rfl, rfl⟩ := List.cons.inj e3
        subst e4
        rw [← List.append_assoc] at nd2
        have nd3 := List.nodup_append.mp nd2
        obtain ⟨F3, s3, st3, nd4⟩ := st2.setO hv hq ra nd3.1
        obtain ⟨o1, k4, k5⟩ := bind_some k3
        have hF3 : ∀ c ∈ F3, c ∉ Fb := fun c hc z => nd3.2.2 c (s3 c hc) c z rfl
        have n3 : NewF ((A ++ C) ++ Fc) (F3 ++ Fb) W := fun c hc => by
          rcases List.mem_append.mp hc with z | z
          · refine n2 c ?_
            rw [← List.append_assoc]
            exact List.mem_append_left _ (s3 c z)
          · refine n2 c ?_
            rw [← List.append_assoc]
            exact List.mem_append_right _ z
        -- behind the body: the other items stand still
        have rest : ∀ {W5 : World} {F5 : List Addr}, Step F3 W2 W5 → NewF F3 F5 W2 → F5.Nodup → Step ((A ++ C) ++ Fc) W W5 ∧ NewF ((A ++ C) ++ Fc) (F5 ++ Fb) W ∧ RpOL T m W5 (os.drop (n + 1)) (us.drop (n + 1)) Fb ∧ (F5 ++ Fb).Nodup := fun {W5 F5} t5 n5 nd5 => by
          have hout : ∀ c ∈ Fb, c ∉ F3 := fun c hc z => hF3 c z hc
          have th := RpOL.there _ _ _ rb
          have hsub : Sub (W2.at m) (W5.at m) := t5.at2 g2
          refine ⟨t2.trans (F1 := F3) (fun c hc => n3 c (List.mem_append_left _ hc)) t5, fun c hc => ?_, RpOL.keep hsub _ _ _ (fun c hc u e => t5.h c u e (hout c hc)) (fun c hc e => t5.nb c (th c hc).1 (hout c hc) e) rb, ?_⟩
          · rcases List.mem_append.mp hc with z | z
            · rcases n5 c z with y | y
              · exact n3 c (List.mem_append_left _ y)
              · exact .inr (t2.back y)
            · exact n3 c (List.mem_append_right _ z)
          · refine List.nodup_append.mpr ⟨nd5, nd3.2.1, fun c hc d hd ecd => ?_⟩
            subst ecd
            rcases n5 c hc with y | y
            · exact hF3 c y hd
            · exact (th c hd).1.ne y
        refine hb W2 _ _ F3 st3 nd4 o1 k4 _ ?_
        cases o1 with
        | nx s5 =>
          exact fun σ5 W5 F5 t5 n5 st5 nd5 => by
            obtain ⟨b1, b2, b3, b4⟩ := rest t5 n5 nd5
            exact ⟨W5, s5, F5, Fb, rfl, b1, b2, st5, b3, b4, k5⟩
        | ct s5 =>
          exact fun σ5 W5 F5 t5 n5 st5 nd5 => by
            obtain ⟨b1, b2, b3, b4⟩ := rest t5 n5 nd5
            exact ⟨W5, s5, F5, Fb, rfl, b1, b2, st5, b3, b4, k5⟩
        | bk s5 =>
          cases k5
          exact fun σ5 W5 F5 t5 n5 st5 nd5 => by
            obtain ⟨b1, b2, b3, b4⟩ := rest t5 n5 nd5
            exact ok σ5 W5 F5 (b1.mono sub) (fun c hc => (b2 c (List.mem_append_left _ hc)).imp (sub c) id) st5 nd5
        | rt r s5 =>
          cases k5
          exact fun w σ5 W5 F5 Fr t5 n5 st5 r5 nd5 => by
            have b1 : Step ((A ++ C) ++ Fc) W W5 := t2.trans (F1 := F3) (fun c hc => n3 c (List.mem_append_left _ hc)) t5
            refine ok w σ5 W5 F5 Fr (b1.mono sub) (fun c hc => ?_) st5 r5 nd5
            rcases n5 c hc with y | y
            · exact (n3 c (List.mem_append_left _ y)).imp (sub c) id
            · exact .inr (t2.back y)
    · have e0 : n = os.length := by omega
      refine .inl ⟨⟨us, .inl (.inl haH), by omega⟩, ?_⟩
      subst e0
      rw [List.drop_length] at k3
      cases k3
      exact ok σ2 W2 F2 (t2.mono sub) (fun c hc => (n2 c (List.mem_append_left _ hc)).imp (sub c) id) st2 (List.nodup_append.mp nd2).1
  · cases ho
end
section
variable {ι : Type} {X : ι → Cx} {T : Tab} {me : List Md} {m : Md} {pos p tpos : Pos} {x y : Str}
theorem fs_forOwn (i v : Nat) {body : List Stmt} {fbd : List SV → Option Out} (hK : ∀ j, (X j).K = T.K) (hp : ∀ j, PassesOwn (model (X j).prog (X j).w) (X j).A (X j).env (X j).xe) (hc : ∀ j, (X j).calm = true) (hnd : ∀ j, (X j).N.Nodup) (hb : FSs X T me body fbd)
    (hm : me[i]? = some m := by rfl) (hq : m ≠ .q := by decide) (hv : me[v]? = some m := by rfl) (hN : ∀ j, (X j).N[i]? = some x := by intro _; rfl) (hvi : ∀ j, Vis (X j).env.scope x := by intro _; first | exact Or.inl rfl | exact Or.inr (Or.inl rfl) | exact Or.inr (Or.inr rfl))
    (hy : ∀ j, (X j).N[v]? = some y := by intro _; rfl) (hyl : ∀ j, Loc (X j).env.scope y := by intro _; first | exact Or.inl rfl | exact Or.inr rfl) (hf : ∀ j, (X j).fn y = true ∨ (X j).env.scope.names.lookup y = some .local := by intro _; first | exact .inl rfl | exact .inr rfl)
    (hd : (x == ("__debug__" : Str)) = false := by decide) (hcd : (x == ("__classdict__" : Str)) = false := by decide) (hs : ∀ j, ∀ v, foldedSetIterable (.Name x p) (X j).env v = pure v := by intro _ _; rfl) : FS X T me (.For (.Name y tpos) (.Name x p) body [] pos) (dForOwn i v fbd) :=
  let ⟨w, h5, h6⟩ := hb.ex; ⟨_, fun j => ps_for (hp j) (hc j) (by have h := pi_list (X := X j) (tg := .Name y tpos) (pe_var (X := X j) (hN j) (hvi j) hd hcd (pos := p)); rw [hK j] at h; exact h) (pg_name (hnd j) (hy j) (hyl j) (hf j)) (h5 j) (hs j), ss_forOwn h6 hm hq hv⟩
end
end My

set_option Elab.async false
set_option linter.all false
set_option maxRecDepth 100000
set_option maxHeartbeats 4000000
/-! M16: != of dicts with tuple keys, all of whose values are True. -/
namespace My
open PySem PySem.Calls PyProof.Rows PyProof.V L2

section
variable {prog : Program} {w : PySem.World} {K : Type} [DecidableEq K] {knd : HeapKind prog w K} {A : Around} {E : Value → Shared → Prop} {s : Shared}
theorem eq_true {Q : Bool → Shared → Prop} (hu : A.units < cLine) (h : Q true s) : wpAny (model prog w) A (eqBool (.bool true) (.bool true)) Q E s :=
  SeqAt.eqBoolOverData prog w A E s (.bool true) (.bool true) (.bool true) (.bool true) [] [] Q (by constructor) (by constructor) rfl rfl (by show A.units + min 0 0 < cLine; omega) h
theorem true_pairs {nm : String} {a b : Addr} {xa xb : List (K × Addr × Value)} {Q : Bool → Shared → Prop} (na : (a == sysModules) = false) (nb : (b == sysModules) = false) (da : s.heap.DictOfH knd a xa) (db : s.heap.DictOfH knd b xb) (hr : knd.room A) (hu : A.units < cLine)
    (va : ∀ x ∈ xa, x.2.2 = .bool true) (vb : ∀ x ∈ xb, x.2.2 = .bool true) (h : Q (decide (xa.length = xb.length ∧ ∀ x ∈ xa, ∃ y ∈ xb, y.1 = x.1)) s) : wpAny (model prog w) A (Builtin.Dict.samePairs nm a b) Q E s := by
  obtain ⟨o1, t1, c1, g1, _, i1, l1, k1, n1⟩ := da
  obtain ⟨o2, t2, c2, g2, _, i2, l2, k2, n2⟩ := db
  have z1 : t1.size = xa.length := size_of_entries l1
  have z2 : t2.size = xb.length := size_of_entries l2
  unfold Builtin.Dict.samePairs Builtin.Dict.showsAll
  rw [if_neg (by rw [na]; decide), if_neg (by rw [nb]; decide)]
  refine wpAny_bind (wpAny_pure (wpAny_bind (wpAny_pure ?_)))
  refine wpAny_bind (wpAny_dictEntries g1 i1 ?_)
  dsimp only
  refine wpAny_bind (wpAny_dictEntries g2 i2 ?_)
  by_cases hz : t1.size = t2.size
  case neg =>
    rw [if_pos (by simpa using hz)]
    have hf : decide (xa.length = xb.length ∧ ∀ x ∈ xa, ∃ y ∈ xb, y.1 = x.1) = false := decide_eq_false fun q => hz (by rw [z1, z2]; exact q.1)
    rw [hf] at h
    exact wpAny_bind (wpAny_rule (wpAny_pure h))
  rw [if_neg (by rw [hz]; simp)]
  refine wpAny_bind (wpAny_dictEpoch g1 i1 ?_)
  refine wpAny_bind ?_
  rw [Std.Legacy.Range.forIn_eq_forIn_range']
  simp only [Std.Legacy.Range.size, Nat.sub_zero, Nat.add_sub_cancel, Nat.div_one]
  refine wpAny_forIn_list _ (fun rest q s' => s' = s ∧ q = (none, ()) ∧ ∃ n, rest = List.range' n (t1.size - n) ∧ n ≤ t1.size ∧ ∀ x ∈ xa.take n, ∃ y ∈ xb, y.1 = x.1) _ ?_ ?_ _ _ ⟨rfl, rfl, 0, by simp, Nat.zero_le _, by simp⟩
  · rintro n rest q s' ⟨rfl, rfl, n', er, hn, hall⟩
    have hlt : n' < t1.size := by
      rcases Nat.lt_or_ge n' t1.size with z | z
      · exact z
      · rw [Nat.sub_eq_zero_of_le z] at er
        simp at er
    obtain ⟨rfl, er2⟩ : n = n' ∧ rest = List.range' (n' + 1) (t1.size - (n' + 1)) := by
      rw [show t1.size - n' = (t1.size - (n' + 1)) + 1 by omega, List.range'_succ] at er
      exact List.cons.inj er
    refine wpAny_bind (wpAny_dictEntries g1 i1 ?_)
    have hx : n < xa.length := by omega
    have hent : t1[n]? = some (entryOfKey knd xa[n]) := by
      rw [entry_at l1 n, List.getElem?_eq_getElem hx]
      rfl
    rw [hent]
    have hmem : xa[n] ∈ xa := List.getElem_mem hx
    show wpAny _ _ (holding [(entryOfKey knd xa[n]).key, (entryOfKey knd xa[n]).val] _ >>= _) _ _ _
    refine wpAny_bind (wpAny_holding (wpAny_bind (wpAny_dictFind_heap hr (k1 _ hmem) g2 i2 l2 k2 n2 (fun none => ?_) fun j p hj => ?_)))
    · have hf : decide (xa.length = xb.length ∧ ∀ x ∈ xa, ∃ y ∈ xb, y.1 = x.1) = false := decide_eq_false fun q => by
        obtain ⟨y, hy, ey⟩ := q.2 _ hmem
        obtain ⟨j, hj⟩ := List.getElem?_of_mem hy
        exact none j y.2 (by rw [hj, ← ey])
      rw [hf] at h
      refine wpAny_pure ?_
      show wpAny _ _ (if (!false) = true then _ else _) _ _ _
      rw [if_pos (by decide)]
      exact wpAny_pure (wpAny_pure h)
    · refine wpAny_bind (wpAny_dictEntries g2 i2 ?_)
      rw [entry_at l2 j, hj]
      have e1 : (entryOfKey knd xa[n]).val = .bool true := va _ hmem
      have e2 : p.2 = .bool true := vb _ (List.mem_of_getElem? hj)
      show wpAny _ _ (holding [p.2] (eqBool (entryOfKey knd xa[n]).val p.2)) _ _ _
      rw [e1, e2]
      refine wpAny_holding (eq_true hu ?_)
      show wpAny _ _ (if (!true) = true then _ else _) _ _ _
      rw [if_neg (by decide)]
      refine wpAny_bind (wpAny_dictEpoch g1 i1 ?_)
      rw [if_neg (by simp)]
      refine wpAny_pure ⟨rfl, rfl, n + 1, er2, hlt, fun x hx2 => ?_⟩
      rw [List.take_succ, List.getElem?_eq_getElem hx] at hx2
      rcases List.mem_append.mp hx2 with z | z
      · exact hall x z
      · have ez : x = xa[n] := by simpa using z
        rw [ez]
        exact ⟨_, List.mem_of_getElem? hj, rfl⟩
  · rintro q s' ⟨rfl, rfl, n', er, hn, hall⟩
    have e0 : n' = t1.size := by
      rcases Nat.lt_or_ge n' t1.size with z | z
      · rw [show t1.size - n' = (t1.size - (n' + 1)) + 1 by omega, List.range'_succ] at er
        exact nomatch er
      · omega
    rw [e0, z1, List.take_length] at hall
    rw [decide_eq_true ⟨by omega, hall⟩] at h
    exact wpAny_pure h
theorem ne_true {a b : Addr} {xa xb : List (K × Addr × Value)} {Q : Value → Shared → Prop} (na : (a == sysModules) = false) (nb : (b == sysModules) = false) (da : s.heap.DictOfH knd a xa) (db : s.heap.DictOfH knd b xb) (hr : knd.room A.in1) (hu : A.in1.units < cLine) (hu0 : A.units < cLine)
    (va : ∀ x ∈ xa, x.2.2 = .bool true) (vb : ∀ x ∈ xb, x.2.2 = .bool true) (h : Q (.bool (!decide (xa.length = xb.length ∧ ∀ x ∈ xa, ∃ y ∈ xb, y.1 = x.1))) s) : wpAny (model prog w) A (compareOp .NotEq (.ref a) (.ref b)) Q E s := by
  show wpAny _ _ (richCompare .NotEq (.ref a) (.ref b)) _ _ _
  refine wpAny_richCompare_same_room (op := .NotEq) da.typeIs db.typeIs PySem.F.slot_dict_ne (wpAny_call_entry PySem.F.slot_dict_ne da.typeIs PySem.F.entry_dict_ne ?run (PySem.F.args_dict_ne_2 _ _)) hu0
  case run =>
    refine (show wpAny _ _ (Builtin.Dict.dictSlotArgs "__ne__" ⟨[.ref a, .ref b], []⟩ >>= _) _ _ s from wpAny_bind ?first)
    unfold Builtin.Dict.dictSlotArgs
    refine wpAny_bind (wpAny_notOrdered_dict da.typeIs (show wpAny _ _ (pure (Value.ref a, Value.ref b)) _ _ s from wpAny_pure ?next))
    case next =>
      refine wpAny_bind (wpAny_isInstance (T := "dict") db.typeIs PySem.F.sub_dict_dict ?_)
      rw [if_neg (by decide)]
      exact wpAny_bind (wpAny_pure (wpAny_bind (wpAny_pure (wpAny_bind (true_pairs na nb da db hr hu va vb (wpAny_pure ⟨_, rfl, (fun x => nomatch x), by simpa using h⟩))))))
end

def rNeT : R2 := fun x y H Q => ∃ a b, ∃ ka kb : List (List Key × V), x = .ref a ∧ y = .ref b ∧ H a = some (.dT ka) ∧ H b = some (.dT kb) ∧ (∀ p ∈ ka, p.2 = .bl true) ∧ (∀ p ∈ kb, p.2 = .bl true) ∧
  Q (.bl (!((ka.map (·.1)).length == (kb.map (·.1)).length && (ka.map (·.1)).all fun k => memK k (kb.map (·.1))))) H
theorem kt_mem {H : Hp} : ∀ {kvs : List (List Key × V)} {xs : List (List Key × Addr × Value)}, KT H kvs xs → kvs.map (·.1) = xs.map (·.1) ∧ ((∀ p ∈ kvs, p.2 = .bl true) → ∀ x ∈ xs, x.2.2 = .bool true)
  | _, _, .nil => ⟨rfl, fun _ x hx => nomatch hx⟩
  | _, _, .cons (a := p) (b := q) h t => by
    obtain ⟨a, b⟩ := kt_mem t
    refine ⟨by rw [List.map_cons, List.map_cons, a, h.1], fun hp x hx => ?_⟩
    rcases List.mem_cons.mp hx with z | z
    · have e := hp p (by simp)
      have r := h.2.2
      rw [e] at r
      rw [z]
      exact r
    · exact b (fun p hp' => hp p (by simp [hp'])) x z
theorem op_neT {Y : Cx} (hu : Y.A.units + 64 < cLine) : OpR Y (compareOp .NotEq) rNeT := by
  intro pins s σ H x y v u Q I rx ry h
  obtain ⟨a, b, ka, kb, rfl, rfl, ha, hb, ta, tb, q⟩ := h
  cases rx
  cases ry
  obtain ⟨_, na, xa, ra, da⟩ := dt_of I.hok ha
  obtain ⟨_, nb, xb, rb, db⟩ := dt_of I.hok hb
  obtain ⟨e1, t1⟩ := kt_mem ra
  obtain ⟨e2, t2⟩ := kt_mem rb
  have hu1 : Y.A.in1.units < cLine := by
    show Y.A.units + 1 < cLine
    omega
  refine ne_true na nb da db hu1 hu1 (by omega) (t1 ta) (t2 tb) ⟨.bl _, H, I, rfl, ?_⟩
  have e : (decide (xa.length = xb.length ∧ ∀ x ∈ xa, ∃ y ∈ xb, y.1 = x.1)) = ((ka.map (·.1)).length == (kb.map (·.1)).length && (ka.map (·.1)).all fun k => memK k (kb.map (·.1))) := by
    rw [e1, e2, List.length_map, List.length_map, Bool.eq_iff_iff, decide_eq_true_iff, Bool.and_eq_true, beq_iff_eq, List.all_eq_true]
    refine and_congr_right fun _ => ⟨fun hh k hk => ?_, fun hh x hx => ?_⟩
    · obtain ⟨x, hx, rfl⟩ := List.mem_map.mp hk
      obtain ⟨y, hy, ey⟩ := hh x hx
      exact List.any_eq_true.mpr ⟨y.1, List.mem_map.mpr ⟨y, hy, rfl⟩, decide_eq_true ey⟩
    · obtain ⟨z, hz, ez⟩ := List.any_eq_true.mp (hh x.1 (List.mem_map.mpr ⟨x, hx, rfl⟩))
      obtain ⟨y, hy, rfl⟩ := List.mem_map.mp hz
      exact ⟨y, hy, of_decide_eq_true ez⟩
  rw [e]
  exact q
def allTrue : List D → Bool
  | [] => true
  | .bl true :: ds => allTrue ds
  | _ => false
theorem allTrue_of {T : Tab} {G : Hp} : ∀ {ds : List D} {vs : List V}, allTrue ds = true → RpL T G ds vs → ∀ v ∈ vs, v = .bl true
  | [], vs, _, r => by
    have e : vs = [] := r
    subst e
    intro v hv
    exact nomatch hv
  | .bl true :: ds, _, h, ⟨v, vr, e, q, k⟩ => by
    subst e
    intro u hu
    rcases List.mem_cons.mp hu with z | z
    · rw [z]; exact q
    · exact allTrue_of (ds := ds) h k u z
  | .bl false :: ds, _, h, _ => by cases h
  | .non :: ds, _, h, _ => by cases h
  | .int _ :: ds, _, h, _ => by cases h
  | .str _ :: ds, _, h, _ => by cases h
  | .lst _ :: ds, _, h, _ => by cases h
  | .tup _ :: ds, _, h, _ => by cases h
  | .dct _ _ :: ds, _, h, _ => by cases h
  | .nst _ :: ds, _, h, _ => by cases h
  | .obj _ _ _ :: ds, _, h, _ => by cases h
def dNeD (a b : D) : Option D := match a, b with
  | .dct ks vs, .dct ks' vs' => if allTrue vs && allTrue vs' then (keysT ks).bind fun k1 => (keysT ks').map fun k2 => .bl (!(k1.length == k2.length && k1.all fun k => memK k k2)) else none
  | _, _ => none
theorem opd_neT {T : Tab} {m1 m2 : Md} : OpD T m1 m2 .p rNeT dNeD := fun W x y dx dy d r1 r2 h Q q => by
  unfold dNeD at h
  split at h
  · rename_i ks vs ks' vs'
    by_cases c : (allTrue vs && allTrue vs') = true
    · rw [if_pos c] at h
      rw [Bool.and_eq_true] at c
      obtain ⟨k1, h1, h⟩ := bind_some h
      obtain ⟨k2, h2, e⟩ := map_some h
      subst e
      obtain ⟨a, us, rfl, ⟨ka, ha, e1, e2⟩, l1⟩ := r1
      obtain ⟨b, us', rfl, ⟨kb, hb, e3, e4⟩, l2⟩ := r2
      subst e1 e2 e3 e4
      rw [tupK_map, keysT_map] at h1 h2
      cases h1
      cases h2
      exact ⟨a, b, ka, kb, rfl, rfl, W.atH m1 _ _ ha, W.atH m2 _ _ hb, fun p hp => allTrue_of c.1 l1 _ (List.mem_map.mpr ⟨p, hp, rfl⟩), fun p hp => allTrue_of c.2 l2 _ (List.mem_map.mpr ⟨p, hp, rfl⟩), q _ W (Step.refl _ _) rfl⟩
    · rw [if_neg c] at h
      cases h
  · cases h
end My

set_option Elab.async false
set_option linter.all false
set_option maxRecDepth 100000
set_option maxHeartbeats 4000000
/-! M17: lists read item by item, comprehensions of own trees, is True. -/
namespace My
open PySem PyProof.Rows L2

/-! ### a list that is read: its items known -/
def SL (T : Tab) (me : List Md) (te : TE) (m : Md) (f : List SV → Option (List D)) : Prop :=
  ∀ (W : World) (σ : List (Option V)) (s : List SV) (F : List Addr), St T W me σ s F → ∀ ds, f s = some ds → ∀ Q : VK, (∀ a vs W', Step [] W W' → SqL T.K W'.H a vs → RpL T (W'.at m) ds vs → Q (.ref a) W'.H) → te σ W.H Q
structure FL {ι : Type} (X : ι → Cx) (T : Tab) (me : List Md) (e : Expr) (m : Md) (f : List SV → Option (List D)) : Prop where
  ex : ∃ te, (∀ j, PE (X j) e te) ∧ SL T me te m f
def fzs : List OD → Option (List D)
  | [] => some []
  | .fz d :: os => (fzs os).map (d :: ·)
  | _ => none
def dItemsOwn (i : Nat) (s : List SV) : Option (List D) := match s[i]? with
  | some (.own (.lst os)) => fzs os
  | _ => none
theorem fzs_of {T : Tab} {m : Md} {W : World} : ∀ {os : List OD} {ds : List D} {vs : List V} {F : List Addr}, fzs os = some ds → RpOL T m W os vs F → RpL T (W.at m) ds vs
  | [], ds, vs, F, h, r => by
    cases h
    exact r.1
  | .fz d :: os, ds, vs, F, h, ⟨v, vr, F1, F2, e, _, h1, h2⟩ => by
    obtain ⟨ds', h3, e2⟩ := map_some h
    subst e2
    exact ⟨v, vr, e, h1.2, fzs_of h3 h2⟩
  | .lst _ :: os, ds, vs, F, h, _ => by cases h
  | .dct _ _ :: os, ds, vs, F, h, _ => by cases h
  | .nst _ :: os, ds, vs, F, h, _ => by cases h
section
variable {ι : Type} {X : ι → Cx} {T : Tab} {me : List Md} {tg e a b : Expr} {m m1 m2 : Md} {f : List SV → Option D} {fl fs : List SV → Option (List D)} {pos pos' p py kpos : Pos} {x y : Str}
theorem fl_own (i : Nat) (hm : me[i]? = some m := by rfl) (hN : ∀ j, (X j).N[i]? = some x := by intro _; rfl) (hv : ∀ j, Vis (X j).env.scope x := by intro _; first | exact Or.inl rfl | exact Or.inr (Or.inl rfl) | exact Or.inr (Or.inr rfl))
    (hd : (x == ("__debug__" : Str)) = false := by decide) (hcd : (x == ("__classdict__" : Str)) = false := by decide) : FL X T me (.Name x p) m (dItemsOwn i) := by
  refine ⟨tVar i, fun j => pe_var (hN j) (hv j) hd hcd, fun W σ s F st ds h Q q => ?_⟩
  unfold dItemsOwn at h
  split at h
  · rename_i os e
    obtain ⟨m0, x0, F1, A, C, g1, g2, g3, g4, ⟨v0, ev, ⟨a, vs, F', ea, ef, ha, hb, r⟩, hv0⟩, g6⟩ := st.focus e
    have em : m = m0 := Option.some.inj (hm.symm.trans g1)
    subst em ev ea
    exact ⟨.ref a, g3, q a vs W (Step.refl _ _) (.inl (.inl ha)) (fzs_of h r)⟩
  · cases h
theorem fl_of (h : FP X T me e m f) : FL X T me e m (dItems f) := by
  obtain ⟨t, h1, h2⟩ := h.ex
  refine ⟨t, h1, fun W σ s F st ds hd Q q => ?_⟩
  obtain ⟨d, k1, k2⟩ := bind_some hd
  refine h2 W σ s F st d k1 _ fun v W1 t1 r1 => ?_
  cases d with
  | lst xs =>
    cases k2
    obtain ⟨a, vs, rfl, sq, l⟩ := r1
    exact q a vs W1 t1 ((W1.atH m).sqL sq) l
  | _ => cases k2
theorem it_list2 {T : Tab} {m : Md} {W : World} {a : Addr} {vs : List V} {ds : List D} (hq : SqL T.K W.H a vs) (r : RpL T (W.at m) ds vs) : ItF [] T m (Itl T.K a) ds W where
  go := fun W2 i t hi => by
    obtain ⟨v, h1, _⟩ := r.get (List.getElem?_eq_getElem hi)
    exact ⟨vs, v, Sub.sqL t.subH hq, h1⟩
  yld := fun W2 i x H' t hi y => by
    obtain ⟨e, y⟩ := y
    have h1 := y vs (Sub.sqL t.subH hq)
    obtain ⟨d, h2, h3⟩ := r.getV h1
    exact ⟨W2, d, Step.refl _ _, e, h2, Rp.mono (t.at m) d x h3⟩
  stop := fun W2 i t hi => ⟨vs, Sub.sqL t.subH hq, by rw [← r.length]; exact hi⟩
def SI0 (T : Tab) (me : List Md) (wi : TI) (m : Md) (f : List SV → Option (List D)) : Prop :=
  ∀ (W : World) (σ : List (Option V)) (s : List SV) (F : List Addr), St T W me σ s F → ∀ ds, f s = some ds → ∀ R : It → Hp → Prop, (∀ J W', Step [] W W' → ItF [] T m J ds W' → R J W'.H) → wi σ W.H R
structure FI0 {ι : Type} (X : ι → Cx) (T : Tab) (me : List Md) (tg iter : Expr) (m : Md) (f : List SV → Option (List D)) : Prop where
  ex : ∃ wi, (∀ j, PI (X j) tg iter wi) ∧ SI0 T me wi m f
theorem fi0_of (h : FI X T me tg e m1 m fs) : FI0 X T me tg e m fs := by
  obtain ⟨t, h1, h2⟩ := h.ex
  exact ⟨t, h1, fun W σ s F st ds hd R q => h2 W σ s F st ds hd R fun J W1 t1 it => q J W1 t1 ⟨fun W2 i t2 hi => it.go W2 i (t2.at m1) hi, fun W2 i x H' t2 hi y => it.yld W2 i x H' (t2.at m1) hi y, fun W2 i t2 hi => it.stop W2 i (t2.at m1) hi⟩⟩
theorem fi0_L (hK : ∀ j, (X j).K = T.K) (h : FL X T me e m fl) : FI0 X T me tg e m fl := by
  obtain ⟨te, h1, h2⟩ := h.ex
  refine ⟨iList T.K te, fun j => by have := pi_list (tg := tg) (h1 j); rw [hK j] at this; exact this, fun W σ s F st ds hd R q => ?_⟩
  exact h2 W σ s F st ds hd _ fun a vs W1 t1 sq r1 => ⟨a, rfl, ⟨vs, sq⟩, q _ W1 t1 (it_list2 sq r1)⟩
def dSortL (g : List D → Option D) (f : List SV → Option (List D)) (s : List SV) : Option OD := (f s).bind fun ds => (keysD g ds).map fun ns => oL (sortKD ds ns)
theorem fo_sortL {g : List D → Option D} {k : Nat} {ps : List Str} (C : ∀ j, Cal (X j) k x ps (spP T [.b] g)) (hK : ∀ j, (X j).K = T.K) (hr : ∀ j, Room (k + 2) (X j).A) (ha : FL X T me e m fl) (hm : ∀ j, (X j).mg "sorted" = none) (hg : ∀ j, Gl (X j) "sorted" := by intro _; rfl) (hx : ∀ j, Gl (X j) x := by intro _; rfl) (hdx : (x == ("__debug__" : Str)) = false := by decide)
    (he1 : ∀ j, starEach [e] (X j).env = (false, eval e (X j).env) :: starEach [] (X j).env := by intro _; rfl) (he : ∀ j, backTo pos (starEach [e] (X j).env) = (false, eval e (X j).env) :: backTo pos (starEach [] (X j).env) := by intro _; rfl) (hpl : ∀ j, (backTo pos (starEach [e] (X j).env)).any (·.1) = false := by intro _; rfl)
    (hall : ∀ j, (backToKw pos (keywordEach [⟨some "key", .Name x py, kpos⟩] (X j).env)).all (·.1.isSome) = true := by intro _; rfl) (hnone : ∀ j, (backToKw pos (keywordEach [⟨some "key", .Name x py, kpos⟩] (X j).env)).any (·.1.isNone) = false := by intro _; rfl) (hks : ∀ j, (backToKw pos (keywordEach [⟨some "key", .Name x py, kpos⟩] (X j).env)).filterMap (·.1) = [Str.ofString "key"] := by intro _; rfl) :
    FO X T me (.Call (.Name "sorted" p) [e] [⟨some "key", .Name x py, kpos⟩] pos) m (dSortL g fl) := by
  obtain ⟨t, h1, h2⟩ := ha.ex
  refine ⟨tSortK T.K (spP T [.b] g) t, fun j => by have := pe_sortK (p := p) (C j) (hr j) (hx j) hdx (hg j) (hm j) (h1 j) (he1 j) (he j) (hpl j) (hall j) (hnone j) (hks j); rw [hK j] at this; exact this, fun W σ s F st o ho Q q => ?_⟩
  obtain ⟨ds, k1, k2⟩ := bind_some ho
  obtain ⟨ns, k3, e3⟩ := map_some k2
  subst e3
  refine h2 W σ s F st _ k1 _ fun l vs W1 t1 hq rr => ?_
  refine ⟨l, vs, rfl, hq, krun_of rr k3 fun W2 t2 => fun p n1 n2 => ?_⟩
  have hl : ds.length = ns.length := by
    have : ∀ {ds : List D} {ns : List Int}, keysD g ds = some ns → ds.length = ns.length := by
      intro ds
      induction ds with
      | nil => intro ns h; cases h; rfl
      | cons d ds ih =>
        intro ns h
        obtain ⟨n, ns', _, h2, rfl⟩ := keysD_cons h
        simp [ih h2]
    exact this k3
  have rr2 := (RpL.mono (t2.at m) ds vs rr).sortK hl
  refine q (.ref p) (W2.lay p (.lst (sortKV vs ns)) n2) [p] ((t1.pure t2).pure (W2.lay_step n2)) (W2.newL n2 rr2) (fun c hc => ?_) (by simp)
  have e : c = p := by simpa using hc
  rw [e]
  exact (t1.pure t2).back n2
end

/-! ### comprehensions -/
def lcGoO (s : List SV) (bind : D → List SV → Option (List SV)) (p : List SV → Option Bool) (fe : List SV → Option OD) : List D → Option (List OD)
  | [] => some []
  | d :: ds => (bind d s).bind fun s1 => (p s1).bind fun b => if b then (fe s1).bind fun y => (lcGoO s bind p fe ds).map (y :: ·) else lcGoO s bind p fe ds
def dLcO (fi : List SV → Option (List D)) (vs : List Nat) (bind : D → List SV → Option (List SV)) (p : List SV → Option Bool) (fe : List SV → Option OD) (s : List SV) : Option OD :=
  (fi s).bind fun ds => if ds.length ≤ sizeLine then (lcGoO (wipeS s vs) bind p fe ds).map OD.lst else none
theorem sp_fr {T : Tab} {me : List Md} {te : TE} {m : Md} {fo : List SV → Option OD} (h2 : SO T me te m fo) : SP T me te m (dFr fo) := fun W σ s F st d hd Q q => by
  obtain ⟨o, k1, e⟩ := map_some hd
  subst e
  refine h2 W σ s F st o k1 Q fun v W1 Fr t1 r1 n1 _ => ?_
  exact q v (W1.know m Fr) (t1.know m fun a ha => .inl (by rw [n1 a ha]; exact id)) (RpO.freeze o v Fr (fun _ z => z) r1)
theorem sx_fr {T : Tab} {me : List Md} {te : TE} {m : Md} {fxo : List SV → Option (OD × List SV)} (h2 : SXo T me te m fxo) : SX T me te m (xFr fxo) := fun W σ s F st nd d s' hd Q q => by
  obtain ⟨⟨o, s1⟩, k1, k2⟩ := map_some hd
  cases k2
  refine h2 W σ s F st nd o s1 k1 _ fun v W1 F1 Fr t1 n1 st1 nd1 r1 => ?_
  have nd2 := List.nodup_append.mp nd1
  refine q v (W1.know m Fr) F1 (t1.know m fun a ha => (n1 a (by simp [ha])).symm.imp (fun z => by rw [z]; exact id) id) (fun a ha => n1 a (by simp [ha])) ?_ nd2.1 (RpO.freeze o v Fr (fun _ z => z) r1)
  exact st1.keep (W1.know_up m Fr .p) (W1.know_up m Fr .b) rfl (fun _ _ _ e => e) fun a ha e => by
    show addK W1.B W1.H Fr a = none
    rw [addK_out (fun z => nd2.2.2 a ha a z rfl)]
    exact e
section
variable {ι : Type} {X : ι → Cx} {T : Tab} {me : List Md} {tg iter elt : Expr} {ifs : List Expr} {ms m m2 : Md} {scope : Scope} {own : List (Str × Nat)} {pos : Pos} {fi : List SV → Option (List D)} {bind : D → List SV → Option (List SV)} {p : List SV → Option Bool} {fe : List SV → Option D} {fo : List SV → Option OD}
theorem so_lc0 {wi : TI} {g : TG} {tt : TT} {te : TE} {vs : List Nat} (hi : SI0 T me wi m fi) (hg : SG T me g m vs bind) (ht : SB T me tt p) (he : SP T me te m2 fe) (hm : m2 ≠ .h) (hq : ∀ v ∈ vs, me[v]? ≠ some .q) : SO T me (tLc wi g tt te vs) m2 (dLc fi vs bind p fe) := fun W σ s F st o ho Q q => by
  obtain ⟨ds, k1, ho⟩ := bind_some ho
  by_cases c : ds.length ≤ sizeLine
  · rw [if_pos c] at ho
    obtain ⟨ys, k2, rfl⟩ := map_some ho
    refine hi W σ s F st ds k1 _ fun J W1 t1 it => ?_
    intro Dl hD
    obtain ⟨F0, st0, _, _⟩ := st_wipes (st.step t1) vs hq
    -- the invariant
    refine ⟨fun i n H => ∃ (W2 : World) (done rest : List D) (acc : List V), H = W2.H ∧ n = ds.length - i ∧ i ≤ ds.length ∧ Step [] W1 W2 ∧ W2.H Dl = some (.lst acc) ∧ W2.B Dl = none ∧ RpL T (W2.at m2) done acc ∧ done.length ≤ i ∧
      lcGo (wipeS s vs) bind p fe (ds.drop i) = some rest ∧ done ++ rest = ys, ⟨ds.length, W1.lay Dl (.lst []) hD, [], ys, [], rfl, by simp, Nat.zero_le _, W1.lay_step hD, upd_same, W1.freshB hD, rfl, Nat.zero_le _, by simpa using k2, rfl⟩, ?_⟩
    rintro i n H ⟨W2, done, rest, acc, rfl, rfl, hle, t2, eD, nB, rl, hdl, k3, k4⟩
    by_cases hlt : i < ds.length
    · refine .inr ⟨it.go W2 i t2 hlt, fun H' => ∃ (W2 : World) (done rest : List D) (acc : List V), H' = W2.H ∧ Step [] W1 W2 ∧ W2.H Dl = some (.lst acc) ∧ W2.B Dl = none ∧ RpL T (W2.at m2) done acc ∧ done.length ≤ i + 1 ∧
        lcGo (wipeS s vs) bind p fe (ds.drop (i + 1)) = some rest ∧ done ++ rest = ys, ?_, fun x H' y => ?_⟩
      · rintro H' ⟨W3, done, rest, acc, rfl, a1, a2, a3, a4, a5, a6, a7⟩
        exact ⟨ds.length - (i + 1), by omega, W3, done, rest, acc, rfl, rfl, hlt, a1, a2, a3, a4, a5, a6, a7⟩
      · obtain ⟨W3, d, t3, rfl, hd, rd⟩ := it.yld W2 i x H' t2 hlt y
        have edrop : ds.drop i = d :: ds.drop (i + 1) := by
          rw [List.drop_eq_getElem_cons hlt]
          have := (List.getElem?_eq_some_iff.mp hd).2
          rw [this]
        rw [edrop] at k3
        obtain ⟨s1, b1, k3⟩ := bind_some k3
        obtain ⟨bb, b2, k3⟩ := bind_some k3
        have t13 := t2.pure t3
        refine hg W3 (wipe σ vs) (wipeS s vs) F0 x d s1 (st0.step t13) rd b1 _ fun σ2 W4 F4 t4 st4 _ _ hw => ?_
        refine ⟨by rw [hw, wipe_wipe], ht W4 σ2 s1 F4 st4 bb b2 _ fun W5 t5 => ?_⟩
        have t25 := (t3.pure t4).pure t5
        have t15 := t2.pure t25
        have eD5 : W5.H Dl = some (.lst acc) := t25.h _ _ eD (by simp)
        have nB5 : W5.B Dl = none := t25.nb Dl (by rw [eD]; trivial) (by simp) nB
        cases bb with
        | true =>
          have k5 := k3
          rw [if_pos rfl] at k5
          obtain ⟨y, b3, k5⟩ := bind_some k5
          obtain ⟨rest', k6, rfl⟩ := map_some k5
          show te σ2 W5.H _
          refine he W5 σ2 s1 F4 (st4.step t5) y b3 _ fun v W6 t6 rv => ?_
          have t26 := t25.pure t6
          have eD6 : W6.H Dl = some (.lst acc) := t26.h _ _ eD (by simp)
          have nB6 : W6.B Dl = none := t26.nb Dl (by rw [eD]; trivial) (by simp) nB
          have hla : acc.length = done.length := rl.length.symm
          refine ⟨acc, eD6, by omega, W6.mut Dl (.lst (acc ++ [v])) nB6, done ++ [y], rest', acc ++ [v], rfl, ?_, upd_same, nB6, ?_, by simp; omega, k6, by simpa using k4⟩
          · have t16 := t15.pure t6
            exact ⟨t16.g, t16.b, fun a u e _ => by
              show upd W6.H Dl _ a = some u
              rw [upd_ne (ne_of_none e hD)]
              exact t16.h a u e (by simp), fun a h => by
              show upd W6.H Dl _ a ≠ none
              unfold upd
              split
              · simp
              · exact t16.dom a h, t16.nb, t16.ng, t16.pin⟩
          · have e : (W6.mut Dl (.lst (acc ++ [v])) nB6).at m2 = W6.at m2 := by
              cases m2 with
              | p => rfl
              | b => rfl
              | h => exact absurd rfl hm
              | q => rfl
            rw [e]
            exact (RpL.mono (t26.at m2) done acc rl).append (RpL.one rv)
        | false =>
          have k5 : lcGo (wipeS s vs) bind p fe (ds.drop (i + 1)) = some rest := k3
          show ∃ (W2 : World) (done rest : List D) (acc : List V), W5.H = W2.H ∧ _
          exact ⟨W5, done, rest, acc, rfl, t15, eD5, nB5, RpL.mono (t25.at m2) done acc rl, by omega, k5, k4⟩
    · have e : i = ds.length := by omega
      refine .inl ⟨it.stop W2 i t2 (by omega), ?_⟩
      subst e
      rw [List.drop_length] at k3
      cases k3
      rw [List.append_nil] at k4
      subst k4
      exact q (.ref Dl) W2 [Dl] (t1.pure t2) (RpO.flat eD nB rl) (fun a ha => by
        have e : a = Dl := by simpa using ha
        rw [e]
        exact t1.back hD) (by simp)
  · rw [if_neg c] at ho
    cases ho
theorem so_lcO {wi : TI} {g : TG} {tt : TT} {te : TE} {vs : List Nat} (hi : SI0 T me wi m fi) (hg : SG T me g m vs bind) (ht : SB T me tt p) (he : SO T me te m2 fo) (hm : m2 ≠ .h) (hq : ∀ v ∈ vs, me[v]? ≠ some .q) : SO T me (tLc wi g tt te vs) m2 (dLcO fi vs bind p fo) := fun W σ s F st o ho Q q => by
  obtain ⟨ds, k1, ho⟩ := bind_some ho
  by_cases c : ds.length ≤ sizeLine
  · rw [if_pos c] at ho
    obtain ⟨ys, k2, rfl⟩ := map_some ho
    refine hi W σ s F st ds k1 _ fun J W1 t1 it => ?_
    intro Dl hD
    obtain ⟨F0, st0, _, _⟩ := st_wipes (st.step t1) vs hq
    -- the invariant
    refine ⟨fun i n H => ∃ (W2 : World) (done rest : List OD) (acc : List V) (Fa : List Addr), H = W2.H ∧ n = ds.length - i ∧ i ≤ ds.length ∧ Step [] W1 W2 ∧ W2.H Dl = some (.lst acc) ∧ W2.B Dl = none ∧ RpOL T m2 W2 done acc Fa ∧ (∀ a ∈ Fa, W1.H a = none ∧ a ≠ Dl) ∧ Fa.Nodup ∧ done.length ≤ i ∧
      lcGoO (wipeS s vs) bind p fo (ds.drop i) = some rest ∧ done ++ rest = ys, ⟨ds.length, W1.lay Dl (.lst []) hD, [], ys, [], [], rfl, by simp, Nat.zero_le _, W1.lay_step hD, upd_same, W1.freshB hD, ⟨rfl, rfl⟩, by simp, by simp, Nat.zero_le _, by simpa using k2, rfl⟩, ?_⟩
    rintro i n H ⟨W2, done, rest, acc, Fa, rfl, rfl, hle, t2, eD, nB, rl, hFa, ndF, hdl, k3, k4⟩
    by_cases hlt : i < ds.length
    · refine .inr ⟨it.go W2 i t2 hlt, fun H' => ∃ (W2 : World) (done rest : List OD) (acc : List V) (Fa : List Addr), H' = W2.H ∧ Step [] W1 W2 ∧ W2.H Dl = some (.lst acc) ∧ W2.B Dl = none ∧ RpOL T m2 W2 done acc Fa ∧ (∀ a ∈ Fa, W1.H a = none ∧ a ≠ Dl) ∧ Fa.Nodup ∧ done.length ≤ i + 1 ∧
        lcGoO (wipeS s vs) bind p fo (ds.drop (i + 1)) = some rest ∧ done ++ rest = ys, ?_, fun x H' y => ?_⟩
      · rintro H' ⟨W3, done, rest, acc, Fa, rfl, a1, a2, a3, a4, a5, a6, a7, a8, a9⟩
        exact ⟨ds.length - (i + 1), by omega, W3, done, rest, acc, Fa, rfl, rfl, hlt, a1, a2, a3, a4, a5, a6, a7, a8, a9⟩
      · obtain ⟨W3, d, t3, rfl, hd, rd⟩ := it.yld W2 i x H' t2 hlt y
        have edrop : ds.drop i = d :: ds.drop (i + 1) := by
          rw [List.drop_eq_getElem_cons hlt]
          have := (List.getElem?_eq_some_iff.mp hd).2
          rw [this]
        rw [edrop] at k3
        obtain ⟨s1, b1, k3⟩ := bind_some k3
        obtain ⟨bb, b2, k3⟩ := bind_some k3
        have t13 := t2.pure t3
        refine hg W3 (wipe σ vs) (wipeS s vs) F0 x d s1 (st0.step t13) rd b1 _ fun σ2 W4 F4 t4 st4 _ _ hw => ?_
        refine ⟨by rw [hw, wipe_wipe], ht W4 σ2 s1 F4 st4 bb b2 _ fun W5 t5 => ?_⟩
        have t25 := (t3.pure t4).pure t5
        have t15 := t2.pure t25
        have eD5 : W5.H Dl = some (.lst acc) := t25.h _ _ eD (by simp)
        have nB5 : W5.B Dl = none := t25.nb Dl (by rw [eD]; trivial) (by simp) nB
        cases bb with
        | true =>
          have k5 := k3
          rw [if_pos rfl] at k5
          obtain ⟨y, b3, k5⟩ := bind_some k5
          obtain ⟨rest', k6, rfl⟩ := map_some k5
          show te σ2 W5.H _
          refine he W5 σ2 s1 F4 (st4.step t5) y b3 _ fun v W6 Fr t6 rv hFr ndr => ?_
          have t26 := t25.pure t6
          have eD6 : W6.H Dl = some (.lst acc) := t26.h _ _ eD (by simp)
          have nB6 : W6.B Dl = none := t26.nb Dl (by rw [eD]; trivial) (by simp) nB
          have hla : acc.length = done.length := (RpOL.length rl).symm
          have frD : ∀ a ∈ Fr, a ≠ Dl := fun a ha z => by
            have := hFr a ha
            rw [z, eD5] at this
            cases this
          have keepD : ∀ a, a ≠ Dl → ∀ u, W6.H a = some u → (W6.mut Dl (.lst (acc ++ [v])) nB6).H a = some u := fun a ha u e => by
            show upd W6.H Dl _ a = some u
            rw [upd_ne ha]
            exact e
          have hsm : Sub (W6.at m2) ((W6.mut Dl (.lst (acc ++ [v])) nB6).at m2) := by
            cases m2 with
            | p => exact Sub.refl _
            | b => exact Sub.refl _
            | h => exact absurd rfl hm
            | q => exact Sub.refl _
          refine ⟨acc, eD6, by omega, W6.mut Dl (.lst (acc ++ [v])) nB6, done ++ [y], rest', acc ++ [v], Fa ++ Fr, rfl, ?_, upd_same, nB6, ?_, fun a ha => ?_, ?_, by simp; omega, k6, by simpa using k4⟩
          · have t16 := t15.pure t6
            exact ⟨t16.g, t16.b, fun a u e _ => by
              show upd W6.H Dl _ a = some u
              rw [upd_ne (ne_of_none e hD)]
              exact t16.h a u e (by simp), fun a h => by
              show upd W6.H Dl _ a ≠ none
              unfold upd
              split
              · simp
              · exact t16.dom a h, t16.nb, t16.ng, t16.pin⟩
          · have th := RpOL.there _ _ _ rl
            have rl6 : RpOL T m2 W6 done acc Fa := RpOL.keep (t26.at m2) done acc Fa (fun a _ u e => t26.h a u e (by simp)) (fun a ha e => t26.nb a (th a ha).1 (by simp) e) rl
            exact (RpOL.keep hsm done acc Fa (fun a ha u e => keepD a (hFa a ha).2 u e) (fun _ _ e => e) rl6).append (RpOL.one (RpO.keep hsm y v Fr (fun a ha u e => keepD a (frD a ha) u e) (fun _ _ e => e) rv))
          · rcases List.mem_append.mp ha with z | z
            · exact hFa a z
            · exact ⟨t15.back (hFr a z), frD a z⟩
          · refine List.nodup_append.mpr ⟨ndF, ndr, fun a ha b hb e => ?_⟩
            subst e
            have th := RpOL.there _ _ _ rl
            have h5 := hFr a hb
            have := (th a ha).1.ne
            exact this (t25.back h5)
        | false =>
          have k5 : lcGoO (wipeS s vs) bind p fo (ds.drop (i + 1)) = some rest := k3
          show ∃ (W2 : World) (done rest : List OD) (acc : List V) (Fa : List Addr), W5.H = W2.H ∧ _
          have th := RpOL.there _ _ _ rl
          exact ⟨W5, done, rest, acc, Fa, rfl, t15, eD5, nB5, RpOL.keep (t25.at m2) done acc Fa (fun a _ u e => t25.h a u e (by simp)) (fun a ha e => t25.nb a (th a ha).1 (by simp) e) rl, hFa, ndF, by omega, k5, k4⟩
    · have e : i = ds.length := by omega
      refine .inl ⟨it.stop W2 i t2 (by omega), ?_⟩
      subst e
      rw [List.drop_length] at k3
      cases k3
      rw [List.append_nil] at k4
      subst k4
      exact q (.ref Dl) W2 (Dl :: Fa) (t1.pure t2) ⟨Dl, acc, Fa, rfl, rfl, eD, nB, rl⟩ (fun a ha => by
        rcases List.mem_cons.mp ha with e | e
        · rw [e]
          exact t1.back hD
        · exact t1.back (hFa a e).1) (List.nodup_cons.mpr ⟨fun z => (hFa Dl z).2 rfl, ndF⟩)
  · rw [if_neg c] at ho
    cases ho
theorem fo_lc0 (hc : ∀ j, (X j).calm = true) (hN : ∀ j, (X j).N.Nodup) (hi : FI0 X T me tg iter m fi) (ok : ∀ j, BlkOk (X j).N (X j).env.scope scope own) (hg : FG (Blk X scope) T me tg m (own.map (·.2)) bind) (ht : FTs (Blk X scope) T me ifs p) (he : FP (Blk X scope) T me elt m2 fe)
    (hm : m2 ≠ .h := by decide) (hq : ∀ v ∈ own.map (·.2), me[v]? ≠ some .q := by decide) (hs : ∀ j, ∀ x, foldedSetIterable iter (X j).env x = pure x := by intro _ _; rfl) : FO X T me (.ListComp elt [⟨tg, iter, ifs, 0⟩] scope pos) m2 (dLc fi (own.map (·.2)) bind p fe) := by
  obtain ⟨wi, h1, h2⟩ := hi.ex
  obtain ⟨g, h3, h4⟩ := hg.ex
  obtain ⟨tt, h5, h6⟩ := ht.ex
  obtain ⟨te, h7, h8⟩ := he.ex
  exact ⟨_, fun j => pe_lc (hc j) (hN j) (h1 j) (ok j) (fun s H C cl fp => h3 (j, s, H, C, cl, fp)) (fun s H C cl fp => h5 (j, s, H, C, cl, fp)) (fun s H C cl fp => h7 (j, s, H, C, cl, fp)) (hs j), so_lc0 h2 h4 h6 h8 hm hq⟩
theorem fo_lcO (hc : ∀ j, (X j).calm = true) (hN : ∀ j, (X j).N.Nodup) (hi : FI0 X T me tg iter m fi) (ok : ∀ j, BlkOk (X j).N (X j).env.scope scope own) (hg : FG (Blk X scope) T me tg m (own.map (·.2)) bind) (ht : FTs (Blk X scope) T me ifs p) (he : FO (Blk X scope) T me elt m2 fo)
    (hm : m2 ≠ .h := by decide) (hq : ∀ v ∈ own.map (·.2), me[v]? ≠ some .q := by decide) (hs : ∀ j, ∀ x, foldedSetIterable iter (X j).env x = pure x := by intro _ _; rfl) : FO X T me (.ListComp elt [⟨tg, iter, ifs, 0⟩] scope pos) m2 (dLcO fi (own.map (·.2)) bind p fo) := by
  obtain ⟨wi, h1, h2⟩ := hi.ex
  obtain ⟨g, h3, h4⟩ := hg.ex
  obtain ⟨tt, h5, h6⟩ := ht.ex
  obtain ⟨te, h7, h8⟩ := he.ex
  exact ⟨_, fun j => pe_lc (hc j) (hN j) (h1 j) (ok j) (fun s H C cl fp => h3 (j, s, H, C, cl, fp)) (fun s H C cl fp => h5 (j, s, H, C, cl, fp)) (fun s H C cl fp => h7 (j, s, H, C, cl, fp)) (hs j), so_lcO h2 h4 h6 h8 hm hq⟩
end
section
variable {ι : Type} {X : ι → Cx} {T : Tab} {me : List Md} {m m2 : Md} {pos pos' : Pos} {y : Str}
theorem fs_setLc0 (i : Nat) {tg iter elt : Expr} {ifs : List Expr} {scope : Scope} {own : List (Str × Nat)} {lpos spos : Pos} {fi : List SV → Option (List D)} {bind : D → List SV → Option (List SV)} {pr : List SV → Option Bool} {fe : List SV → Option D}
    (hc : ∀ j, (X j).calm = true) (hN : ∀ j, (X j).N.Nodup) (hi : FI0 X T me tg iter m fi) (ok : ∀ j, BlkOk (X j).N (X j).env.scope scope own) (hg : FG (Blk X scope) T me tg m (own.map (·.2)) bind) (ht : FTs (Blk X scope) T me ifs pr) (he : FP (Blk X scope) T me elt m2 fe)
    (hm : me[i]? = some m2 := by rfl) (hh : m2 ≠ .h := by decide) (hq : m2 ≠ .q := by decide) (hqs : ∀ v ∈ own.map (·.2), me[v]? ≠ some .q := by decide) (hy : ∀ j, (X j).N[i]? = some y := by intro _; rfl) (hyl : ∀ j, (X j).env.scope.names.lookup y = some .local := by intro _; rfl)
    (hsw : ∀ j, swapsWith (.ListComp elt [⟨tg, iter, ifs, 0⟩] scope lpos) (some (.Name y pos')) spos.line (X j).env = pure true := by intro _; exact sw_true rfl rfl rfl (by decide +kernel)) (hs : ∀ j, ∀ x, foldedSetIterable iter (X j).env x = pure x := by intro _ _; rfl) :
    FS X T me (.Assign [.Name y pos'] (.ListComp elt [⟨tg, iter, ifs, 0⟩] scope lpos) spos) (dSetO i (dLc fi (own.map (·.2)) bind pr fe)) := by
  obtain ⟨wi, h1, h2⟩ := hi.ex
  obtain ⟨g, h3, h4⟩ := hg.ex
  obtain ⟨tt, h5, h6⟩ := ht.ex
  obtain ⟨te, h7, h8⟩ := he.ex
  exact ⟨_, fun j => ps_setLc (hc j) (hN j) (hy j) (hyl j) (hsw j) (h1 j) (ok j) (fun s H C cl fp => h3 (j, s, H, C, cl, fp)) (fun s H C cl fp => h5 (j, s, H, C, cl, fp)) (fun s H C cl fp => h7 (j, s, H, C, cl, fp)) (hs j), ss_setO (so_lc0 h2 h4 h6 h8 hh hqs) hm hq⟩
theorem fs_setLcF (i : Nat) {tg iter elt : Expr} {ifs : List Expr} {scope : Scope} {own : List (Str × Nat)} {lpos spos : Pos} {fi : List SV → Option (List D)} {bind : D → List SV → Option (List SV)} {pr : List SV → Option Bool} {fe : List SV → Option D}
    (hc : ∀ j, (X j).calm = true) (hN : ∀ j, (X j).N.Nodup) (hi : FI0 X T me tg iter m fi) (ok : ∀ j, BlkOk (X j).N (X j).env.scope scope own) (hg : FG (Blk X scope) T me tg m (own.map (·.2)) bind) (ht : FTs (Blk X scope) T me ifs pr) (he : FP (Blk X scope) T me elt m2 fe)
    (hm : me[i]? = some m2 := by rfl) (hh : m2 ≠ .h := by decide) (hq : m2 ≠ .q := by decide) (hqs : ∀ v ∈ own.map (·.2), me[v]? ≠ some .q := by decide) (hy : ∀ j, (X j).N[i]? = some y := by intro _; rfl) (hyl : ∀ j, (X j).env.scope.names.lookup y = some .local := by intro _; rfl)
    (hsw : ∀ j, swapsWith (.ListComp elt [⟨tg, iter, ifs, 0⟩] scope lpos) (some (.Name y pos')) spos.line (X j).env = pure true := by intro _; exact sw_true rfl rfl rfl (by decide +kernel)) (hs : ∀ j, ∀ x, foldedSetIterable iter (X j).env x = pure x := by intro _ _; rfl) :
    FS X T me (.Assign [.Name y pos'] (.ListComp elt [⟨tg, iter, ifs, 0⟩] scope lpos) spos) (dSet i (dFr (dLc fi (own.map (·.2)) bind pr fe))) := by
  obtain ⟨wi, h1, h2⟩ := hi.ex
  obtain ⟨g, h3, h4⟩ := hg.ex
  obtain ⟨tt, h5, h6⟩ := ht.ex
  obtain ⟨te, h7, h8⟩ := he.ex
  exact ⟨_, fun j => ps_setLc (hc j) (hN j) (hy j) (hyl j) (hsw j) (h1 j) (ok j) (fun s H C cl fp => h3 (j, s, H, C, cl, fp)) (fun s H C cl fp => h5 (j, s, H, C, cl, fp)) (fun s H C cl fp => h7 (j, s, H, C, cl, fp)) (hs j), ss_set (sp_fr (so_lc0 h2 h4 h6 h8 hh hqs)) hm hq⟩
theorem fs_setLcO (i : Nat) {tg iter elt : Expr} {ifs : List Expr} {scope : Scope} {own : List (Str × Nat)} {lpos spos : Pos} {fi : List SV → Option (List D)} {bind : D → List SV → Option (List SV)} {pr : List SV → Option Bool} {fo : List SV → Option OD}
    (hc : ∀ j, (X j).calm = true) (hN : ∀ j, (X j).N.Nodup) (hi : FI0 X T me tg iter m fi) (ok : ∀ j, BlkOk (X j).N (X j).env.scope scope own) (hg : FG (Blk X scope) T me tg m (own.map (·.2)) bind) (ht : FTs (Blk X scope) T me ifs pr) (he : FO (Blk X scope) T me elt m2 fo)
    (hm : me[i]? = some m2 := by rfl) (hh : m2 ≠ .h := by decide) (hq : m2 ≠ .q := by decide) (hqs : ∀ v ∈ own.map (·.2), me[v]? ≠ some .q := by decide) (hy : ∀ j, (X j).N[i]? = some y := by intro _; rfl) (hyl : ∀ j, (X j).env.scope.names.lookup y = some .local := by intro _; rfl)
    (hsw : ∀ j, swapsWith (.ListComp elt [⟨tg, iter, ifs, 0⟩] scope lpos) (some (.Name y pos')) spos.line (X j).env = pure true := by intro _; exact sw_true rfl rfl rfl (by decide +kernel)) (hs : ∀ j, ∀ x, foldedSetIterable iter (X j).env x = pure x := by intro _ _; rfl) :
    FS X T me (.Assign [.Name y pos'] (.ListComp elt [⟨tg, iter, ifs, 0⟩] scope lpos) spos) (dSetO i (dLcO fi (own.map (·.2)) bind pr fo)) := by
  obtain ⟨wi, h1, h2⟩ := hi.ex
  obtain ⟨g, h3, h4⟩ := hg.ex
  obtain ⟨tt, h5, h6⟩ := ht.ex
  obtain ⟨te, h7, h8⟩ := he.ex
  exact ⟨_, fun j => ps_setLc (hc j) (hN j) (hy j) (hyl j) (hsw j) (h1 j) (ok j) (fun s H C cl fp => h3 (j, s, H, C, cl, fp)) (fun s H C cl fp => h5 (j, s, H, C, cl, fp)) (fun s H C cl fp => h7 (j, s, H, C, cl, fp)) (hs j), ss_setO (so_lcO h2 h4 h6 h8 hh hqs) hm hq⟩
end
section
variable {ι : Type} {X : ι → Cx} {T : Tab} {me : List Md} {tg iter elt : Expr} {ifs : List Expr} {ms m m2 : Md} {scope : Scope} {own : List (Str × Nat)} {pos pos' : Pos} {fi : List SV → Option (List D × List SV)} {bind : D → List SV → Option (List SV)} {pr : List SV → Option (Bool × List SV)} {fe : List SV → Option (D × List SV)} {y : Str}
theorem fs_setXLcF (i : Nat) {lpos spos : Pos}
    (hc : ∀ j, (X j).calm = true) (hN : ∀ j, (X j).N.Nodup) (hi : FIx X T me tg iter ms m fi) (ok : ∀ j, BlkOk (X j).N (X j).env.scope scope own) (hg : FG (Blk X scope) T me tg m (own.map (·.2)) bind) (ht : FXts (Blk X scope) T me ifs pr) (he : FX (Blk X scope) T me elt m2 fe)
    (hm : me[i]? = some m2 := by rfl) (hh : m2 ≠ .h := by decide) (hms : ms ≠ .h := by decide) (hq : m2 ≠ .q := by decide) (hqs : ∀ v ∈ own.map (·.2), me[v]? ≠ some .q := by decide) (hy : ∀ j, (X j).N[i]? = some y := by intro _; rfl) (hyl : ∀ j, (X j).env.scope.names.lookup y = some .local := by intro _; rfl)
    (hsw : ∀ j, swapsWith (.ListComp elt [⟨tg, iter, ifs, 0⟩] scope lpos) (some (.Name y pos')) spos.line (X j).env = pure true := by intro _; exact sw_true rfl rfl rfl (by decide +kernel)) (hs : ∀ j, ∀ x, foldedSetIterable iter (X j).env x = pure x := by intro _ _; rfl) :
    FS X T me (.Assign [.Name y pos'] (.ListComp elt [⟨tg, iter, ifs, 0⟩] scope lpos) spos) (dSetX i (xFr (xLc fi (own.map (·.2)) bind pr fe))) := by
  obtain ⟨wi, h1, h2⟩ := hi.ex
  obtain ⟨g, h3, h4⟩ := hg.ex
  obtain ⟨tt, h5, h6⟩ := ht.ex
  obtain ⟨te, h7, h8⟩ := he.ex
  exact ⟨_, fun j => ps_setLc (hc j) (hN j) (hy j) (hyl j) (hsw j) (h1 j) (ok j) (fun s H C cl fp => h3 (j, s, H, C, cl, fp)) (fun s H C cl fp => h5 (j, s, H, C, cl, fp)) (fun s H C cl fp => h7 (j, s, H, C, cl, fp)) (hs j), ss_setX (sx_fr (sxo_lc h2 h4 h6 h8 hh hms hqs)) hm hq⟩

end

/-! ### is True -/
def dIsB (x y : D) : Option D := match x, y with
  | .bl a, .bl b => some (.bl (decide (a = b)))
  | _, _ => none
def dIsNotB (x y : D) : Option D := match x, y with
  | .bl a, .bl b => some (.bl (!decide (a = b)))
  | _, _ => none
theorem opd_isB {T : Tab} {m1 m2 : Md} : OpD T m1 m2 .p (fun x y H Q => ∃ a b, x = .bl a ∧ y = .bl b ∧ Q (.bl (decide (a = b))) H) dIsB := fun W x y dx dy d r1 r2 h Q q => by
  unfold dIsB at h
  split at h
  · cases h
    exact ⟨_, _, r1, r2, q _ W (Step.refl _ _) rfl⟩
  · cases h
theorem opd_isNotB {T : Tab} {m1 m2 : Md} : OpD T m1 m2 .p (fun x y H Q => ∃ a b, x = .bl a ∧ y = .bl b ∧ Q (.bl (!decide (a = b))) H) dIsNotB := fun W x y dx dy d r1 r2 h Q q => by
  unfold dIsNotB at h
  split at h
  · cases h
    exact ⟨_, _, r1, r2, q _ W (Step.refl _ _) rfl⟩
  · cases h
end My

set_option Elab.async false
set_option linter.all false
set_option maxRecDepth 100000
set_option maxHeartbeats 4000000
/-! M18: slices of lists that are read item by item; facts of the module. -/
namespace My
open PySem PyProof.Rows L2
def dSlF (f : List SV → Option (List D)) (l h : List SV → Option (Option Int)) (s : List SV) : Option OD := (f s).bind fun ds => (l s).bind fun a => (h s).bind fun b => some (oL (cutD ds a b))
section
variable {ι : Type} {X : ι → Cx} {T : Tab} {me : List Md} {e a b : Expr} {m m1 m2 : Md} {fl : List SV → Option (List D)} {pos p : Pos}
theorem fo_sliceL {lo hi : Option Expr} {l h : List SV → Option (Option Int)} {p2 : Pos} (hK : ∀ j, (X j).K = T.K) (he : FL X T me e m fl) (hl : FPo X T me lo l) (hh : FPo X T me hi h) : FO X T me (.Subscript e (.Slice lo hi none p2) pos) m (dSlF fl l h) := by
  obtain ⟨t, h1, h2⟩ := he.ex
  obtain ⟨u, h3, h4⟩ := hl.ex
  obtain ⟨w, h5, h6⟩ := hh.ex
  refine ⟨tSl (rSlL T.K) t u w, fun j => ?_, fun W σ s F st o ho Q q => ?_⟩
  · have k : SlR (X j) (rSlL (X j).K) := sl_list
    rw [hK j] at k
    exact pe_slice k (h1 j) (h3 j) (h5 j)
  · obtain ⟨ds, k1, ho⟩ := bind_some ho
    obtain ⟨lo, k2, ho⟩ := bind_some ho
    obtain ⟨hi, k3, ho⟩ := bind_some ho
    cases ho
    refine h2 W σ s F st ds k1 _ fun p vs W1 t1 sq l => ?_
    refine h4 W1 σ s F (st.step t1) lo k2 _ fun W2 t2 => ?_
    refine h6 W2 σ s F (st.step (t1.pure t2)) hi k3 _ fun W3 t3 => ?_
    refine ⟨p, vs, rfl, Sub.sqL (t2.pure t3).subH sq, fun a n => ?_⟩
    refine q (.ref a) (W3.lay a (.lst (cutV vs lo hi)) n) [a] (((t1.pure t2).pure t3).pure (W3.lay_step n)) (W3.newL n (RpL.cut (RpL.mono ((t2.pure t3).at m) ds vs l) lo hi)) (fun b hb => ?_) (by simp)
    have e : b = a := by simpa using hb
    rw [e]
    exact ((t1.pure t2).pure t3).back n
theorem XOk.inR {k : Nat} (o : XOk X T k) : ∀ j, OpR (X j) (compareOp .In) (rInD T.K) := fun j => by
  have h : OpR (X j) (compareOp .In) (rInD (X j).K) := op_inD (by have := (o.room j).un; omega)
  rw [o.K j] at h
  exact h
theorem XOk.ninR {k : Nat} (o : XOk X T k) : ∀ j, OpR (X j) (compareOp .NotIn) (rNotInD T.K) := fun j => by
  have h : OpR (X j) (compareOp .NotIn) (rNotInD (X j).K) := op_notInD (by have := (o.room j).un; omega)
  rw [o.K j] at h
  exact h
theorem XOk.neT {k : Nat} (o : XOk X T k) : ∀ j, OpR (X j) (compareOp .NotEq) rNeT := fun j => op_neT (o.room j).units
theorem XOk.u1 {k : Nat} (o : XOk X T k) : ∀ j, (X j).A.units + 1 < cLine := fun j => by
  have := (o.room j).un
  omega
end
/-- a def of the module that keeps its promise -/
structure CalP (P : Program) (w : PySem.World) (K : PySem.W.Frag) (mg : Str → Option Value) (base : Heap) (k : Nat) (x : Str) (ps : List Str) (sp : Sp) : Prop where
  ex : ∃ f fd, FnOk P w K mg base CX0 k f fd ps sp ∧ mg x = some (.ref f) ∧ PySem.W.keepIn K (.ref f) = true ∧ Binds K fd ps []
theorem bt_int : bootBuiltins "int" = some (.type "int") := by decide +kernel
theorem bt_bool : bootBuiltins "bool" = some (.type "bool") := by decide +kernel
theorem bt_str : bootBuiltins "str" = some (.type "str") := by decide +kernel
theorem bt_list : bootBuiltins "list" = some (.type "list") := by decide +kernel
theorem bt_tuple : bootBuiltins "tuple" = some (.type "tuple") := by decide +kernel
theorem bt_dict : bootBuiltins "dict" = some (.type "dict") := by decide +kernel
theorem bt_len : bootBuiltins "len" = some (.builtin "len") := by decide +kernel
theorem bt_abs : bootBuiltins "abs" = some (.builtin "abs") := by decide +kernel
theorem bt_sum : bootBuiltins "sum" = some (.builtin "sum") := by decide +kernel
theorem rpl_ints {T : Tab} {G : Hp} : ∀ ns : List Int, RpL T G (ns.map D.int) (ns.map V.int)
  | [] => rfl
  | n :: ns => ⟨_, _, rfl, rfl, rpl_ints ns⟩
theorem law_end {T : Tab} {g : List D → Option D} {H : Hp} {a : Addr} {ns : List Int} (hS : SqL T.K H a (ns.map V.int)) (h : g [.lst (ns.map D.int)] = some (.bl true)) : spP T [.p] g [.ref a] H (fun v _ => v = .bl true) fun _ _ _ => False :=
  ⟨⟨H, H, H, Sub.refl _, Sub.refl _, .non⟩, [.lst (ns.map D.int)], .bl true, rfl, ⟨_, [], _, [], rfl, rfl, ⟨a, _, rfl, hS, rpl_ints ns⟩, rfl, rfl⟩, h, fun v W' t r => r⟩
end My

set_option Elab.async false
set_option linter.all false
set_option maxRecDepth 100000
set_option maxHeartbeats 4000000
/-! M19: objects of own classes: a field read, a field set, an object made, a method called. -/
namespace My
open PySem PyProof.Rows L2

def putNs (f : Str) : List Str → List Str
  | [] => [f]
  | g :: r => if g = f then g :: r else g :: putNs f r
def putVs {α : Type} (f : Str) (x : α) : List Str → List α → List α
  | g :: r, v :: vs => if g = f then x :: vs else v :: putVs f x r vs
  | _, _ => [x]
theorem putF_zip {f : Str} {x : V} : ∀ {ns : List Str} {vs : List V}, ns.length = vs.length → putF f x (ns.zip vs) = (putNs f ns).zip (putVs f x ns vs)
  | [], [], _ => rfl
  | [], _ :: _, h => by cases h
  | _ :: _, [], h => by cases h
  | g :: r, v :: vs, h => by
    have ih := putF_zip (f := f) (x := x) (ns := r) (vs := vs) (by simpa using h)
    show (if g = f then (g, x) :: r.zip vs else (g, v) :: putF f x (r.zip vs)) = (if g = f then g :: r else g :: putNs f r).zip (if g = f then x :: vs else v :: putVs f x r vs)
    by_cases c : g = f
    · rw [if_pos c, if_pos c, if_pos c]
      rw [c]
      rfl
    · rw [if_neg c, if_neg c, if_neg c, ih]
      rfl
theorem put_len {f : Str} {α : Type} {x : α} : ∀ {ns : List Str} {vs : List α}, ns.length = vs.length → (putNs f ns).length = (putVs f x ns vs).length
  | [], [], _ => rfl
  | [], _ :: _, h => by cases h
  | _ :: _, [], h => by cases h
  | g :: r, v :: vs, h => by
    have ih := put_len (f := f) (x := x) (ns := r) (vs := vs) (by simpa using h)
    show (if g = f then g :: r else g :: putNs f r).length = (if g = f then x :: vs else v :: putVs f x r vs).length
    by_cases c : g = f
    · rw [if_pos c, if_pos c]
      simpa using h
    · rw [if_neg c, if_neg c]
      simpa using ih
section
variable {T : Tab} {G : Hp}
theorem RpL.putVs {f : Str} {d : D} {x : V} (rx : Rp T G d x) : ∀ {ns : List Str} {ds : List D} {vs : List V}, RpL T G ds vs → ns.length = vs.length → RpL T G (putVs f d ns ds) (putVs f x ns vs)
  | [], ds, vs, r, h => by
    have e : vs = [] := List.eq_nil_of_length_eq_zero h.symm
    subst e
    have e2 : ds = [] := List.eq_nil_of_length_eq_zero r.length
    subst e2
    exact RpL.one rx
  | g :: ns, [], vs, r, h => by
    have e : vs = [] := r
    subst e
    cases h
  | g :: ns, d0 :: ds, _, ⟨v, vs, rfl, q, k⟩, h => by
    show RpL T G (if g = f then d :: ds else d0 :: My.putVs f d ns ds) (if g = f then x :: vs else v :: My.putVs f x ns vs)
    by_cases c : g = f
    · rw [if_pos c, if_pos c]
      exact RpL.cons rx k
    · rw [if_neg c, if_neg c]
      exact RpL.cons q (RpL.putVs rx k (by simpa using h))
theorem RpL.lookup {f : Str} {d : D} : ∀ {ns : List Str} {ds : List D} {vs : List V}, RpL T G ds vs → ns.length = vs.length → (ns.zip ds).lookup f = some d → ∃ v, (ns.zip vs).lookup f = some v ∧ Rp T G d v
  | [], ds, vs, _, _, h => by cases h
  | g :: ns, [], vs, r, l, h => by cases h
  | g :: ns, d0 :: ds, _, ⟨v, vs, rfl, q, k⟩, l, h => by
    have e1 : ((g :: ns).zip (d0 :: ds)).lookup f = match f == g with | true => some d0 | false => (ns.zip ds).lookup f := rfl
    have e2 : ((g :: ns).zip (v :: vs)).lookup f = match f == g with | true => some v | false => (ns.zip vs).lookup f := rfl
    rw [e1] at h
    rw [e2]
    cases c : f == g with
    | true =>
      rw [c] at h
      cases h
      exact ⟨v, rfl, q⟩
    | false =>
      rw [c] at h
      exact RpL.lookup k (by simpa using l) h
theorem zip_no {f : Str} {α : Type} : ∀ {ns : List Str} {vs : List α}, f ∉ ns → (ns.zip vs).lookup f = none
  | [], _, _ => rfl
  | g :: ns, [], _ => rfl
  | g :: ns, v :: vs, h => by
    have e2 : ((g :: ns).zip (v :: vs)).lookup f = match f == g with | true => some v | false => (ns.zip vs).lookup f := rfl
    have c : (f == g) = false := by
      rw [beq_eq_false_iff_ne]
      exact fun z => h (by simp [z])
    rw [e2, c]
    exact zip_no fun z => h (by simp [z])
end
/-! ### a field read -/
def dFld (c0 : Nat) (f : Str) : D → Option D
  | .obj c ns ds => if c = c0 then (ns.zip ds).lookup f else none
  | _ => none
section
variable {ι : Type} {X : ι → Cx} {T : Tab} {me : List Md} {e o : Expr} {es : List Expr} {m m1 : Md} {ms cs : List Md} {f : List SV → Option D} {fs : List SV → Option (List D)} {pos p py apos : Pos} {k : Nat} {x y : Str} {ps : List Str} {c0 : Nat} {fld mn : Str}
theorem sp_fld {te : TE} (h : SP T me te m f) (c : Cls T.K (T.cls c0)) (na : NoAttr T.K (T.cls c0) fld) : SP T me (tFld T.K te fld) m (dUn (dFld c0 fld) f) := fun W σ s F st d hd Q q => by
  obtain ⟨d0, k1, k2⟩ := bind_some hd
  refine h W σ s F st d0 k1 _ fun v W1 t1 r1 => ?_
  unfold dFld at k2
  split at k2
  · rename_i c1 ns ds
    by_cases e : c1 = c0
    · rw [if_pos e] at k2
      subst e
      obtain ⟨a, dx, vs, rfl, ha, hl, r⟩ := r1
      obtain ⟨u, h1, h2⟩ := RpL.lookup r hl k2
      exact ⟨a, T.cls c1, dx, ns.zip vs, u, rfl, W1.atH m _ _ ha, c, na, h1, q u W1 t1 h2⟩
    · rw [if_neg e] at k2
      cases k2
  · cases k2
theorem fp_fld (c0 : Nat) (he : FP X T me e m f) (hK : ∀ j, (X j).K = T.K) (c : Cls T.K (T.cls c0)) (na : NoAttr T.K (T.cls c0) fld) (hb : ∀ j, attributeBase e fld (X j).env (eval e (X j).env) = eval e (X j).env := by intro _; rfl) : FP X T me (.Attribute e fld pos) m (dUn (dFld c0 fld) f) := by
  obtain ⟨t, h1, h2⟩ := he.ex
  refine ⟨tFld T.K t fld, fun j => ?_, sp_fld h2 c na⟩
  have := pe_fld (pos := pos) (f := fld) (h1 j) (hb j)
  rwa [hK j] at this
/-! ### a method of a known object -/
def dMeth (c0 : Nat) (mn : Str) (g : List D → Option D) (f : List SV → Option D) (fs : List SV → Option (List D)) (s : List SV) : Option D := (f s).bind fun d => (fs s).bind fun ds => match d with
  | .obj c ns vs => if c = c0 ∧ mn ∉ ns then g (.obj c ns vs :: ds) else none
  | _ => none
structure Met (X : Cx) (k : Nat) (C : Addr) (mn : Str) (ps : List Str) (sp : Sp) : Prop where
  ex : ∃ f fd, Meth X.K C mn f ∧ FnOk X.prog X.w X.K X.mg X.base CX0 k f fd ps sp ∧ Binds X.K fd ps []
theorem sp_meth {te : TE} {ta : TA} {g : List D → Option D} (h : SP T me te m f) (ha : SAm T me ta cs fs) (hc : callOk (m1 :: ms) (m :: cs) = true) : SP T me (tMeth (T.cls c0) mn (spP T (m1 :: ms) g) [] E0 te ta) .p (dMeth c0 mn g f fs) := fun W σ s F st d hd Q q => by
  obtain ⟨d0, k1, k2⟩ := bind_some hd
  obtain ⟨ds, k3, k4⟩ := bind_some k2
  refine h W σ s F st d0 k1 _ fun v W1 t1 r1 => ?_
  cases d0 with
  | obj c ns vs0 =>
    by_cases e : c = c0 ∧ mn ∉ ns
    · have k5 : (if c = c0 ∧ mn ∉ ns then g (.obj c ns vs0 :: ds) else none) = some d := k4
      rw [if_pos e] at k5
      clear k4
      obtain ⟨rfl, hn⟩ := e
      obtain ⟨a, dx, us, rfl, hA, hl, r⟩ := id r1
      refine ⟨a, dx, ns.zip us, rfl, W1.atH m _ _ hA, zip_no hn, ha W1 σ s F (st.step t1) ds k3 _ fun vs W2 t2 r2 => ?_⟩
      have r3 : ArgsR T W2 (m :: cs) (.obj c ns vs0 :: ds) (.ref a :: vs) := ⟨_, ds, .ref a, vs, rfl, rfl, Rp.mono (t2.at m) (.obj c ns vs0) (.ref a) r1, r2⟩
      refine ⟨W2.open, .obj c ns vs0 :: ds, d, rfl, by rw [List.append_nil]; exact r3.open hc, k5, fun v W3 t3 r4 => ?_⟩
      exact q v (W2.back W3 t3) ((t1.pure t2).pure (W2.back_step W3 t3)) r4
    · have k4 : (if c = c0 ∧ mn ∉ ns then g (.obj c ns vs0 :: ds) else none) = some d := k4
      rw [if_neg e] at k4
      cases k4
  | _ => cases k4
theorem fp_meth0 {g : List D → Option D} {pl : ι → Sem Bool} (c0 : Nat) (he : FP X T me o m f) (hK : ∀ j, (X j).K = T.K) (c : Cls T.K (T.cls c0)) (M : ∀ j, Met (X j) k (T.cls c0) mn ps (spP T [m1] g)) (hr : ∀ j, Room k (X j).A) (hc : callOk [m1] [m] = true := by rfl)
    (ht : ∀ j, eval (.Call (.Attribute o mn apos) [] [] pos) (X j).env = (do
      let ov ← eval o (X j).env
      standAt apos.atName
      let (f, first) ← holding [ov] (getMethod ov mn (pl j))
      callWith pos f first (backTo pos (starEach [] (X j).env)) (backToKw pos (keywordEach [] (X j).env))) := by intro _; rfl) : FP X T me (.Call (.Attribute o mn apos) [] [] pos) .p (dMeth c0 mn g f dNil) := by
  obtain ⟨t, h1, h2⟩ := he.ex
  refine ⟨tMeth (T.cls c0) mn (spP T [m1] g) [] E0 t tNil, fun j => ?_, sp_meth (cs := []) h2 (fun W σ s F st ds h Q q => by cases h; exact q [] W (Step.refl _ _) ⟨rfl, rfl⟩) hc⟩
  obtain ⟨f0, fd, m1, F, hb⟩ := (M j).ex
  exact pe_meth0 (h1 j) (by rw [hK j]; exact c) m1 F (hr j) hb .nil pass0 (ht j)
/-! ### a field set -/
def dSetFld (c0 i : Nat) (fld : Str) (fv : List SV → Option (D × List SV)) (s : List SV) : Option Out := (fv s).bind fun r => match r.2[i]? with
  | some (.own (.obj c ns ds)) => if c = c0 ∧ ns.length < 1000 then some (.nx (r.2.set i (.own (.obj c (putNs fld ns) (putVs fld r.1 ns ds))))) else none
  | _ => none
theorem ss_setFld {te : TE} {fv : List SV → Option (D × List SV)} {i : Nat} (h : SX T me te .p fv) (hm : me[i]? = some .p ∨ me[i]? = some .q) (c : Cls T.K (T.cls c0)) (na : NoAttr T.K (T.cls c0) fld) : SS T me (sFld T.K (tVar i) te fld) (dSetFld c0 i fld fv) := fun W σ s F st nd out ho N ok => by
  obtain ⟨⟨d, s1⟩, k1, ho⟩ := bind_some ho
  refine h W σ s F st nd d s1 k1 _ fun y W1 F1 t1 n1 st1 nd1 r1 => ?_
  have ho : (match s1[i]? with
    | some (.own (.obj c ns ds)) => if c = c0 ∧ ns.length < 1000 then some (Out.nx (s1.set i (.own (.obj c (putNs fld ns) (putVs fld d ns ds))))) else none
    | _ => none) = some out := ho
  split at ho
  · rename_i c1 ns ds e
    by_cases e2 : c1 = c0 ∧ ns.length < 1000
    · rw [if_pos e2] at ho
      cases ho
      obtain ⟨rfl, hlen⟩ := e2
      obtain ⟨m2, x, F2, A, C, g1, g2, g3, g4, ⟨v0, ev, ⟨a, dx, vs, ea, ef, hb, ha, hl, r⟩, hv0⟩, g6⟩ := st1.focus e
      subst ev ea ef g4
      have em : m2 = .p ∨ m2 = .q := hm.imp (fun z => (Option.some.inj (z.symm.trans g1)).symm) (fun z => (Option.some.inj (z.symm.trans g1)).symm)
      have hnd : a ∉ A ∧ a ∉ C := by
        rw [List.nodup_append] at nd1
        obtain ⟨_, n2, n3⟩ := nd1
        rw [List.cons_append, List.nodup_cons] at n2
        exact ⟨fun z => n3 a z a (by simp) rfl, fun z => n2.1 (by simpa using z)⟩
      refine ⟨.ref a, g3, a, T.cls c1, dx, ns.zip vs, rfl, ha, c, na, by rw [List.length_zip]; omega, ?_⟩
      rw [putF_zip hl]
      have rp : Rp T (W1.at m2) d y := by rcases em with z | z <;> (rw [z]; exact r1)
      have t2 : Step [a] W1 (W1.mut a (.ins (T.cls c1) dx ((putNs fld ns).zip (putVs fld y ns vs))) hb) := ⟨Sub.refl _, Sub.refl _, fun b o e hf => by
          show upd W1.H a _ b = some o
          rw [upd_ne (fun z => hf (by simp [z]))]
          exact e, fun b h => by
          show upd W1.H a _ b ≠ none
          unfold upd
          split
          · simp
          · exact h, fun _ _ _ e => e, fun _ _ _ e => e, rfl⟩
      have k := g6 (W1.mut a (.ins (T.cls c1) dx ((putNs fld ns).zip (putVs fld y ns vs))) hb) (some (.ref a)) (.own (.obj c1 (putNs fld ns) (putVs fld d ns ds))) [a] (Sub.refl _) (Sub.refl _) rfl (fun b hb2 u e => by
          show upd W1.H a _ b = some u
          rw [upd_ne (fun z => by
            subst z
            rcases List.mem_append.mp hb2 with q | q
            · exact hnd.1 q
            · exact hnd.2 q)]
          exact e) (fun _ _ e => e) ⟨.ref a, rfl, ⟨a, dx, putVs fld y ns vs, rfl, rfl, hb, upd_same, put_len hl, by
            have := RpL.putVs (f := fld) rp r hl
            rcases em with z | z <;> (subst z; exact this)⟩, hv0⟩
      rw [show σ.set i (some (V.ref a)) = σ from by
        apply List.ext_getElem?
        intro n
        by_cases hn : i = n
        · subst hn
          rw [g3, List.getElem?_set_self (List.getElem?_eq_some_iff.mp g3).1]
        · rw [List.getElem?_set_ne hn]] at k
      exact ok σ _ (A ++ ([a] ++ C)) (t1.trans n1 (t2.mono fun b hb => by
        have : b = a := by simpa using hb
        simp [this])) n1 k nd1
    · rw [if_neg e2] at ho
      cases ho
  · cases ho
theorem fs_setFld {v : Expr} {fv : List SV → Option (D × List SV)} {pos' opos : Pos} (c0 i : Nat) (hv : FX X T me v .p fv) (hK : ∀ j, (X j).K = T.K) (c : Cls T.K (T.cls c0)) (na : NoAttr T.K (T.cls c0) fld) (hm : me[i]? = some .p ∨ me[i]? = some .q := by first | exact .inl rfl | exact .inr rfl)
    (hN : ∀ j, (X j).N[i]? = some y := by intro _; rfl) (hvis : ∀ j, Vis (X j).env.scope y := by intro _; first | exact Or.inl rfl | exact Or.inr (Or.inl rfl) | exact Or.inr (Or.inr rfl)) (hd : (y == ("__debug__" : Str)) = false := by decide) (hcd : (y == ("__classdict__" : Str)) = false := by decide)
    (hs : ∀ j, swapsWith v (some (.Attribute (.Name y opos) fld pos')) pos.line (X j).env = pure false := by intro _; rfl) : FS X T me (.Assign [.Attribute (.Name y opos) fld pos'] v pos) (dSetFld c0 i fld fv) := by
  obtain ⟨t, h1, h2⟩ := hv.ex
  refine ⟨sFld T.K (tVar i) t fld, fun j => ?_, ss_setFld h2 hm c na⟩
  have := ps_fld (f := fld) (pe_var (hN j) (hvis j) hd hcd) (h1 j) (hs j)
  rwa [hK j] at this
/-! ### an object made -/
def outN : OD → OD → Option OD
  | .fz .non, o => some o
  | _, _ => none
def dMake (c0 : Nat) (g : OD → List D → Option (OD × OD)) (fs : List SV → Option (List D)) (s : List SV) : Option OD := (fs s).bind fun ds => (g (.obj c0 [] []) ds).bind fun r => outN r.1 r.2
structure Mak (X : Cx) (k : Nat) (x : Str) (C : Addr) (ps : List Str) (sp : Sp) : Prop where
  ex : ∃ f fd, Mk X.K C f ∧ FnOk X.prog X.w X.K X.mg X.base CX0 k f fd ps sp ∧ X.mg x = some (.ref C) ∧ Binds X.K fd ps []
theorem so_make {ta : TA} {g : OD → List D → Option (OD × OD)} (h : SAm T me ta cs fs) (hc : callOk ms cs = true) (hcb : cs.all (fun c => c.le .b) = true) : SO T me (tMake (T.cls c0) (spM T ms g) [] E0 ta) .p (dMake c0 g fs) := fun W σ s F st o hd Q q => by
  obtain ⟨ds, k1, hd⟩ := bind_some hd
  obtain ⟨⟨r, o'⟩, k2, hd⟩ := bind_some hd
  have hd : outN r o' = some o := hd
  unfold outN at hd
  split at hd
  · cases hd
    refine h W σ s F st ds k1 _ fun vs W1 t1 r1 => ?_
    intro x dx nx ndx hne
    have nx2 : upd W1.H dx (.own x) x = none := by rw [upd_ne (fun z => hne z.symm)]; exact nx
    have W2 : ∃ W2 : World, W2 = (W1.lay dx (.own x) ndx).lay x (.ins (T.cls c0) dx []) nx2 := ⟨_, rfl⟩
    obtain ⟨W2, hW2⟩ := W2
    have t2 : Step [] W1 W2 := by
      rw [hW2]
      exact (W1.lay_step ndx).pure ((W1.lay dx (.own x) ndx).lay_step nx2)
    have hH : W2.H = upd (upd W1.H dx (.own x)) x (.ins (T.cls c0) dx []) := by rw [hW2]; rfl
    have hBx : W2.B x = none := by rw [hW2]; exact W1.freshB nx
    have hB : ∀ a ∈ [x], W2.B a = none := fun a ha => by
      have : a = x := by simpa using ha
      rw [this]
      exact hBx
    have ro : RpO T .p (W2.openM [x] hB) (.obj c0 [] []) (.ref x) [x] := ⟨x, dx, [], rfl, rfl, if_pos (by simp), by
      show W2.H x = _
      rw [hH]
      exact upd_same, rfl, rfl⟩
    refine ⟨W2.openM [x] hB, .obj c0 [] [], [x], .ref x, vs ++ [], ds, .fz .non, o, rfl, hH, ro, by simp, by rw [List.append_nil]; exact (r1.step t2).openM hc hcb, k2, fun v W4 F' Fr t4 n4 r4 r5 nd => ?_⟩
    obtain ⟨e1, e2⟩ := r5
    subst e1
    have e2 : v = .non := e2
    have n4' : ∀ a ∈ F', a ∈ [x] ∨ W2.H a = none := fun a ha => n4 a (by simp [ha])
    have tb := W2.backM_step [x] hB W4 t4
    have t12 := t1.pure t2
    refine ⟨e2, q (.ref x) (W2.backM [x] hB W4 t4) F' (t12.trans (fun a ha => by
        have : a = x := by simpa using ha
        rw [this]
        exact .inr (t1.back nx)) tb) (r4.backM t4 n4') (fun a ha => ?_) (by simpa using nd)⟩
    rcases n4' a ha with z | z
    · have : a = x := by simpa using z
      rw [this]
      exact t1.back nx
    · exact t12.back z
  · cases hd
theorem fo_make {g : OD → List D → Option (OD × OD)} (c0 : Nat) (C : ∀ j, Mak (X j) k x (T.cls c0) ps (spM T ms g)) (hr : ∀ j, Room (k + 1) (X j).A) (ha : FAm X T me (e :: es) cs fs) (hc : callOk ms cs = true := by rfl) (hcb : cs.all (fun c => c.le .b) = true := by rfl) (hg : ∀ j, Gl (X j) x := by intro _; rfl) (hdb : (x == ("__debug__" : Str)) = false := by decide)
    (he : ∀ j, starEach (e :: es) (X j).env = (false, eval e (X j).env) :: starEach es (X j).env := by intro _; rfl) (hpl : ∀ j, (backTo pos (starEach es (X j).env)).any (·.1) = false := by intro _; rfl) : FO X T me (.Call (.Name x p) (e :: es) [] pos) .p (dMake c0 g fs) := by
  obtain ⟨t, h1, h2⟩ := ha.ex
  refine ⟨_, fun j => ?_, so_make (c0 := c0) h2 hc hcb⟩
  obtain ⟨f0, fd, M, F, hm, hb⟩ := (C j).ex
  exact pe_make M F (hr j) (hg j) hm hb .nil pass0 (h1 j) hdb (he j) (hpl j)
end
end My

set_option Elab.async false
set_option linter.all false
set_option maxRecDepth 100000
set_option maxHeartbeats 4000000
/-! M20: enumerate of a tuple. -/
namespace PySem
open Sem (wp)
set_option maxHeartbeats 1000000 in
theorem meets_enumT {v : Value} {o : Obj} {Hc : Heap → Prop} (Bv : Begins v o Hc) : Meets (Builtin.«enumerate.__new__» ⟨[.type "enumerate", v], []⟩) (fun _ R s => Hc s.heap ∧ R (.ok (.ret (.ref (s.heap.push o).objs.size))) { s with heap := (s.heap.push o).push { cls := .type "enumerate", data := .fields #[.none, .bool false, .ref s.heap.objs.size, rawInt 0, .none, .none] } }) :=
  .of_wp fun pr wo Ar R0 sh hh => by
    obtain ⟨hp, gg, dd, tk, ost⟩ := sh
    obtain ⟨h1, hh⟩ := hh
    have hsb := sub_enumerate
    have qq : ∀ {A' : Around} {E : Value → Shared → Prop} {Q : Value → Shared → Prop}, Q (.ref hp.objs.size) ⟨hp.push o, gg, dd, tk, ost⟩ → wpAny (model pr wo) A' (pyIter v) Q E ⟨hp, gg, dd, tk, ost⟩ := fun z => Bv.iter pr wo _ _ ⟨hp, gg, dd, tk, ost⟩ _ h1 z
    wp_walk using qq
    refine wpAny_stack_any fun st => wpAny_pure ?_
    split
    · rename_i c0 _ _ _ _ _
      cases (c0 == Value.type "enumerate")
      · wp_walk using qq
        exact ⟨_, rfl, hh⟩
      · wp_walk using qq
        exact ⟨_, rfl, hh⟩
    · wp_walk using qq
      exact ⟨_, rfl, hh⟩
theorem enum_begins1 {prog : Program} {w : World} {A : Around} {E : Value → Shared → Prop} {s : Shared} {v : Value} {o : Obj} {Hc : Heap → Prop} {Q : Value → Shared → Prop} (Bv : Begins v o Hc) (h1 : Hc s.heap)
    (hq : ∀ h', IsEnum h' (s.heap.objs.size + 1) s.heap.objs.size 0 .none → h'.get? s.heap.objs.size = some o → h'.objs.size = s.heap.objs.size + 2 → (∀ b u, s.heap.get? b = some u → h'.get? b = some u) → Q (.ref (s.heap.objs.size + 1)) { s with heap := h' }) :
    wpAny (model prog w) A (call (.type "enumerate") [v]) Q E s := by
  refine callType_new F.called_enumerate (by decide) (F.typeCall_enumerate_1 _) (F.newCall_enumerate_1 _) (fun ob => F.args_object_init_2 ob _) F.entry_enumerate_new (meets_enumT Bv) ⟨h1, ?_⟩
  have hsz : (s.heap.push o).objs.size = s.heap.objs.size + 1 := Heap.size_push ..
  show _ ∧ _
  rw [hsz]
  have hE : IsEnum ((s.heap.push o).push { cls := .type "enumerate", data := .fields #[.none, .bool false, .ref s.heap.objs.size, rawInt 0, .none, .none] }) (s.heap.objs.size + 1) s.heap.objs.size 0 .none := by
    have z := Heap.get?_push_size (s.heap.push o) (o := { cls := .type "enumerate", data := .fields #[.none, .bool false, .ref s.heap.objs.size, rawInt 0, .none, .none] }) rfl
    rw [hsz] at z
    exact z
  exact ⟨⟨_, hE, rfl⟩, hq _ hE (Heap.get?_push_of_some _ (Heap.get?_push_size _ Bv.free)) (by rw [Heap.size_push, hsz]) fun b u x => Heap.get?_push_of_some _ (Heap.get?_push_of_some _ x)⟩
theorem enum_endT {prog : Program} {w : World} {A : Around} {E : Value → Shared → Prop} {s : Shared} {e it t : Addr} {items : Array Value} {j : Nat} {i : Int} {old : Value} {Q : Option Value → Shared → Prop} (hh : A.in1.handled = none) (he : IsEnum s.heap e it i old) (h1 : s.heap.IsTupleIter it t j) (h2 : s.heap.IsTuple t items) (hx : items[j]? = none)
    (hQ : ∀ h', Heap.ExtBut it s.heap h' → Q none { s with heap := h' }) : wpAny (model prog w) A (pyNext (.ref e)) Q E s := by
  have hty : s.TypeIs (.ref e) "enumerate" := ⟨_, he, rfl⟩
  unfold pyNext
  refine wpAny_bind (wpAny_attempt (wpAny_callSpecial?_slot (name := Str.ofString "__next__") hty F.slot_enumerate_next (wpAny_call_entry F.slot_enumerate_next hty F.entry_enumerate_next ?_ (F.args_enumerate_next_1 _))))
  show wpAny _ _ (field (.ref e) 2 >>= _) _ _ _
  refine wpAny_bind (wpAny_field he rfl (x := .ref it) rfl (wpAny_bind (wpAny_nextOf_tuple_end hh h1 h2 hx fun h' x he' hx' => ?_)))
  obtain ⟨ob, ho, hc⟩ := hx'
  exact wpAny_bind (wpAny_isInstance (T := "StopIteration") (b := true) ⟨ob, ho, hc⟩ isSubtype_stop (wpAny_pure (hQ _ he')))
end PySem
namespace My
open PySem PySem.Spec PyProof.Rows L2
/-- the tuple at a, each item in a new pair -/
def IttE (K : PySem.W.Frag) (a : Addr) : It :=
  ⟨fun i H => ∃ (xs : List V) (x : V), SqT K H a xs ∧ xs[i]? = some x, fun i H v H' => ∃ p x, v = .ref p ∧ H p = none ∧ H' = upd H p (.tup [.int (i : Nat), x]) ∧ ∀ xs, SqT K H a xs → xs[i]? = some x, fun i H => ∃ xs : List V, SqT K H a xs ∧ xs.length ≤ i⟩
theorem turn_enumT {P : Program} {w : PySem.World} {K : PySem.W.Frag} {elts : List Expr} {kk : Nat} {tpos : Pos} (a e it : Addr) :
    Turn P w K (.Tuple elts kk tpos) (IttE K a) [e, it] e (fun i h => (∃ old, IsEnum h e it ((i : Nat) : Int) old) ∧ h.IsTupleIter it a i ∧ e ≠ it ∧ e ≠ a ∧ a ≠ it) where
  mem := by simp
  obj := fun i h st b hb => by
    obtain ⟨⟨old, he⟩, ⟨o, ho, hc, hd⟩, _⟩ := st
    rcases (show b = e ∨ b = it by simpa using hb) with z | z
    · subst z
      exact ⟨_, he, fun v q => nomatch q⟩
    · subst z
      exact ⟨o, ho, fun v q => by rw [hd] at q; cases q⟩
  keep := fun i h h' st k => let ⟨⟨old, he⟩, hi, hne, h2⟩ := st; ⟨⟨old, k e (by simp) _ he⟩, hi.at fun o q => k it (by simp) o q, hne, h2⟩
  item := by
    intro X hP hw hK hc i pins s σ H E I hf st hg
    subst hP hw hK
    obtain ⟨⟨old, he⟩, hit, hne, hea, hai⟩ := st
    obtain ⟨xs, x, hq, hx⟩ := hg
    obtain ⟨its, rv, p, hz⟩ := I.tuple hq
    obtain ⟨u, hu, ru⟩ := rv.get hx
    have hel : e < s.heap.objs.size := Heap.lt_size he
    have hil : it < s.heap.objs.size := by obtain ⟨_, q, _⟩ := hit; exact Heap.lt_size q
    have hli : i < its.toArray.size := by
      have := (List.getElem?_eq_some_iff.mp hu).1
      simpa using this
    have D := PySem.Draws.tuple (prog := X.prog) (w := X.w) (A := X.A.in1) (show X.A.in1.handled = none from I.ok.hd hc) it a hai its.toArray
    refine wpAny_pyNext_enum_itemD D he ⟨hit, show s.heap.IsTuple a its.toArray from p⟩ hli hne (by simp [hne, hea]) fun y h' tk hy ho hst hT hsz hk => ?_
    have ey : y = u := by
      have h1 : its.toArray[i]? = some y := hy
      have h2 : its.toArray[i]? = some u := by simpa using hu
      rw [h1] at h2
      exact Option.some.inj h2
    subst ey
    refine ⟨_, rfl, wpAny_letOwnedTupleGo_enum (s := { s with heap := h', toks := tk + 1 }) ho fun h'' he' sb => ?_⟩
    have hT2 : h''.get? s.heap.objs.size = some { cls := .type "tuple", data := .seq #[.int i tk, y] } := (sb.2 _ (Nat.ne_of_gt hel)).trans hT
    have new : ObjOk X.prog X.w (upd H s.heap.objs.size (.tup [.int (i : Nat), x])) h'' s.heap.objs.size (.tup [.int (i : Nat), x]) := ⟨by show 2 ≤ sizeLine; decide, [.int i tk, y], .cons ⟨_, rfl⟩ (.cons ru .nil), ⟨_, hT2, rfl, _, rfl⟩⟩
    have I1 : Inv X pins σ (upd H s.heap.objs.size (.tup [.int (i : Nat), x])) { s with heap := h'', toks := tk + 1 } :=
      I.turnedNew (ch := [e, it]) (fun b ob hb q => (sb.2 b (fun z => hb (by simp [z]))).trans (hk b ob (fun z => hb (by simp [z])) (fun z => hb (by simp [z])) q)) hf (Nat.le_refl _) new
    refine ⟨.ref s.heap.objs.size, _, I1, rfl, ⟨_, x, rfl, I.hok.fresh (Nat.le_refl _), rfl, fun ys hy => by rw [I.tuple_inj hy hq]; exact hx⟩, ⟨⟨y, ?_⟩, hst.1.at fun o q => (sb.2 it (Ne.symm hne)).trans q, hne, hea, hai⟩, fun b hb => ?_⟩
    · rw [show ((i + 1 : Nat) : Int) = (i : Int) + 1 by omega]
      exact he'
    · have hb' : b < s.heap.objs.size := by
        rcases (show b = e ∨ b = it by simpa using hb) with z | z
        · rw [z]; exact hel
        · rw [z]; exact hil
      rw [upd_ne (Nat.ne_of_lt hb')]
      exact (hf b hb).1
  done := by
    intro X hP hw hK hc i pins s σ H E I hf st hg
    subst hP hw hK
    obtain ⟨⟨old, he⟩, hit, hne, hea, hai⟩ := st
    obtain ⟨xs, hq, hx⟩ := hg
    obtain ⟨its, rv, p, hz⟩ := I.tuple hq
    obtain ⟨f0, f1, f2, f3, f4, f5⟩ := hf it (by simp)
    have hl := rv.length
    exact PySem.enum_endT (show X.A.in1.handled = none from I.ok.hd hc) he hit (show s.heap.IsTuple a its.toArray from p) (by simp; omega) fun h' eb => ⟨rfl, I.turned (t' := s.toks) (fun b o hb q => eb b o hb q) f0 f1 f3 f4 f5⟩
  self := fun A i s Q E st h => let ⟨⟨_, he⟩, _⟩ := st; wpAny_pyIter_enum he h
def iEnumT (K : PySem.W.Frag) (ta : TA) : TI := fun σ H R => ta σ H fun vs H1 => ∃ a xs, vs = [.ref a] ∧ SqT K H1 a xs ∧ R (IttE K a) H1
theorem pi_enumT {X : Cx} {e : Expr} {ta : TA} {p pos tpos : Pos} {elts : List Expr} {kk : Nat} (hg : Gl X "enumerate") (hm : X.mg "enumerate" = none) (ha : PA X [e] ta) (hs : starEach [e] X.env = [(false, eval e X.env)] := by rfl) : PI X (.Tuple elts kk tpos) (.Call (.Name "enumerate" p) [e] [] pos) (iEnumT X.K ta) := by
  refine ⟨fun pins s σ H R I h => Call_ (ld_blt I hg hm boot_enumerate (PyProof.Rows.callWith_type1 (thn (ha.run pos pins s σ H _ I h) fun us s1 ⟨vs, H1, I1, r1, q1⟩ => ?_) hs rfl))⟩
  obtain ⟨a, xs, ex, hq, q⟩ := q1
  subst ex
  cases r1 with
  | cons r rr =>
    cases rr
    cases r
    obtain ⟨its, rv, p', hz⟩ := I1.tuple hq
    have hT : s1.heap.IsTuple a its.toArray := p'
    refine PySem.enum_begins1 (PySem.begins_tuple a its.toArray) hT fun h' he hit hsz hk => wpAny_pyIter_enum he ?_
    have I2 : Inv X pins σ H1 { s1 with heap := h' } := I1.kept (t' := s1.toks) hk
    have hal : a < s1.heap.objs.size := by
      obtain ⟨o, ho, _⟩ := hT
      exact Heap.lt_size ho
    refine ⟨s1.heap.objs.size + 1, [s1.heap.objs.size + 1, s1.heap.objs.size], _, _, H1, rfl, I2, turn_enumT a (s1.heap.objs.size + 1) s1.heap.objs.size, ⟨⟨.none, he⟩, ⟨_, hit, rfl, rfl⟩, Nat.succ_ne_self _, Nat.ne_of_gt (Nat.lt_succ_of_lt hal), Nat.ne_of_lt hal⟩, fun b hb => ?_, q⟩
    have hle : s1.heap.objs.size ≤ b := by
      rcases (show b = s1.heap.objs.size + 1 ∨ b = s1.heap.objs.size by simpa using hb) with z | z
      · rw [z]; exact Nat.le_add_right ..
      · rw [z]; exact Nat.le_refl ..
    exact I1.fpOk hle (I1.hok.fresh hle)
/-! ### enumerate, by data -/
def enumD : Nat → List D → List D
  | _, [] => []
  | k, d :: ds => .tup [.int (k : Int), d] :: enumD (k + 1) ds
theorem enumD_len : ∀ (k : Nat) (ds : List D), (enumD k ds).length = ds.length
  | _, [] => rfl
  | k, d :: ds => by
    show (enumD (k + 1) ds).length + 1 = ds.length + 1
    rw [enumD_len]
theorem enumD_get : ∀ {k : Nat} {ds : List D} {i : Nat} {d : D}, ds[i]? = some d → (enumD k ds)[i]? = some (.tup [.int ((k + i : Nat) : Int), d])
  | k, [], i, d, h => by simp at h
  | k, d0 :: ds, 0, d, h => by
    have e : d0 = d := by simpa using h
    rw [e]
    rfl
  | k, d0 :: ds, i + 1, d, h => by
    have := enumD_get (k := k + 1) (i := i) (ds := ds) (d := d) (by simpa using h)
    rw [show k + 1 + i = k + (i + 1) by omega] at this
    exact this
theorem it_enum {T : Tab} {m : Md} {W : World} {a : Addr} {vs : List V} {ds : List D} (hq : SqL T.K (W.at m) a vs) (r : RpL T (W.at m) ds vs) : ItOk T m m (Ite T.K a) (enumD 0 ds) W where
  go := fun W2 i hs hi => by
    rw [enumD_len] at hi
    obtain ⟨v, h1, _⟩ := r.get (List.getElem?_eq_getElem hi)
    exact ⟨vs, v, (W2.atH m).sqL (hs.sqL hq), h1⟩
  yld := fun W2 i x H' hs hi y => by
    obtain ⟨p, u, e1, np, e2, y⟩ := y
    have h1 := y vs ((W2.atH m).sqL (hs.sqL hq))
    obtain ⟨d, h2, h3⟩ := r.getV h1
    subst e1 e2
    refine ⟨(W2.lay p (.tup [.int (i : Nat), u]) np).know m [p], .tup [.int (i : Int), d], W2.newT_step np, rfl, by rw [enumD_get h2, Nat.zero_add], W2.newT np ?_⟩
    exact RpL.cons rfl (RpL.one (Rp.mono hs d u h3))
  stop := fun W2 i hs hi => ⟨vs, (W2.atH m).sqL (hs.sqL hq), by rw [enumD_len] at hi; rw [← r.length]; exact hi⟩
theorem it_enumT {T : Tab} {m : Md} {W : World} {a : Addr} {vs : List V} {ds : List D} (hq : SqT T.K (W.at m) a vs) (r : RpL T (W.at m) ds vs) : ItOk T m m (IttE T.K a) (enumD 0 ds) W where
  go := fun W2 i hs hi => by
    rw [enumD_len] at hi
    obtain ⟨v, h1, _⟩ := r.get (List.getElem?_eq_getElem hi)
    exact ⟨vs, v, (W2.atH m).sqT (hs.sqT hq), h1⟩
  yld := fun W2 i x H' hs hi y => by
    obtain ⟨p, u, e1, np, e2, y⟩ := y
    have h1 := y vs ((W2.atH m).sqT (hs.sqT hq))
    obtain ⟨d, h2, h3⟩ := r.getV h1
    subst e1 e2
    refine ⟨(W2.lay p (.tup [.int (i : Nat), u]) np).know m [p], .tup [.int (i : Int), d], W2.newT_step np, rfl, by rw [enumD_get h2, Nat.zero_add], W2.newT np ?_⟩
    exact RpL.cons rfl (RpL.one (Rp.mono hs d u h3))
  stop := fun W2 i hs hi => ⟨vs, (W2.atH m).sqT (hs.sqT hq), by rw [enumD_len] at hi; rw [← r.length]; exact hi⟩
def dEnum (f : List SV → Option D) (s : List SV) : Option (List D) := (f s).bind fun d => match d with
  | .lst ds => some (enumD 0 ds)
  | _ => none
def dEnumT (f : List SV → Option D) (s : List SV) : Option (List D) := (f s).bind fun d => match d with
  | .tup ds => some (enumD 0 ds)
  | _ => none
section
variable {ι : Type} {X : ι → Cx} {T : Tab} {me : List Md} {e : Expr} {m : Md} {f : List SV → Option D} {p pos tpos : Pos} {elts : List Expr} {kk : Nat}
theorem fi_enum (hK : ∀ j, (X j).K = T.K) (hg : ∀ j, Gl (X j) "enumerate") (hm : ∀ j, (X j).mg "enumerate" = none) (he : FP X T me e m f) (hs : ∀ j, starEach [e] (X j).env = (false, eval e (X j).env) :: starEach [] (X j).env := by intro _; rfl) : FI X T me (.Tuple elts kk tpos) (.Call (.Name "enumerate" p) [e] [] pos) m m (dEnum f) := by
  obtain ⟨t, h1, h2⟩ := he.ex
  refine ⟨iEnum T.K (tCons t tNil), fun j => ?_, fun W σ s F st ds hd R q => ?_⟩
  · have := pi_enum (elts := elts) (kk := kk) (tpos := tpos) (p := p) (pos := pos) (hg j) (hm j) (pa_cons (h1 j) pa_nil (hs j)) (hs j)
    rwa [hK j] at this
  · obtain ⟨d, k1, k2⟩ := bind_some hd
    refine h2 W σ s F st d k1 _ fun v W1 t1 r1 => ?_
    cases d with
    | lst es =>
      cases k2
      obtain ⟨a, vs, rfl, hq, r⟩ := r1
      exact ⟨a, vs, rfl, (W1.atH m).sqL hq, q _ W1 t1 (it_enum hq r)⟩
    | _ => cases k2
theorem fi_enumT (hK : ∀ j, (X j).K = T.K) (hg : ∀ j, Gl (X j) "enumerate") (hm : ∀ j, (X j).mg "enumerate" = none) (he : FP X T me e m f) (hs : ∀ j, starEach [e] (X j).env = (false, eval e (X j).env) :: starEach [] (X j).env := by intro _; rfl) : FI X T me (.Tuple elts kk tpos) (.Call (.Name "enumerate" p) [e] [] pos) m m (dEnumT f) := by
  obtain ⟨t, h1, h2⟩ := he.ex
  refine ⟨iEnumT T.K (tCons t tNil), fun j => ?_, fun W σ s F st ds hd R q => ?_⟩
  · have := pi_enumT (elts := elts) (kk := kk) (tpos := tpos) (p := p) (pos := pos) (hg j) (hm j) (pa_cons (h1 j) pa_nil (hs j)) (hs j)
    rwa [hK j] at this
  · obtain ⟨d, k1, k2⟩ := bind_some hd
    refine h2 W σ s F st d k1 _ fun v W1 t1 r1 => ?_
    cases d with
    | tup es =>
      cases k2
      obtain ⟨a, vs, rfl, hq, r⟩ := r1
      exact ⟨a, vs, rfl, (W1.atH m).sqT hq, q _ W1 t1 (it_enumT hq r)⟩
    | _ => cases k2
end
end My

set_option Elab.async false
set_option linter.all false
set_option maxRecDepth 100000
set_option maxHeartbeats 4000000
/-! M21: targets of several names; comprehensions with two fors. -/
namespace My
open PySem PyProof.Rows L2

def bsGo : List (D → List SV → Option (List SV)) → List D → List SV → Option (List SV)
  | [], [], s => some s
  | b :: bs, d :: ds, s => (b d s).bind fun s1 => bsGo bs ds s1
  | _, _, _ => none
def bTup (bs : List (D → List SV → Option (List SV))) (d : D) (s : List SV) : Option (List SV) := match d with
  | .tup ds => if ds.length = bs.length then bsGo bs ds s else none
  | _ => none
def SGs (T : Tab) (me : List Md) (g : TGs) (m : Md) (vs : List Nat) (bs : List (D → List SV → Option (List SV))) : Prop :=
  ∀ (W : World) (σ : List (Option V)) (s : List SV) (F : List Addr) (xs : List V) (ds : List D) (s' : List SV), St T W me σ s F → RpL T (W.at m) ds xs → bsGo bs ds s = some s' → ∀ Q : List (Option V) → Hp → Prop,
    (∀ σ' W' F', Step [] W W' → St T W' me σ' s' F' → (∀ a ∈ F', a ∈ F) → (F.Nodup → F'.Nodup) → wipe σ' vs = wipe σ vs → Q σ' W'.H) → g xs σ W.H Q
structure FGs {ι : Type} (X : ι → Cx) (T : Tab) (me : List Md) (es : List Expr) (m : Md) (vs : List Nat) (bs : List (D → List SV → Option (List SV))) : Prop where
  ex : ∃ g, (∀ j, PGs (X j) es g) ∧ SGs T me g m vs bs
section
variable {ι : Type} {X : ι → Cx} {T : Tab} {me : List Md} {e : Expr} {es : List Expr} {m : Md} {vs : List Nat} {b : D → List SV → Option (List SV)} {bs : List (D → List SV → Option (List SV))} {pos : Pos} {k : Nat}
theorem fgs_nil : FGs X T me [] m vs [] := ⟨gNil, fun _ => pgs_nil, fun W σ s F xs ds s' st r hb Q q => by
  cases ds with
  | nil =>
    cases hb
    have e : xs = [] := r
    exact ⟨e, q σ W F (Step.refl _ _) st (fun _ z => z) id rfl⟩
  | cons d ds => cases hb⟩
theorem fgs_cons (h : FG X T me e m vs b) (k : FGs X T me es m vs bs) (hs : ∀ j, (assignEach (e :: es) (X j).env).map (·.2) = assign e (X j).env :: (assignEach es (X j).env).map (·.2) := by intro _; rfl) : FGs X T me (e :: es) m vs (b :: bs) := by
  obtain ⟨t, h1, h2⟩ := h.ex
  obtain ⟨u, h3, h4⟩ := k.ex
  refine ⟨gCons t u, fun j => pgs_cons (h1 j) (h3 j) (hs j), fun W σ s F xs ds s' st r hb Q q => ?_⟩
  cases ds with
  | nil => cases hb
  | cons d ds =>
    obtain ⟨s1, k1, k2⟩ := bind_some hb
    obtain ⟨v, vr, rfl, rd, rr⟩ := r
    refine ⟨v, vr, rfl, h2 W σ s F v d s1 st rd k1 _ fun σ1 W1 F1 t1 st1 sub1 nd1 w1 => ?_⟩
    refine h4 W1 σ1 s1 F1 vr ds s' st1 (RpL.mono (t1.at m) ds vr rr) k2 _ fun σ2 W2 F2 t2 st2 sub2 nd2 w2 => ?_
    exact q σ2 W2 F2 (t1.pure t2) st2 (fun a ha => sub1 a (sub2 a ha)) (fun z => nd2 (nd1 z)) (w2.trans w1)
theorem fg_tup (hc : ∀ j, (X j).calm = true) (hK : ∀ j, (X j).K = T.K) (h : FGs X T me es m vs bs) (hn : ∀ j, (assignEach es (X j).env).length = bs.length := by intro _; rfl) (hst : ∀ j, (assignEach es (X j).env).findIdx? (·.1) = none := by intro _; rfl) : FG X T me (.Tuple es k pos) m vs (bTup bs) := by
  obtain ⟨t, h1, h2⟩ := h.ex
  refine ⟨gTup T.K bs.length t, fun j => ?_, fun W σ s F x d s' st r hb Q q => ?_⟩
  · have := pg_tup (k := k) (pos := pos) (hc j) (h1 j) (hn j) (hst j)
    rwa [hK j] at this
  · cases d with
    | tup ds =>
      have hb : (if ds.length = bs.length then bsGo bs ds s else none) = some s' := hb
      by_cases c : ds.length = bs.length
      · rw [if_pos c] at hb
        obtain ⟨a, xs, rfl, hq, r2⟩ := r
        exact ⟨a, xs, rfl, (W.atH m).sqT hq, by rw [← r2.length, c], h2 W σ s F xs ds s' st r2 hb Q q⟩
      · rw [if_neg c] at hb
        cases hb
    | _ => cases hb
end
/-! ### [.. for .. in .. for .. in ..] -/
def lc2In (vs1 : List Nat) (fi1 : List SV → Option (List D)) (bind1 : D → List SV → Option (List SV)) (p1 : List SV → Option Bool) (fe : List SV → Option D) (s : List SV) : Option (List D) := (fi1 s).bind fun es => lcGo (wipeS s vs1) bind1 p1 fe es
def lc2Go (s : List SV) (bind : D → List SV → Option (List SV)) (p : List SV → Option Bool) (inn : List SV → Option (List D)) : List D → Option (List D)
  | [] => some []
  | d :: ds => (bind d s).bind fun s1 => (p s1).bind fun b => if b then (inn s1).bind fun ys => (lc2Go s bind p inn ds).map (ys ++ ·) else lc2Go s bind p inn ds
def dLc2 (fi : List SV → Option (List D)) (vs : List Nat) (bind : D → List SV → Option (List SV)) (p : List SV → Option Bool) (vs1 : List Nat) (fi1 : List SV → Option (List D)) (bind1 : D → List SV → Option (List SV)) (p1 : List SV → Option Bool) (fe : List SV → Option D) (s : List SV) : Option OD :=
  (fi s).bind fun ds => (lc2Go (wipeS s vs) bind p (lc2In vs1 fi1 bind1 p1 fe) ds).bind fun ys => if ys.length ≤ sizeLine then some (oL ys) else none
theorem World.mut_stepD {W1 W6 : World} {Dl : Addr} {o : HO} (t : Step [] W1 W6) (hD : W1.H Dl = none) (nB : W6.B Dl = none) : Step [] W1 (W6.mut Dl o nB) := ⟨t.g, t.b, fun a u e _ => by
  show upd W6.H Dl _ a = some u
  rw [upd_ne (ne_of_none e hD)]
  exact t.h a u e (by simp), fun a h => by
  show upd W6.H Dl _ a ≠ none
  unfold upd
  split
  · simp
  · exact t.dom a h, t.nb, t.ng, t.pin⟩
theorem World.mut_at {W : World} {p : Addr} {o : HO} {n : W.B p = none} {m : Md} (h : m ≠ .h) : (W.mut p o n).at m = W.at m := by
  cases m with
  | h => exact absurd rfl h
  | _ => rfl
section
variable {ι : Type} {X : ι → Cx} {T : Tab} {me : List Md} {tg iter elt tg1 iter1 : Expr} {ifs ifs1 : List Expr} {ms m ms1 m1 m2 : Md} {scope : Scope} {own : List (Str × Nat)} {pos : Pos} {fi fi1 : List SV → Option (List D)} {bind bind1 : D → List SV → Option (List SV)} {p p1 : List SV → Option Bool} {fe : List SV → Option D} {vs1 : List Nat}
theorem so_lc2 {wi wi1 : TI} {g g1 : TG} {tt tt1 : TT} {te : TE} {vs : List Nat} (hi : SI0 T me wi m fi) (hg : SG T me g m vs bind) (ht : SB T me tt p) (hi1 : SI T me wi1 ms1 m1 fi1) (hg1 : SG T me g1 m1 vs1 bind1) (ht1 : SB T me tt1 p1) (he : SP T me te m2 fe) (hm : m2 ≠ .h) (hms1 : ms1 ≠ .h) (hq : ∀ v ∈ vs, me[v]? ≠ some .q) (hq1 : ∀ v ∈ vs1, me[v]? ≠ some .q) :
    SO T me (tLc2 wi g tt wi1 g1 tt1 te vs vs1) m2 (dLc2 fi vs bind p vs1 fi1 bind1 p1 fe) := fun W σ s F st o ho Q q => by
  obtain ⟨ds, k1, ho⟩ := bind_some ho
  obtain ⟨ys, k2, ho⟩ := bind_some ho
  by_cases c : ys.length ≤ sizeLine
  · rw [if_pos c] at ho
    cases ho
    refine hi W σ s F st ds k1 _ fun J W1 t1 it => ?_
    intro Dl hD
    obtain ⟨F0, st0, sub0, _⟩ := st_wipes (st.step t1) vs hq
    refine ⟨fun i n H => ∃ (W2 : World) (done rest : List D) (acc : List V), H = W2.H ∧ n = ds.length - i ∧ i ≤ ds.length ∧ Step [] W1 W2 ∧ W2.H Dl = some (.lst acc) ∧ W2.B Dl = none ∧ RpL T (W2.at m2) done acc ∧
      lc2Go (wipeS s vs) bind p (lc2In vs1 fi1 bind1 p1 fe) (ds.drop i) = some rest ∧ done ++ rest = ys, ⟨ds.length, W1.lay Dl (.lst []) hD, [], ys, [], rfl, by simp, Nat.zero_le _, W1.lay_step hD, upd_same, W1.freshB hD, rfl, by simpa using k2, rfl⟩, ?_⟩
    rintro i n H ⟨W2, done, rest, acc, rfl, rfl, hle, t2, eD, nB, rl, k3, k4⟩
    by_cases hlt : i < ds.length
    · refine .inr ⟨it.go W2 i t2 hlt, fun H' => ∃ (W2 : World) (done rest : List D) (acc : List V), H' = W2.H ∧ Step [] W1 W2 ∧ W2.H Dl = some (.lst acc) ∧ W2.B Dl = none ∧ RpL T (W2.at m2) done acc ∧
        lc2Go (wipeS s vs) bind p (lc2In vs1 fi1 bind1 p1 fe) (ds.drop (i + 1)) = some rest ∧ done ++ rest = ys, ?_, fun x H' y => ?_⟩
      · rintro H' ⟨W3, done, rest, acc, rfl, a1, a2, a3, a4, a6, a7⟩
        exact ⟨ds.length - (i + 1), by omega, W3, done, rest, acc, rfl, rfl, hlt, a1, a2, a3, a4, a6, a7⟩
      · obtain ⟨W3, d, t3, rfl, hd, rd⟩ := it.yld W2 i x H' t2 hlt y
        have edrop : ds.drop i = d :: ds.drop (i + 1) := by
          rw [List.drop_eq_getElem_cons hlt, (List.getElem?_eq_some_iff.mp hd).2]
        rw [edrop] at k3
        obtain ⟨s1, b1, k3⟩ := bind_some k3
        obtain ⟨bb, b2, k3⟩ := bind_some k3
        have t13 := t2.pure t3
        refine hg W3 (wipe σ vs) (wipeS s vs) F0 x d s1 (st0.step t13) rd b1 _ fun σ2 W4 F4 t4 st4 sub4 _ hw => ?_
        refine ⟨by rw [hw, wipe_wipe], ht W4 σ2 s1 F4 st4 bb b2 _ fun W5 t5 => ?_⟩
        have t25 := (t3.pure t4).pure t5
        have t15 := t2.pure t25
        have eD5 : W5.H Dl = some (.lst acc) := t25.h _ _ eD (by simp)
        have nB5 : W5.B Dl = none := t25.nb Dl (by rw [eD]; trivial) (by simp) nB
        have rl5 : RpL T (W5.at m2) done acc := RpL.mono (t25.at m2) done acc rl
        cases bb with
        | true =>
          have k5 := k3
          rw [if_pos rfl] at k5
          obtain ⟨zs, b3, k5⟩ := bind_some k5
          obtain ⟨rest', k6, rfl⟩ := map_some k5
          obtain ⟨es, b4, b5⟩ := bind_some b3
          show wi1 σ2 W5.H _
          refine hi1 W5 σ2 s1 F4 (st4.step t5) es b4 _ fun J1 W6 t6 it1 => ?_
          have st6 := (st4.step t5).step t6
          obtain ⟨F6, st7, sub6, _⟩ := st_wipes st6 vs1 hq1
          have t16 := t15.pure t6
          have eD6 : W6.H Dl = some (.lst acc) := t6.h _ _ eD5 (by simp)
          have nB6 : W6.B Dl = none := t6.nb Dl (by rw [eD5]; trivial) (by simp) nB5
          refine ⟨fun j n H => ∃ (W7 : World) (dn rs : List D) (ac : List V), H = W7.H ∧ n = es.length - j ∧ j ≤ es.length ∧ Step [] W1 W7 ∧ Sub (W6.at ms1) (W7.at ms1) ∧ St T W7 me (wipe σ2 vs1) (wipeS s1 vs1) F6 ∧ W7.H Dl = some (.lst ac) ∧ W7.B Dl = none ∧ RpL T (W7.at m2) dn ac ∧
            lcGo (wipeS s1 vs1) bind1 p1 fe (es.drop j) = some rs ∧ dn ++ (rs ++ rest') = ys, ⟨es.length, W6, done, zs, acc, rfl, by simp, Nat.zero_le _, t16, Sub.refl _, st7, eD6, nB6, RpL.mono (t6.at m2) done acc rl5, by simpa using b5, k4⟩, ?_⟩
          rintro j n H ⟨W7, dn, rs, ac, rfl, rfl, hle7, t17, sub7, st7, eD7, nB7, rl7, k7, k8⟩
          by_cases hlt7 : j < es.length
          · refine .inr ⟨it1.go W7 j sub7 hlt7, fun H' => ∃ (W7 : World) (dn rs : List D) (ac : List V), H' = W7.H ∧ Step [] W1 W7 ∧ Sub (W6.at ms1) (W7.at ms1) ∧ St T W7 me (wipe σ2 vs1) (wipeS s1 vs1) F6 ∧ W7.H Dl = some (.lst ac) ∧ W7.B Dl = none ∧ RpL T (W7.at m2) dn ac ∧
              lcGo (wipeS s1 vs1) bind1 p1 fe (es.drop (j + 1)) = some rs ∧ dn ++ (rs ++ rest') = ys, ?_, fun x7 H7 y7 => ?_⟩
            · rintro H' ⟨W8, dn, rs, ac, rfl, a1, a2, a3, a4, a5, a6, a7, a8⟩
              exact ⟨es.length - (j + 1), by omega, W8, dn, rs, ac, rfl, rfl, hlt7, a1, a2, a3, a4, a5, a6, a7, a8⟩
            · obtain ⟨W8, d7, t8, rfl, hd7, rd7⟩ := it1.yld W7 j x7 H7 sub7 hlt7 y7
              have edrop7 : es.drop j = d7 :: es.drop (j + 1) := by
                rw [List.drop_eq_getElem_cons hlt7, (List.getElem?_eq_some_iff.mp hd7).2]
              rw [edrop7] at k7
              obtain ⟨s2, b6, k7⟩ := bind_some k7
              obtain ⟨b7, b8, k7⟩ := bind_some k7
              refine hg1 W8 (wipe σ2 vs1) (wipeS s1 vs1) F6 x7 d7 s2 (st7.step t8) rd7 b6 _ fun σ3 W9 F9 t9 st9 _ _ hw9 => ?_
              refine ⟨by rw [hw9, wipe_wipe], ht1 W9 σ3 s2 F9 st9 b7 b8 _ fun Wa ta => ?_⟩
              have t7a := (t8.pure t9).pure ta
              have eDa : Wa.H Dl = some (.lst ac) := t7a.h _ _ eD7 (by simp)
              have nBa : Wa.B Dl = none := t7a.nb Dl (by rw [eD7]; trivial) (by simp) nB7
              cases b7 with
              | true =>
                have k9 := k7
                rw [if_pos rfl] at k9
                obtain ⟨y, b9, k9⟩ := bind_some k9
                obtain ⟨rs', ka, rfl⟩ := map_some k9
                show te σ3 Wa.H _
                refine he Wa σ3 s2 F9 (st9.step ta) y b9 _ fun v Wb tb rv => ?_
                have t7b := t7a.pure tb
                have eDb : Wb.H Dl = some (.lst ac) := t7b.h _ _ eD7 (by simp)
                have nBb : Wb.B Dl = none := t7b.nb Dl (by rw [eD7]; trivial) (by simp) nB7
                have hlen : ac.length < sizeLine := by
                  have h1 := rl7.length
                  have h2 := congrArg List.length k8
                  simp only [List.length_append, List.length_cons] at h2
                  omega
                have eat : (Wb.mut Dl (.lst (ac ++ [v])) nBb).at m2 = Wb.at m2 := World.mut_at hm
                refine ⟨ac, eDb, hlen, Wb.mut Dl (.lst (ac ++ [v])) nBb, dn ++ [y], rs', ac ++ [v], rfl, World.mut_stepD (t17.pure t7b) hD nBb, ?_, ?_, upd_same, nBb, ?_, ka, by simpa using k8⟩
                · have s7 := sub7.trans (t7b.at ms1)
                  rw [World.mut_at hms1]
                  exact s7
                · have hn : ∀ a ∈ F6, a ≠ Dl := fun a ha z => by
                    have h1 := (st.there a (sub0 a (sub4 a (sub6 a ha)))).1.ne
                    rw [z] at h1
                    exact h1 (t1.back hD)
                  exact St.keep (W := Wb) (W' := Wb.mut Dl (.lst (ac ++ [v])) nBb) (Sub.refl _) (Sub.refl _) rfl (fun a ha u e => by
                    show upd Wb.H Dl _ a = some u
                    rw [upd_ne (hn a ha)]
                    exact e) (fun _ _ e => e) (st7.step t7b)
                · rw [eat]
                  exact (RpL.mono (t7b.at m2) dn ac rl7).append (RpL.one rv)
              | false =>
                have k9 : lcGo (wipeS s1 vs1) bind1 p1 fe (es.drop (j + 1)) = some rs := k7
                show ∃ (W7 : World) (dn rs : List D) (ac : List V), Wa.H = W7.H ∧ _
                exact ⟨Wa, dn, rs, ac, rfl, t17.pure t7a, sub7.trans (t7a.at ms1), st7.step t7a, eDa, nBa, RpL.mono (t7a.at m2) dn ac rl7, k9, k8⟩
          · have e : j = es.length := by omega
            refine .inl ⟨it1.stop W7 j sub7 (by omega), ?_⟩
            subst e
            rw [List.drop_length] at k7
            cases k7
            show ∃ (W2 : World) (done rest : List D) (acc : List V), W7.H = W2.H ∧ _
            exact ⟨W7, dn, rest', ac, rfl, t17, eD7, nB7, rl7, k6, by simpa using k8⟩
        | false =>
          have k5 : lc2Go (wipeS s vs) bind p (lc2In vs1 fi1 bind1 p1 fe) (ds.drop (i + 1)) = some rest := k3
          show ∃ (W2 : World) (done rest : List D) (acc : List V), W5.H = W2.H ∧ _
          exact ⟨W5, done, rest, acc, rfl, t15, eD5, nB5, rl5, k5, k4⟩
    · have e : i = ds.length := by omega
      refine .inl ⟨it.stop W2 i t2 (by omega), ?_⟩
      subst e
      rw [List.drop_length] at k3
      cases k3
      rw [List.append_nil] at k4
      subst k4
      exact q (.ref Dl) W2 [Dl] (t1.pure t2) (RpO.flat eD nB rl) (fun a ha => by
        have e : a = Dl := by simpa using ha
        rw [e]
        exact t1.back hD) (by simp)
  · rw [if_neg c] at ho
    cases ho
theorem fo_lc2 (hc : ∀ j, (X j).calm = true) (hN : ∀ j, (X j).N.Nodup) (hi : FI0 X T me tg iter m fi) (ok : ∀ j, BlkOk (X j).N (X j).env.scope scope own) (hg : FG (Blk X scope) T me tg m (own.map (·.2)) bind) (ht : FTs (Blk X scope) T me ifs p)
    (hi1 : FI (Blk X scope) T me tg1 iter1 ms1 m1 fi1) (hg1 : FG (Blk X scope) T me tg1 m1 vs1 bind1) (ht1 : FTs (Blk X scope) T me ifs1 p1) (he : FP (Blk X scope) T me elt m2 fe) (hv : ∀ i ∈ vs1, i ∈ own.map (·.2) := by decide)
    (hm : m2 ≠ .h := by decide) (hms1 : ms1 ≠ .h := by decide) (hq : ∀ v ∈ own.map (·.2), me[v]? ≠ some .q := by decide) (hs : ∀ j, ∀ x, foldedSetIterable iter (X j).env x = pure x := by intro _ _; rfl) (hs1 : ∀ env x, foldedSetIterable iter1 env x = pure x := by intro _ _; rfl) :
    FO X T me (.ListComp elt [⟨tg, iter, ifs, 0⟩, ⟨tg1, iter1, ifs1, 0⟩] scope pos) m2 (dLc2 fi (own.map (·.2)) bind p vs1 fi1 bind1 p1 fe) := by
  obtain ⟨wi, h1, h2⟩ := hi.ex
  obtain ⟨g, h3, h4⟩ := hg.ex
  obtain ⟨tt, h5, h6⟩ := ht.ex
  obtain ⟨wi1, h7, h8⟩ := hi1.ex
  obtain ⟨g1, h9, h10⟩ := hg1.ex
  obtain ⟨tt1, h11, h12⟩ := ht1.ex
  obtain ⟨te, h13, h14⟩ := he.ex
  exact ⟨_, fun j => pe_lc2 (hc j) (hN j) (h1 j) (ok j) hv (fun s H C cl fp => h3 (j, s, H, C, cl, fp)) (fun s H C cl fp => h5 (j, s, H, C, cl, fp)) (fun s H C cl fp => h7 (j, s, H, C, cl, fp)) (fun s H C cl fp => h9 (j, s, H, C, cl, fp)) (fun s H C cl fp => h11 (j, s, H, C, cl, fp)) (fun s H C cl fp => h13 (j, s, H, C, cl, fp)) (hs j) hs1,
    so_lc2 h2 h4 h6 h8 h10 h12 h14 hm hms1 hq (fun v hv1 => hq v (hv v hv1))⟩
theorem fs_setLc2 (i : Nat) {lpos spos pos' : Pos} {y : Str} (hc : ∀ j, (X j).calm = true) (hN : ∀ j, (X j).N.Nodup) (hi : FI0 X T me tg iter m fi) (ok : ∀ j, BlkOk (X j).N (X j).env.scope scope own) (hg : FG (Blk X scope) T me tg m (own.map (·.2)) bind) (ht : FTs (Blk X scope) T me ifs p)
    (hi1 : FI (Blk X scope) T me tg1 iter1 ms1 m1 fi1) (hg1 : FG (Blk X scope) T me tg1 m1 vs1 bind1) (ht1 : FTs (Blk X scope) T me ifs1 p1) (he : FP (Blk X scope) T me elt m2 fe) (hv : ∀ i ∈ vs1, i ∈ own.map (·.2) := by decide)
    (hm : me[i]? = some m2 := by rfl) (hh : m2 ≠ .h := by decide) (hms1 : ms1 ≠ .h := by decide) (hq : m2 ≠ .q := by decide) (hqs : ∀ v ∈ own.map (·.2), me[v]? ≠ some .q := by decide) (hy : ∀ j, (X j).N[i]? = some y := by intro _; rfl) (hyl : ∀ j, (X j).env.scope.names.lookup y = some .local := by intro _; rfl)
    (hsw : ∀ j, swapsWith (.ListComp elt [⟨tg, iter, ifs, 0⟩, ⟨tg1, iter1, ifs1, 0⟩] scope lpos) (some (.Name y pos')) spos.line (X j).env = pure true := by intro _; exact sw_true rfl rfl rfl (by decide +kernel)) (hs : ∀ j, ∀ x, foldedSetIterable iter (X j).env x = pure x := by intro _ _; rfl) (hs1 : ∀ env x, foldedSetIterable iter1 env x = pure x := by intro _ _; rfl) :
    FS X T me (.Assign [.Name y pos'] (.ListComp elt [⟨tg, iter, ifs, 0⟩, ⟨tg1, iter1, ifs1, 0⟩] scope lpos) spos) (dSetO i (dLc2 fi (own.map (·.2)) bind p vs1 fi1 bind1 p1 fe)) := by
  obtain ⟨wi, h1, h2⟩ := hi.ex
  obtain ⟨g, h3, h4⟩ := hg.ex
  obtain ⟨tt, h5, h6⟩ := ht.ex
  obtain ⟨wi1, h7, h8⟩ := hi1.ex
  obtain ⟨g1, h9, h10⟩ := hg1.ex
  obtain ⟨tt1, h11, h12⟩ := ht1.ex
  obtain ⟨te, h13, h14⟩ := he.ex
  exact ⟨_, fun j => ps_setLc2 (hc j) (hN j) (hy j) (hyl j) (hsw j) (h1 j) (ok j) hv (fun s H C cl fp => h3 (j, s, H, C, cl, fp)) (fun s H C cl fp => h5 (j, s, H, C, cl, fp)) (fun s H C cl fp => h7 (j, s, H, C, cl, fp)) (fun s H C cl fp => h9 (j, s, H, C, cl, fp)) (fun s H C cl fp => h11 (j, s, H, C, cl, fp)) (fun s H C cl fp => h13 (j, s, H, C, cl, fp)) (hs j) hs1, ss_setO (so_lc2 h2 h4 h6 h8 h10 h12 h14 hh hms1 hqs (fun v hv1 => hqs v (hv v hv1))) hm hq⟩
theorem fs_setLc2F (i : Nat) {lpos spos pos' : Pos} {y : Str} (hc : ∀ j, (X j).calm = true) (hN : ∀ j, (X j).N.Nodup) (hi : FI0 X T me tg iter m fi) (ok : ∀ j, BlkOk (X j).N (X j).env.scope scope own) (hg : FG (Blk X scope) T me tg m (own.map (·.2)) bind) (ht : FTs (Blk X scope) T me ifs p)
    (hi1 : FI (Blk X scope) T me tg1 iter1 ms1 m1 fi1) (hg1 : FG (Blk X scope) T me tg1 m1 vs1 bind1) (ht1 : FTs (Blk X scope) T me ifs1 p1) (he : FP (Blk X scope) T me elt m2 fe) (hv : ∀ i ∈ vs1, i ∈ own.map (·.2) := by decide)
    (hm : me[i]? = some m2 := by rfl) (hh : m2 ≠ .h := by decide) (hms1 : ms1 ≠ .h := by decide) (hq : m2 ≠ .q := by decide) (hqs : ∀ v ∈ own.map (·.2), me[v]? ≠ some .q := by decide) (hy : ∀ j, (X j).N[i]? = some y := by intro _; rfl) (hyl : ∀ j, (X j).env.scope.names.lookup y = some .local := by intro _; rfl)
    (hsw : ∀ j, swapsWith (.ListComp elt [⟨tg, iter, ifs, 0⟩, ⟨tg1, iter1, ifs1, 0⟩] scope lpos) (some (.Name y pos')) spos.line (X j).env = pure true := by intro _; exact sw_true rfl rfl rfl (by decide +kernel)) (hs : ∀ j, ∀ x, foldedSetIterable iter (X j).env x = pure x := by intro _ _; rfl) (hs1 : ∀ env x, foldedSetIterable iter1 env x = pure x := by intro _ _; rfl) :
    FS X T me (.Assign [.Name y pos'] (.ListComp elt [⟨tg, iter, ifs, 0⟩, ⟨tg1, iter1, ifs1, 0⟩] scope lpos) spos) (dSet i (dFr (dLc2 fi (own.map (·.2)) bind p vs1 fi1 bind1 p1 fe))) := by
  obtain ⟨wi, h1, h2⟩ := hi.ex
  obtain ⟨g, h3, h4⟩ := hg.ex
  obtain ⟨tt, h5, h6⟩ := ht.ex
  obtain ⟨wi1, h7, h8⟩ := hi1.ex
  obtain ⟨g1, h9, h10⟩ := hg1.ex
  obtain ⟨tt1, h11, h12⟩ := ht1.ex
  obtain ⟨te, h13, h14⟩ := he.ex
  exact ⟨_, fun j => ps_setLc2 (hc j) (hN j) (hy j) (hyl j) (hsw j) (h1 j) (ok j) hv (fun s H C cl fp => h3 (j, s, H, C, cl, fp)) (fun s H C cl fp => h5 (j, s, H, C, cl, fp)) (fun s H C cl fp => h7 (j, s, H, C, cl, fp)) (fun s H C cl fp => h9 (j, s, H, C, cl, fp)) (fun s H C cl fp => h11 (j, s, H, C, cl, fp)) (fun s H C cl fp => h13 (j, s, H, C, cl, fp)) (hs j) hs1, ss_set (sp_fr (so_lc2 h2 h4 h6 h8 h10 h12 h14 hh hms1 hqs (fun v hv1 => hqs v (hv v hv1)))) hm hq⟩
end
end My

set_option Elab.async false
set_option linter.all false
set_option maxRecDepth 100000
set_option maxHeartbeats 4000000
/-! M22: t + u; max, min, any, all of lists; x.pop(k); sorted of data; assignments to several names. -/
namespace My
open PySem PyProof.Rows L2

def dCatT (a b : D) : Option D := match a, b with
  | .tup xs, .tup ys => if xs.length + ys.length ≤ sizeLine then some (.tup (xs ++ ys)) else none
  | _, _ => none
theorem opd_catT {T : Tab} {m : Md} : OpD T m m m (rCatA T.K) dCatT := fun W x y dx dy d r1 r2 h Q q => by
  cases dx with
  | tup xs =>
    cases dy with
    | tup ys =>
      have h : (if xs.length + ys.length ≤ sizeLine then some (D.tup (xs ++ ys)) else none) = some d := h
      by_cases c : xs.length + ys.length ≤ sizeLine
      · rw [if_pos c] at h
        cases h
        obtain ⟨a, vs, rfl, hq, r⟩ := r1
        obtain ⟨b, us, rfl, hq2, rr⟩ := r2
        have l1 := r.length
        have l2 := rr.length
        refine ⟨a, b, vs, us, rfl, rfl, (W.atH m).sqT hq, (W.atH m).sqT hq2, by omega, fun e => ?_, fun e e2 => ?_, fun e e2 p np => ?_⟩
        · have : xs = [] := List.eq_nil_of_length_eq_zero (by rw [l1, e]; rfl)
          subst this
          exact q _ W (Step.refl _ _) ⟨b, us, rfl, hq2, rr⟩
        · have : ys = [] := List.eq_nil_of_length_eq_zero (by rw [l2, e2]; rfl)
          subst this
          rw [List.append_nil] at q
          exact q _ W (Step.refl _ _) ⟨a, vs, rfl, hq, r⟩
        · exact q _ _ (W.newT_step np (m := m)) (W.newT np (r.append rr))
      · rw [if_neg c] at h
        cases h
    | _ => cases h
  | _ => cases h
/-! ### max, min, any, all -/
def maxL : List Int → Int
  | [] => 0
  | [a] => a
  | a :: b :: r => max a (maxL (b :: r))
def minL : List Int → Int
  | [] => 0
  | [a] => a
  | a :: b :: r => min a (minL (b :: r))
theorem maxL_ge : ∀ (l : List Int) (x : Int), x ∈ l → x ≤ maxL l
  | [a], x, h => by
    have : x = a := by simpa using h
    rw [this]
    exact Int.le_refl _
  | a :: b :: r, x, h => by
    rcases List.mem_cons.mp h with z | z
    · rw [z]
      exact Int.le_max_left _ _
    · exact Int.le_trans (maxL_ge (b :: r) x z) (Int.le_max_right _ _)
theorem maxL_mem : ∀ (l : List Int), l ≠ [] → maxL l ∈ l
  | [a], _ => by simp [maxL]
  | a :: b :: r, _ => by
    have ih := maxL_mem (b :: r) (by simp)
    show max a (maxL (b :: r)) ∈ _
    rcases Int.le_total a (maxL (b :: r)) with z | z
    · rw [Int.max_eq_right z]
      exact List.mem_cons_of_mem _ ih
    · rw [Int.max_eq_left z]
      exact List.mem_cons_self
theorem minL_le : ∀ (l : List Int) (x : Int), x ∈ l → minL l ≤ x
  | [a], x, h => by
    have : x = a := by simpa using h
    rw [this]
    exact Int.le_refl _
  | a :: b :: r, x, h => by
    rcases List.mem_cons.mp h with z | z
    · rw [z]
      exact Int.min_le_left _ _
    · exact Int.le_trans (Int.min_le_right _ _) (minL_le (b :: r) x z)
theorem minL_mem : ∀ (l : List Int), l ≠ [] → minL l ∈ l
  | [a], _ => by simp [minL]
  | a :: b :: r, _ => by
    have ih := minL_mem (b :: r) (by simp)
    show min a (minL (b :: r)) ∈ _
    rcases Int.le_total a (minL (b :: r)) with z | z
    · rw [Int.min_eq_left z]
      exact List.mem_cons_self
    · rw [Int.min_eq_right z]
      exact List.mem_cons_of_mem _ ih
def dMaxL : List D → Option D
  | [.lst ds] => (allI ds).bind fun ns => if ns ≠ [] then some (.int (maxL ns)) else none
  | _ => none
def dMinL : List D → Option D
  | [.lst ds] => (allI ds).bind fun ns => if ns ≠ [] then some (.int (minL ns)) else none
  | _ => none
def allB : List D → Option (List Bool)
  | [] => some []
  | .bl b :: ds => (allB ds).map (b :: ·)
  | _ :: _ => none
theorem allB_vs {T : Tab} {G : Hp} : ∀ {ds : List D} {vs : List V} {bs : List Bool}, RpL T G ds vs → allB ds = some bs → vs = bs.map V.bl
  | [], vs, bs, r, h => by
    cases h
    exact r
  | d :: ds, _, bs, ⟨v, vr, rfl, q, k⟩, h => by
    cases d with
    | bl b =>
      obtain ⟨bs', h1, rfl⟩ := map_some h
      have e : v = .bl b := q
      rw [e, allB_vs k h1]
      rfl
    | _ => cases h
def dAnyL : List D → Option D
  | [.lst ds] => (allB ds).map fun bs => .bl (bs.any id)
  | _ => none
def dAllL : List D → Option D
  | [.lst ds] => (allB ds).map fun bs => .bl (bs.all id)
  | _ => none
/-- a call of one list -/
theorem cd_one {T : Tab} {m : Md} {r : List V → Hp → VK → Prop} {g : List D → Option D} (hl : ∀ (W : World) (ds : List D) (a : Addr) (vs : List V) (d : D), SqL T.K W.H a vs → RpL T (W.at m) ds vs → g [.lst ds] = some d → ∀ Q : VK, (∀ v W', Step [] W W' → Rp T W'.G d v → Q v W'.H) → r [.ref a] W.H Q)
    (hn : ∀ dxs d, g dxs = some d → ∃ ds, dxs = [.lst ds]) : CallD T m .p r g := fun W xs dxs d rr h Q q => by
  obtain ⟨ds, rfl⟩ := hn dxs d h
  obtain ⟨v, vr, rfl, rv, e⟩ := rr
  have e' : vr = [] := e
  subst e'
  obtain ⟨a, vs, rfl, hq, k⟩ := rv
  exact hl W ds a vs d ((W.atH m).sqL hq) k h Q q
theorem cd_max {T : Tab} {m : Md} : CallD T m .p (rMax T.K) dMaxL := cd_one (fun W ds a vs d hq k h Q q => by
  obtain ⟨ns, h1, h2⟩ := bind_some h
  have e := allI_vs k h1
  subst e
  by_cases c : ns ≠ []
  · rw [if_pos c] at h2
    cases h2
    refine ⟨a, ns, rfl, hq, by cases ns with | nil => exact absurd rfl c | cons _ _ => simp, fun m hm hle => ?_⟩
    have e : m = maxL ns := Int.le_antisymm (maxL_ge ns m hm) (hle _ (maxL_mem ns c))
    rw [e]
    exact q _ W (Step.refl _ _) rfl
  · rw [if_neg c] at h2
    cases h2) (fun dxs d h => by
  unfold dMaxL at h
  split at h
  · exact ⟨_, rfl⟩
  · cases h)
theorem cd_min {T : Tab} {m : Md} : CallD T m .p (rMin T.K) dMinL := cd_one (fun W ds a vs d hq k h Q q => by
  obtain ⟨ns, h1, h2⟩ := bind_some h
  have e := allI_vs k h1
  subst e
  by_cases c : ns ≠ []
  · rw [if_pos c] at h2
    cases h2
    refine ⟨a, ns, rfl, hq, by cases ns with | nil => exact absurd rfl c | cons _ _ => simp, fun m hm hle => ?_⟩
    have e : m = minL ns := Int.le_antisymm (hle _ (minL_mem ns c)) (minL_le ns m hm)
    rw [e]
    exact q _ W (Step.refl _ _) rfl
  · rw [if_neg c] at h2
    cases h2) (fun dxs d h => by
  unfold dMinL at h
  split at h
  · exact ⟨_, rfl⟩
  · cases h)
theorem cd_any {T : Tab} {m : Md} : CallD T m .p (rAny T.K) dAnyL := cd_one (fun W ds a vs d hq k h Q q => by
  obtain ⟨bs, h1, rfl⟩ := map_some h
  have e := allB_vs k h1
  subst e
  exact ⟨a, bs, rfl, hq, q _ W (Step.refl _ _) rfl⟩) (fun dxs d h => by
  unfold dAnyL at h
  split at h
  · exact ⟨_, rfl⟩
  · cases h)
theorem cd_all {T : Tab} {m : Md} : CallD T m .p (rAll T.K) dAllL := cd_one (fun W ds a vs d hq k h Q q => by
  obtain ⟨bs, h1, rfl⟩ := map_some h
  have e := allB_vs k h1
  subst e
  exact ⟨a, bs, rfl, hq, q _ W (Step.refl _ _) rfl⟩) (fun dxs d h => by
  unfold dAllL at h
  split at h
  · exact ⟨_, rfl⟩
  · cases h)
/-- min(i, j) -/
def rMin2 : List V → Hp → VK → Prop := fun vs H Q => ∃ i j, vs = [.int i, .int j] ∧ Q (.int (if j < i then j else i)) H
def dMin2 : List D → Option D
  | [.int i, .int j] => some (.int (if j < i then j else i))
  | _ => none
theorem cr_min2 {X : Cx} (hc : X.calm = true) : CallR X (.builtin "min") rMin2 := by
  intro pins s σ H vs us Q I r h
  obtain ⟨i, j, rfl, q⟩ := h
  cases r with
  | cons r1 rr =>
    cases rr with
    | cons r2 rr =>
      cases rr
      obtain ⟨t, rfl⟩ := r1
      obtain ⟨u, rfl⟩ := r2
      refine PySem.min_two_ints (I.ok.hd hc) fun h' tk hk => ⟨.int (if j < i then j else i), H, I.kept hk, ?_, q⟩
      by_cases c : j < i
      · rw [if_pos c, if_pos c]
        exact ⟨_, rfl⟩
      · rw [if_neg c, if_neg c]
        exact ⟨_, rfl⟩
theorem cd_min2 {T : Tab} {m : Md} : CallD T m .p rMin2 dMin2 := fun W xs dxs d r h Q q => by
  unfold dMin2 at h
  split at h
  · cases h
    obtain ⟨v, vr, rfl, rv, k⟩ := r
    obtain ⟨u, ur, rfl, ru, e⟩ := k
    have e : ur = [] := e
    subst e
    cases rv
    cases ru
    exact ⟨_, _, rfl, q _ W (Step.refl _ _) rfl⟩
  · cases h
/-! ### x.pop(k), x an own list of known items -/
def xPop (i : Nat) (fk : List SV → Option (D × List SV)) (s : List SV) : Option (D × List SV) := if isOwnL i s then (fk s).bind fun r => match r.2[i]?, r.1 with
  | some (.own (.lst os)), .int n => (ixN os.length n).bind fun j => match os[j]? with
    | some (.fz d) => if os.length ≤ sizeLine then some (d, r.2.set i (.own (.lst (os.eraseIdx j)))) else none
    | _ => none
  | _, _ => none
  else none
section
variable {ι : Type} {X : ι → Cx} {T : Tab} {me : List Md} {e : Expr} {m m1 : Md} {fk : List SV → Option (D × List SV)} {p pos pos' apos : Pos} {x : Str}
theorem sx_pop {K : PySem.W.Frag} {to tk : TE} {i : Nat} (hto : to = tVar i) (hk : SX T me tk m1 fk) (hm : me[i]? = some m) : SX T me (tBM K "list" rPopAt to (tCons tk tNil)) m (xPop i fk) := fun W σ s F st nd d s' h Q q => by
  subst hto
  by_cases c0 : isOwnL i s = true
  case neg =>
    unfold xPop at h
    rw [if_neg c0] at h
    cases h
  unfold xPop at h
  rw [if_pos c0] at h
  obtain ⟨⟨dk, s1⟩, k1, h⟩ := bind_some h
  split at h
  · rename_i os n e ed
    have ed : dk = D.int n := ed
    subst ed
    have e : s1[i]? = some (.own (.lst os)) := e
    obtain ⟨j, k2, h⟩ := bind_some h
    split at h
    · rename_i d0 ej
      by_cases c : os.length ≤ sizeLine
      · rw [if_pos c] at h
        cases h
        obtain ⟨os0, e0⟩ := isOwnL_of c0
        obtain ⟨m3, y, F1, A, C, g1, g2, g3, g4, ⟨v0, ev, ⟨a, vs, F', ea, ef, ha, hb, rr⟩, hv0⟩, g6⟩ := st.focus e0
        subst ev ea
        refine ⟨.ref a, g3, .inl ⟨rfl, vs, .inl (.inl ha)⟩, hk W σ s F st nd _ s1 k1 _ fun v W1 F1 t1 n1 st1 nd1 r1 => ?_⟩
        cases r1
        obtain ⟨m4, a3, vs3, F3, q1, q2, q3, q4, q5, q6, q7, q8⟩ := st1.ownL nd1 e
        have ea3 : a = a3 := by
          rw [g3] at q3
          exact V.ref.inj (Option.some.inj (Option.some.inj q3))
        subst ea3
        have em : m = m4 := Option.some.inj (hm.symm.trans q1)
        subst em
        have hlen := RpOL.length q7
        obtain ⟨hs, hlt, h1, h2⟩ := ixN_seq k2
        obtain ⟨v, p1, p2, p3⟩ := RpOL.erase q7 ej
        have hline : (sizeLine : Int) < 2 ^ 62 := by rw [sizeLine_eq]; decide
        refine ⟨a, vs3, n, j, v, rfl, rfl, q4, by omega, by omega, by rw [← hlen]; exact hs, p1, ?_⟩
        obtain ⟨F5, b1, b2, b3, b4⟩ := q8 (W1.mut a (.lst (vs3.eraseIdx j)) q5) (os.eraseIdx j) (vs3.eraseIdx j) rfl rfl rfl rfl fun sm hr => by
          obtain ⟨v', z1, z2, z3⟩ := RpOL.erase hr ej
          exact ⟨_, z3, List.Sublist.refl _⟩
        refine q v _ F5 (t1.trans n1 b1) (n1.trans t1 b2) b3 b4 ?_
        have eat : (W1.mut a (.lst (vs3.eraseIdx j)) q5).at m = W1.at m := World.mut_at q2
        rw [eat]
        exact p2
      · rw [if_neg c] at h
        cases h
    · cases h
  · cases h
theorem fx_pop (i : Nat) (hv : FX X T me e m1 fk) (hm : me[i]? = some m := by rfl) (hN : ∀ j, (X j).N[i]? = some x := by intro _; rfl) (hvi : ∀ j, Vis (X j).env.scope x := by intro _; first | exact Or.inl rfl | exact Or.inr (Or.inl rfl) | exact Or.inr (Or.inr rfl))
    (hK : ∀ j, (X j).K = T.K) (hd : (x == ("__debug__" : Str)) = false := by decide) (hcd : (x == ("__classdict__" : Str)) = false := by decide)
    (hbase : ∀ j : ι, attributeBase (.Name x p) "pop" (X j).env (eval (.Name x p) (X j).env) = eval (.Name x p) (X j).env := by intro _; rfl)
    (hfew : ∀ j : ι, ((backTo pos' (starEach [e] (X j).env)).all (fun x => !x.1) && (backToKw pos' (keywordEach [] (X j).env)).all (fun x => x.1.isSome) && decide ([e].length + ([] : List Keyword).length + (if ([] : List Keyword).isEmpty then 0 else 1) < 30)) = true := by intro _; rfl)
    (hline : (apos.endLine == pos'.line) = true := by rfl) (hs : ∀ j, starEach [e] (X j).env = (false, eval e (X j).env) :: starEach [] (X j).env := by intro _; rfl) (hplain : ∀ j : ι, (backTo pos' (starEach [] (X j).env)).any (·.1) = false := by intro _; rfl) :
    FX X T me (.Call (.Attribute (.Name x p) "pop" apos) [e] [] pos') m (xPop i fk) := by
  obtain ⟨tv, k3, k4⟩ := hv.ex
  refine ⟨tBM T.K "list" rPopAt (tVar i) (tCons tv tNil), fun j => ?_, sx_pop rfl k4 hm⟩
  have h := pe_bm PySem.F.plainAttrs_list PySem.F.slot_list_pop PySem.F.type_list_pop mt_popAt (pe_var (X := X j) (hN j) (hvi j) hd hcd (pos := p)) (pa_cons (k3 j) pa_nil (hs j)) (hbase j) (hfew j) hline (hs j) (hplain j)
  rwa [hK j] at h
end
end My

set_option Elab.async false
set_option linter.all false
set_option maxRecDepth 100000
set_option maxHeartbeats 4000000
/-! M23: sorted of a list of plain data (nested tuples as well). -/
namespace My
open PySem PySem.W PyProof.Rows L2

theorem each_of_vals : ∀ {bs : List (PyData × V)} {its : List Value}, Vals (bs.map (·.2)) its → EachIs (fun (u : Value) (b : PyData × V) => RelV b.2 u) its bs
  | [], _, r => by
    cases r
    exact .nil
  | b :: bs, _, r => by
    cases r with
    | cons r rr => exact .cons r (each_of_vals rr)
theorem vals_of_each : ∀ {bs : List (PyData × V)} {its : List Value}, EachIs (fun (u : Value) (b : PyData × V) => RelV b.2 u) its bs → Vals (bs.map (·.2)) its
  | [], _, r => by
    cases r
    exact .nil
  | b :: bs, _, r => by
    cases r with
    | cons r rr => exact .cons r (vals_of_each rr)
theorem each_read {X : Cx} {pins : List (Addr × Obj)} {σ : L2.St} {H : Hp} {s : Shared} (I : Inv X pins σ H s) : ∀ {bs : List (PyData × V)} {its : List Value}, Vals (bs.map (·.2)) its → (∀ b ∈ bs, Dp X.K H b.2 b.1) → EachIs (fun (u : Value) (b : PyData × V) => ∃ as, Reads s.heap u b.1 as) its bs
  | [], _, r, _ => by
    cases r
    exact .nil
  | b :: bs, _, r, h => by
    cases r with
    | cons r rr => exact .cons (Dp.reads I b.1 b.2 _ (h b (by simp)) r) (each_read I rr fun c hc => h c (by simp [hc]))
def rSortedD (K : PySem.W.Frag) : List V → Hp → VK → Prop := fun vs H Q => ∃ (a : Addr) (bs : List (PyData × V)), vs = [.ref a] ∧ SqL K H a (bs.map (·.2)) ∧ (∀ b ∈ bs, Dp K H b.2 b.1) ∧ AllAlike (bs.map (·.1)) ∧ Sortable (bs.map (·.1)) ∧ bs.length ≤ sizeLine ∧ (∀ b ∈ bs, b.1.depth ≤ 32) ∧
  ∀ p, H p = none → Q (.ref p) (upd H p (.lst ((bs.mergeSort (dataLe false (·.1))).map (·.2))))
theorem cr_sortedD {X : Cx} (hu : X.A.units + 64 < cLine) : CallR X (.builtin "sorted") (rSortedD X.K) := by
  intro pins s σ H vs us Q I r h
  obtain ⟨a, bs, rfl, hs, hd, hal, hk, hL, hdep, q⟩ := h
  obtain ⟨its, rv, hl, _⟩ := I.list hs
  rw [Vals.ref1 r]
  refine sorted_data (enc := Prod.fst) (R := fun (u : Value) (b : PyData × V) => RelV b.2 u) hl.isList (each_of_vals rv) (each_read I rv hd) hal hk hL (fun b hb => by have := hdep b hb; omega) fun out hlen eo => ?_
  obtain ⟨ep, he'⟩ := PyProof.Rows.sortedAll_at s.heap its out.toArray
  have vo := vals_of_each eo
  have hlen2 : ((bs.mergeSort (dataLe false (·.1))).map (·.2)).length ≤ sizeLine := by
    rw [List.length_map, List.length_mergeSort]
    exact hL
  exact ⟨.ref _, upd H (s.heap.objs.size + 1) (.lst ((bs.mergeSort (dataLe false (·.1))).map (·.2))), I.laid (t' := s.toks) (fun _ _ => PyProof.Rows.sortedAll_old) (Nat.le_succ _) ⟨hlen2, out, ep, vo, by simpa using he'⟩, rfl, q _ (I.hok.fresh (Nat.le_succ _))⟩
/-! ### by data -/
def tupled : PyData → Bool
  | .tuple (_ :: _) => true
  | _ => false
def sortOk (ds : List D) : Bool := (ds.all fun a => ds.all fun b => alike a.py b.py) && (ds.all fun d => tupled d.py) && (ds.all fun d => d.ok && decide (d.py.depth ≤ 32)) && decide (ds.length ≤ sizeLine)
def dSorted : List D → Option OD
  | [.lst ds] => if sortOk ds = true then some (oL (ds.mergeSort (dataLe false D.py))) else none
  | _ => none
theorem tupled_of {d : PyData} (h : tupled d = true) : ∃ x r, d = .tuple (x :: r) := by
  unfold tupled at h
  split at h
  · exact ⟨_, _, rfl⟩
  · cases h
theorem rpl_mem {T : Tab} {G : Hp} : ∀ {ds : List D} {vs : List V}, RpL T G ds vs → (ds.zip vs).map (·.1) = ds ∧ (ds.zip vs).map (·.2) = vs ∧ ∀ p ∈ ds.zip vs, Rp T G p.1 p.2
  | [], vs, r => by
    have e : vs = [] := r
    subst e
    exact ⟨rfl, rfl, fun p hp => by simp at hp⟩
  | d :: ds, _, ⟨v, vr, rfl, q, k⟩ => by
    obtain ⟨a, b, c⟩ := rpl_mem k
    refine ⟨by simp [a], by simp [b], fun p hp => ?_⟩
    rw [List.zip_cons_cons] at hp
    rcases List.mem_cons.mp hp with z | z
    · rw [z]; exact q
    · exact c p z
theorem sorted_reads {T : Tab} {m : Md} {W : World} {ds : List D} {vs : List V} {a : Addr} {Q : VK} (c : sortOk ds = true) (hq : SqL T.K W.H a vs) (k : RpL T (W.at m) ds vs) (q : ∀ p (np : W.H p = none), RpL T (W.at m) (ds.mergeSort (dataLe false D.py)) (((ds.zip vs).mergeSort (dataLe false fun p => p.1.py)).map (·.2)) → Q (.ref p) (upd W.H p (.lst (((ds.zip vs).mergeSort (dataLe false fun p => p.1.py)).map (·.2))))) : rSortedD T.K [.ref a] W.H Q := by
  obtain ⟨z1, z2, z3⟩ := rpl_mem k
  unfold sortOk at c
  simp only [Bool.and_eq_true, decide_eq_true_eq] at c
  obtain ⟨⟨⟨c1, c2⟩, c3⟩, c4⟩ := c
  have e1 : ((ds.zip vs).map fun p => (p.1.py, p.2)).map (·.2) = vs := by rw [List.map_map]; exact z2
  have e2 : ((ds.zip vs).map fun p => (p.1.py, p.2)).map (·.1) = ds.map D.py := by
    rw [List.map_map]
    show (ds.zip vs).map (D.py ∘ (·.1)) = _
    rw [← List.map_map, z1]
  have e3 : ((ds.zip vs).map fun p => (p.1.py, p.2)).length = ds.length := by
    have := congrArg List.length z1
    simpa using this
  have mem : ∀ b ∈ (ds.zip vs).map fun p => (p.1.py, p.2), ∃ p ∈ ds.zip vs, b = (p.1.py, p.2) := fun b hb => by
    obtain ⟨p, hp, e⟩ := List.mem_map.mp hb
    exact ⟨p, hp, e.symm⟩
  have inD : ∀ p ∈ ds.zip vs, p.1 ∈ ds := fun p hp => by rw [← z1]; exact List.mem_map_of_mem hp
  refine ⟨a, (ds.zip vs).map fun p => (p.1.py, p.2), rfl, by rw [e1]; exact hq, fun b hb => ?_, ?_, ?_, by rw [e3]; exact c4, fun b hb => ?_, fun p np => ?_⟩
  · obtain ⟨p, hp, rfl⟩ := mem b hb
    have := List.all_eq_true.mp c3 p.1 (inD p hp)
    rw [Bool.and_eq_true] at this
    exact Rp.dpo (W.atH m) this.1 (z3 p hp)
  · rw [e2]
    intro d hd d' hd'
    obtain ⟨x, hx, rfl⟩ := List.mem_map.mp hd
    obtain ⟨y, hy, rfl⟩ := List.mem_map.mp hd'
    exact List.all_eq_true.mp (List.all_eq_true.mp c1 x hx) y hy
  · rw [e2]
    refine .inl fun d hd => ?_
    obtain ⟨x, hx, rfl⟩ := List.mem_map.mp hd
    exact tupled_of (List.all_eq_true.mp c2 x hx)
  · obtain ⟨p, hp, rfl⟩ := mem b hb
    have := List.all_eq_true.mp c3 p.1 (inD p hp)
    rw [Bool.and_eq_true] at this
    exact of_decide_eq_true this.2
  · have s1 : (((ds.zip vs).map fun p => (p.1.py, p.2)).mergeSort (dataLe false (·.1))).map (·.2) = ((ds.zip vs).mergeSort (dataLe false fun p => p.1.py)).map (·.2) := by
      have h := List.map_mergeSort (r := dataLe false fun p : D × V => p.1.py) (s := dataLe false (Prod.fst : PyData × V → PyData)) (f := fun p : D × V => (p.1.py, p.2)) (l := ds.zip vs) (fun _ _ _ _ => rfl)
      rw [← h, List.map_map]
      rfl
    have s2 : ds.mergeSort (dataLe false D.py) = ((ds.zip vs).mergeSort (dataLe false fun p => p.1.py)).map (·.1) := by
      have h := List.map_mergeSort (r := dataLe false fun p : D × V => p.1.py) (s := dataLe false D.py) (f := (Prod.fst : D × V → D)) (l := ds.zip vs) (fun _ _ _ _ => rfl)
      rw [h, z1]
    rw [s1]
    have rr : RpL T (W.at m) (ds.mergeSort (dataLe false D.py)) (((ds.zip vs).mergeSort (dataLe false fun p => p.1.py)).map (·.2)) := by
      rw [s2]
      exact rpl_map fun p hp => z3 p ((List.mergeSort_perm _ _).mem_iff.mp hp)
    exact q p np rr
theorem co_sorted {T : Tab} {m : Md} : CallO T m m (rSortedD T.K) dSorted := fun W xs dxs o r h Q q => by
  unfold dSorted at h
  split at h
  · rename_i ds
    by_cases c : sortOk ds = true
    · rw [if_pos c] at h
      cases h
      obtain ⟨v, vr, rfl, rv, e⟩ := r
      have e : vr = [] := e
      subst e
      obtain ⟨a, vs, rfl, hq, k⟩ := rv
      obtain ⟨z1, z2, z3⟩ := rpl_mem k
      unfold sortOk at c
      simp only [Bool.and_eq_true, decide_eq_true_eq] at c
      obtain ⟨⟨⟨c1, c2⟩, c3⟩, c4⟩ := c
      have e1 : ((ds.zip vs).map fun p => (p.1.py, p.2)).map (·.2) = vs := by rw [List.map_map]; exact z2
      have e2 : ((ds.zip vs).map fun p => (p.1.py, p.2)).map (·.1) = ds.map D.py := by
        rw [List.map_map]
        show (ds.zip vs).map (D.py ∘ (·.1)) = _
        rw [← List.map_map, z1]
      have e3 : ((ds.zip vs).map fun p => (p.1.py, p.2)).length = ds.length := by
        have := congrArg List.length z1
        simpa using this
      have mem : ∀ b ∈ (ds.zip vs).map fun p => (p.1.py, p.2), ∃ p ∈ ds.zip vs, b = (p.1.py, p.2) := fun b hb => by
        obtain ⟨p, hp, e⟩ := List.mem_map.mp hb
        exact ⟨p, hp, e.symm⟩
      have inD : ∀ p ∈ ds.zip vs, p.1 ∈ ds := fun p hp => by rw [← z1]; exact List.mem_map_of_mem hp
      refine ⟨a, (ds.zip vs).map fun p => (p.1.py, p.2), rfl, by rw [e1]; exact (W.atH m).sqL hq, fun b hb => ?_, ?_, ?_, by rw [e3]; exact c4, fun b hb => ?_, fun p np => ?_⟩
      · obtain ⟨p, hp, rfl⟩ := mem b hb
        have := List.all_eq_true.mp c3 p.1 (inD p hp)
        rw [Bool.and_eq_true] at this
        exact Rp.dpo (W.atH m) this.1 (z3 p hp)
      · rw [e2]
        intro d hd d' hd'
        obtain ⟨x, hx, rfl⟩ := List.mem_map.mp hd
        obtain ⟨y, hy, rfl⟩ := List.mem_map.mp hd'
        exact List.all_eq_true.mp (List.all_eq_true.mp c1 x hx) y hy
      · rw [e2]
        refine .inl fun d hd => ?_
        obtain ⟨x, hx, rfl⟩ := List.mem_map.mp hd
        exact tupled_of (List.all_eq_true.mp c2 x hx)
      · obtain ⟨p, hp, rfl⟩ := mem b hb
        have := List.all_eq_true.mp c3 p.1 (inD p hp)
        rw [Bool.and_eq_true] at this
        exact of_decide_eq_true this.2
      · have s1 : (((ds.zip vs).map fun p => (p.1.py, p.2)).mergeSort (dataLe false (·.1))).map (·.2) = ((ds.zip vs).mergeSort (dataLe false fun p => p.1.py)).map (·.2) := by
          have h := List.map_mergeSort (r := dataLe false fun p : D × V => p.1.py) (s := dataLe false (Prod.fst : PyData × V → PyData)) (f := fun p : D × V => (p.1.py, p.2)) (l := ds.zip vs) (fun _ _ _ _ => rfl)
          rw [← h, List.map_map]
          rfl
        have s2 : ds.mergeSort (dataLe false D.py) = ((ds.zip vs).mergeSort (dataLe false fun p => p.1.py)).map (·.1) := by
          have h := List.map_mergeSort (r := dataLe false fun p : D × V => p.1.py) (s := dataLe false D.py) (f := (Prod.fst : D × V → D)) (l := ds.zip vs) (fun _ _ _ _ => rfl)
          rw [h, z1]
        rw [s1]
        have rr : RpL T (W.at m) (ds.mergeSort (dataLe false D.py)) (((ds.zip vs).mergeSort (dataLe false fun p => p.1.py)).map (·.2)) := by
          rw [s2]
          exact rpl_map fun p hp => z3 p ((List.mergeSort_perm _ _).mem_iff.mp hp)
        refine q (.ref p) (W.lay p (.lst _) np) [p] (W.lay_step np) (W.newL np rr) (fun c hc => ?_) (by simp)
        have e : c = p := by simpa using hc
        rw [e]
        exact np
    · rw [if_neg c] at h
      cases h
  · cases h
end My

set_option Elab.async false
set_option linter.all false
set_option maxRecDepth 100000
set_option maxHeartbeats 4000000
/-! M24: dicts whose keys are nested tuples of ints, all values True: made, put, listed. -/
namespace My
open PySem PyProof.Rows L2

def tru3 (kas : List (NestedKey × Addr)) : List (NestedKey × Addr × Value) := kas.map fun p => (p.1, p.2, .bool true)
def putN (kas : List (NestedKey × Addr)) (k : NestedKey) (b : Addr) : List (NestedKey × Addr) := if k ∈ kas.map (·.1) then kas else kas ++ [(k, b)]
theorem atKey_some (kas : List (NestedKey × Addr)) (k : NestedKey) : (atKey (tru3 kas) k).isSome = decide (k ∈ kas.map (·.1)) := by
  unfold atKey tru3
  rw [Option.isSome_map, Bool.eq_iff_iff, List.find?_isSome, decide_eq_true_iff]
  constructor
  · rintro ⟨x, hx, e⟩
    obtain ⟨p, hp, rfl⟩ := List.mem_map.mp hx
    have e : p.1 = k := of_decide_eq_true e
    exact e ▸ List.mem_map_of_mem hp
  · intro h
    obtain ⟨p, hp, e⟩ := List.mem_map.mp h
    exact ⟨(p.1, p.2, .bool true), List.mem_map_of_mem (f := fun p : NestedKey × Addr => (p.1, p.2, Value.bool true)) hp, decide_eq_true e⟩
theorem stored_true (kas : List (NestedKey × Addr)) (k : NestedKey) (b : Addr) : storedH (tru3 kas) k b (.bool true) = tru3 (putN kas k b) := by
  unfold storedH
  rw [atKey_some]
  unfold putN
  by_cases c : k ∈ kas.map (·.1)
  · rw [if_pos (decide_eq_true c), if_pos c]
    unfold tru3
    rw [List.map_map]
    refine List.map_congr_left fun p _ => ?_
    show putAt k (.bool true) (p.1, p.2, .bool true) = _
    unfold putAt
    split <;> rfl
  · rw [if_neg (by simpa using c), if_neg c]
    unfold tru3
    rw [List.map_append]
    rfl
/-- the keys' tuples are there -/
def KsAt (T : Tab) (H : Hp) (kas : List (NestedKey × Addr)) : Prop := ∀ p ∈ kas, ∃ d, nkOf d = some p.1 ∧ Rp T H d (.ref p.2)
section
variable {X : Cx} {pins : List (Addr × Obj)} {σ : L2.St} {H : Hp} {s : Shared} {T : Tab}
mutual
theorem nk_is (I : Inv X pins σ H s) (hK : X.K = T.K) : ∀ (d : D) (v : V) (u : Value) (k : NestedKey), Rp T H d v → nkOf d = some k → RelV v u → NestedIs s.heap k u
  | .int i, _, _, k, r, h, rv => by
    cases h
    cases r
    obtain ⟨t, rfl⟩ := rv
    exact .int i t
  | .tup ds, _, _, k, ⟨a, vs, e, hq, r⟩, h, rv => by
    subst e
    obtain ⟨ks, h1, rfl⟩ := map_some h
    cases rv
    rw [← hK] at hq
    obtain ⟨its, rv, ⟨o, ho, hc, n, hd⟩, _⟩ := I.tuple hq
    exact .tup ho hc hd (by simpa using nk_all I hK ds vs its ks r h1 rv)
  | .non, _, _, _, _, h, _ => by cases h
  | .bl _, _, _, _, _, h, _ => by cases h
  | .str _, _, _, _, _, h, _ => by cases h
  | .lst _, _, _, _, _, h, _ => by cases h
  | .dct _ _, _, _, _, _, h, _ => by cases h
  | .obj _ _ _, _, _, _, _, h, _ => by cases h
  | .nst _, _, _, _, _, h, _ => by cases h
theorem nk_all (I : Inv X pins σ H s) (hK : X.K = T.K) : ∀ (ds : List D) (vs : List V) (us : List Value) (ks : List NestedKey), RpL T H ds vs → nkAll ds = some ks → Vals vs us → NestedAll s.heap ks us
  | [], _, _, ks, r, h, rv => by
    cases h
    have e := r
    subst e
    cases rv
    exact .nil
  | d :: ds, _, _, ks, ⟨v, vr, e, q, k⟩, h, rv => by
    subst e
    obtain ⟨k0, h1, h2⟩ := bind_some h
    obtain ⟨kr, h3, rfl⟩ := map_some h2
    cases rv with
    | cons rv rr => exact .cons (nk_is I hK d v _ k0 q h1 rv) (nk_all I hK ds vr _ kr k h3 rr)
end
theorem nd_dict (I : Inv X pins σ H s) (hK : X.K = T.K) (hw : X.w = T.w) {a : Addr} {kas : List (NestedKey × Addr)} (h : NdAt T.w H a kas) (hk : KsAt T H kas) : s.heap.DictOfH (nestedKind X.prog X.w) a (tru3 kas) := by
  obtain ⟨⟨o, es, ep, h1, h2, h3, h4⟩, _, _⟩ := (show ObjOk X.prog X.w H s.heap a (NdO T.w a kas) from I.hok a _ h.at_)
  refine ⟨o, es, ep, h1, h2, h3, ?_, fun x hx => ?_, ?_⟩
  · rw [h4, ← hw]
    unfold tru3
    rw [List.map_map]
    rfl
  · obtain ⟨p, hp, rfl⟩ := List.mem_map.mp hx
    obtain ⟨d, k1, k2⟩ := hk p hp
    exact ⟨nk_is I hK d _ _ _ k2 k1 rfl, h.dep p hp⟩
  · have e : (tru3 kas).map (·.1) = kas.map (·.1) := by
      unfold tru3
      rw [List.map_map]
      rfl
    rw [e]
    exact h.nd
theorem nd_ok {P : Program} {w : PySem.World} {H' : Hp} {h' : Heap} {a : Addr} {kas : List (NestedKey × Addr)} (h : ∃ o es ep, h'.get? a = some o ∧ o.ExactDict ∧ o.data = .dict es ep ∧ es.toList = kas.map (entN w)) : ObjOk P w H' h' a (NdO w a kas) := by
  obtain ⟨o, es, ep, h1, h2, h3, h4⟩ := h
  exact ⟨⟨o, es, ep, h1, h2, h3, h4⟩, ⟨o, h1⟩, fun g1 g2 ⟨o, es, ep, k1, k2, k3, k4⟩ kp => ⟨o, es, ep, kp o k1, k2, k3, k4⟩⟩
/-- d[k] = True -/
theorem nd_set {Q : Unit → Shared → Prop} {A : Around} {E : Value → Shared → Prop} {a b : Addr} {kas : List (NestedKey × Addr)} {k : NestedKey} {d : D} (hu : A.units + 64 < cLine) (I : Inv X pins σ H s) (hK : X.K = T.K) (hw : X.w = T.w) (h : NdAt T.w H a kas) (hk : KsAt T H kas) (hd : nkOf d = some k) (hr : Rp T H d (.ref b)) (h8 : k.depth ≤ 8) (hl : kas.length < sizeLine)
    (q : ∀ s', Inv X pins σ (upd H a (NdO T.w a (putN kas k b))) s' → Q () s') : wpAny (model X.prog X.w) A (setItem (.ref a) (.ref b) (.bool true)) Q E s := by
  have dd := nd_dict I hK hw h hk
  have hsz : (tru3 kas).length ≤ sizeLine := by
    unfold tru3
    rw [List.length_map]
    omega
  refine wpAny_setItem_heap (hsz := hsz) (knd := nestedKind X.prog X.w) (show A.units + 1 + 8 < cLine by omega) (show NestedIs s.heap k (.ref b) ∧ k.depth ≤ 8 from ⟨nk_is I hK d _ _ _ hr hd rfl, h8⟩) dd fun h' dd' hs => q _ ?_
  rw [stored_true] at dd'
  obtain ⟨o, es, ep, k1, k2, k3, k4, _, _⟩ := dd'
  refine d_write I (by rw [h.at_]; exact True.intro) hs ⟨o, k1⟩ ?_
  rw [← hw]
  refine nd_ok ⟨o, es, ep, k1, k2, k3, ?_⟩
  rw [k4]
  unfold tru3
  rw [List.map_map]
  rfl
end
/-! ### the statements -/
def tNewN (w : PySem.World) : TE := fun _ H Q => ∀ p, H p = none → (p == sysModules) = false → Q (.ref p) (upd H p (NdO w p []))
theorem pe_newN {X : Cx} {pos : Pos} : PE X (.Dict [] [] pos) (tNewN X.w) := ⟨fun pins s σ H Q I h => by
  have hm : (s.heap.objs.size == sysModules) = false := beq_eq_false_iff_ne.mpr (Nat.ne_of_gt I.big)
  exact wpAny_Dict_empty ⟨.ref s.heap.objs.size, _, I.laid (a := s.heap.objs.size) (o := NdO X.w s.heap.objs.size []) (t' := s.toks) (fun _ _ q => Heap.get?_push_of_some _ q) (Nat.le_refl _) (nd_ok ⟨_, #[], 0, Heap.get?_push_size _ rfl, ⟨rfl, rfl, rfl⟩, rfl, rfl⟩), rfl, h _ (I.hok.fresh (Nat.le_refl _)) hm⟩⟩
def dNewN (_ : List SV) : Option OD := some (.nst [])
def sNput (T : Tab) (td ty tv : TE) : TS := fun D σ H => tv σ H fun v H1 => td σ H1 fun x H2 => ty σ H2 fun y H3 => ∃ a kas b k d, x = .ref a ∧ v = .bl true ∧ y = .ref b ∧ NdAt T.w H3 a kas ∧ KsAt T H3 kas ∧ nkOf d = some k ∧ Rp T H3 d (.ref b) ∧ k.depth ≤ 8 ∧ kas.length < sizeLine ∧ D.nx σ (upd H3 a (NdO T.w a (putN kas k b)))
theorem ps_nput {X : Cx} {T : Tab} {o i value : Expr} {td ty tv : TE} {pos pos' : Pos} (hu : X.A.units + 64 < cLine) (hK : X.K = T.K) (hw : X.w = T.w) (ho : PE X o td) (hi : PE X i ty) (hv : PE X value tv) (hs : swapsWith value (some (.Subscript o i pos')) pos.line X.env = pure false) : PS X (.Assign [.Subscript o i pos'] value pos) (sNput T td ty tv) := by
  refine ⟨fun pins s σ H D I h => wpAny_Assign_Subscript (thn (hv.run pins s σ H _ I h) fun r s1 ⟨v, H1, I1, rv, q1⟩ => thn (ho.run pins s1 σ H1 _ I1 q1) fun u s2 ⟨x, H2, I2, rx, q2⟩ => thn (hi.run pins s2 σ H2 _ I2 q2) fun iv s3 ⟨y, H3, I3, ry, a, kas, b, k, d, ex, ev, ey, n1, n2, n3, n4, n5, n6, q3⟩ => ?_) hs⟩
  subst ex ev ey
  obtain rfl : u = Value.ref a := rx
  obtain rfl : iv = Value.ref b := ry
  obtain rfl : r = Value.bool true := rv
  exact nd_set hu I3 hK hw n1 n2 n3 n4 n5 n6 fun s4 I4 => ⟨σ, _, I4, q3⟩
def dNput (i : Nat) (fk : List SV → Option D) (s : List SV) : Option Out := (fk s).bind fun d => match s[i]?, d with
  | some (.own (.nst ks)), .tup es => (nkOf (.tup es)).bind fun k => (nkAll ks).bind fun kk => if k.depth ≤ 8 ∧ ks.length < sizeLine then some (.nx (s.set i (.own (.nst (if k ∈ kk then ks else ks ++ [.tup es]))))) else none
  | _, _ => none
theorem nkAll_snoc : ∀ {ks : List D} {kk : List NestedKey} {d : D} {k : NestedKey}, nkAll ks = some kk → nkOf d = some k → nkAll (ks ++ [d]) = some (kk ++ [k])
  | [], kk, d, k, h, h2 => by
    cases h
    show (nkOf d).bind _ = _
    rw [h2]
    rfl
  | d0 :: ks, kk, d, k, h, h2 => by
    obtain ⟨k0, h3, h4⟩ := bind_some h
    obtain ⟨kr, h5, rfl⟩ := map_some h4
    show (nkOf d0).bind (fun k => (nkAll (ks ++ [d])).map (k :: ·)) = _
    rw [h3, nkAll_snoc h5 h2]
    rfl
theorem ks_at {T : Tab} {G : Hp} : ∀ {ks : List D} {kas : List (NestedKey × Addr)}, nkAll ks = some (kas.map (·.1)) → RpL T G ks (kas.map fun p => V.ref p.2) → KsAt T G kas
  | [], [], _, _ => fun p hp => by simp at hp
  | [], _ :: _, h, _ => by cases h
  | d :: ks, [], h, r => by
    obtain ⟨v, vr, e, _⟩ := r
    cases e
  | d :: ks, p0 :: kas, h, ⟨v, vr, e, q, k⟩ => by
    obtain ⟨k0, h3, h4⟩ := bind_some h
    obtain ⟨kr, h5, h6⟩ := map_some h4
    have e1 : V.ref p0.2 = v := (List.cons.inj e).1
    have e2 : kas.map (fun p => V.ref p.2) = vr := (List.cons.inj e).2
    have h6 : k0 :: kr = p0.1 :: kas.map (·.1) := h6
    obtain ⟨e3, e4⟩ := List.cons.inj h6
    subst e1 e2 e3 e4
    intro p hp
    rcases List.mem_cons.mp hp with z | z
    · rw [z]
      exact ⟨d, h3, q⟩
    · exact ks_at h5 k p z
section
variable {ι : Type} {X : ι → Cx} {T : Tab} {me : List Md} {e b : Expr} {m : Md} {f fk : List SV → Option D} {p pos pos' : Pos} {x : Str}
theorem fo_newN (hw : ∀ j, (X j).w = T.w) : FO X T me (.Dict [] [] pos) m dNewN := ⟨tNewN T.w, fun j => by
    have := pe_newN (X := X j) (pos := pos)
    rwa [hw j] at this, fun W σ s F st o ho Q q => by
  cases ho
  exact fun z nz hm => q (.ref z) (W.lay z (NdO T.w z []) nz) [z] (W.lay_step nz) ⟨z, [], rfl, rfl, W.freshB nz, ⟨upd_same, hm, Nat.zero_le _, List.nodup_nil, fun p hp => by simp at hp⟩, rfl, rfl⟩ (fun c hc => by
    have e : c = z := by simpa using hc
    rw [e]
    exact nz) (by simp)⟩
theorem ss_nput {ty tv : TE} {i : Nat} (hk : SP T me ty m fk) (hv : SP T me tv .p (dC (.bl true))) (hm : me[i]? = some m) : SS T me (sNput T (tVar i) ty tv) (dNput i fk) := fun W σ s F st nd out ho N ok => by
  obtain ⟨d, k1, ho⟩ := bind_some ho
  split at ho
  · rename_i ks es e
    obtain ⟨k, k2, ho⟩ := bind_some ho
    obtain ⟨kk, k3, ho⟩ := bind_some ho
    by_cases c : k.depth ≤ 8 ∧ ks.length < sizeLine
    · rw [if_pos c] at ho
      cases ho
      refine hv W σ s F st (.bl true) rfl _ fun v W1 t1 r1 => ?_
      obtain ⟨m2, y0, F1, A, C, g1, g2, g3, g4, ⟨v0, ev, hro, hv0⟩, g6⟩ := (st.step t1).focus e
      have em : m = m2 := Option.some.inj (hm.symm.trans g1)
      subst em
      obtain ⟨a, kas, ea, ef, hb, hN, hkk, hrl⟩ := id hro
      subst ev ea ef g4
      refine ⟨.ref a, g3, hk W1 σ s _ (st.step t1) _ k1 _ fun y W2 t2 r2 => ?_⟩
      obtain ⟨m3, y3, F3, A3, C3, p1, p2, p3, p4, ⟨v3, ev3, hro3, hv3⟩, p6⟩ := ((st.step t1).step t2).focus e
      have em : m = m3 := Option.some.inj (hm.symm.trans p1)
      subst em
      have ey : y3 = some (.ref a) := by rw [g3] at p3; exact (Option.some.inj p3).symm
      subst ey
      have ev4 : v3 = .ref a := (Option.some.inj ev3).symm
      subst ev4
      obtain ⟨a3, kas3, ea3, ef3, hb3, hN3, hkk3, hrl3⟩ := hro3
      cases ea3
      subst ef3
      obtain ⟨bq, us, eb, hq, hr⟩ := id r2
      subst eb
      have hlen : ks.length = kas3.length := by
        have := hrl3.length
        simpa using this
      have ekk : kk = kas3.map (·.1) := Option.some.inj (k3.symm.trans hkk3)
      have hks : KsAt T W2.H kas3 := ks_at hkk3 (RpL.mono (W2.atH m) ks _ hrl3)
      refine ⟨a, kas3, bq, k, .tup es, rfl, r1, rfl, hN3, hks, k2, Rp.mono (W2.atH m) (.tup es) _ r2, c.1, by omega, ?_⟩
      have hnd : a ∉ A3 ∧ a ∉ C3 := by
        rw [p4] at nd
        rw [List.nodup_append] at nd
        obtain ⟨_, n2, n3⟩ := nd
        rw [List.cons_append, List.nodup_cons] at n2
        exact ⟨fun z => n3 a z a (by simp) rfl, fun z => n2.1 (by simpa using z)⟩
      have t12 := t1.pure t2
      have t3 : Step [a] W2 (W2.mut a (NdO T.w a (putN kas3 k bq)) hb3) := ⟨Sub.refl _, Sub.refl _, fun c u e hf => by
        show upd W2.H a _ c = some u
        rw [upd_ne (fun z => hf (by simp [z]))]
        exact e, fun c h => by
        show upd W2.H a _ c ≠ none
        unfold upd
        split
        · simp
        · exact h, fun _ _ _ e => e, fun _ _ _ e => e, rfl⟩
      have key := p6 (W2.mut a (NdO T.w a (putN kas3 k bq)) hb3) (some (.ref a)) (.own (.nst (if k ∈ kk then ks else ks ++ [.tup es]))) [a] (Sub.refl _) (Sub.refl _) rfl (fun c hc u e => by
          show upd W2.H a _ c = some u
          rw [upd_ne (fun z => by
            subst z
            rcases List.mem_append.mp hc with y | y
            · exact hnd.1 y
            · exact hnd.2 y)]
          exact e) (fun _ _ e => e) ⟨.ref a, rfl, ⟨a, putN kas3 k bq, rfl, rfl, hb3, ⟨upd_same, hN3.lo, ?_, ?_, ?_⟩, ?_, ?_⟩, hv3⟩
      · rw [show σ.set i (some (V.ref a)) = σ from by
          apply List.ext_getElem?
          intro n
          by_cases hn : i = n
          · subst hn
            rw [p3, List.getElem?_set_self (List.getElem?_eq_some_iff.mp p3).1]
          · rw [List.getElem?_set_ne hn]] at key
        refine ok σ _ _ (t12.pureL (t3.mono fun c hc => ?_)) (fun c hc => .inl ?_) key ?_
        · have : c = a := by simpa using hc
          rw [p4, this]
          simp
        · rw [p4]; exact hc
        · rw [p4] at nd; exact nd
      · unfold putN
        split
        · exact hN3.len
        · simp
          omega
      · unfold putN
        split
        · exact hN3.nd
        · rename_i hn
          rw [List.map_append, List.nodup_append]
          refine ⟨hN3.nd, by simp, fun u hu w hw e => ?_⟩
          have hw : w = k := by simpa using hw
          exact hn (hw ▸ e ▸ hu)
      · unfold putN
        split
        · exact hN3.dep
        · intro p hp
          rcases List.mem_append.mp hp with z | z
          · exact hN3.dep p z
          · have : p = (k, bq) := by simpa using z
            rw [this]
            exact c.1
      · rw [ekk]
        unfold putN
        split
        · exact hkk3
        · rw [List.map_append]
          exact nkAll_snoc hkk3 k2
      · rw [World.mut_at p2, ekk]
        unfold putN
        split
        · exact hrl3
        · rw [List.map_append]
          exact hrl3.append (RpL.one r2)
    · rw [if_neg c] at ho
      cases ho
  · cases ho
theorem fs_nput (i : Nat) (hu : ∀ j, (X j).A.units + 64 < cLine) (hK : ∀ j, (X j).K = T.K) (hw : ∀ j, (X j).w = T.w) (hk : FP X T me b m fk) (hv : FP X T me e .p (dC (.bl true))) (hm : me[i]? = some m := by rfl) (hN : ∀ j, (X j).N[i]? = some x := by intro _; rfl) (hvi : ∀ j, Vis (X j).env.scope x := by intro _; first | exact Or.inl rfl | exact Or.inr (Or.inl rfl) | exact Or.inr (Or.inr rfl))
    (hd : (x == ("__debug__" : Str)) = false := by decide) (hcd : (x == ("__classdict__" : Str)) = false := by decide) (hs : ∀ j, swapsWith e (some (.Subscript (.Name x p) b pos')) pos.line (X j).env = pure false := by intro _; rfl) :
    FS X T me (.Assign [.Subscript (.Name x p) b pos'] e pos) (dNput i fk) := by
  obtain ⟨tk, h1, h2⟩ := hk.ex
  obtain ⟨tv, h3, h4⟩ := hv.ex
  exact ⟨_, fun j => ps_nput (hu j) (hK j) (hw j) (pe_var (hN j) (hvi j) hd hcd) (h1 j) (h3 j) (hs j), ss_nput h2 h4 hm⟩
/-- list(d), d such a dict -/
def rListN (w : PySem.World) : List V → Hp → VK → Prop := fun vs H Q => ∃ a kas, vs = [.ref a] ∧ NdAt w H a kas ∧ ∀ p, H p = none → Q (.ref p) (upd H p (.lst (kas.map fun p => V.ref p.2)))
theorem vals_keys {es : Array DictEntry} {w : PySem.World} : ∀ {kas : List (NestedKey × Addr)} {us : List Value} {l : List DictEntry}, l = kas.map (entN w) → us = l.map (·.key) → Vals (kas.map fun p => V.ref p.2) us
  | [], _, _, e, e2 => by
    subst e e2
    exact .nil
  | p :: kas, _, _, e, e2 => by
    subst e e2
    exact .cons rfl (vals_keys (es := es) rfl rfl)
theorem call_listN {X : Cx} (hcalm : X.calm = true) : CallR X (.type "list") (rListN X.w) := by
  intro pins s σ H xs us Q I r q
  obtain ⟨a, kas, rfl, hN, q⟩ := q
  obtain ⟨u, eu, rx⟩ := vals1 r
  subst eu
  cases rx
  obtain ⟨⟨o, es, ep, h1, h2, h3, h4⟩, _, _⟩ := (show ObjOk X.prog X.w H s.heap a (NdO X.w a kas) from I.hok a _ hN.at_)
  have hat : s.heap.DictRaw a es ep := ⟨o, h1, h2, h3⟩
  have hsz : es.size = kas.length := by
    have := congrArg List.length h4
    simpa using this
  refine PySem.W.kdl_call (KdlSrc.rawDict (es := es) (ep := ep) hN.lo) (I.ok.hd hcalm) hat (by rw [hsz]; exact hN.len) fun h' tk acc c' hk hD hacc => ?_
  have hv : Vals (kas.map fun p => V.ref p.2) acc.toList := by
    refine vals_keys (es := es) h4 ?_
    apply List.ext_getElem?
    intro j
    by_cases hj : j < es.size
    · have ha : j < acc.size := by rw [hacc.1]; exact hj
      obtain ⟨hi, e⟩ := hacc.2 j acc[j] (Array.getElem?_eq_getElem ha)
      rw [Array.getElem?_toList, Array.getElem?_eq_getElem ha, e, List.getElem?_map, Array.getElem?_toList, Array.getElem?_eq_getElem hj]
      rfl
    · rw [List.getElem?_eq_none (by rw [Array.length_toList, hacc.1]; omega), List.getElem?_eq_none (by rw [List.length_map, Array.length_toList]; omega)]
  refine ⟨.ref s.heap.objs.size, upd H s.heap.objs.size (.lst (kas.map fun p => V.ref p.2)), I.laid (t' := tk) hk (Nat.le_refl _)
    (show ObjOk X.prog X.w _ _ _ (.lst (kas.map fun p => V.ref p.2)) from ⟨by rw [List.length_map]; exact hN.len, acc.toList, c', hv, by rw [Array.toArray_toList]; exact hD⟩), rfl, q _ (I.hok.fresh (Nat.le_refl _))⟩
def dListOwn (i : Nat) (s : List SV) : Option OD := match s[i]? with
  | some (.own (.nst ks)) => some (oL ks)
  | _ => none
theorem fo_listN (i : Nat) (hc : ∀ j, (X j).calm = true) (hw : ∀ j, (X j).w = T.w) (hm : me[i]? = some m := by rfl) (hN : ∀ j, (X j).N[i]? = some x := by intro _; rfl) (hvi : ∀ j, Vis (X j).env.scope x := by intro _; first | exact Or.inl rfl | exact Or.inr (Or.inl rfl) | exact Or.inr (Or.inr rfl)) (hgm : ∀ j, (X j).mg "list" = none) (hg : ∀ j, Gl (X j) "list" := by intro _; rfl)
    (hd : (x == ("__debug__" : Str)) = false := by decide) (hcd : (x == ("__classdict__" : Str)) = false := by decide) (hs : ∀ j, starEach [.Name x p] (X j).env = (false, eval (.Name x p) (X j).env) :: starEach [] (X j).env := by intro _; rfl) (hpl : ∀ j, (backTo pos (starEach [] (X j).env)).any (·.1) = false := by intro _; rfl) {pl : Pos} :
    FO X T me (.Call (.Name "list" pl) [.Name x p] [] pos) m (dListOwn i) := by
  refine ⟨tCB (rListN T.w) (tCons (tVar i) tNil), fun j => ?_, fun W σ s F st o ho Q q => ?_⟩
  · have := pe_callTy (pos := pos) (p := pl) (call_listN (X := X j) (hc j)) (hg j) (hgm j) (by rfl) (pa_cons (pe_var (hN j) (hvi j) hd hcd (pos := p)) pa_nil (hs j)) (by decide) (by decide) (hs j) (hpl j)
    rwa [hw j] at this
  · unfold dListOwn at ho
    split at ho
    · rename_i ks e
      cases ho
      obtain ⟨m2, y0, F1, A, C, g1, g2, g3, g4, ⟨v0, ev, ⟨a, kas, ea, ef, hb, hNd, hkk, hrl⟩, hv0⟩, g6⟩ := st.focus e
      have em : m = m2 := Option.some.inj (hm.symm.trans g1)
      subst em ev ea
      refine ⟨.ref a, g3, a, kas, rfl, hNd, fun z nz => ?_⟩
      exact q (.ref z) (W.lay z _ nz) [z] (W.lay_step nz) (W.newL nz hrl) (fun c hc => by
        have e : c = z := by simpa using hc
        rw [e]
        exact nz) (by simp)
    · cases ho
end
end My

set_option Elab.async false
set_option linter.all false
set_option maxRecDepth 100000
set_option maxHeartbeats 4000000
/-! M25: assignments to several names; sorted and + of lists read item by item; walks that give an own list up; objects made with effects; what is not covered. -/
namespace My
open PySem PyProof.Rows L2

def dSetT (bind : D → List SV → Option (List SV)) (fe : List SV → Option D) (s : List SV) : Option Out := (fe s).bind fun d => (bind d s).map Out.nx
def dSetTX (bind : D → List SV → Option (List SV)) (fe : List SV → Option (D × List SV)) (s : List SV) : Option Out := (fe s).bind fun r => (bind r.1 r.2).map Out.nx
section
variable {ι : Type} {X : ι → Cx} {T : Tab} {me : List Md} {tg e a b : Expr} {es : List Expr} {m m1 m2 : Md} {vs : List Nat} {bind : D → List SV → Option (List SV)} {f : List SV → Option D} {fx : List SV → Option (D × List SV)} {fl fl2 : List SV → Option (List D)} {pos p py : Pos} {x y : Str} {k : Nat} {ps : List Str} {ms : List Md} {st : Stmt}
theorem ss_setT {te : TE} {g : TG} (h : SP T me te m f) (hg : SG T me g m vs bind) : SS T me (tAsg te g) (dSetT bind f) := fun W σ s F st nd out ho N ok => by
  obtain ⟨d, k1, ho⟩ := bind_some ho
  obtain ⟨s', k2, rfl⟩ := map_some ho
  refine h W σ s F st d k1 _ fun v W1 t1 r1 => ?_
  refine hg W1 σ s F v d s' (st.step t1) r1 k2 _ fun σ' W2 F' t2 st2 sub nd2 _ => ?_
  exact ok σ' W2 F' ((t1.pure t2).mono (by simp)) (fun a ha => .inl (sub a ha)) st2 (nd2 nd)
theorem ss_setTX {te : TE} {g : TG} (h : SX T me te m fx) (hg : SG T me g m vs bind) : SS T me (tAsg te g) (dSetTX bind fx) := fun W σ s F st nd out ho N ok => by
  obtain ⟨⟨d, s1⟩, k1, ho⟩ := bind_some ho
  obtain ⟨s', k2, rfl⟩ := map_some ho
  refine h W σ s F st nd d s1 k1 _ fun v W1 F1 t1 n1 st1 nd1 r1 => ?_
  refine hg W1 σ s1 F1 v d s' st1 r1 k2 _ fun σ' W2 F' t2 st2 sub nd2 _ => ?_
  exact ok σ' W2 F' (t1.pureR t2) (fun a ha => n1 a (sub a ha)) st2 (nd2 nd1)
theorem fs_setT (he : FP X T me e m f) (hg : FG X T me tg m vs bind) (hs : ∀ j, swapsWithSole [tg] e pos.line (X j).env = pure false := by intro _; rfl) (hw : ∀ j, swappedStores [tg] e (X j).env = pure none := by intro _; rfl) (h1 : ∀ j, (assignEach [tg] (X j).env).map (·.2) = [assign tg (X j).env] := by intro _; rfl) : FS X T me (.Assign [tg] e pos) (dSetT bind f) := by
  obtain ⟨t, h2, h3⟩ := he.ex
  obtain ⟨g, h4, h5⟩ := hg.ex
  exact ⟨_, fun j => ps_asg (h2 j) (h4 j) (hs j) (hw j) (h1 j), ss_setT h3 h5⟩
theorem fs_setTX (he : FX X T me e m fx) (hg : FG X T me tg m vs bind) (hs : ∀ j, swapsWithSole [tg] e pos.line (X j).env = pure false := by intro _; rfl) (hw : ∀ j, swappedStores [tg] e (X j).env = pure none := by intro _; rfl) (h1 : ∀ j, (assignEach [tg] (X j).env).map (·.2) = [assign tg (X j).env] := by intro _; rfl) : FS X T me (.Assign [tg] e pos) (dSetTX bind fx) := by
  obtain ⟨t, h2, h3⟩ := he.ex
  obtain ⟨g, h4, h5⟩ := hg.ex
  exact ⟨_, fun j => ps_asg (h2 j) (h4 j) (hs j) (hw j) (h1 j), ss_setTX h3 h5⟩
/-! ### sorted(xs) -/
def dSortedL (fl : List SV → Option (List D)) (s : List SV) : Option OD := (fl s).bind fun ds => dSorted [.lst ds]
theorem fo_sortedL (hK : ∀ j, (X j).K = T.K) (hu : ∀ j, (X j).A.units + 64 < cLine) (ha : FL X T me e m fl) (hm : ∀ j, (X j).mg "sorted" = none) (hg : ∀ j, Gl (X j) "sorted" := by intro _; rfl) (he : ∀ j, starEach [e] (X j).env = (false, eval e (X j).env) :: starEach [] (X j).env := by intro _; rfl) (hpl : ∀ j, (backTo pos (starEach [] (X j).env)).any (·.1) = false := by intro _; rfl) :
    FO X T me (.Call (.Name "sorted" p) [e] [] pos) m (dSortedL fl) := by
  obtain ⟨t, h1, h2⟩ := ha.ex
  refine ⟨tCB (rSortedD T.K) (tCons t tNil), fun j => ?_, fun W σ s F st o ho Q q => ?_⟩
  · have h := pe_callB (pos := pos) (p := p) (x := "sorted") (cr_sortedD (X := X j) (hu j)) (hg j) (hm j) rfl (pa_cons (h1 j) pa_nil (he j)) (by decide) (by decide) (he j) (hpl j)
    rwa [hK j] at h
  · obtain ⟨ds, k1, k2⟩ := bind_some ho
    refine h2 W σ s F st ds k1 _ fun a vs W1 t1 hq rr => ?_
    have k3 : (if sortOk ds = true then some (oL (ds.mergeSort (PySem.W.dataLe false D.py))) else none) = some o := k2
    by_cases c : sortOk ds = true
    · rw [if_pos c] at k3
      cases k3
      exact sorted_reads c hq rr fun p np rr2 => q (.ref p) (W1.lay p (.lst _) np) [p] (t1.pure (W1.lay_step np)) (W1.newL np rr2) (fun c hc => by
        have e : c = p := by simpa using hc
        rw [e]
        exact t1.back np) (by simp)
    · rw [if_neg c] at k3
      cases k3
/-! ### xs + ys -/
def catD (xs ys : List D) : Option OD := if xs.length + ys.length ≤ sizeLine then some (oL (xs ++ ys)) else none
def dCatL (fa fb : List SV → Option (List D)) (s : List SV) : Option OD := (fa s).bind fun xs => (fb s).bind fun ys => catD xs ys
theorem fo_catL (hK : ∀ j, (X j).K = T.K) (ha : FL X T me a m fl) (hb : FL X T me b m fl2) : FO X T me (.BinOp a .Add b pos) m (dCatL fl fl2) := by
  obtain ⟨t, h1, h2⟩ := ha.ex
  obtain ⟨u, h3, h4⟩ := hb.ex
  refine ⟨tOp (rCatQ T.K) t u, fun j => pe_op (by have h : OpR (X j) (binaryOp .Add) (rCatQ (X j).K) := op_catQ; rw [hK j] at h; exact h) (h1 j) (h3 j), fun W σ s F st o ho Q q => ?_⟩
  obtain ⟨xs, k1, ho⟩ := bind_some ho
  obtain ⟨ys, k2, ho⟩ := bind_some ho
  unfold catD at ho
  by_cases c : xs.length + ys.length ≤ sizeLine
  · rw [if_pos c] at ho
    cases ho
    refine h2 W σ s F st xs k1 _ fun l vs1 W1 t1 hq1 r1 => ?_
    refine h4 W1 σ s F (st.step t1) ys k2 _ fun l2 vs2 W2 t2 hq2 r2 => ?_
    have r1' := RpL.mono (t2.at m) xs vs1 r1
    refine ⟨l, l2, vs1, vs2, rfl, rfl, Sub.sqL t2.subH hq1, hq2, by rw [← r1.length, ← r2.length]; exact c, fun p np => ?_⟩
    exact q (.ref p) (W2.lay p (.lst (vs1 ++ vs2)) np) [p] ((t1.pure t2).pure (W2.lay_step np)) (W2.newL np (r1'.append r2)) (fun c hc => by
      have e : c = p := by simpa using hc
      rw [e]
      exact (t1.pure t2).back np) (by simp)
  · rw [if_neg c] at ho
    cases ho
/-! ### what is not covered -/
theorem fs_not : FS X T me st (fun _ => none) := ⟨fun _ _ _ => False, fun j => ⟨fun pins s σ H D I h => h.elim⟩, fun W σ s F st nd out ho => by cases ho⟩
end
end My

set_option Elab.async false
set_option linter.all false
set_option maxRecDepth 100000
set_option maxHeartbeats 4000000
/-! M26: effects: xs + .. where xs is own; walks over a list that is given up; objects made; a def without a promise. -/
namespace My
open PySem PyProof.Rows L2

/-- x + e, x an own list, e with effects -/
def xCatOwn (i : Nat) (fx : List SV → Option (D × List SV)) (s : List SV) : Option (OD × List SV) := if isOwnL i s then (fx s).bind fun r => match dItemsOwn i r.2, r.1 with
  | some xs, .lst ys => (catD xs ys).map fun o => (o, r.2)
  | _, _ => none
  else none
def itD (d : D) (s : List SV) : Option (List D × List SV) := match d with
  | .lst ds => some (ds, s)
  | _ => none
def xItems (fx : List SV → Option (D × List SV)) (s : List SV) : Option (List D × List SV) := (fx s).bind fun r => itD r.1 r.2
theorem argsR_p {T : Tab} {W : World} : ∀ {ms : List Md} {ds : List D} {vs : List V}, ms.all (fun m => m == .p) = true → ms.length = ds.length → RpL T W.G ds vs → ArgsR T W ms ds vs
  | [], [], vs, _, _, r => by
    have e : vs = [] := r
    exact ⟨rfl, e⟩
  | [], _ :: _, _, _, h, _ => by cases h
  | _ :: _, [], _, _, h, _ => by cases h
  | m :: ms, d :: ds, _, hm, h, ⟨v, vr, rfl, q, k⟩ => by
    rw [List.all_cons, Bool.and_eq_true] at hm
    have e : m = .p := by simpa using hm.1
    subst e
    exact ⟨d, ds, v, vr, rfl, rfl, q, argsR_p hm.2 (by simpa using h) k⟩
def xMake (c0 : Nat) (n : Nat) (g : OD → List D → Option (OD × OD)) (fs : List SV → Option (List D × List SV)) (s : List SV) : Option (OD × List SV) := (fs s).bind fun r => if r.1.length = n then (g (.obj c0 [] []) r.1).bind fun q => (outN q.1 q.2).map fun o => (o, r.2) else none
section
variable {ι : Type} {X : ι → Cx} {T : Tab} {me : List Md} {tg e b : Expr} {es : List Expr} {m m1 m2 : Md} {fx : List SV → Option (D × List SV)} {fs : List SV → Option (List D × List SV)} {pos p py : Pos} {x y : Str} {k : Nat} {ps : List Str} {ms : List Md} {c0 : Nat}
theorem sxo_catOwn {t : TE} {i : Nat} (h : SX T me t m fx) (hm : me[i]? = some m) : SXo T me (tOp (rCatQ T.K) (tVar i) t) m (xCatOwn i fx) := fun W σ s F st nd o s' hd Q q => by
  by_cases c0 : isOwnL i s = true
  case neg =>
    unfold xCatOwn at hd
    rw [if_neg c0] at hd
    cases hd
  unfold xCatOwn at hd
  rw [if_pos c0] at hd
  obtain ⟨⟨d, s1⟩, k1, hd⟩ := bind_some hd
  split at hd
  · rename_i xs ys ex ey
    have ex : dItemsOwn i s1 = some xs := ex
    have ey : d = .lst ys := ey
    subst ey
    obtain ⟨o1, k2, k3⟩ := map_some hd
    cases k3
    unfold catD at k2
    by_cases c : xs.length + ys.length ≤ sizeLine
    · rw [if_pos c] at k2
      cases k2
      obtain ⟨os0, e0⟩ := isOwnL_of c0
      obtain ⟨m3, y, F1, A, C, g1, g2, g3, g4, ⟨v0, ev, ⟨a, vs, F', ea, ef, ha, hb, rr⟩, hv0⟩, g6⟩ := st.focus e0
      subst ev ea
      refine ⟨.ref a, g3, h W σ s F st nd _ s1 k1 _ fun v W1 F1 t1 n1 st1 nd1 r1 => ?_⟩
      unfold dItemsOwn at ex
      split at ex
      · rename_i os e
        obtain ⟨m4, y4, F4, A4, C4, p1, p2, p3, p4, ⟨v4, ev4, ⟨a4, vs4, F5, ea4, ef4, ha4, hb4, rr4⟩, hv4⟩, p6⟩ := st1.focus e
        have em : m = m4 := Option.some.inj (hm.symm.trans p1)
        subst em
        have ey4 : y4 = some (.ref a) := by rw [g3] at p3; exact (Option.some.inj p3).symm
        subst ey4
        have e5 : v4 = .ref a := (Option.some.inj ev4).symm
        subst e5
        cases ea4
        have rx := fzs_of ex rr4
        obtain ⟨b, us, rfl, hq, ry⟩ := r1
        refine ⟨a, b, vs4, us, rfl, rfl, .inl (.inl ha4), (W1.atH m).sqL hq, by rw [← rx.length, ← ry.length]; exact c, fun z nz => ?_⟩
        have hz : z ∉ F1 := fun hz => (st1.there z hz).1.ne nz
        refine q (.ref z) (W1.lay z (.lst (vs4 ++ us)) nz) F1 [z] (t1.pureR (W1.lay_step nz)) (fun c hc => ?_) (st1.step (W1.lay_step nz)) ?_ (W1.newL nz (rx.append ry))
        · rcases List.mem_append.mp hc with z2 | z2
          · exact n1 c z2
          · have e : c = z := by simpa using z2
            rw [e]
            exact .inr (t1.back nz)
        · rw [List.nodup_append]
          exact ⟨nd1, by simp, fun a ha b hb e => hz (by
            have hb : b = z := by simpa using hb
            rw [← hb, ← e]
            exact ha)⟩
      · cases ex
    · rw [if_neg c] at k2
      cases k2
  · cases hd
theorem fxo_catOwn (i : Nat) (hK : ∀ j, (X j).K = T.K) (hb : FX X T me b m fx) (hm : me[i]? = some m := by rfl) (hN : ∀ j, (X j).N[i]? = some x := by intro _; rfl) (hv : ∀ j, Vis (X j).env.scope x := by intro _; first | exact Or.inl rfl | exact Or.inr (Or.inl rfl) | exact Or.inr (Or.inr rfl))
    (hd : (x == ("__debug__" : Str)) = false := by decide) (hcd : (x == ("__classdict__" : Str)) = false := by decide) : FXo X T me (.BinOp (.Name x p) .Add b pos) m (xCatOwn i fx) := by
  obtain ⟨t, h1, h2⟩ := hb.ex
  exact ⟨tOp (rCatQ T.K) (tVar i) t, fun j => pe_op (by have h : OpR (X j) (binaryOp .Add) (rCatQ (X j).K) := op_catQ; rw [hK j] at h; exact h) (pe_var (hN j) (hv j) hd hcd) (h1 j), sxo_catOwn h2 hm⟩
/-- a walk over what an expression with effects gives -/
theorem fix_x (hK : ∀ j, (X j).K = T.K) (h : FX X T me e m fx) : FIx X T me tg e m m (xItems fx) := by
  obtain ⟨te, h1, h2⟩ := h.ex
  refine ⟨iList T.K te, fun j => by have := pi_list (tg := tg) (h1 j); rw [hK j] at this; exact this, fun W σ s F st nd ds s' hd R q => ?_⟩
  obtain ⟨⟨d, s1⟩, k1, k2⟩ := bind_some hd
  have k2 : itD d s1 = some (ds, s') := k2
  refine h2 W σ s F st nd d s1 k1 _ fun v W1 F1 t1 n1 st1 nd1 r1 => ?_
  cases d with
  | lst es =>
    cases k2
    obtain ⟨a, vs, rfl, hq, r⟩ := r1
    exact ⟨a, rfl, ⟨vs, (W1.atH m).sqL hq⟩, q _ W1 F1 t1 n1 st1 nd1 (it_list hq r)⟩
  | _ => cases k2
/-- an object made, its arguments with effects -/
theorem sxo_make {ta : TA} {g : OD → List D → Option (OD × OD)} (h : SXa T me ta .p fs) (hms : ms.all (fun m => m == .p) = true) : SXo T me (tMake (T.cls c0) (spM T ms g) [] E0 ta) .p (xMake c0 ms.length g fs) := fun W σ s F st nd o s' hd Q q => by
  obtain ⟨⟨ds, s1⟩, k1, hd⟩ := bind_some hd
  by_cases c : ds.length = ms.length
  case neg =>
    have hd : (if ds.length = ms.length then (g (.obj c0 [] []) ds).bind fun q => (outN q.1 q.2).map fun o => (o, s1) else none) = some (o, s') := hd
    rw [if_neg c] at hd
    cases hd
  have hd : (if ds.length = ms.length then (g (.obj c0 [] []) ds).bind fun q => (outN q.1 q.2).map fun o => (o, s1) else none) = some (o, s') := hd
  rw [if_pos c] at hd
  obtain ⟨⟨r, o'⟩, k2, hd⟩ := bind_some hd
  obtain ⟨o2, k3, k4⟩ := map_some hd
  cases k4
  have k3 : outN r o' = some o := k3
  unfold outN at k3
  split at k3
  · cases k3
    refine h W σ s F st nd ds _ k1 _ fun vs W1 F1 t1 n1 st1 nd1 r1 => ?_
    intro x dx nx ndx hne
    have nx2 : upd W1.H dx (.own x) x = none := by rw [upd_ne (fun z => hne z.symm)]; exact nx
    obtain ⟨W2, hW2⟩ : ∃ W2 : World, W2 = (W1.lay dx (.own x) ndx).lay x (.ins (T.cls c0) dx []) nx2 := ⟨_, rfl⟩
    have t2 : Step [] W1 W2 := by
      rw [hW2]
      exact (W1.lay_step ndx).pure ((W1.lay dx (.own x) ndx).lay_step nx2)
    have hH : W2.H = upd (upd W1.H dx (.own x)) x (.ins (T.cls c0) dx []) := by rw [hW2]; rfl
    have hB : ∀ a ∈ [x], W2.B a = none := fun a ha => by
      have : a = x := by simpa using ha
      rw [this, hW2]
      exact W1.freshB nx
    have ro : RpO T .p (W2.openM [x] hB) (.obj c0 [] []) (.ref x) [x] := ⟨x, dx, [], rfl, rfl, if_pos (by simp), by
      show W2.H x = _
      rw [hH]
      exact upd_same, rfl, rfl⟩
    have ra : ArgsR T (W2.openM [x] hB) ms ds vs := argsR_p hms c.symm (RpL.mono t2.g ds vs r1)
    refine ⟨W2.openM [x] hB, .obj c0 [] [], [x], .ref x, vs ++ [], ds, .fz .non, o, rfl, hH, ro, by simp, by rw [List.append_nil]; exact ra, k2, fun v W4 F' Fr t4 n4 r4 r5 nd4 => ?_⟩
    obtain ⟨e1, e2⟩ := r5
    subst e1
    have e2 : v = .non := e2
    have n4' : ∀ a ∈ F', a ∈ [x] ∨ W2.H a = none := fun a ha => n4 a (by simp [ha])
    have tb := W2.backM_step [x] hB W4 t4
    have hx1 : ∀ a ∈ F1, a ≠ x := fun a ha z => by
      have := (st1.there a ha).1.ne
      rw [z] at this
      exact this nx
    have st2 := st1.step t2
    have st4 : St T (W2.backM [x] hB W4 t4) me σ _ F1 := St.keep (W := W2) (W' := W2.backM [x] hB W4 t4) tb.g tb.b tb.pin (fun a ha u e => tb.h a u e (by simpa using hx1 a ha)) (fun a ha e => tb.nb a (st2.there a ha).1 (by simpa using hx1 a ha) e) st2
    have fresh1 : ∀ a ∈ F', W1.H a = none := fun a ha => by
      rcases n4' a ha with z | z
      · have : a = x := by simpa using z
        rw [this]
        exact nx
      · exact t2.back z
    refine ⟨e2, q (.ref x) (W2.backM [x] hB W4 t4) F1 F' (t1.pureR (t2.trans (fun a ha => by
        have : a = x := by simpa using ha
        rw [this]
        exact .inr nx) tb)) (fun a ha => ?_) st4 ?_ (r4.backM t4 n4')⟩
    · rcases List.mem_append.mp ha with z | z
      · exact n1 a z
      · exact .inr (t1.back (fresh1 a z))
    · rw [List.nodup_append]
      exact ⟨nd1, by simpa using nd4, fun a ha b hb e => (st1.there a ha).1.ne (by rw [e]; exact fresh1 b hb)⟩
  · cases k3
theorem fxo_make {g : OD → List D → Option (OD × OD)} (c0 : Nat) (C : ∀ j, Mak (X j) k x (T.cls c0) ps (spM T ms g)) (hr : ∀ j, Room (k + 1) (X j).A) (ha : FXa X T me (e :: es) .p fs) (hms : ms.all (fun m => m == .p) = true := by rfl) (hg : ∀ j, Gl (X j) x := by intro _; rfl) (hdb : (x == ("__debug__" : Str)) = false := by decide)
    (he : ∀ j, starEach (e :: es) (X j).env = (false, eval e (X j).env) :: starEach es (X j).env := by intro _; rfl) (hpl : ∀ j, (backTo pos (starEach es (X j).env)).any (·.1) = false := by intro _; rfl) : FXo X T me (.Call (.Name x p) (e :: es) [] pos) .p (xMake c0 ms.length g fs) := by
  obtain ⟨t, h1, h2⟩ := ha.ex
  refine ⟨_, fun j => ?_, sxo_make (c0 := c0) h2 hms⟩
  obtain ⟨f0, fd, M, F, hm, hb⟩ := (C j).ex
  exact pe_make M F (hr j) (hg j) hm hb .nil pass0 (h1 j) hdb (he j) (hpl j)
end
/-- a def that promises nothing -/
theorem fn_none {P : Program} {w : PySem.World} {K : PySem.W.Frag} {mg : Str → Option Value} {base : Heap} {T : Tab} {k : Nat} {f : Addr} {fd : FuncData} {ps : List Str} {ms : List Md} : FnOk P w K mg base CX0 k f fd ps (spP T ms fun _ => none) :=
  ⟨fun vs H Q E ⟨W, ds, r, _, _, h, _⟩ => (nomatch h), fun A outer s H args us vs Q E _ _ _ _ ⟨W, ds, r, _, _, h, _⟩ => (nomatch h)⟩
end My

set_option Elab.async false
set_option linter.all false
set_option maxRecDepth 100000
set_option maxHeartbeats 4000000
/-! M27: what the printed walks name: built-ins by contexts, classes, methods, the law's own promise. -/
namespace My
open PySem PyProof.Rows L2

section
variable {ι : Type} {X : ι → Cx} {T : Tab}
theorem cr_max' (hK : ∀ j, (X j).K = T.K) (hc : ∀ j, (X j).calm = true) : ∀ j, CallR (X j) (.builtin "max") (rMax T.K) := fun j => by
  have h : CallR (X j) (.builtin "max") (rMax (X j).K) := cr_max (hc j)
  rwa [hK j] at h
theorem cr_min' (hK : ∀ j, (X j).K = T.K) (hc : ∀ j, (X j).calm = true) : ∀ j, CallR (X j) (.builtin "min") (rMin T.K) := fun j => by
  have h : CallR (X j) (.builtin "min") (rMin (X j).K) := cr_min (hc j)
  rwa [hK j] at h
theorem cr_any' (hK : ∀ j, (X j).K = T.K) (hc : ∀ j, (X j).calm = true) : ∀ j, CallR (X j) (.builtin "any") (rAny T.K) := fun j => by
  have h : CallR (X j) (.builtin "any") (rAny (X j).K) := cr_any (hc j)
  rwa [hK j] at h
theorem cr_all' (hK : ∀ j, (X j).K = T.K) (hc : ∀ j, (X j).calm = true) : ∀ j, CallR (X j) (.builtin "all") (rAll T.K) := fun j => by
  have h : CallR (X j) (.builtin "all") (rAll (X j).K) := cr_all (hc j)
  rwa [hK j] at h
theorem XOk.u64 {k : Nat} (o : XOk X T k) : ∀ j, (X j).A.units + 64 < cLine := fun j => (o.room j).units
theorem XOk.catA {k : Nat} (o : XOk X T k) : ∀ j, OpR (X j) (binaryOp .Add) (rCatA T.K) := fun j => by
  have h : OpR (X j) (binaryOp .Add) (rCatA (X j).K) := op_catA
  rwa [o.K j] at h
end
theorem bt_max : bootBuiltins "max" = some (.builtin "max") := by decide +kernel
theorem bt_min : bootBuiltins "min" = some (.builtin "min") := by decide +kernel
theorem bt_any : bootBuiltins "any" = some (.builtin "any") := by decide +kernel
theorem bt_all : bootBuiltins "all" = some (.builtin "all") := by decide +kernel
/-- a method of the class at C that keeps its promise; the class's own maker -/
structure MetP (P : Program) (w : PySem.World) (K : PySem.W.Frag) (mg : Str → Option Value) (base : Heap) (k : Nat) (C : Addr) (mn : Str) (ps : List Str) (sp : Sp) : Prop where
  ex : ∃ f fd, Meth K C mn f ∧ FnOk P w K mg base CX0 k f fd ps sp ∧ Binds K fd ps []
structure MakP (P : Program) (w : PySem.World) (K : PySem.W.Frag) (mg : Str → Option Value) (base : Heap) (k : Nat) (x : Str) (C : Addr) (ps : List Str) (sp : Sp) : Prop where
  ex : ∃ f fd, Mk K C f ∧ FnOk P w K mg base CX0 k f fd ps sp ∧ mg x = some (.ref C) ∧ Binds K fd ps []
/-- the law: a list of ints in, True out -/
def spI (K : PySem.W.Frag) (g : List D → Option D) : Sp := fun vs H Q _ => ∃ (a : Addr) (ns : List Int), vs = [.ref a] ∧ SqL K H a (ns.map V.int) ∧ g [.lst (ns.map D.int)] = some (.bl true) ∧ ∀ H', Q (.bl true) H'
theorem spI_to {T : Tab} {g : List D → Option D} {vs : List V} {H : Hp} {Q : VK} {E : XK} (h : spI T.K g vs H Q E) : spP T [.p] g vs H Q E := by
  obtain ⟨a, ns, rfl, hS, hg, q⟩ := h
  exact ⟨⟨H, H, H, Sub.refl _, Sub.refl _, .non⟩, [.lst (ns.map D.int)], .bl true, rfl, ⟨_, [], _, [], rfl, rfl, ⟨a, _, rfl, hS, rpl_ints ns⟩, rfl, rfl⟩, hg, fun v W' t r => by
    have e : v = .bl true := r
    rw [e]
    exact q W'.H⟩
theorem law_endI {K : PySem.W.Frag} {g : List D → Option D} {H : Hp} {a : Addr} {ns : List Int} (hS : SqL K H a (ns.map V.int)) (h : g [.lst (ns.map D.int)] = some (.bl true)) : spI K g [.ref a] H (fun v _ => v = .bl true) fun _ _ _ => False := ⟨a, ns, rfl, hS, h, fun _ => rfl⟩
end My

set_option Elab.async false
set_option linter.all false
set_option maxRecDepth 100000
set_option maxHeartbeats 4000000
/-! M28: x in xs, xs a list or a tuple of data. -/
namespace My
open PySem PySem.Spec PyProof.Rows L2

def SeqD (y : PyData) (ds : List PyData) : Prop := y = .list ds ∨ y = .tuple ds
def rInQ (K : PySem.W.Frag) : R2 := fun x y H Q => ∃ d e ds, SeqD e ds ∧ Dp K H x d ∧ Dp K H y e ∧ SeqAt.shaped d = true ∧ SeqAt.shaped e = true ∧ Q (.bl (ds.any fun z => PyData.eqv z d)) H
def rNinQ (K : PySem.W.Frag) : R2 := fun x y H Q => ∃ d e ds, SeqD e ds ∧ Dp K H x d ∧ Dp K H y e ∧ SeqAt.shaped d = true ∧ SeqAt.shaped e = true ∧ Q (.bl (!ds.any fun z => PyData.eqv z d)) H
theorem op_inQ {X : Cx} (hu : X.A.units + 65 < cLine) : OpR X (compareOp .In) (rInQ X.K) := fun pins s σ H x y v u Q I rx ry h => by
  obtain ⟨d, e, ds, hs, hd, he, sd, se, q⟩ := h
  obtain ⟨as, r1⟩ := Dp.reads I d x v hd rx
  obtain ⟨bs, r2⟩ := Dp.reads I e y u he ry
  rcases hs with rfl | rfl
  · exact SeqAt.in_list_reads r2 r1 (SeqAt.canLay_of_shaped se) (SeqAt.canLay_of_shaped sd) (room_in_shaped sd hu) ⟨.bl _, H, I, rfl, q⟩
  · exact SeqAt.in_tuple_reads r2 r1 (SeqAt.canLay_of_shaped se) (SeqAt.canLay_of_shaped sd) (room_in_shaped sd hu) ⟨.bl _, H, I, rfl, q⟩
theorem op_ninQ {X : Cx} (hu : X.A.units + 65 < cLine) : OpR X (compareOp .NotIn) (rNinQ X.K) := fun pins s σ H x y v u Q I rx ry h => by
  obtain ⟨d, e, ds, hs, hd, he, sd, se, q⟩ := h
  obtain ⟨as, r1⟩ := Dp.reads I d x v hd rx
  obtain ⟨bs, r2⟩ := Dp.reads I e y u he ry
  rcases hs with rfl | rfl
  · exact SeqAt.notIn_list_reads r2 r1 (SeqAt.canLay_of_shaped se) (SeqAt.canLay_of_shaped sd) (room_in_shaped sd hu) ⟨.bl _, H, I, rfl, q⟩
  · exact SeqAt.notIn_tuple_reads r2 r1 (SeqAt.canLay_of_shaped se) (SeqAt.canLay_of_shaped sd) (room_in_shaped sd hu) ⟨.bl _, H, I, rfl, q⟩
def seqD? : D → Option (List D)
  | .lst ds => some ds
  | .tup ds => some ds
  | _ => none
def dInQ (x y : D) : Option D := (seqD? y).bind fun ds => if x.ok && y.ok then some (.bl (ds.any fun z => z.eqv x)) else none
def dNinQ (x y : D) : Option D := (seqD? y).bind fun ds => if x.ok && y.ok then some (.bl (!ds.any fun z => z.eqv x)) else none
theorem seqD_py {y : D} {ds : List D} (h : seqD? y = some ds) : SeqD y.py (D.pys ds) := by
  cases y with
  | lst xs =>
    cases h
    exact .inl rfl
  | tup xs =>
    cases h
    exact .inr rfl
  | _ => cases h
theorem opd_inQ {T : Tab} {m1 m2 : Md} : OpD T m1 m2 .p (rInQ T.K) dInQ := fun W x y dx dy d r1 r2 h Q q => by
  obtain ⟨ds, k1, k2⟩ := bind_some h
  by_cases c : (dx.ok && dy.ok) = true
  · rw [if_pos c] at k2
    cases k2
    rw [Bool.and_eq_true] at c
    refine ⟨_, _, D.pys ds, seqD_py k1, Rp.dpo (W.atH m1) c.1 r1, Rp.dpo (W.atH m2) c.2 r2, c.1, c.2, ?_⟩
    rw [any_pys]
    exact q _ W (Step.refl _ _) rfl
  · rw [if_neg c] at k2
    cases k2
theorem opd_ninQ {T : Tab} {m1 m2 : Md} : OpD T m1 m2 .p (rNinQ T.K) dNinQ := fun W x y dx dy d r1 r2 h Q q => by
  obtain ⟨ds, k1, k2⟩ := bind_some h
  by_cases c : (dx.ok && dy.ok) = true
  · rw [if_pos c] at k2
    cases k2
    rw [Bool.and_eq_true] at c
    refine ⟨_, _, D.pys ds, seqD_py k1, Rp.dpo (W.atH m1) c.1 r1, Rp.dpo (W.atH m2) c.2 r2, c.1, c.2, ?_⟩
    rw [any_pys]
    exact q _ W (Step.refl _ _) rfl
  · rw [if_neg c] at k2
    cases k2
section
variable {ι : Type} {X : ι → Cx} {T : Tab}
theorem XOk.inQ {k : Nat} (o : XOk X T k) : ∀ j, OpR (X j) (compareOp .In) (rInQ T.K) := fun j => by
  have h : OpR (X j) (compareOp .In) (rInQ (X j).K) := op_inQ (by have := (o.room j).un; omega)
  rw [o.K j] at h
  exact h
theorem XOk.ninQ {k : Nat} (o : XOk X T k) : ∀ j, OpR (X j) (compareOp .NotIn) (rNinQ T.K) := fun j => by
  have h : OpR (X j) (compareOp .NotIn) (rNinQ (X j).K) := op_ninQ (by have := (o.room j).un; omega)
  rw [o.K j] at h
  exact h
end
end My

set_option Elab.async false
set_option linter.all false
set_option maxRecDepth 100000
set_option maxHeartbeats 4000000
/-! M29: a backward calculus for mirrors, and what comprehensions and walks give on encoded lists. -/
namespace My
open PySem L2

/-! ### what a mirror's statement does, backwards -/
def WP0 (x : Option Out) (nx : List SV → Prop) (rt : OD → List SV → Prop) (bk ct : List SV → Prop) : Prop := match x with
  | some (.nx s) => nx s
  | some (.rt o s) => rt o s
  | some (.bk s) => bk s
  | some (.ct s) => ct s
  | none => False
structure WP (x : Option Out) (nx : List SV → Prop) (rt : OD → List SV → Prop) (bk ct : List SV → Prop) : Prop where
  ex : WP0 x nx rt bk ct
theorem WP0.to {x : Option Out} {nx bk ct : List SV → Prop} {rt : OD → List SV → Prop} (h : WP0 x nx rt bk ct) : WP x nx rt bk ct := ⟨h⟩
section
variable {nx bk ct : List SV → Prop} {rt : OD → List SV → Prop} {s : List SV} {f g : List SV → Option Out} {i : Nat} {d : D} {o : OD}
theorem w_seq (h : WP (f s) (fun s' => WP (g s') nx rt bk ct) rt bk ct) : WP (dSeq f g s) nx rt bk ct := by
  constructor
  unfold dSeq
  cases e : f s with
  | none => rw [e] at h; exact h.ex.elim
  | some o =>
    rw [e] at h
    cases o with
    | nx s' => exact WP.ex (show WP (g s') nx rt bk ct from h.ex)
    | bk s' => exact h.ex
    | ct s' => exact h.ex
    | rt r s' => exact h.ex
theorem w_set {fe : List SV → Option D} (e : fe s = some d) (h : nx (s.set i (.fz d))) : WP (dSet i fe s) nx rt bk ct := by
  constructor
  unfold dSet
  rw [e]
  exact h
theorem w_setO {fe : List SV → Option OD} (e : fe s = some o) (h : nx (s.set i (.own o))) : WP (dSetO i fe s) nx rt bk ct := by
  constructor
  unfold dSetO
  rw [e]
  exact h
theorem w_setX {fe : List SV → Option (D × List SV)} {s' : List SV} (e : fe s = some (d, s')) (h : nx (s'.set i (.fz d))) : WP (dSetX i fe s) nx rt bk ct := by
  constructor
  unfold dSetX
  rw [e]
  exact h
theorem w_setXo {fe : List SV → Option (OD × List SV)} {s' : List SV} (e : fe s = some (o, s')) (h : nx (s'.set i (.own o))) : WP (dSetXo i fe s) nx rt bk ct := by
  constructor
  unfold dSetXo
  rw [e]
  exact h
theorem w_if {c : List SV → Option Bool} {b : Bool} (e : c s = some b) (h : WP (if b then f s else g s) nx rt bk ct) : WP (dIfS c f g s) nx rt bk ct := by
  unfold dIfS
  rw [e]
  exact h
theorem w_ifX {c : List SV → Option (Bool × List SV)} {b : Bool} {s' : List SV} (e : c s = some (b, s')) (h : WP (if b then f s' else g s') nx rt bk ct) : WP (dIfX c f g s) nx rt bk ct := by
  unfold dIfX
  rw [e]
  exact h
theorem w_ret {fe : List SV → Option D} (e : fe s = some d) (h : rt (.fz d) s) : WP (dRet fe s) nx rt bk ct := by
  constructor
  unfold dRet
  rw [e]
  exact h
theorem w_retO {fe : List SV → Option OD} (e : fe s = some o) (h : rt o s) : WP (dRetO fe s) nx rt bk ct := by
  constructor
  unfold dRetO
  rw [e]
  exact h
theorem w_retX {fe : List SV → Option (D × List SV)} {s' : List SV} (e : fe s = some (d, s')) (h : rt (.fz d) s') : WP (dRetX fe s) nx rt bk ct := by
  constructor
  unfold dRetX
  rw [e]
  exact h
theorem w_nx (h : nx s) : WP (dNx s) nx rt bk ct := ⟨h⟩
theorem w_ct (h : ct s) : WP (dCt s) nx rt bk ct := ⟨h⟩
theorem w_bk (h : bk s) : WP (dBk s) nx rt bk ct := ⟨h⟩
theorem w_setT {bind : D → List SV → Option (List SV)} {fe : List SV → Option D} {s1 : List SV} (e : fe s = some d) (eb : bind d s = some s1) (h : nx s1) : WP (dSetT bind fe s) nx rt bk ct := by
  constructor
  unfold dSetT
  rw [e, Option.bind_some, eb]
  exact h
theorem w_setTX {bind : D → List SV → Option (List SV)} {fe : List SV → Option (D × List SV)} {s' s1 : List SV} (e : fe s = some (d, s')) (eb : bind d s' = some s1) (h : nx s1) : WP (dSetTX bind fe s) nx rt bk ct := by
  constructor
  unfold dSetTX
  rw [e, Option.bind_some, eb]
  exact h
theorem w_app {fv : List SV → Option D} {l : List D} (e : fv s = some d) (h : s[i]? = some (.own (oL l))) (hn : l.length < sizeLine) (q : nx (s.set i (.own (oL (l ++ [d]))))) : WP (dApp i fv s) nx rt bk ct := by
  constructor
  unfold dApp
  rw [e, Option.bind_some, h]
  unfold oL
  show WP0 (if (l.map OD.fz).length < sizeLine then some (Out.nx (s.set i (.own (.lst (l.map OD.fz ++ [.fz d]))))) else none) nx rt bk ct
  rw [if_pos (by rw [List.length_map]; exact hn)]
  have e2 : OD.lst (l.map OD.fz ++ [OD.fz d]) = oL (l ++ [d]) := by unfold oL; rw [List.map_append]; rfl
  show nx (s.set i (.own (.lst (l.map OD.fz ++ [.fz d]))))
  rw [e2]
  exact q
theorem own_is {i : Nat} {s : List SV} {l : List D} (h : s[i]? = some (.own (oL l))) : isOwnL i s = true := by
  unfold isOwnL
  rw [h]
  rfl
theorem w_appX {fv : List SV → Option (D × List SV)} {s' : List SV} {l0 l : List D} (e : fv s = some (d, s')) (h0 : s[i]? = some (.own (oL l0))) (h : s'[i]? = some (.own (oL l))) (hn : l.length < sizeLine) (q : nx (s'.set i (.own (oL (l ++ [d]))))) : WP (dAppX i fv s) nx rt bk ct := by
  constructor
  unfold dAppX
  rw [if_pos (own_is h0), e, Option.bind_some]
  show WP0 (match s'[i]? with
    | some (.own (.lst os)) => if os.length < sizeLine then some (Out.nx (s'.set i (.own (.lst (os ++ [.fz d]))))) else none
    | _ => none) nx rt bk ct
  rw [h]
  unfold oL
  show WP0 (if (l.map OD.fz).length < sizeLine then some (Out.nx (s'.set i (.own (.lst (l.map OD.fz ++ [.fz d]))))) else none) nx rt bk ct
  rw [if_pos (by rw [List.length_map]; exact hn)]
  have e2 : OD.lst (l.map OD.fz ++ [OD.fz d]) = oL (l ++ [d]) := by unfold oL; rw [List.map_append]; rfl
  show nx (s'.set i (.own (.lst (l.map OD.fz ++ [.fz d]))))
  rw [e2]
  exact q
/-- a walk over an encoded list; J tells what holds behind the items told so far -/
theorem w_forGo {α : Type} {enc : α → D} {bind : D → List SV → Option (List SV)} {b : List SV → Option Out} (J : List α → List SV → Prop) : ∀ (xs pre : List α) (s : List SV), J pre s → (∀ (p : List α) (x : α) (s : List SV), (∃ q, pre ++ xs = p ++ x :: q) → J p s → ∃ s1, bind (enc x) s = some s1 ∧ WP (b s1) (J (p ++ [x])) rt nx (J (p ++ [x]))) → (∀ s, J (pre ++ xs) s → nx s) → WP (forGo bind b (xs.map enc) s) nx rt bk ct
  | [], pre, s, h, _, fin => ⟨fin s (by simpa using h)⟩
  | x :: xs, pre, s, h, step, fin => by
    obtain ⟨s1, e1, w⟩ := step pre x s ⟨xs, rfl⟩ h
    have e : forGo bind b ((x :: xs).map enc) s = (bind (enc x) s).bind fun s1 => (b s1).bind fun o => match o with
      | .nx s2 => forGo bind b (xs.map enc) s2
      | .ct s2 => forGo bind b (xs.map enc) s2
      | .bk s2 => some (.nx s2)
      | .rt r s2 => some (.rt r s2) := rfl
    rw [e, e1, Option.bind_some]
    have again := fun s' h' => w_forGo J xs (pre ++ [x]) s' h' (fun p y s hd hi => step p y s (by simpa using hd) hi) (fun s h => fin s (by simpa using h))
    cases q : b s1 with
    | none => rw [q] at w; exact w.ex.elim
    | some o =>
      rw [q] at w
      have w := w.ex
      cases o with
      | nx s' => exact again s' w
      | ct s' => exact again s' w
      | bk s' => exact ⟨w⟩
      | rt r s' => exact ⟨w⟩
theorem w_for {α : Type} {enc : α → D} {bind : D → List SV → Option (List SV)} {fi : List SV → Option (List D)} {b : List SV → Option Out} {xs : List α} (J : List α → List SV → Prop) (e : fi s = some (xs.map enc)) (h : J [] s) (step : ∀ (p : List α) (x : α) (s : List SV), (∃ q, xs = p ++ x :: q) → J p s → ∃ s1, bind (enc x) s = some s1 ∧ WP (b s1) (J (p ++ [x])) rt nx (J (p ++ [x]))) (fin : ∀ s, J xs s → nx s) : WP (dFor fi bind b s) nx rt bk ct := by
  unfold dFor
  rw [e]
  exact w_forGo J xs [] s h (by simpa using step) (by simpa using fin)
theorem w_forX {α : Type} {enc : α → D} {bind : D → List SV → Option (List SV)} {fi : List SV → Option (List D × List SV)} {b : List SV → Option Out} {xs : List α} {s' : List SV} (J : List α → List SV → Prop) (e : fi s = some (xs.map enc, s')) (h : J [] s') (step : ∀ (p : List α) (x : α) (s : List SV), (∃ q, xs = p ++ x :: q) → J p s → ∃ s1, bind (enc x) s = some s1 ∧ WP (b s1) (J (p ++ [x])) rt nx (J (p ++ [x]))) (fin : ∀ s, J xs s → nx s) : WP (dForX fi bind b s) nx rt bk ct := by
  unfold dForX
  rw [e]
  exact w_forGo J xs [] s' h (by simpa using step) (by simpa using fin)
end
theorem run_P {f : List SV → Option Out} {n : Nat} {ds : List D} {r : D} (h : WP (f (initS n ds)) (fun _ => r = .non) (fun o _ => o.toD = r) (fun _ => False) (fun _ => False)) : runP f n ds = some r := by
  unfold runP
  cases e : f (initS n ds) with
  | none => rw [e] at h; exact h.ex.elim
  | some o =>
    rw [e] at h
    have h := h.ex
    cases o with
    | nx s => exact congrArg some h.symm
    | rt o s => exact congrArg some h
    | bk s => exact h.elim
    | ct s => exact h.elim
theorem run_O {f : List SV → Option Out} {n : Nat} {ds : List D} {r : OD} (h : WP (f (initS n ds)) (fun _ => False) (fun o _ => o = r) (fun _ => False) (fun _ => False)) : runO f n ds = some r := by
  unfold runO
  cases e : f (initS n ds) with
  | none => rw [e] at h; exact h.ex.elim
  | some o =>
    rw [e] at h
    have h := h.ex
    cases o with
    | nx s => exact h.elim
    | rt o s => exact congrArg some h
    | bk s => exact h.elim
    | ct s => exact h.elim
theorem run_M {f : List SV → Option Out} {n : Nat} {o : OD} {ds : List D} {Q : OD → OD → Prop} (h : WP (f (initM n o ds)) (fun s => ∃ o', slot0 s = some o' ∧ Q (.fz .non) o') (fun r s => ∃ o', slot0 s = some o' ∧ Q r o') (fun _ => False) (fun _ => False)) : ∃ r o', runM f n o ds = some (r, o') ∧ Q r o' := by
  unfold runM
  cases e : f (initM n o ds) with
  | none => rw [e] at h; exact h.ex.elim
  | some o =>
    rw [e] at h
    have h := h.ex
    cases o with
    | nx s =>
      obtain ⟨o', h1, h2⟩ := h
      exact ⟨_, o', by show (slot0 s).map _ = _; rw [h1]; rfl, h2⟩
    | rt o s =>
      obtain ⟨o', h1, h2⟩ := h
      exact ⟨_, o', by show (slot0 s).map _ = _; rw [h1]; rfl, h2⟩
    | bk s => exact h.elim
    | ct s => exact h.elim

theorem rngD_map (lo : Int) (n : Nat) : rngD lo n = (List.range n).map fun (i : Nat) => D.int (lo + (i : Int)) := rfl
/-! ### comprehensions -/
theorem lcGo_of {α : Type} {enc g : α → D} {q : α → Bool} {s : List SV} {bind : D → List SV → Option (List SV)} {p : List SV → Option Bool} {fe : List SV → Option D} : ∀ {xs : List α}, (∀ x ∈ xs, ∃ s1, bind (enc x) s = some s1 ∧ p s1 = some (q x) ∧ (q x = true → fe s1 = some (g x))) → lcGo s bind p fe (xs.map enc) = some ((xs.filter q).map g)
  | [], _ => rfl
  | x :: xs, h => by
    obtain ⟨s1, e1, e2, e3⟩ := h x (by simp)
    have ih := lcGo_of (xs := xs) fun y hy => h y (by simp [hy])
    have e : lcGo s bind p fe ((x :: xs).map enc) = (bind (enc x) s).bind fun s1 => (p s1).bind fun b => if b then (fe s1).bind fun y => (lcGo s bind p fe (xs.map enc)).map (y :: ·) else lcGo s bind p fe (xs.map enc) := rfl
    rw [e, e1, Option.bind_some, e2, Option.bind_some, ih]
    cases c : q x with
    | true =>
      rw [if_pos rfl, e3 c, List.filter_cons_of_pos c]
      rfl
    | false =>
      rw [if_neg (by decide), List.filter_cons_of_neg (by simp [c])]
theorem filt_true {α : Type} (xs : List α) : xs.filter (fun _ => true) = xs := List.filter_eq_self.mpr fun _ _ => rfl
theorem lc_of {α : Type} {enc g : α → D} {q : α → Bool} {fi : List SV → Option (List D)} {vs : List Nat} {s : List SV} {bind : D → List SV → Option (List SV)} {p : List SV → Option Bool} {fe : List SV → Option D} {xs : List α} (e : fi s = some (xs.map enc)) (hn : xs.length ≤ sizeLine) (h : ∀ x ∈ xs, ∃ s1, bind (enc x) (wipeS s vs) = some s1 ∧ p s1 = some (q x) ∧ (q x = true → fe s1 = some (g x))) : dLc fi vs bind p fe s = some (oL ((xs.filter q).map g)) := by
  unfold dLc
  rw [e, Option.bind_some, if_pos (by rw [List.length_map]; exact hn), lcGo_of h]
  rfl
/-- all items, mapped -/
theorem lc_map {α : Type} {enc g : α → D} {fi : List SV → Option (List D)} {vs : List Nat} {s : List SV} {bind : D → List SV → Option (List SV)} {fe : List SV → Option D} {xs : List α} (e : fi s = some (xs.map enc)) (hn : xs.length ≤ sizeLine) (h : ∀ x ∈ xs, ∃ s1, bind (enc x) (wipeS s vs) = some s1 ∧ fe s1 = some (g x)) : dLc fi vs bind dYes fe s = some (oL (xs.map g)) := by
  have := lc_of (q := fun _ => true) (p := dYes) (fe := fe) (g := g) (bind := bind) e hn fun x hx => by
    obtain ⟨s1, h1, h2⟩ := h x hx
    exact ⟨s1, h1, rfl, fun _ => h2⟩
  rwa [filt_true] at this
theorem lc2Go_of {α : Type} {enc : α → D} {g : α → List D} {s : List SV} {bind : D → List SV → Option (List SV)} {inn : List SV → Option (List D)} : ∀ {xs : List α}, (∀ x ∈ xs, ∃ s1, bind (enc x) s = some s1 ∧ inn s1 = some (g x)) → lc2Go s bind dYes inn (xs.map enc) = some (xs.flatMap g)
  | [], _ => rfl
  | x :: xs, h => by
    obtain ⟨s1, e1, e2⟩ := h x (by simp)
    have ih := lc2Go_of (xs := xs) fun y hy => h y (by simp [hy])
    have e : lc2Go s bind dYes inn ((x :: xs).map enc) = (bind (enc x) s).bind fun s1 => (dYes s1).bind fun b => if b then (inn s1).bind fun ys => (lc2Go s bind dYes inn (xs.map enc)).map (ys ++ ·) else lc2Go s bind dYes inn (xs.map enc) := rfl
    rw [e, e1, Option.bind_some, ih]
    show ((inn s1).bind fun ys => (some (xs.flatMap g)).map (ys ++ ·)) = _
    rw [e2]
    rfl
theorem lc2_of {α : Type} {enc : α → D} {g : α → List D} {fi fi1 : List SV → Option (List D)} {vs vs1 : List Nat} {s : List SV} {bind bind1 : D → List SV → Option (List SV)} {p1 : List SV → Option Bool} {fe : List SV → Option D} {xs : List α} (e : fi s = some (xs.map enc)) (h : ∀ x ∈ xs, ∃ s1, bind (enc x) (wipeS s vs) = some s1 ∧ lc2In vs1 fi1 bind1 p1 fe s1 = some (g x)) (hn : (xs.flatMap g).length ≤ sizeLine) : dLc2 fi vs bind dYes vs1 fi1 bind1 p1 fe s = some (oL (xs.flatMap g)) := by
  unfold dLc2
  rw [e, Option.bind_some, lc2Go_of h, Option.bind_some, if_pos hn]
theorem lcIn_of {α : Type} {enc g : α → D} {q : α → Bool} {fi1 : List SV → Option (List D)} {vs1 : List Nat} {s : List SV} {bind1 : D → List SV → Option (List SV)} {p1 : List SV → Option Bool} {fe : List SV → Option D} {xs : List α} (e : fi1 s = some (xs.map enc)) (h : ∀ x ∈ xs, ∃ s1, bind1 (enc x) (wipeS s vs1) = some s1 ∧ p1 s1 = some (q x) ∧ (q x = true → fe s1 = some (g x))) : lc2In vs1 fi1 bind1 p1 fe s = some ((xs.filter q).map g) := by
  unfold lc2In
  rw [e, Option.bind_some, lcGo_of h]
theorem lcIn_map {α : Type} {enc g : α → D} {fi1 : List SV → Option (List D)} {vs1 : List Nat} {s : List SV} {bind1 : D → List SV → Option (List SV)} {fe : List SV → Option D} {xs : List α} (e : fi1 s = some (xs.map enc)) (h : ∀ x ∈ xs, ∃ s1, bind1 (enc x) (wipeS s vs1) = some s1 ∧ fe s1 = some (g x)) : lc2In vs1 fi1 bind1 dYes fe s = some (xs.map g) := by
  have := lcIn_of (q := fun _ => true) (p1 := dYes) (fe := fe) (g := g) (bind1 := bind1) e fun x hx => by
    obtain ⟨s1, h1, h2⟩ := h x hx
    exact ⟨s1, h1, rfl, fun _ => h2⟩
  rwa [filt_true] at this
/-! ### parts -/
theorem op2 {g : D → D → Option D} {f f2 : List SV → Option D} {s : List SV} {a b : D} (h : f s = some a) (h2 : f2 s = some b) : dOp g f f2 s = g a b := by
  unfold dOp
  rw [h, Option.bind_some, h2, Option.bind_some]
theorem args1 {f : List SV → Option D} {s : List SV} {a : D} (h : f s = some a) : dCons f dNil s = some [a] := by
  unfold dCons dNil
  rw [h]
  rfl
theorem args2 {f f2 : List SV → Option D} {s : List SV} {a b : D} (h : f s = some a) (h2 : f2 s = some b) : dCons f (dCons f2 dNil) s = some [a, b] := by
  unfold dCons dNil
  rw [h, h2]
  rfl
theorem args3 {f f2 f3 : List SV → Option D} {s : List SV} {a b c : D} (h : f s = some a) (h2 : f2 s = some b) (h3 : f3 s = some c) : dCons f (dCons f2 (dCons f3 dNil)) s = some [a, b, c] := by
  unfold dCons dNil
  rw [h, h2, h3]
  rfl
theorem args4 {f f2 f3 f4 : List SV → Option D} {s : List SV} {a b c d : D} (h : f s = some a) (h2 : f2 s = some b) (h3 : f3 s = some c) (h4 : f4 s = some d) : dCons f (dCons f2 (dCons f3 (dCons f4 dNil))) s = some [a, b, c, d] := by
  unfold dCons dNil
  rw [h, h2, h3, h4]
  rfl
theorem cb_eq {g : List D → Option D} {fs : List SV → Option (List D)} {s : List SV} {ds : List D} (h : fs s = some ds) : dCallB g fs s = g ds := by
  unfold dCallB
  rw [h, Option.bind_some]
theorem cf_eq {g : List D → Option D} {fs : List SV → Option (List D)} {s : List SV} {ds : List D} (h : fs s = some ds) : dCallF g fs s = g ds := by
  unfold dCallF
  rw [h, Option.bind_some]
theorem cfo_eq {g : List D → Option OD} {fs : List SV → Option (List D)} {s : List SV} {ds : List D} (h : fs s = some ds) : dCallFo g fs s = g ds := by
  unfold dCallFo
  rw [h, Option.bind_some]
theorem co_eq {g : List D → Option OD} {fs : List SV → Option (List D)} {s : List SV} {ds : List D} (h : fs s = some ds) : dCallO g fs s = g ds := by
  unfold dCallO
  rw [h, Option.bind_some]
theorem fr_eq {f : List SV → Option OD} {s : List SV} {o : OD} (h : f s = some o) : dFr f s = some o.toD := by
  unfold dFr
  rw [h]
  rfl
theorem frL {f : List SV → Option OD} {s : List SV} {l : List D} (h : f s = some (oL l)) : dFr f s = some (.lst l) := by
  rw [fr_eq h, toD_oL]
theorem items_eq {f : List SV → Option D} {s : List SV} {l : List D} (h : f s = some (.lst l)) : dItems f s = some l := by
  unfold dItems
  rw [h]
  rfl
theorem if_t {c : List SV → Option Bool} {f g : List SV → Option D} {s : List SV} {b : Bool} (h : c s = some b) : dIf c f g s = if b then f s else g s := by
  unfold dIf
  rw [h, Option.bind_some]
theorem test_b {f : List SV → Option D} {s : List SV} {b : Bool} (h : f s = some (.bl b)) : dTest f s = some b := by
  unfold dTest
  rw [h]
  rfl
theorem and_b {f g : List SV → Option Bool} {s : List SV} {a b : Bool} (h : f s = some a) (h2 : g s = some b) : dAndB f g s = some (a && b) := by
  unfold dAndB
  rw [h, Option.bind_some]
  cases a with
  | true => rw [if_pos rfl, h2]; rfl
  | false => rfl
theorem or_b {f g : List SV → Option Bool} {s : List SV} {a b : Bool} (h : f s = some a) (h2 : g s = some b) : dOrB f g s = some (a || b) := by
  unfold dOrB
  rw [h, Option.bind_some]
  cases a with
  | true => rfl
  | false => rw [if_neg (by decide), h2]; rfl
theorem not_b {f : List SV → Option Bool} {s : List SV} {a : Bool} (h : f s = some a) : dNotB f s = some (!a) := by
  unfold dNotB
  rw [h]
  rfl
theorem lst_eq {fs : List SV → Option (List D)} {s : List SV} {ds : List D} (h : fs s = some ds) (hn : ds.length ≤ sizeLine) : dLst fs s = some (oL ds) := by
  unfold dLst
  rw [h, Option.bind_some, if_pos hn]
theorem tup_eq {fs : List SV → Option (List D)} {s : List SV} {ds : List D} (h : fs s = some ds) (hn : ds.length ≤ sizeLine) : dTup fs s = some (.tup ds) := by
  unfold dTup
  rw [h, Option.bind_some, if_pos hn]
theorem cat_eq {f g : List SV → Option D} {s : List SV} {xs ys : List D} (h : f s = some (.lst xs)) (h2 : g s = some (.lst ys)) (hn : xs.length + ys.length ≤ sizeLine) : dCat f g s = some (oL (xs ++ ys)) := by
  unfold dCat
  rw [h, Option.bind_some, h2, Option.bind_some]
  exact if_pos hn
theorem catT_eq {xs ys : List D} (hn : xs.length + ys.length ≤ sizeLine) : dCatT (.tup xs) (.tup ys) = some (.tup (xs ++ ys)) := if_pos hn
theorem callM {g : OD → List D → Option (OD × OD)} {i : Nat} {fs : List SV → Option (List D)} {s : List SV} {ds : List D} {o r o' : OD} (h : s[i]? = some (.own o)) (ha : fs s = some ds) (hg : g o ds = some (r, o')) : dCallM g i fs s = some (r, s.set i (.own o')) := by
  unfold dCallM
  rw [ha]
  show (match s[i]? with
    | some (.own o) => _
    | _ => none) = _
  rw [h]
  show (g o ds).map _ = _
  rw [hg]
  rfl
theorem xfr_eq {f : List SV → Option (OD × List SV)} {s s' : List SV} {o : OD} (h : f s = some (o, s')) : xFr f s = some (o.toD, s') := by
  unfold xFr
  rw [h]
  rfl
theorem line : (100000 : Nat) ≤ sizeLine := by rw [sizeLine_eq]; omega
theorem rng_ok {n : Nat} (h : n ≤ 50000) : rngOk (n : Int) = true := rngOk_of (by omega)
theorem range1_eq {fs : List SV → Option (List D)} {s : List SV} {n : Nat} (h : fs s = some [.int n]) (hn : n ≤ 50000) : dRange1 fs s = some ((List.range n).map fun (i : Nat) => D.int i) := by
  unfold dRange1
  rw [h]
  refine (if_pos (rng_ok hn)).trans ?_
  rw [rngD_map]
  simp
theorem range2_eq {fs : List SV → Option (List D)} {s : List SV} {i n : Nat} (h : fs s = some [.int i, .int n]) (hi : i ≤ 50000) (hn : n ≤ 50000) : dRange2 fs s = some ((List.range (n - i)).map fun (k : Nat) => D.int (i + k : Nat)) := by
  unfold dRange2
  rw [h]
  refine (if_pos (by rw [rng_ok hi, rng_ok hn]; rfl)).trans ?_
  rw [rngD_map]
  have e : ((n : Int) - (i : Int)).toNat = n - i := by omega
  rw [e]
  simp
theorem atI_nat' {α : Type} (xs : List α) (k : Nat) : atI xs (k : Int) = xs[k]? := by
  unfold atI ixN
  by_cases h : k < xs.length
  · rw [if_pos (by omega), if_pos (by omega)]
    simp
  · rw [if_pos (by omega), if_neg (by omega)]
    rw [List.getElem?_eq_none (by omega)]
    rfl
end My

set_option Elab.async false
set_option linter.all false
set_option maxRecDepth 100000
set_option maxHeartbeats 4000000
/-! M30: own lists by place, and numbers within bounds. -/
namespace My
open PySem L2

theorem ixN_nat {n k : Nat} (h : k < n) : ixN n (k : Int) = some k := by
  unfold ixN
  rw [if_pos (by omega), if_pos (by omega)]
  simp
theorem w_setIx {nx bk ct : List SV → Prop} {rt : OD → List SV → Prop} {s : List SV} {i k : Nat} {fk fv : List SV → Option D} {d : D} {l : List D} (ev : fv s = some d) (ek : fk s = some (.int (k : Int))) (h : s[i]? = some (.own (oL l))) (hk : k < l.length) (q : nx (s.set i (.own (oL (l.set k d))))) : WP (dSetIx i fk fv s) nx rt bk ct := by
  constructor
  unfold dSetIx
  rw [ev]
  show WP0 ((fk s).bind fun k => match s[i]?, k with
    | some (.own (.lst os)), .int n => (ixN os.length n).map fun j => .nx (s.set i (.own (.lst (os.set j (.fz d)))))
    | _, _ => none) nx rt bk ct
  rw [ek, h]
  show WP0 ((ixN (l.map OD.fz).length (k : Int)).map fun j => .nx (s.set i (.own (.lst ((l.map OD.fz).set j (.fz d)))))) nx rt bk ct
  rw [List.length_map, ixN_nat hk]
  show nx (s.set i (.own (.lst ((l.map OD.fz).set k (.fz d)))))
  have e : (OD.lst ((l.map OD.fz).set k (.fz d))) = oL (l.set k d) := by unfold oL; rw [List.map_set]
  rw [e]
  exact q
theorem w_augIx {nx bk ct : List SV → Prop} {rt : OD → List SV → Prop} {g : D → D → Option D} {s : List SV} {i k : Nat} {fk fv : List SV → Option D} {a d r : D} {l : List D} (ek : fk s = some (.int (k : Int))) (h : s[i]? = some (.own (oL l))) (ha : l[k]? = some a) (ev : fv s = some d) (er : g a d = some r) (q : nx (s.set i (.own (oL (l.set k r))))) : WP (dAugIx g i fk fv s) nx rt bk ct := by
  constructor
  unfold dAugIx
  rw [ek, h]
  have hk : k < l.length := (List.getElem?_eq_some_iff.mp ha).1
  show WP0 ((atI (OD.toDs (l.map OD.fz)) (k : Int)).bind fun a => (fv s).bind fun d => (g a d).bind fun r => (ixN (l.map OD.fz).length (k : Int)).map fun j => .nx (s.set i (.own (.lst ((l.map OD.fz).set j (.fz r)))))) nx rt bk ct
  rw [toDs_fz, atI_nat', ha, ev]
  show WP0 ((g a d).bind fun r => (ixN (l.map OD.fz).length (k : Int)).map fun j => .nx (s.set i (.own (.lst ((l.map OD.fz).set j (.fz r)))))) nx rt bk ct
  rw [er, List.length_map, ixN_nat hk]
  show nx (s.set i (.own (.lst ((l.map OD.fz).set k (.fz r)))))
  have e : (OD.lst ((l.map OD.fz).set k (.fz r))) = oL (l.set k r) := by unfold oL; rw [List.map_set]
  rw [e]
  exact q
theorem own_ix {s : List SV} {i k : Nat} {l : List D} {a : D} (h : s[i]? = some (.own (oL l))) (ha : l[k]? = some a) : dIxOwn i (dC (.int (k : Int))) s = some a := by
  show ixOwn i (.int (k : Int)) s = _
  unfold ixOwn
  rw [h]
  show (atI (l.map OD.fz) (k : Int)).bind _ = _
  rw [atI_nat', List.getElem?_map, ha]
  rfl
theorem own_ixL {s : List SV} {i k : Nat} {z : Int} {l : List D} {a : D} (hz : z = (k : Int)) (h : s[i]? = some (.own (oL l))) (ha : l[k]? = some a) : dIxOwn i (dC (.int z)) s = some a := by
  subst hz
  exact own_ix h ha
theorem log2_lt {x : Int} {n : Nat} (h : x.natAbs < 2 ^ n) (h0 : 0 < n) : x.natAbs.log2 < n := by
  by_cases z : x.natAbs = 0
  · rw [z]
    simpa using h0
  · exact (Nat.log2_lt z).mpr h
theorem mulOk_of {i j : Int} (hi : i.natAbs < 2 ^ 4000) (hj : j.natAbs < 2 ^ 4000) : mulOk i j = true := by
  have := log2_lt hi (by decide)
  have := log2_lt hj (by decide)
  exact decide_eq_true (by omega)
theorem dMul_eq {a b : Int} (h : mulOk a b = true) : dMul (.int a) (.int b) = some (.int (a * b)) := if_pos h
theorem dMod_pos {m : Int} (h : 0 < m) (a : Int) : dMod (.int a) (.int m) = some (.int (a % m)) := by
  have h0 : modOk a m = true := decide_eq_true (by omega)
  have e : dMod (.int a) (.int m) = some (.int (a.fmod m)) := if_pos h0
  rw [e, Int.fmod_eq_emod_of_nonneg _ (by omega)]
theorem dDiv_pos {m : Int} (h : 0 < m) (h2 : m.natAbs < 2 ^ 4000) (a : Int) : dDiv (.int a) (.int m) = some (.int (a / m)) := by
  have h0 : divOk a m = true := decide_eq_true ⟨h, by have := log2_lt h2 (by omega); omega⟩
  exact if_pos h0
theorem lt_pow {x : Int} {n : Nat} (h : 0 ≤ x) (h2 : x < 2 ^ n) (hn : n ≤ 4000) : x.natAbs < 2 ^ 4000 := by
  have h3 : x.natAbs < 2 ^ n := by
    have : ((x.natAbs : Nat) : Int) < ((2 ^ n : Nat) : Int) := by
      rw [Int.natCast_pow]
      show ((x.natAbs : Nat) : Int) < 2 ^ n
      omega
    exact_mod_cast this
  exact Nat.lt_of_lt_of_le h3 (Nat.pow_le_pow_right (by omega) hn)
theorem emod_bound {a m : Int} (h : 0 < m) : 0 ≤ a % m ∧ a % m < m := ⟨Int.emod_nonneg _ (by omega), Int.emod_lt_of_pos _ h⟩
end My

set_option Elab.async false
set_option linter.all false
set_option maxRecDepth 100000
set_option maxHeartbeats 4000000
namespace K37
open PySem PyProof.Rows L2 My
def topS (i : Nat) : Stmt := PySem.Challenge.pw_leasttold_k37_room_steps_and_wire_steps.main.body.getD i (.Pass ⟨0, 0, 0, 0⟩)
theorem bt_sorted : bootBuiltins "sorted" = some (.builtin "sorted") := by decide +kernel
structure Glob (mg : Str → Option Value) : Prop where
  len : mg "len" = none
  range : mg "range" = none
  int : mg "int" = none
  abs : mg "abs" = none
  sum : mg "sum" = none
  list : mg "list" = none
  tuple : mg "tuple" = none
  isinstance : mg "isinstance" = none
  bool : mg "bool" = none
  sorted : mg "sorted" = none
  enumerate : mg "enumerate" = none
  max : mg "max" = none
  min : mg "min" = none
  any : mg "any" = none
  all : mg "all" = none
  dict : mg "dict" = none
  str : mg "str" = none
structure ClsF (K : PySem.W.Frag) (C : Addr) : Prop where
  cl : Cls K C
  n_ins : NoAttr K C "ins"
  n_outs : NoAttr K C "outs"
  n_lead_list : NoAttr K C "lead_list"
  n_couple_list : NoAttr K C "couple_list"
abbrev s_label_lists : Stmt := topS 2
theorem sc_label_lists : FnScope ["many", "found", "turn", "row", "label"] ["many"] (defScope s_label_lists) := ⟨rfl, rfl, rfl, by decide +kernel, rfl, by decide +kernel, by decide +kernel⟩
def i_label_lists_1 : List SV → Option (List D) := (dItemsT (dTup (dCons (dC (.int 0)) (dCons (dC (.int 1)) (dCons (dC (.int 2)) dNil)))))
def e_label_lists_1 : List SV → Option D := (dOp dCatT (dVar 3) (dTup (dCons (dVar 4) dNil)))
def b_label_lists_1 : List SV → Option Out := (dSet 1 (dFr (dLc2 (dItems (dVar 1)) [3, 4] (bName 3) dYes [4] i_label_lists_1 (bName 4) dYes e_label_lists_1)))
def d_label_lists : List SV → Option Out := (dSeq (dSet 1 (dFr (dLst (dCons (dTup dNil) dNil)))) (dSeq (dFor (dRange1 (dCons (dVar 0) dNil)) (bName 2) b_label_lists_1) (dRet (dVar 1))))
def v_label_lists := runP d_label_lists 5
section
variable {P : Program} {w : PySem.World} {K : PySem.W.Frag} {mg : Str → Option Value} {base : Heap} {cls : Nat → Addr}
theorem ok_label_lists {f : Addr} {fd : FuncData} (F : Fun K "label_lists" "label_lists" s_label_lists f fd) (g : Glob mg) (z : ClsF K (cls 0))  : FnOk P w K mg base CX0 1 f fd ["many"] (spP ⟨K, cls, w⟩ [.p] v_label_lists) := by
    refine fn_P (k := 0) F sc_label_lists rfl rfl (ms := [.p]) (rest := [.p, .p, .p, .p]) rfl fun cdv A outer s H E hr => ?_
    have o : XOk (bodyX P w K mg base ["many", "found", "turn", "row", "label"] "label_lists" s_label_lists f cdv A outer s H E) ⟨K, cls, w⟩ 0 := ⟨fun _ => rfl, fun _ => rfl, fun _ => hr⟩
    have hN : ∀ j, ((bodyX P w K mg base ["many", "found", "turn", "row", "label"] "label_lists" s_label_lists f cdv A outer s H E) j).N.Nodup := fun _ => sc_label_lists.nd
    exact (fss_cons (fs_set 1 hN (fp_fr (fo_lst (fa_cons (fp_tup (fa_nil (m := .p))) fa_nil))))
    (fss_cons (fs_for (vs := [2]) (fun _ => PassesOwn.never) o.calm (fi_range1 (by intro _; rfl) (fun _ => g.range) (fa_cons (fp_var 0) fa_nil)) (fg_name 2 hN) (fss_one (fs_setLc2F 1 (own := [("row", 3), ("label", 4)]) (vs1 := [4]) o.calm hN (fi0_of (fi_list o.K (fp_var 1))) (fun _ => blkOk_by (N := ["many", "found", "turn", "row", "label"]) (sc := defScope s_label_lists) (by decide +kernel)) (fg_name 3 (nd_blk hN)) fts_nil (fi_tup (o.blk).K (fp_tup (fa_cons fp_int (fa_cons fp_int (fa_cons fp_int fa_nil))))) (fg_name 4 (nd_blk hN)) fts_nil (fp_op (o.blk).catA opd_catT (fp_var 3) (fp_tup (fa_cons (fp_var 4) fa_nil))))))
    (fss_one (fs_ret (fp_var 1)))))
end
abbrev s_bit_lists : Stmt := topS 3
theorem sc_bit_lists : FnScope ["many", "found", "turn", "row", "bit"] ["many"] (defScope s_bit_lists) := ⟨rfl, rfl, rfl, by decide +kernel, rfl, by decide +kernel, by decide +kernel⟩
def i_bit_lists_1 : List SV → Option (List D) := (dItemsT (dTup (dCons (dC (.int 0)) (dCons (dC (.int 1)) dNil))))
def e_bit_lists_1 : List SV → Option D := (dOp dCatT (dVar 3) (dTup (dCons (dVar 4) dNil)))
def b_bit_lists_1 : List SV → Option Out := (dSet 1 (dFr (dLc2 (dItems (dVar 1)) [3, 4] (bName 3) dYes [4] i_bit_lists_1 (bName 4) dYes e_bit_lists_1)))
def d_bit_lists : List SV → Option Out := (dSeq (dSet 1 (dFr (dLst (dCons (dTup dNil) dNil)))) (dSeq (dFor (dRange1 (dCons (dVar 0) dNil)) (bName 2) b_bit_lists_1) (dRet (dVar 1))))
def v_bit_lists := runP d_bit_lists 5
section
variable {P : Program} {w : PySem.World} {K : PySem.W.Frag} {mg : Str → Option Value} {base : Heap} {cls : Nat → Addr}
theorem ok_bit_lists {f : Addr} {fd : FuncData} (F : Fun K "bit_lists" "bit_lists" s_bit_lists f fd) (g : Glob mg) (z : ClsF K (cls 0))  : FnOk P w K mg base CX0 1 f fd ["many"] (spP ⟨K, cls, w⟩ [.p] v_bit_lists) := by
    refine fn_P (k := 0) F sc_bit_lists rfl rfl (ms := [.p]) (rest := [.p, .p, .p, .p]) rfl fun cdv A outer s H E hr => ?_
    have o : XOk (bodyX P w K mg base ["many", "found", "turn", "row", "bit"] "bit_lists" s_bit_lists f cdv A outer s H E) ⟨K, cls, w⟩ 0 := ⟨fun _ => rfl, fun _ => rfl, fun _ => hr⟩
    have hN : ∀ j, ((bodyX P w K mg base ["many", "found", "turn", "row", "bit"] "bit_lists" s_bit_lists f cdv A outer s H E) j).N.Nodup := fun _ => sc_bit_lists.nd
    exact (fss_cons (fs_set 1 hN (fp_fr (fo_lst (fa_cons (fp_tup (fa_nil (m := .p))) fa_nil))))
    (fss_cons (fs_for (vs := [2]) (fun _ => PassesOwn.never) o.calm (fi_range1 (by intro _; rfl) (fun _ => g.range) (fa_cons (fp_var 0) fa_nil)) (fg_name 2 hN) (fss_one (fs_setLc2F 1 (own := [("row", 3), ("bit", 4)]) (vs1 := [4]) o.calm hN (fi0_of (fi_list o.K (fp_var 1))) (fun _ => blkOk_by (N := ["many", "found", "turn", "row", "bit"]) (sc := defScope s_bit_lists) (by decide +kernel)) (fg_name 3 (nd_blk hN)) fts_nil (fi_tup (o.blk).K (fp_tup (fa_cons fp_int (fa_cons fp_int fa_nil)))) (fg_name 4 (nd_blk hN)) fts_nil (fp_op (o.blk).catA opd_catT (fp_var 3) (fp_tup (fa_cons (fp_var 4) fa_nil))))))
    (fss_one (fs_ret (fp_var 1)))))
end
abbrev s_state_of : Stmt := topS 4
theorem sc_state_of : FnScope ["labels", "bits", "at", "label"] ["labels", "bits"] (defScope s_state_of) := ⟨rfl, rfl, rfl, by decide +kernel, rfl, by decide +kernel, by decide +kernel⟩
def e_state_of_1 : List SV → Option D := (dTup (dCons (dVar 3) (dCons (dOp dIx (dVar 1) (dVar 2)) dNil)))
def d_state_of : List SV → Option Out := (dRet (dCallB dTuple (dCons (dFr (dLc (dEnumT (dVar 0)) [2, 3] (bTup [(bName 2), (bName 3)]) dYes e_state_of_1)) dNil)))
def v_state_of := runP d_state_of 4
section
variable {P : Program} {w : PySem.World} {K : PySem.W.Frag} {mg : Str → Option Value} {base : Heap} {cls : Nat → Addr}
theorem ok_state_of {f : Addr} {fd : FuncData} (F : Fun K "state_of" "state_of" s_state_of f fd) (g : Glob mg) (z : ClsF K (cls 0))  : FnOk P w K mg base CX0 1 f fd ["labels", "bits"] (spP ⟨K, cls, w⟩ [.p, .p] v_state_of) := by
    refine fn_P (k := 0) F sc_state_of rfl rfl (ms := [.p, .p]) (rest := [.p, .p]) rfl fun cdv A outer s H E hr => ?_
    have o : XOk (bodyX P w K mg base ["labels", "bits", "at", "label"] "state_of" s_state_of f cdv A outer s H E) ⟨K, cls, w⟩ 0 := ⟨fun _ => rfl, fun _ => rfl, fun _ => hr⟩
    have hN : ∀ j, ((bodyX P w K mg base ["labels", "bits", "at", "label"] "state_of" s_state_of f cdv A outer s H E) j).N.Nodup := fun _ => sc_state_of.nd
    exact (fss_one (fs_ret (fp_callTy (cr_tuple' o.K) cd_tuple (by intro _; rfl) (fun _ => g.tuple) bt_tuple (fa_cons (fp_fr (fo_lc0 (own := [("at", 2), ("label", 3)]) o.calm hN (fi0_of (fi_enumT o.K (by intro _; rfl) (fun _ => g.enumerate) (fp_var 0))) (fun _ => blkOk_by (N := ["labels", "bits", "at", "label"]) (sc := defScope s_state_of) (by decide +kernel)) (fg_tup (o.blk).calm (o.blk).K (fgs_cons (fg_name 2 (nd_blk hN)) (fgs_cons (fg_name 3 (nd_blk hN)) fgs_nil))) fts_nil (fp_tup (fa_cons (fp_var 3) (fa_cons (fp_sub_ix (o.blk).K (fp_var 1) (fp_var 2)) fa_nil))))) fa_nil))))
end
abbrev s_agree_in : Stmt := topS 7
theorem sc_agree_in : FnScope ["labels", "couples", "a", "b"] ["labels", "couples"] (defScope s_agree_in) := ⟨rfl, rfl, rfl, by decide +kernel, rfl, by decide +kernel, by decide +kernel⟩
def b_agree_in_1 : List SV → Option Out := (dIfS (dAndB (dTest (dOp dGt (dOp dIx (dVar 0) (dOp dSub (dVar 2) (dC (.int 1)))) (dC (.int 0)))) (dAndB (dTest (dOp dGt (dOp dIx (dVar 0) (dOp dSub (dVar 3) (dC (.int 1)))) (dC (.int 0)))) (dTest (dOp dNe (dOp dIx (dVar 0) (dOp dSub (dVar 2) (dC (.int 1)))) (dOp dIx (dVar 0) (dOp dSub (dVar 3) (dC (.int 1)))))))) (dRet (dC (.bl false))) dNx)
def d_agree_in : List SV → Option Out := (dSeq (dFor (dItems (dVar 1)) (bTup [(bName 2), (bName 3)]) b_agree_in_1) (dRet (dC (.bl true))))
def v_agree_in := runP d_agree_in 4
section
variable {P : Program} {w : PySem.World} {K : PySem.W.Frag} {mg : Str → Option Value} {base : Heap} {cls : Nat → Addr}
theorem ok_agree_in {f : Addr} {fd : FuncData} (F : Fun K "agree_in" "agree_in" s_agree_in f fd) (g : Glob mg) (z : ClsF K (cls 0))  : FnOk P w K mg base CX0 1 f fd ["labels", "couples"] (spP ⟨K, cls, w⟩ [.p, .p] v_agree_in) := by
    refine fn_P (k := 0) F sc_agree_in rfl rfl (ms := [.p, .p]) (rest := [.p, .p]) rfl fun cdv A outer s H E hr => ?_
    have o : XOk (bodyX P w K mg base ["labels", "couples", "a", "b"] "agree_in" s_agree_in f cdv A outer s H E) ⟨K, cls, w⟩ 0 := ⟨fun _ => rfl, fun _ => rfl, fun _ => hr⟩
    have hN : ∀ j, ((bodyX P w K mg base ["labels", "couples", "a", "b"] "agree_in" s_agree_in f cdv A outer s H E) j).N.Nodup := fun _ => sc_agree_in.nd
    exact (fss_cons (fs_for (vs := [2, 3]) (fun _ => PassesOwn.never) o.calm (fi_list o.K (fp_var 1)) (fg_tup o.calm o.K (fgs_cons (fg_name 2 hN) (fgs_cons (fg_name 3 hN) fgs_nil))) (fss_one (fs_if (ft_w (fw_and (ft_cmp (fun _ => op_gt) opd_B0 (fp_sub_ix o.K (fp_var 0) (fp_sub (fp_var 2) fp_int)) fp_int) (fw_and (ft_cmp (fun _ => op_gt) opd_B0 (fp_sub_ix o.K (fp_var 0) (fp_sub (fp_var 3) fp_int)) fp_int) (fw_and1 (ft_cmp o.neR opd_ne (fp_sub_ix o.K (fp_var 0) (fp_sub (fp_var 2) fp_int)) (fp_sub_ix o.K (fp_var 0) (fp_sub (fp_var 3) fp_int))))))) (fss_one (fs_ret fp_bl)) fss_nil)))
    (fss_one (fs_ret fp_bl)))
end
abbrev s_members_of : Stmt := topS 11
theorem sc_members_of : FnScope ["bits", "found", "number"] ["bits"] (defScope s_members_of) := ⟨rfl, rfl, rfl, by decide +kernel, rfl, by decide +kernel, by decide +kernel⟩
def w_members_of_1 : List SV → Option Bool := (dTest (dOp dGt (dVar 0) (dC (.int 0))))
def b_members_of_1 : List SV → Option Out := (dSeq (dIfS (dTruth (dOp dBAnd (dVar 0) (dC (.int 1)))) (dApp 1 (dVar 2)) dNx) (dSeq (dSet 0 (dOp dShr (dVar 0) (dC (.int 1)))) (dSet 2 (dOp dAddI (dVar 2) (dC (.int 1))))))
def d_members_of : List SV → Option Out := (dSeq (dSetO 1 (dLst dNil)) (dSeq (dSet 2 (dC (.int 0))) (dSeq (whileGo w_members_of_1 b_members_of_1 16) (dRetX (xShare 1)))))
def v_members_of := runP d_members_of 3
section
variable {P : Program} {w : PySem.World} {K : PySem.W.Frag} {mg : Str → Option Value} {base : Heap} {cls : Nat → Addr}
theorem ok_members_of {f : Addr} {fd : FuncData} (F : Fun K "members_of" "members_of" s_members_of f fd) (g : Glob mg) (z : ClsF K (cls 0))  : FnOk P w K mg base CX0 1 f fd ["bits"] (spP ⟨K, cls, w⟩ [.b] v_members_of) := by
    refine fn_P (k := 0) F sc_members_of rfl rfl (ms := [.b]) (rest := [.p, .p]) rfl fun cdv A outer s H E hr => ?_
    have o : XOk (bodyX P w K mg base ["bits", "found", "number"] "members_of" s_members_of f cdv A outer s H E) ⟨K, cls, w⟩ 0 := ⟨fun _ => rfl, fun _ => rfl, fun _ => hr⟩
    have hN : ∀ j, ((bodyX P w K mg base ["bits", "found", "number"] "members_of" s_members_of f cdv A outer s H E) j).N.Nodup := fun _ => sc_members_of.nd
    exact (fss_cons (fs_setO 1 hN (fo_lst (fa_nil (m := .p))))
    (fss_cons (fs_set 2 hN fp_int)
    (fss_cons (fs_while 16 (fun _ => PassesOwn.never) (ft_cmp (fun _ => op_gt) opd_B0 (fp_var 0) fp_int) (fss_cons (fs_if (ft_truth (fp_band (fp_var 0) fp_int) o.K) (fss_one (fs_app 1 (fp_var 2) (hK := o.K))) fss_nil)
    (fss_cons (fs_set 0 hN (fp_up .b (fp_shr (fp_var 0) fp_int) rfl))
    (fss_one (fs_set 2 hN (fp_addI (fp_var 2) fp_int))))))
    (fss_one (fs_retX (fx_share 1))))))
end
abbrev s_Face_leads : Stmt := inClass (topS 13) 1
theorem sc_Face_leads : FnScope ["self", "i", "o"] ["self"] (defScope s_Face_leads) := ⟨rfl, rfl, rfl, by decide +kernel, rfl, by decide +kernel, by decide +kernel⟩
def i_Face_leads_1 : List SV → Option (List D) := (dItems (dCallF v_members_of (dCons (dOp dIx (dUn (dFld 0 "lead_list") (dVar 0)) (dVar 1)) dNil)))
def e_Face_leads_1 : List SV → Option D := (dTup (dCons (dVar 1) (dCons (dVar 2) dNil)))
def d_Face_leads : List SV → Option Out := (dRet (dFr (dLc2 (dRange2 (dCons (dC (.int 1)) (dCons (dOp dAddI (dUn (dFld 0 "ins") (dVar 0)) (dC (.int 1))) dNil))) [1, 2] (bName 1) dYes [2] i_Face_leads_1 (bName 2) dYes e_Face_leads_1)))
def v_Face_leads := runP d_Face_leads 3
section
variable {P : Program} {w : PySem.World} {K : PySem.W.Frag} {mg : Str → Option Value} {base : Heap} {cls : Nat → Addr}
theorem ok_Face_leads {f : Addr} {fd : FuncData} (F : Fun K "leads" "Face.leads" s_Face_leads f fd) (g : Glob mg) (z : ClsF K (cls 0)) (c_members_of : CalP P w K mg base 1 "members_of" ["bits"] (spP ⟨K, cls, w⟩ [.b] v_members_of)) : FnOk P w K mg base CX0 2 f fd ["self"] (spP ⟨K, cls, w⟩ [.p] v_Face_leads) := by
    refine fn_P (k := 1) F sc_Face_leads rfl rfl (ms := [.p]) (rest := [.p, .p]) rfl fun cdv A outer s H E hr => ?_
    have o : XOk (bodyX P w K mg base ["self", "i", "o"] "Face.leads" s_Face_leads f cdv A outer s H E) ⟨K, cls, w⟩ 1 := ⟨fun _ => rfl, fun _ => rfl, fun _ => hr⟩
    have hN : ∀ j, ((bodyX P w K mg base ["self", "i", "o"] "Face.leads" s_Face_leads f cdv A outer s H E) j).N.Nodup := fun _ => sc_Face_leads.nd
    exact (fss_one (fs_ret (fp_fr (fo_lc2 (own := [("i", 1), ("o", 2)]) (vs1 := [2]) o.calm hN (fi0_of (fi_range2 (by intro _; rfl) (fun _ => g.range) (fa_cons fp_int (fa_cons (fp_addI (fp_fld 0 (fp_var 0) o.K z.cl z.n_ins) fp_int) fa_nil)))) (fun _ => blkOk_by (N := ["self", "i", "o"]) (sc := defScope s_Face_leads) (by decide +kernel)) (fg_name 1 (nd_blk hN)) fts_nil (fi_list (o.blk).K (fp_call (fun _ => ⟨c_members_of.ex⟩) (fun j => ((o.blk).room j).mono (by omega)) (fam_cons (fp_sub_ix (o.blk).K (fp_fld 0 (fp_var 0) (o.blk).K z.cl z.n_lead_list) (fp_var 1)) fam_nil))) (fg_name 2 (nd_blk hN)) fts_nil (fp_tup (fa_cons (fp_var 1) (fa_cons (fp_var 2) fa_nil)))))))
end
abbrev s_Face_couples : Stmt := inClass (topS 13) 2
theorem sc_Face_couples : FnScope ["self", "a", "b"] ["self"] (defScope s_Face_couples) := ⟨rfl, rfl, rfl, by decide +kernel, rfl, by decide +kernel, by decide +kernel⟩
def p_Face_couples_1 : List SV → Option Bool := (dTest (dOp dLt (dVar 1) (dVar 2)))
def i_Face_couples_1 : List SV → Option (List D) := (dItems (dCallF v_members_of (dCons (dOp dIx (dUn (dFld 0 "couple_list") (dVar 0)) (dVar 1)) dNil)))
def e_Face_couples_1 : List SV → Option D := (dTup (dCons (dVar 1) (dCons (dVar 2) dNil)))
def d_Face_couples : List SV → Option Out := (dRet (dFr (dLc2 (dRange2 (dCons (dC (.int 1)) (dCons (dOp dAddI (dUn (dFld 0 "outs") (dVar 0)) (dC (.int 1))) dNil))) [1, 2] (bName 1) dYes [2] i_Face_couples_1 (bName 2) p_Face_couples_1 e_Face_couples_1)))
def v_Face_couples := runP d_Face_couples 3
section
variable {P : Program} {w : PySem.World} {K : PySem.W.Frag} {mg : Str → Option Value} {base : Heap} {cls : Nat → Addr}
theorem ok_Face_couples {f : Addr} {fd : FuncData} (F : Fun K "couples" "Face.couples" s_Face_couples f fd) (g : Glob mg) (z : ClsF K (cls 0)) (c_members_of : CalP P w K mg base 1 "members_of" ["bits"] (spP ⟨K, cls, w⟩ [.b] v_members_of)) : FnOk P w K mg base CX0 2 f fd ["self"] (spP ⟨K, cls, w⟩ [.p] v_Face_couples) := by
    refine fn_P (k := 1) F sc_Face_couples rfl rfl (ms := [.p]) (rest := [.p, .p]) rfl fun cdv A outer s H E hr => ?_
    have o : XOk (bodyX P w K mg base ["self", "a", "b"] "Face.couples" s_Face_couples f cdv A outer s H E) ⟨K, cls, w⟩ 1 := ⟨fun _ => rfl, fun _ => rfl, fun _ => hr⟩
    have hN : ∀ j, ((bodyX P w K mg base ["self", "a", "b"] "Face.couples" s_Face_couples f cdv A outer s H E) j).N.Nodup := fun _ => sc_Face_couples.nd
    exact (fss_one (fs_ret (fp_fr (fo_lc2 (own := [("a", 1), ("b", 2)]) (vs1 := [2]) o.calm hN (fi0_of (fi_range2 (by intro _; rfl) (fun _ => g.range) (fa_cons fp_int (fa_cons (fp_addI (fp_fld 0 (fp_var 0) o.K z.cl z.n_outs) fp_int) fa_nil)))) (fun _ => blkOk_by (N := ["self", "a", "b"]) (sc := defScope s_Face_couples) (by decide +kernel)) (fg_name 1 (nd_blk hN)) fts_nil (fi_list (o.blk).K (fp_call (fun _ => ⟨c_members_of.ex⟩) (fun j => ((o.blk).room j).mono (by omega)) (fam_cons (fp_sub_ix (o.blk).K (fp_fld 0 (fp_var 0) (o.blk).K z.cl z.n_couple_list) (fp_var 1)) fam_nil))) (fg_name 2 (nd_blk hN)) (fts_one (ft_cmp (fun _ => op_lt) opd_B0 (fp_var 1) (fp_var 2))) (fp_tup (fa_cons (fp_var 1) (fa_cons (fp_var 2) fa_nil)))))))
end
abbrev s_room_step : Stmt := topS 6
theorem sc_room_step : FnScope ["face", "leads", "couples", "led", "leading", "found", "labels", "doors", "bits", "outs", "door", "i", "o", "out", "row", "at"] ["face"] (defScope s_room_step) := ⟨rfl, rfl, rfl, by decide +kernel, rfl, by decide +kernel, by decide +kernel⟩
def p_room_step_1 : List SV → Option Bool := (dTest (dOp dEq (dVar 11) (dVar 10)))
def e_room_step_1 : List SV → Option D := (dOp dSub (dVar 12) (dC (.int 1)))
def e_room_step_2 : List SV → Option D := (dFr (dLc (dItems (dVar 1)) [11, 12] (bTup [(bName 11), (bName 12)]) p_room_step_1 e_room_step_1))
def p_room_step_2 : List SV → Option Bool := (dTest (dOp dEq (dVar 12) (dVar 13)))
def e_room_step_3 : List SV → Option D := (dOp dSub (dVar 11) (dC (.int 1)))
def e_room_step_4 : List SV → Option D := (dFr (dLc (dItems (dVar 1)) [11, 12] (bTup [(bName 11), (bName 12)]) p_room_step_2 e_room_step_3))
def e_room_step_5 : List SV → Option D := (dOp dIx (dVar 6) (dVar 15))
def e_room_step_6 : List SV → Option D := (dCallB dMaxL (dCons (dFr (dCat (dFr (dLst (dCons (dC (.int 0)) dNil))) (dFr (dLc (dItems (dVar 14)) [15] (bName 15) dYes e_room_step_5)))) dNil))
def e_room_step_7 : List SV → Option D := (dOp dIx (dVar 8) (dVar 15))
def e_room_step_8 : List SV → Option D := (dCallB dMinL (dCons (dFr (dCat (dFr (dLst (dCons (dC (.int 1)) dNil))) (dFr (dLc (dItems (dVar 14)) [15] (bName 15) dYes e_room_step_7)))) dNil))
def b_room_step_1 : List SV → Option Out := (dSeq (dSet 9 (dCallB dTuple (dCons (dFr (dLc (dItems (dVar 4)) [14] (bName 14) dYes e_room_step_8)) dNil))) (dApp 5 (dTup (dCons (dCallF v_state_of (dCons (dVar 7) (dCons (dVar 8) dNil))) (dCons (dCallF v_state_of (dCons (dVar 6) (dCons (dVar 9) dNil))) dNil)))))
def b_room_step_2 : List SV → Option Out := (dSeq (dIfS (dNotB (dTruth (dCallF v_agree_in (dCons (dVar 6) (dCons (dVar 2) dNil))))) dCt dNx) (dSeq (dSet 7 (dCallB dTuple (dCons (dFr (dLc (dItems (dVar 3)) [14] (bName 14) dYes e_room_step_6)) dNil))) (dFor (dItems (dCallF v_bit_lists (dCons (dUn (dFld 0 "ins") (dVar 0)) dNil))) (bName 8) b_room_step_1)))
def d_room_step : List SV → Option Out := (dSeq (dSet 1 (dMeth 0 "leads" v_Face_leads (dVar 0) dNil)) (dSeq (dSet 2 (dMeth 0 "couples" v_Face_couples (dVar 0) dNil)) (dSeq (dSet 3 (dFr (dLc (dRange2 (dCons (dC (.int 1)) (dCons (dOp dAddI (dUn (dFld 0 "ins") (dVar 0)) (dC (.int 1))) dNil))) [10] (bName 10) dYes e_room_step_2))) (dSeq (dSet 4 (dFr (dLc (dRange2 (dCons (dC (.int 1)) (dCons (dOp dAddI (dUn (dFld 0 "outs") (dVar 0)) (dC (.int 1))) dNil))) [13] (bName 13) dYes e_room_step_4))) (dSeq (dSetO 5 (dLst dNil)) (dSeq (dFor (dItems (dCallF v_label_lists (dCons (dUn (dFld 0 "outs") (dVar 0)) dNil))) (bName 6) b_room_step_2) (dRetO (dSortedL (dItemsOwn 5)))))))))
def v_room_step := runO d_room_step 16
section
variable {P : Program} {w : PySem.World} {K : PySem.W.Frag} {mg : Str → Option Value} {base : Heap} {cls : Nat → Addr}
theorem ok_room_step {f : Addr} {fd : FuncData} (F : Fun K "room_step" "room_step" s_room_step f fd) (g : Glob mg) (z : ClsF K (cls 0)) (c_label_lists : CalP P w K mg base 1 "label_lists" ["many"] (spP ⟨K, cls, w⟩ [.p] v_label_lists)) (c_bit_lists : CalP P w K mg base 1 "bit_lists" ["many"] (spP ⟨K, cls, w⟩ [.p] v_bit_lists)) (c_state_of : CalP P w K mg base 1 "state_of" ["labels", "bits"] (spP ⟨K, cls, w⟩ [.p, .p] v_state_of)) (c_agree_in : CalP P w K mg base 1 "agree_in" ["labels", "couples"] (spP ⟨K, cls, w⟩ [.p, .p] v_agree_in)) (c_Face_leads : MetP P w K mg base 2 (cls 0) "leads" ["self"] (spP ⟨K, cls, w⟩ [.p] v_Face_leads)) (c_Face_couples : MetP P w K mg base 2 (cls 0) "couples" ["self"] (spP ⟨K, cls, w⟩ [.p] v_Face_couples)) : FnOk P w K mg base CX0 3 f fd ["face"] (spO ⟨K, cls, w⟩ [.p] v_room_step) := by
    refine fn_O (k := 2) F sc_room_step rfl rfl (ms := [.p]) (rest := [.p, .p, .p, .p, .p, .p, .p, .p, .p, .p, .p, .p, .p, .p, .p]) rfl fun cdv A outer s H E hr => ?_
    have o : XOk (bodyX P w K mg base ["face", "leads", "couples", "led", "leading", "found", "labels", "doors", "bits", "outs", "door", "i", "o", "out", "row", "at"] "room_step" s_room_step f cdv A outer s H E) ⟨K, cls, w⟩ 2 := ⟨fun _ => rfl, fun _ => rfl, fun _ => hr⟩
    have hN : ∀ j, ((bodyX P w K mg base ["face", "leads", "couples", "led", "leading", "found", "labels", "doors", "bits", "outs", "door", "i", "o", "out", "row", "at"] "room_step" s_room_step f cdv A outer s H E) j).N.Nodup := fun _ => sc_room_step.nd
    exact (fss_cons (fs_set 1 hN (fp_meth0 0 (fp_var 0) o.K z.cl (fun _ => ⟨c_Face_leads.ex⟩) (fun j => (o.room j).mono (by omega))))
    (fss_cons (fs_set 2 hN (fp_meth0 0 (fp_var 0) o.K z.cl (fun _ => ⟨c_Face_couples.ex⟩) (fun j => (o.room j).mono (by omega))))
    (fss_cons (fs_setLcF 3 (own := [("door", 10)]) o.calm hN (fi0_of (fi_range2 (by intro _; rfl) (fun _ => g.range) (fa_cons fp_int (fa_cons (fp_addI (fp_fld 0 (fp_var 0) o.K z.cl z.n_ins) fp_int) fa_nil)))) (fun _ => blkOk_by (N := ["face", "leads", "couples", "led", "leading", "found", "labels", "doors", "bits", "outs", "door", "i", "o", "out", "row", "at"]) (sc := defScope s_room_step) (by decide +kernel)) (fg_name 10 (nd_blk hN)) fts_nil (fp_fr (fo_lc0 (own := [("i", 11), ("o", 12)]) (o.blk).calm (nd_blk hN) (fi0_of (fi_list (o.blk).K (fp_var 1))) (fun _ => blkOk_by (N := ["face", "leads", "couples", "led", "leading", "found", "labels", "doors", "bits", "outs", "door", "i", "o", "out", "row", "at"]) (sc := relS _ (defScope s_room_step)) (by decide +kernel)) (fg_tup ((o.blk).blk).calm ((o.blk).blk).K (fgs_cons (fg_name 11 (nd_blk (nd_blk hN))) (fgs_cons (fg_name 12 (nd_blk (nd_blk hN))) fgs_nil))) (fts_one (ft_cmp ((o.blk).blk).eqR opd_eq (fp_var 11) (fp_var 10))) (fp_sub (fp_var 12) fp_int))))
    (fss_cons (fs_setLcF 4 (own := [("out", 13)]) o.calm hN (fi0_of (fi_range2 (by intro _; rfl) (fun _ => g.range) (fa_cons fp_int (fa_cons (fp_addI (fp_fld 0 (fp_var 0) o.K z.cl z.n_outs) fp_int) fa_nil)))) (fun _ => blkOk_by (N := ["face", "leads", "couples", "led", "leading", "found", "labels", "doors", "bits", "outs", "door", "i", "o", "out", "row", "at"]) (sc := defScope s_room_step) (by decide +kernel)) (fg_name 13 (nd_blk hN)) fts_nil (fp_fr (fo_lc0 (own := [("i", 11), ("o", 12)]) (o.blk).calm (nd_blk hN) (fi0_of (fi_list (o.blk).K (fp_var 1))) (fun _ => blkOk_by (N := ["face", "leads", "couples", "led", "leading", "found", "labels", "doors", "bits", "outs", "door", "i", "o", "out", "row", "at"]) (sc := relS _ (defScope s_room_step)) (by decide +kernel)) (fg_tup ((o.blk).blk).calm ((o.blk).blk).K (fgs_cons (fg_name 11 (nd_blk (nd_blk hN))) (fgs_cons (fg_name 12 (nd_blk (nd_blk hN))) fgs_nil))) (fts_one (ft_cmp ((o.blk).blk).eqR opd_eq (fp_var 12) (fp_var 13))) (fp_sub (fp_var 11) fp_int))))
    (fss_cons (fs_setO 5 hN (fo_lst (fa_nil (m := .p))))
    (fss_cons (fs_for (vs := [6]) (fun _ => PassesOwn.never) o.calm (fi_list o.K (fp_call (fun _ => ⟨c_label_lists.ex⟩) (fun j => (o.room j).mono (by omega)) (fam_cons (fp_fld 0 (fp_var 0) o.K z.cl z.n_outs) fam_nil))) (fg_name 6 hN) (fss_cons (fs_if (ft_not (ft_truth (fp_call (fun _ => ⟨c_agree_in.ex⟩) (fun j => (o.room j).mono (by omega)) (fam_cons (fp_var 6) (fam_cons (fp_var 2) fam_nil))) o.K)) (fss_one fs_cont) fss_nil)
    (fss_cons (fs_set 7 hN (fp_callTy (cr_tuple' o.K) cd_tuple (by intro _; rfl) (fun _ => g.tuple) bt_tuple (fa_cons (fp_fr (fo_lc0 (own := [("row", 14)]) o.calm hN (fi0_of (fi_list o.K (fp_var 3))) (fun _ => blkOk_by (N := ["face", "leads", "couples", "led", "leading", "found", "labels", "doors", "bits", "outs", "door", "i", "o", "out", "row", "at"]) (sc := defScope s_room_step) (by decide +kernel)) (fg_name 14 (nd_blk hN)) fts_nil (fp_callB (cr_max' (o.blk).K (o.blk).calm) cd_max (by intro _; rfl) (fun _ => g.max) bt_max (fa_cons (fp_fr (fo_cat (o.blk).K (fp_fr (fo_lst (fa_cons fp_int fa_nil))) (fp_fr (fo_lc0 (own := [("at", 15)]) (o.blk).calm (nd_blk hN) (fi0_of (fi_list (o.blk).K (fp_var 14))) (fun _ => blkOk_by (N := ["face", "leads", "couples", "led", "leading", "found", "labels", "doors", "bits", "outs", "door", "i", "o", "out", "row", "at"]) (sc := relS _ (defScope s_room_step)) (by decide +kernel)) (fg_name 15 (nd_blk (nd_blk hN))) fts_nil (fp_sub_ix ((o.blk).blk).K (fp_var 6) (fp_var 15)))))) fa_nil)))) fa_nil)))
    (fss_one (fs_for (vs := [8]) (fun _ => PassesOwn.never) o.calm (fi_list o.K (fp_call (fun _ => ⟨c_bit_lists.ex⟩) (fun j => (o.room j).mono (by omega)) (fam_cons (fp_fld 0 (fp_var 0) o.K z.cl z.n_ins) fam_nil))) (fg_name 8 hN) (fss_cons (fs_set 9 hN (fp_callTy (cr_tuple' o.K) cd_tuple (by intro _; rfl) (fun _ => g.tuple) bt_tuple (fa_cons (fp_fr (fo_lc0 (own := [("row", 14)]) o.calm hN (fi0_of (fi_list o.K (fp_var 4))) (fun _ => blkOk_by (N := ["face", "leads", "couples", "led", "leading", "found", "labels", "doors", "bits", "outs", "door", "i", "o", "out", "row", "at"]) (sc := defScope s_room_step) (by decide +kernel)) (fg_name 14 (nd_blk hN)) fts_nil (fp_callB (cr_min' (o.blk).K (o.blk).calm) cd_min (by intro _; rfl) (fun _ => g.min) bt_min (fa_cons (fp_fr (fo_cat (o.blk).K (fp_fr (fo_lst (fa_cons fp_int fa_nil))) (fp_fr (fo_lc0 (own := [("at", 15)]) (o.blk).calm (nd_blk hN) (fi0_of (fi_list (o.blk).K (fp_var 14))) (fun _ => blkOk_by (N := ["face", "leads", "couples", "led", "leading", "found", "labels", "doors", "bits", "outs", "door", "i", "o", "out", "row", "at"]) (sc := relS _ (defScope s_room_step)) (by decide +kernel)) (fg_name 15 (nd_blk (nd_blk hN))) fts_nil (fp_sub_ix ((o.blk).blk).K (fp_var 8) (fp_var 15)))))) fa_nil)))) fa_nil)))
    (fss_one (fs_app 5 (fp_tup (fa_cons (fp_call (fun _ => ⟨c_state_of.ex⟩) (fun j => (o.room j).mono (by omega)) (fam_cons (fp_var 7) (fam_cons (fp_var 8) fam_nil))) (fa_cons (fp_call (fun _ => ⟨c_state_of.ex⟩) (fun j => (o.room j).mono (by omega)) (fam_cons (fp_var 6) (fam_cons (fp_var 9) fam_nil))) fa_nil))) (hK := o.K)))))))))
    (fss_one (fs_retO (fo_sortedL o.K o.u64 (fl_own 5) (fun _ => g.sorted))))))))))
end
abbrev s_doors_behind : Stmt := topS 9
theorem sc_doors_behind : FnScope ["outs", "pair", "lost", "there", "found", "at", "label", "bit", "wire", "gone", "carried", "labels", "doors", "one"] ["outs", "pair"] (defScope s_doors_behind) := ⟨rfl, rfl, rfl, by decide +kernel, rfl, by decide +kernel, by decide +kernel⟩
def i_doors_behind_1 : List SV → Option (List D) := (dItems (dVar 11))
def e_doors_behind_1 : List SV → Option D := (dOp dCatT (dVar 12) (dTup (dCons (dTup (dCons (dVar 13) (dCons (dVar 10) dNil))) dNil)))
def b_doors_behind_1 : List SV → Option Out := (dSeq (dSet 8 (dOp dAddI (dVar 5) (dC (.int 1)))) (dSeq (dSet 9 (dOp dInQ (dVar 8) (dVar 2))) (dSeq (dSet 10 (dVar 7)) (dSeq (dIfS (dOrB (dTruth (dVar 9)) (dTest (dOp dInQ (dVar 8) (dOp dIx (dVar 3) (dC (.int 0)))))) (dSet 10 (dIf (dAndB (dTruth (dVar 9)) (dTest (dOp dInQ (dVar 8) (dOp dIx (dVar 3) (dC (.int 0)))))) (dC (.int 1)) (dC (.int 0)))) dNx) (dSeq (dSet 11 (dFr (dLst (dCons (dVar 6) dNil)))) (dSeq (dIfS (dTruth (dVar 9)) (dSet 11 (dIf (dTest (dOp dEq (dVar 6) (dC (.int 0)))) (dFr (dLst (dCons (dC (.int 0)) (dCons (dC (.int 1)) (dCons (dC (.int 2)) dNil))))) (dFr (dLst dNil)))) (dIfS (dAndB (dTest (dOp dGt (dVar 6) (dC (.int 0)))) (dAndB (dTest (dOp dEq (dVar 7) (dC (.int 1)))) (dTest (dOp dInQ (dVar 8) (dOp dIx (dVar 3) (dC (.int 1))))))) (dSet 11 (dFr (dLst (dCons (dC (.int 1)) (dCons (dC (.int 2)) dNil))))) dNx)) (dSet 4 (dFr (dLc2 (dItems (dVar 4)) [12, 13] (bName 12) dYes [13] i_doors_behind_1 (bName 13) dYes e_doors_behind_1)))))))))
def d_doors_behind : List SV → Option Out := (dSeq (dSetT (bTup [(bName 2), (bName 3)]) (dVar 1)) (dSeq (dSet 4 (dFr (dLst (dCons (dTup dNil) dNil)))) (dSeq (dFor (dEnumT (dVar 0)) (bTup [(bName 5), (bTup [(bName 6), (bName 7)])]) b_doors_behind_1) (dRet (dVar 4)))))
def v_doors_behind := runP d_doors_behind 14
section
variable {P : Program} {w : PySem.World} {K : PySem.W.Frag} {mg : Str → Option Value} {base : Heap} {cls : Nat → Addr}
theorem ok_doors_behind {f : Addr} {fd : FuncData} (F : Fun K "doors_behind" "doors_behind" s_doors_behind f fd) (g : Glob mg) (z : ClsF K (cls 0))  : FnOk P w K mg base CX0 1 f fd ["outs", "pair"] (spP ⟨K, cls, w⟩ [.p, .p] v_doors_behind) := by
    refine fn_P (k := 0) F sc_doors_behind rfl rfl (ms := [.p, .p]) (rest := [.p, .p, .p, .p, .p, .p, .p, .p, .p, .p, .p, .p]) rfl fun cdv A outer s H E hr => ?_
    have o : XOk (bodyX P w K mg base ["outs", "pair", "lost", "there", "found", "at", "label", "bit", "wire", "gone", "carried", "labels", "doors", "one"] "doors_behind" s_doors_behind f cdv A outer s H E) ⟨K, cls, w⟩ 0 := ⟨fun _ => rfl, fun _ => rfl, fun _ => hr⟩
    have hN : ∀ j, ((bodyX P w K mg base ["outs", "pair", "lost", "there", "found", "at", "label", "bit", "wire", "gone", "carried", "labels", "doors", "one"] "doors_behind" s_doors_behind f cdv A outer s H E) j).N.Nodup := fun _ => sc_doors_behind.nd
    exact (fss_cons (fs_setT (vs := [2, 3]) (fp_var 1) (fg_tup o.calm o.K (fgs_cons (fg_name 2 hN) (fgs_cons (fg_name 3 hN) fgs_nil))))
    (fss_cons (fs_set 4 hN (fp_fr (fo_lst (fa_cons (fp_tup (fa_nil (m := .p))) fa_nil))))
    (fss_cons (fs_for (vs := [5, 6, 7]) (fun _ => PassesOwn.never) o.calm (fi_enumT o.K (by intro _; rfl) (fun _ => g.enumerate) (fp_var 0)) (fg_tup o.calm o.K (fgs_cons (fg_name 5 hN) (fgs_cons (fg_tup o.calm o.K (fgs_cons (fg_name 6 hN) (fgs_cons (fg_name 7 hN) fgs_nil))) fgs_nil))) (fss_cons (fs_set 8 hN (fp_addI (fp_var 5) fp_int))
    (fss_cons (fs_set 9 hN (fp_cmp o.inQ opd_inQ (fp_var 8) (fp_var 2)))
    (fss_cons (fs_set 10 hN (fp_var 7))
    (fss_cons (fs_if (ft_w (fw_or (ft_truth (fp_var 9) o.K) (fw_or1 (ft_cmp o.inQ opd_inQ (fp_var 8) (fp_sub_ix o.K (fp_var 3) fp_int))))) (fss_one (fs_set 10 hN (fp_if (ft_w (fw_and (ft_truth (fp_var 9) o.K) (fw_and1 (ft_cmp o.inQ opd_inQ (fp_var 8) (fp_sub_ix o.K (fp_var 3) fp_int))))) fp_int fp_int))) fss_nil)
    (fss_cons (fs_set 11 hN (fp_fr (fo_lst (fa_cons (fp_var 6) fa_nil))))
    (fss_cons (fs_if (ft_truth (fp_var 9) o.K) (fss_one (fs_set 11 hN (fp_if (ft_cmp o.eqR opd_eq (fp_var 6) fp_int) (fp_fr (fo_lst (fa_cons fp_int (fa_cons fp_int (fa_cons fp_int fa_nil))))) (fp_fr (fo_lst (fa_nil (m := .p))))))) (fss_one (fs_if (ft_w (fw_and (ft_cmp (fun _ => op_gt) opd_B0 (fp_var 6) fp_int) (fw_and (ft_cmp o.eqR opd_eq (fp_var 7) fp_int) (fw_and1 (ft_cmp o.inQ opd_inQ (fp_var 8) (fp_sub_ix o.K (fp_var 3) fp_int)))))) (fss_one (fs_set 11 hN (fp_fr (fo_lst (fa_cons fp_int (fa_cons fp_int fa_nil)))))) fss_nil)))
    (fss_one (fs_setLc2F 4 (own := [("doors", 12), ("one", 13)]) (vs1 := [13]) o.calm hN (fi0_of (fi_list o.K (fp_var 4))) (fun _ => blkOk_by (N := ["outs", "pair", "lost", "there", "found", "at", "label", "bit", "wire", "gone", "carried", "labels", "doors", "one"]) (sc := defScope s_doors_behind) (by decide +kernel)) (fg_name 12 (nd_blk hN)) fts_nil (fi_list (o.blk).K (fp_var 11)) (fg_name 13 (nd_blk hN)) fts_nil (fp_op (o.blk).catA opd_catT (fp_var 12) (fp_tup (fa_cons (fp_tup (fa_cons (fp_var 13) (fa_cons (fp_var 10) fa_nil))) fa_nil))))))))))))
    (fss_one (fs_ret (fp_var 4))))))
end
abbrev s_wire_step : Stmt := topS 8
theorem sc_wire_step : FnScope ["k", "pairs", "found", "states", "outs", "pair", "doors", "labels", "bits"] ["k", "pairs"] (defScope s_wire_step) := ⟨rfl, rfl, rfl, by decide +kernel, rfl, by decide +kernel, by decide +kernel⟩
def i_wire_step_1 : List SV → Option (List D) := (dItems (dCallF v_bit_lists (dCons (dVar 0) dNil)))
def e_wire_step_1 : List SV → Option D := (dCallF v_state_of (dCons (dVar 7) (dCons (dVar 8) dNil)))
def b_wire_step_1 : List SV → Option Out := (dNput 2 (dTup (dCons (dVar 4) (dCons (dVar 6) dNil))))
def b_wire_step_2 : List SV → Option Out := (dFor (dItems (dCallF v_doors_behind (dCons (dVar 4) (dCons (dVar 5) dNil)))) (bName 6) b_wire_step_1)
def b_wire_step_3 : List SV → Option Out := (dFor (dItems (dVar 1)) (bName 5) b_wire_step_2)
def d_wire_step : List SV → Option Out := (dSeq (dSetO 2 dNewN) (dSeq (dSet 3 (dFr (dLc2 (dItems (dCallF v_label_lists (dCons (dVar 0) dNil))) [7, 8] (bName 7) dYes [8] i_wire_step_1 (bName 8) dYes e_wire_step_1))) (dSeq (dFor (dItems (dVar 3)) (bName 4) b_wire_step_3) (dRetO (dCallO dSorted (dCons (dFr (dListOwn 2)) dNil))))))
def v_wire_step := runO d_wire_step 9
section
variable {P : Program} {w : PySem.World} {K : PySem.W.Frag} {mg : Str → Option Value} {base : Heap} {cls : Nat → Addr}
theorem ok_wire_step {f : Addr} {fd : FuncData} (F : Fun K "wire_step" "wire_step" s_wire_step f fd) (g : Glob mg) (z : ClsF K (cls 0)) (c_label_lists : CalP P w K mg base 1 "label_lists" ["many"] (spP ⟨K, cls, w⟩ [.p] v_label_lists)) (c_bit_lists : CalP P w K mg base 1 "bit_lists" ["many"] (spP ⟨K, cls, w⟩ [.p] v_bit_lists)) (c_state_of : CalP P w K mg base 1 "state_of" ["labels", "bits"] (spP ⟨K, cls, w⟩ [.p, .p] v_state_of)) (c_doors_behind : CalP P w K mg base 1 "doors_behind" ["outs", "pair"] (spP ⟨K, cls, w⟩ [.p, .p] v_doors_behind)) : FnOk P w K mg base CX0 2 f fd ["k", "pairs"] (spO ⟨K, cls, w⟩ [.p, .p] v_wire_step) := by
    refine fn_O (k := 1) F sc_wire_step rfl rfl (ms := [.p, .p]) (rest := [.p, .p, .p, .p, .p, .p, .p]) rfl fun cdv A outer s H E hr => ?_
    have o : XOk (bodyX P w K mg base ["k", "pairs", "found", "states", "outs", "pair", "doors", "labels", "bits"] "wire_step" s_wire_step f cdv A outer s H E) ⟨K, cls, w⟩ 1 := ⟨fun _ => rfl, fun _ => rfl, fun _ => hr⟩
    have hN : ∀ j, ((bodyX P w K mg base ["k", "pairs", "found", "states", "outs", "pair", "doors", "labels", "bits"] "wire_step" s_wire_step f cdv A outer s H E) j).N.Nodup := fun _ => sc_wire_step.nd
    exact (fss_cons (fs_setO 2 hN (fo_newN (fun _ => rfl)))
    (fss_cons (fs_setLc2F 3 (own := [("labels", 7), ("bits", 8)]) (vs1 := [8]) o.calm hN (fi0_of (fi_list o.K (fp_call (fun _ => ⟨c_label_lists.ex⟩) (fun j => (o.room j).mono (by omega)) (fam_cons (fp_var 0) fam_nil)))) (fun _ => blkOk_by (N := ["k", "pairs", "found", "states", "outs", "pair", "doors", "labels", "bits"]) (sc := defScope s_wire_step) (by decide +kernel)) (fg_name 7 (nd_blk hN)) fts_nil (fi_list (o.blk).K (fp_call (fun _ => ⟨c_bit_lists.ex⟩) (fun j => ((o.blk).room j).mono (by omega)) (fam_cons (fp_var 0) fam_nil))) (fg_name 8 (nd_blk hN)) fts_nil (fp_call (fun _ => ⟨c_state_of.ex⟩) (fun j => ((o.blk).room j).mono (by omega)) (fam_cons (fp_var 7) (fam_cons (fp_var 8) fam_nil))))
    (fss_cons (fs_for (vs := [4]) (fun _ => PassesOwn.never) o.calm (fi_list o.K (fp_var 3)) (fg_name 4 hN) (fss_one (fs_for (vs := [5]) (fun _ => PassesOwn.never) o.calm (fi_list o.K (fp_var 1)) (fg_name 5 hN) (fss_one (fs_for (vs := [6]) (fun _ => PassesOwn.never) o.calm (fi_list o.K (fp_call (fun _ => ⟨c_doors_behind.ex⟩) (fun j => (o.room j).mono (by omega)) (fam_cons (fp_var 4) (fam_cons (fp_var 5) fam_nil)))) (fg_name 6 hN) (fss_one (fs_nput 2 o.u64 o.K (fun _ => rfl) (fp_tup (fa_cons (fp_var 4) (fa_cons (fp_var 6) fa_nil))) fp_bl)))))))
    (fss_one (fs_retO (fo_callB (fun j => cr_sortedD (o.u64 j)) co_sorted (by intro _; rfl) (fun _ => g.sorted) bt_sorted (fa_cons (fp_fr (fo_listN 2 o.calm (fun _ => rfl) (hgm := fun _ => g.list))) fa_nil)))))))
end
abbrev s_closed_rows : Stmt := topS 12
theorem sc_closed_rows : FnScope ["lead_rows", "couple_rows", "rows", "bits", "number"] ["lead_rows", "couple_rows"] (defScope s_closed_rows) := ⟨rfl, rfl, rfl, by decide +kernel, rfl, by decide +kernel, by decide +kernel⟩
def e_closed_rows_1 : List SV → Option D := (dOp dBOr (dVar 3) (dOp dShl (dC (.int 1)) (dVar 4)))
def b_closed_rows_1 : List SV → Option Out := (dSetIx 2 (dVar 4) (dOp dBOr (dIxOwn 2 (dVar 4)) (dVar 3)))
def b_closed_rows_2 : List SV → Option Out := (dFor (dItems (dCallF v_members_of (dCons (dVar 3) dNil))) (bName 4) b_closed_rows_1)
def d_closed_rows : List SV → Option Out := (dSeq (dSetO 2 (dLc (dEnum (dVar 1)) [4, 3] (bTup [(bName 4), (bName 3)]) dYes e_closed_rows_1)) (dSeq (dFor (dItems (dVar 0)) (bName 3) b_closed_rows_2) (dRetX (xShare 2))))
def v_closed_rows := runP d_closed_rows 5
section
variable {P : Program} {w : PySem.World} {K : PySem.W.Frag} {mg : Str → Option Value} {base : Heap} {cls : Nat → Addr}
theorem ok_closed_rows {f : Addr} {fd : FuncData} (F : Fun K "closed_rows" "closed_rows" s_closed_rows f fd) (g : Glob mg) (z : ClsF K (cls 0)) (c_members_of : CalP P w K mg base 1 "members_of" ["bits"] (spP ⟨K, cls, w⟩ [.b] v_members_of)) : FnOk P w K mg base CX0 2 f fd ["lead_rows", "couple_rows"] (spP ⟨K, cls, w⟩ [.p, .b] v_closed_rows) := by
    refine fn_P (k := 1) F sc_closed_rows rfl rfl (ms := [.p, .b]) (rest := [.p, .b, .b]) rfl fun cdv A outer s H E hr => ?_
    have o : XOk (bodyX P w K mg base ["lead_rows", "couple_rows", "rows", "bits", "number"] "closed_rows" s_closed_rows f cdv A outer s H E) ⟨K, cls, w⟩ 1 := ⟨fun _ => rfl, fun _ => rfl, fun _ => hr⟩
    have hN : ∀ j, ((bodyX P w K mg base ["lead_rows", "couple_rows", "rows", "bits", "number"] "closed_rows" s_closed_rows f cdv A outer s H E) j).N.Nodup := fun _ => sc_closed_rows.nd
    exact (fss_cons (fs_setLc0 2 (own := [("number", 4), ("bits", 3)]) o.calm hN (fi0_of (fi_enum o.K (by intro _; rfl) (fun _ => g.enumerate) (fp_var 1))) (fun _ => blkOk_by (N := ["lead_rows", "couple_rows", "rows", "bits", "number"]) (sc := defScope s_closed_rows) (by decide +kernel)) (fg_tup (o.blk).calm (o.blk).K (fgs_cons (fg_name 4 (nd_blk hN)) (fgs_cons (fg_name 3 (nd_blk hN)) fgs_nil))) fts_nil (fp_bor (fp_var 3) (fp_shl fp_int (fp_var 4))))
    (fss_cons (fs_for (vs := [3]) (fun _ => PassesOwn.never) o.calm (fi_up .b (fi_list o.K (fp_var 0)) rfl) (fg_name 3 hN) (fss_one (fs_for (vs := [4]) (fun _ => PassesOwn.never) o.calm (fi_up .b (fi_list o.K (fp_call (fun _ => ⟨c_members_of.ex⟩) (fun j => (o.room j).mono (by omega)) (fam_cons (fp_var 3) fam_nil))) rfl) (fg_name 4 hN) (fss_one (fs_setIx 2 (fp_var 4) (fp_bor (fp_ixOwn 2 o.K (fp_var 4)) (fp_var 3)))))))
    (fss_one (fs_retX (fx_share 2)))))
end
abbrev s_Face___init__ : Stmt := inClass (topS 13) 0
theorem sc_Face___init__ : FnScope ["self", "ins", "outs", "leads", "couples", "lead_rows", "couple_rows", "i", "o", "a", "b", "number"] ["self", "ins", "outs", "leads", "couples"] (defScope s_Face___init__) := ⟨rfl, rfl, rfl, by decide +kernel, rfl, by decide +kernel, by decide +kernel⟩
def e_Face___init___1 : List SV → Option D := (dC (.int 0))
def e_Face___init___2 : List SV → Option D := (dC (.int 0))
def b_Face___init___1 : List SV → Option Out := (dSetIx 5 (dVar 7) (dOp dBOr (dIxOwn 5 (dVar 7)) (dOp dShl (dC (.int 1)) (dVar 8))))
def b_Face___init___2 : List SV → Option Out := (dSeq (dSetIx 6 (dVar 9) (dOp dBOr (dIxOwn 6 (dVar 9)) (dOp dShl (dC (.int 1)) (dVar 10)))) (dSetIx 6 (dVar 10) (dOp dBOr (dIxOwn 6 (dVar 10)) (dOp dShl (dC (.int 1)) (dVar 9)))))
def d_Face___init__ : List SV → Option Out := (dSeq (dSetFld 0 0 "ins" (xOf (dVar 1))) (dSeq (dSetFld 0 0 "outs" (xOf (dVar 2))) (dSeq (dSetO 5 (dLc (dRange1 (dCons (dOp dAddI (dVar 1) (dC (.int 1))) dNil)) [11] (bName 11) dYes e_Face___init___1)) (dSeq (dSetO 6 (dLc (dRange1 (dCons (dOp dAddI (dVar 2) (dC (.int 1))) dNil)) [11] (bName 11) dYes e_Face___init___2)) (dSeq (dFor (dItems (dVar 3)) (bTup [(bName 7), (bName 8)]) b_Face___init___1) (dSeq (dFor (dItems (dVar 4)) (bTup [(bName 9), (bName 10)]) b_Face___init___2) (dSeq (dSetFld 0 0 "lead_list" (xShare 5)) (dSetFld 0 0 "couple_list" (xOf (dCallF v_closed_rows (dCons (dVar 5) (dCons (dOwn 6) dNil))))))))))))
def v_Face___init__ := runM d_Face___init__ 12
section
variable {P : Program} {w : PySem.World} {K : PySem.W.Frag} {mg : Str → Option Value} {base : Heap} {cls : Nat → Addr}
theorem ok_Face___init__ {f : Addr} {fd : FuncData} (F : Fun K "__init__" "Face.__init__" s_Face___init__ f fd) (g : Glob mg) (z : ClsF K (cls 0)) (c_closed_rows : CalP P w K mg base 2 "closed_rows" ["lead_rows", "couple_rows"] (spP ⟨K, cls, w⟩ [.p, .b] v_closed_rows)) : FnOk P w K mg base CX0 3 f fd ["self", "ins", "outs", "leads", "couples"] (spM ⟨K, cls, w⟩ [.p, .p, .p, .p] v_Face___init__) := by
    refine fn_M (k := 2) F sc_Face___init__ rfl rfl (ms := [.p, .p, .p, .p]) (rest := [.p, .p, .p, .p, .p, .p, .p]) rfl fun cdv A outer s H E hr => ?_
    have o : XOk (bodyX P w K mg base ["self", "ins", "outs", "leads", "couples", "lead_rows", "couple_rows", "i", "o", "a", "b", "number"] "Face.__init__" s_Face___init__ f cdv A outer s H E) ⟨K, cls, w⟩ 2 := ⟨fun _ => rfl, fun _ => rfl, fun _ => hr⟩
    have hN : ∀ j, ((bodyX P w K mg base ["self", "ins", "outs", "leads", "couples", "lead_rows", "couple_rows", "i", "o", "a", "b", "number"] "Face.__init__" s_Face___init__ f cdv A outer s H E) j).N.Nodup := fun _ => sc_Face___init__.nd
    exact (fss_cons (fs_setFld 0 0 (fx_of (fp_var 1)) o.K z.cl z.n_ins)
    (fss_cons (fs_setFld 0 0 (fx_of (fp_var 2)) o.K z.cl z.n_outs)
    (fss_cons (fs_setLc0 5 (own := [("number", 11)]) o.calm hN (fi0_of (fi_range1 (by intro _; rfl) (fun _ => g.range) (fa_cons (fp_addI (fp_var 1) fp_int) fa_nil))) (fun _ => blkOk_by (N := ["self", "ins", "outs", "leads", "couples", "lead_rows", "couple_rows", "i", "o", "a", "b", "number"]) (sc := defScope s_Face___init__) (by decide +kernel)) (fg_name 11 (nd_blk hN)) fts_nil fp_int)
    (fss_cons (fs_setLc0 6 (own := [("number", 11)]) o.calm hN (fi0_of (fi_range1 (by intro _; rfl) (fun _ => g.range) (fa_cons (fp_addI (fp_var 2) fp_int) fa_nil))) (fun _ => blkOk_by (N := ["self", "ins", "outs", "leads", "couples", "lead_rows", "couple_rows", "i", "o", "a", "b", "number"]) (sc := defScope s_Face___init__) (by decide +kernel)) (fg_name 11 (nd_blk hN)) fts_nil fp_int)
    (fss_cons (fs_for (vs := [7, 8]) (fun _ => PassesOwn.never) o.calm (fi_list o.K (fp_var 3)) (fg_tup o.calm o.K (fgs_cons (fg_name 7 hN) (fgs_cons (fg_name 8 hN) fgs_nil))) (fss_one (fs_setIx 5 (fp_var 7) (fp_bor (fp_ixOwn 5 o.K (fp_var 7)) (fp_shl fp_int (fp_var 8))))))
    (fss_cons (fs_for (vs := [9, 10]) (fun _ => PassesOwn.never) o.calm (fi_list o.K (fp_var 4)) (fg_tup o.calm o.K (fgs_cons (fg_name 9 hN) (fgs_cons (fg_name 10 hN) fgs_nil))) (fss_cons (fs_setIx 6 (fp_var 9) (fp_bor (fp_ixOwn 6 o.K (fp_var 9)) (fp_shl fp_int (fp_var 10))))
    (fss_one (fs_setIx 6 (fp_var 10) (fp_bor (fp_ixOwn 6 o.K (fp_var 10)) (fp_shl fp_int (fp_var 9)))))))
    (fss_cons (fs_setFld 0 0 (fx_share 5) o.K z.cl z.n_lead_list)
    (fss_one (fs_setFld 0 0 (fx_of (fp_call (fun _ => ⟨c_closed_rows.ex⟩) (fun j => (o.room j).mono (by omega)) (fam_cons (fp_var 5) (fam_cons (fp_own 6) fam_nil)))) o.K z.cl z.n_couple_list)))))))))
end
abbrev s__law_pick : Stmt := topS 21
theorem sc__law_pick : FnScope ["source", "many", "found"] ["source", "many"] (defScope s__law_pick) := ⟨rfl, rfl, rfl, by decide +kernel, rfl, by decide +kernel, by decide +kernel⟩
def d__law_pick : List SV → Option Out := (dSeq (dIfS (dTest (dOp dGt (dIxOwn 0 (dC (.int 0))) (dC (.int 0)))) (dSeq (dSet 2 (dOp dMod (dCallB dInt (dCons (dIxOwn 0 (dC (.int 0))) dNil)) (dVar 1))) (dSeq (dSetIx 0 (dC (.int 0)) (dOp dDiv (dIxOwn 0 (dC (.int 0))) (dVar 1))) (dRet (dVar 2)))) dNx) (dSeq (dAugIx dAddI 0 (dC (.int 2)) (dC (.int 1))) (dSeq (dSetIx 0 (dC (.int 1)) (dOp dMod (dCallB dInt (dCons (dOp dAddI (dOp dMul (dIxOwn 0 (dC (.int 1))) (dC (.int 48271))) (dOp dMul (dIxOwn 0 (dC (.int 2))) (dC (.int 60013)))) dNil)) (dC (.int 2147483647)))) (dRet (dOp dMod (dOp dDiv (dOp dMod (dCallB dInt (dCons (dOp dAddI (dOp dMul (dIxOwn 0 (dC (.int 1))) (dC (.int 16807))) (dOp dMul (dIxOwn 0 (dC (.int 2))) (dC (.int 7411)))) dNil)) (dC (.int 2147483629))) (dC (.int 8))) (dVar 1))))))
def v__law_pick := runM d__law_pick 3
section
variable {P : Program} {w : PySem.World} {K : PySem.W.Frag} {mg : Str → Option Value} {base : Heap} {cls : Nat → Addr}
theorem ok__law_pick {f : Addr} {fd : FuncData} (F : Fun K "_law_pick" "_law_pick" s__law_pick f fd) (g : Glob mg) (z : ClsF K (cls 0))  : FnOk P w K mg base CX0 1 f fd ["source", "many"] (spM ⟨K, cls, w⟩ [.p] v__law_pick) := by
    refine fn_M (k := 0) F sc__law_pick rfl rfl (ms := [.p]) (rest := [.p]) rfl fun cdv A outer s H E hr => ?_
    have o : XOk (bodyX P w K mg base ["source", "many", "found"] "_law_pick" s__law_pick f cdv A outer s H E) ⟨K, cls, w⟩ 0 := ⟨fun _ => rfl, fun _ => rfl, fun _ => hr⟩
    have hN : ∀ j, ((bodyX P w K mg base ["source", "many", "found"] "_law_pick" s__law_pick f cdv A outer s H E) j).N.Nodup := fun _ => sc__law_pick.nd
    exact (fss_cons (fs_if (ft_cmp (fun _ => op_gt) opd_B0 (fp_ixOwn 0 o.K fp_int) fp_int) (fss_cons (fs_set 2 hN (fp_mod (fp_callTy (fun _ => call_int1) cd_int (by intro _; rfl) (fun _ => g.int) bt_int (fa_cons (fp_ixOwn 0 o.K fp_int) fa_nil)) (fp_var 1)))
    (fss_cons (fs_setIx 0 fp_int (fp_up .q (fp_div (fp_ixOwn 0 o.K fp_int) (fp_var 1)) rfl))
    (fss_one (fs_ret (fp_var 2))))) fss_nil)
    (fss_cons (fs_addIx 0 o.K fp_int fp_int)
    (fss_cons (fs_setIx 0 fp_int (fp_up .q (fp_mod (fp_callTy (fun _ => call_int1) cd_int (by intro _; rfl) (fun _ => g.int) bt_int (fa_cons (fp_addI (fp_mul (fp_ixOwn 0 o.K fp_int) fp_int) (fp_mul (fp_ixOwn 0 o.K fp_int) fp_int)) fa_nil)) fp_int) rfl))
    (fss_one (fs_ret (fp_mod (fp_div (fp_mod (fp_callTy (fun _ => call_int1) cd_int (by intro _; rfl) (fun _ => g.int) bt_int (fa_cons (fp_addI (fp_mul (fp_ixOwn 0 o.K fp_int) fp_int) (fp_mul (fp_ixOwn 0 o.K fp_int) fp_int)) fa_nil)) fp_int) fp_int) (fp_var 1)))))))
end
abbrev s__law_e_mixed : Stmt := topS 15
theorem sc__law_e_mixed : FnScope ["stock", "things", "left", "found", "turn"] ["stock", "things"] (defScope s__law_e_mixed) := ⟨rfl, rfl, rfl, by decide +kernel, rfl, by decide +kernel, by decide +kernel⟩
def b__law_e_mixed_1 : List SV → Option Out := (dAppX 3 (xPop 2 (xFr (dCallM v__law_pick 0 (dCons (dCallB dLen (dCons (dOwn 2) dNil)) dNil)))))
def d__law_e_mixed : List SV → Option Out := (dSeq (dSetO 2 (dCallO dList (dCons (dVar 1) dNil))) (dSeq (dSetO 3 (dLst dNil)) (dSeq (dFor (dRange1 (dCons (dCallB dLen (dCons (dOwn 2) dNil)) dNil)) (bName 4) b__law_e_mixed_1) (dRetX (xShare 3)))))
def v__law_e_mixed := runM d__law_e_mixed 5
section
variable {P : Program} {w : PySem.World} {K : PySem.W.Frag} {mg : Str → Option Value} {base : Heap} {cls : Nat → Addr}
theorem ok__law_e_mixed {f : Addr} {fd : FuncData} (F : Fun K "_law_e_mixed" "_law_e_mixed" s__law_e_mixed f fd) (g : Glob mg) (z : ClsF K (cls 0)) (c__law_pick : CalP P w K mg base 1 "_law_pick" ["source", "many"] (spM ⟨K, cls, w⟩ [.p] v__law_pick)) : FnOk P w K mg base CX0 2 f fd ["stock", "things"] (spM ⟨K, cls, w⟩ [.p] v__law_e_mixed) := by
    refine fn_M (k := 1) F sc__law_e_mixed rfl rfl (ms := [.p]) (rest := [.p, .p, .p]) rfl fun cdv A outer s H E hr => ?_
    have o : XOk (bodyX P w K mg base ["stock", "things", "left", "found", "turn"] "_law_e_mixed" s__law_e_mixed f cdv A outer s H E) ⟨K, cls, w⟩ 1 := ⟨fun _ => rfl, fun _ => rfl, fun _ => hr⟩
    have hN : ∀ j, ((bodyX P w K mg base ["stock", "things", "left", "found", "turn"] "_law_e_mixed" s__law_e_mixed f cdv A outer s H E) j).N.Nodup := fun _ => sc__law_e_mixed.nd
    exact (fss_cons (fs_setO 2 hN (fo_callTy (cr_list' o.K) co_list (by intro _; rfl) (fun _ => g.list) bt_list (fa_cons (fp_var 1) fa_nil)))
    (fss_cons (fs_setO 3 hN (fo_lst (fa_nil (m := .p))))
    (fss_cons (fs_for (vs := [4]) (fun _ => PassesOwn.never) o.calm (fi_range1 (by intro _; rfl) (fun _ => g.range) (fa_cons (fp_callB (cr_len' o.K) cd_len (by intro _; rfl) (fun _ => g.len) bt_len (fa_cons (fp_own 2) fa_nil)) fa_nil)) (fg_name 4 hN) (fss_one (fs_appX 3 (fx_pop 2 (fx_fr (fxo_call 0 (fun _ => ⟨c__law_pick.ex⟩) (fun j => (o.room j).mono (by omega)) (fam_cons (fp_callB (cr_len' o.K) cd_len (by intro _; rfl) (fun _ => g.len) bt_len (fa_cons (fp_own 2) fa_nil)) fam_nil))) (hK := o.K)) (hK := o.K))))
    (fss_one (fs_retX (fx_share 3))))))
end
abbrev s__law_e_states : Stmt := topS 16
theorem sc__law_e_states : FnScope ["k", "found", "turn", "more", "row", "label", "bit"] ["k"] (defScope s__law_e_states) := ⟨rfl, rfl, rfl, by decide +kernel, rfl, by decide +kernel, by decide +kernel⟩
def e__law_e_states_1 : List SV → Option D := (dOp dCatT (dVar 4) (dTup (dCons (dTup (dCons (dVar 5) (dCons (dVar 6) dNil))) dNil)))
def b__law_e_states_1 : List SV → Option Out := (dSet 3 (dFr (dCat (dVar 3) (dFr (dLc (dRange1 (dCons (dC (.int 2)) dNil)) [6] (bName 6) dYes e__law_e_states_1)))))
def b__law_e_states_2 : List SV → Option Out := (dFor (dRange1 (dCons (dC (.int 3)) dNil)) (bName 5) b__law_e_states_1)
def b__law_e_states_3 : List SV → Option Out := (dSeq (dSet 3 (dFr (dLst dNil))) (dSeq (dFor (dItems (dVar 1)) (bName 4) b__law_e_states_2) (dSet 1 (dVar 3))))
def d__law_e_states : List SV → Option Out := (dSeq (dSet 1 (dFr (dLst (dCons (dTup dNil) dNil)))) (dSeq (dFor (dRange1 (dCons (dVar 0) dNil)) (bName 2) b__law_e_states_3) (dRet (dVar 1))))
def v__law_e_states := runP d__law_e_states 7
section
variable {P : Program} {w : PySem.World} {K : PySem.W.Frag} {mg : Str → Option Value} {base : Heap} {cls : Nat → Addr}
theorem ok__law_e_states {f : Addr} {fd : FuncData} (F : Fun K "_law_e_states" "_law_e_states" s__law_e_states f fd) (g : Glob mg) (z : ClsF K (cls 0))  : FnOk P w K mg base CX0 1 f fd ["k"] (spP ⟨K, cls, w⟩ [.p] v__law_e_states) := by
    refine fn_P (k := 0) F sc__law_e_states rfl rfl (ms := [.p]) (rest := [.p, .p, .p, .p, .p, .p]) rfl fun cdv A outer s H E hr => ?_
    have o : XOk (bodyX P w K mg base ["k", "found", "turn", "more", "row", "label", "bit"] "_law_e_states" s__law_e_states f cdv A outer s H E) ⟨K, cls, w⟩ 0 := ⟨fun _ => rfl, fun _ => rfl, fun _ => hr⟩
    have hN : ∀ j, ((bodyX P w K mg base ["k", "found", "turn", "more", "row", "label", "bit"] "_law_e_states" s__law_e_states f cdv A outer s H E) j).N.Nodup := fun _ => sc__law_e_states.nd
    exact (fss_cons (fs_set 1 hN (fp_fr (fo_lst (fa_cons (fp_tup (fa_nil (m := .p))) fa_nil))))
    (fss_cons (fs_for (vs := [2]) (fun _ => PassesOwn.never) o.calm (fi_range1 (by intro _; rfl) (fun _ => g.range) (fa_cons (fp_var 0) fa_nil)) (fg_name 2 hN) (fss_cons (fs_set 3 hN (fp_fr (fo_lst (fa_nil (m := .p)))))
    (fss_cons (fs_for (vs := [4]) (fun _ => PassesOwn.never) o.calm (fi_list o.K (fp_var 1)) (fg_name 4 hN) (fss_one (fs_for (vs := [5]) (fun _ => PassesOwn.never) o.calm (fi_range1 (by intro _; rfl) (fun _ => g.range) (fa_cons fp_int fa_nil)) (fg_name 5 hN) (fss_one (fs_set 3 hN (fp_fr (fo_cat o.K (fp_var 3) (fp_fr (fo_lc0 (own := [("bit", 6)]) o.calm hN (fi0_of (fi_range1 (by intro _; rfl) (fun _ => g.range) (fa_cons fp_int fa_nil))) (fun _ => blkOk_by (N := ["k", "found", "turn", "more", "row", "label", "bit"]) (sc := defScope s__law_e_states) (by decide +kernel)) (fg_name 6 (nd_blk hN)) fts_nil (fp_op (o.blk).catA opd_catT (fp_var 4) (fp_tup (fa_cons (fp_tup (fa_cons (fp_var 5) (fa_cons (fp_var 6) fa_nil))) fa_nil))))))))))))
    (fss_one (fs_set 1 hN (fp_var 3))))))
    (fss_one (fs_ret (fp_var 1)))))
end
abbrev s__law_e_room_allows : Stmt := topS 17
theorem sc__law_e_room_allows : FnScope ["leads", "couples", "doors", "outs", "a", "b", "i", "labels", "live", "o", "unlike", "pair", "label"] ["leads", "couples", "doors", "outs"] (defScope s__law_e_room_allows) := ⟨rfl, rfl, rfl, by decide +kernel, rfl, by decide +kernel, by decide +kernel⟩
def b__law_e_room_allows_1 : List SV → Option Out := (dIfS (dAndB (dTest (dOp dGt (dOp dIx (dOp dIx (dVar 3) (dOp dSub (dVar 4) (dC (.int 1)))) (dC (.int 0))) (dC (.int 0)))) (dAndB (dTest (dOp dGt (dOp dIx (dOp dIx (dVar 3) (dOp dSub (dVar 5) (dC (.int 1)))) (dC (.int 0))) (dC (.int 0)))) (dTest (dOp dNe (dOp dIx (dOp dIx (dVar 3) (dOp dSub (dVar 4) (dC (.int 1)))) (dC (.int 0))) (dOp dIx (dOp dIx (dVar 3) (dOp dSub (dVar 5) (dC (.int 1)))) (dC (.int 0))))))) (dRet (dC (.bl false))) dNx)
def p__law_e_room_allows_1 : List SV → Option Bool := (dTest (dOp dEq (dOp dIx (dVar 11) (dC (.int 0))) (dVar 6)))
def e__law_e_room_allows_1 : List SV → Option D := (dOp dIx (dOp dIx (dVar 3) (dOp dSub (dOp dIx (dVar 11) (dC (.int 1))) (dC (.int 1)))) (dC (.int 0)))
def p__law_e_room_allows_2 : List SV → Option Bool := (dTest (dOp dGt (dVar 12) (dC (.int 0))))
def e__law_e_room_allows_2 : List SV → Option D := (dVar 12)
def b__law_e_room_allows_2 : List SV → Option Out := (dSeq (dSet 7 (dFr (dLc (dItems (dVar 0)) [11] (bName 11) p__law_e_room_allows_1 e__law_e_room_allows_1))) (dSeq (dSet 8 (dFr (dLc (dItems (dVar 7)) [12] (bName 12) p__law_e_room_allows_2 e__law_e_room_allows_2))) (dIfS (dTest (dOp dNe (dOp dIx (dOp dIx (dVar 2) (dOp dSub (dVar 6) (dC (.int 1)))) (dC (.int 0))) (dIf (dTruth (dVar 8)) (dOp dIx (dVar 8) (dC (.int 0))) (dC (.int 0))))) (dRet (dC (.bl false))) dNx)))
def p__law_e_room_allows_3 : List SV → Option Bool := (dAndB (dTest (dOp dEq (dOp dIx (dVar 11) (dC (.int 1))) (dVar 9))) (dTest (dOp dEq (dOp dIx (dOp dIx (dVar 2) (dOp dSub (dOp dIx (dVar 11) (dC (.int 0))) (dC (.int 1)))) (dC (.int 1))) (dC (.int 0)))))
def e__law_e_room_allows_3 : List SV → Option D := (dVar 11)
def b__law_e_room_allows_3 : List SV → Option Out := (dSeq (dSet 10 (dFr (dLc (dItems (dVar 0)) [11] (bName 11) p__law_e_room_allows_3 e__law_e_room_allows_3))) (dIfS (dTest (dOp dNe (dOp dIx (dOp dIx (dVar 3) (dOp dSub (dVar 9) (dC (.int 1)))) (dC (.int 1))) (dIf (dTruth (dVar 10)) (dC (.int 0)) (dC (.int 1))))) (dRet (dC (.bl false))) dNx))
def d__law_e_room_allows : List SV → Option Out := (dSeq (dFor (dItems (dVar 1)) (bTup [(bName 4), (bName 5)]) b__law_e_room_allows_1) (dSeq (dFor (dRange2 (dCons (dC (.int 1)) (dCons (dOp dAddI (dCallB dLen (dCons (dVar 2) dNil)) (dC (.int 1))) dNil))) (bName 6) b__law_e_room_allows_2) (dSeq (dFor (dRange2 (dCons (dC (.int 1)) (dCons (dOp dAddI (dCallB dLen (dCons (dVar 3) dNil)) (dC (.int 1))) dNil))) (bName 9) b__law_e_room_allows_3) (dRet (dC (.bl true))))))
def v__law_e_room_allows := runP d__law_e_room_allows 13
section
variable {P : Program} {w : PySem.World} {K : PySem.W.Frag} {mg : Str → Option Value} {base : Heap} {cls : Nat → Addr}
theorem ok__law_e_room_allows {f : Addr} {fd : FuncData} (F : Fun K "_law_e_room_allows" "_law_e_room_allows" s__law_e_room_allows f fd) (g : Glob mg) (z : ClsF K (cls 0))  : FnOk P w K mg base CX0 1 f fd ["leads", "couples", "doors", "outs"] (spP ⟨K, cls, w⟩ [.p, .p, .p, .p] v__law_e_room_allows) := by
    refine fn_P (k := 0) F sc__law_e_room_allows rfl rfl (ms := [.p, .p, .p, .p]) (rest := [.p, .p, .p, .p, .p, .p, .p, .p, .p]) rfl fun cdv A outer s H E hr => ?_
    have o : XOk (bodyX P w K mg base ["leads", "couples", "doors", "outs", "a", "b", "i", "labels", "live", "o", "unlike", "pair", "label"] "_law_e_room_allows" s__law_e_room_allows f cdv A outer s H E) ⟨K, cls, w⟩ 0 := ⟨fun _ => rfl, fun _ => rfl, fun _ => hr⟩
    have hN : ∀ j, ((bodyX P w K mg base ["leads", "couples", "doors", "outs", "a", "b", "i", "labels", "live", "o", "unlike", "pair", "label"] "_law_e_room_allows" s__law_e_room_allows f cdv A outer s H E) j).N.Nodup := fun _ => sc__law_e_room_allows.nd
    exact (fss_cons (fs_for (vs := [4, 5]) (fun _ => PassesOwn.never) o.calm (fi_list o.K (fp_var 1)) (fg_tup o.calm o.K (fgs_cons (fg_name 4 hN) (fgs_cons (fg_name 5 hN) fgs_nil))) (fss_one (fs_if (ft_w (fw_and (ft_cmp (fun _ => op_gt) opd_B0 (fp_sub_ix o.K (fp_sub_ix o.K (fp_var 3) (fp_sub (fp_var 4) fp_int)) fp_int) fp_int) (fw_and (ft_cmp (fun _ => op_gt) opd_B0 (fp_sub_ix o.K (fp_sub_ix o.K (fp_var 3) (fp_sub (fp_var 5) fp_int)) fp_int) fp_int) (fw_and1 (ft_cmp o.neR opd_ne (fp_sub_ix o.K (fp_sub_ix o.K (fp_var 3) (fp_sub (fp_var 4) fp_int)) fp_int) (fp_sub_ix o.K (fp_sub_ix o.K (fp_var 3) (fp_sub (fp_var 5) fp_int)) fp_int)))))) (fss_one (fs_ret fp_bl)) fss_nil)))
    (fss_cons (fs_for (vs := [6]) (fun _ => PassesOwn.never) o.calm (fi_range2 (by intro _; rfl) (fun _ => g.range) (fa_cons fp_int (fa_cons (fp_addI (fp_callB (cr_len' o.K) cd_len (by intro _; rfl) (fun _ => g.len) bt_len (fa_cons (fp_var 2) fa_nil)) fp_int) fa_nil))) (fg_name 6 hN) (fss_cons (fs_setLcF 7 (own := [("pair", 11)]) o.calm hN (fi0_of (fi_list o.K (fp_var 0))) (fun _ => blkOk_by (N := ["leads", "couples", "doors", "outs", "a", "b", "i", "labels", "live", "o", "unlike", "pair", "label"]) (sc := defScope s__law_e_room_allows) (by decide +kernel)) (fg_name 11 (nd_blk hN)) (fts_one (ft_cmp (o.blk).eqR opd_eq (fp_sub_ix (o.blk).K (fp_var 11) fp_int) (fp_var 6))) (fp_sub_ix (o.blk).K (fp_sub_ix (o.blk).K (fp_var 3) (fp_sub (fp_sub_ix (o.blk).K (fp_var 11) fp_int) fp_int)) fp_int))
    (fss_cons (fs_setLcF 8 (own := [("label", 12)]) o.calm hN (fi0_of (fi_list o.K (fp_var 7))) (fun _ => blkOk_by (N := ["leads", "couples", "doors", "outs", "a", "b", "i", "labels", "live", "o", "unlike", "pair", "label"]) (sc := defScope s__law_e_room_allows) (by decide +kernel)) (fg_name 12 (nd_blk hN)) (fts_one (ft_cmp (fun _ => op_gt) opd_B0 (fp_var 12) fp_int)) (fp_var 12))
    (fss_one (fs_if (ft_cmp o.neR opd_ne (fp_sub_ix o.K (fp_sub_ix o.K (fp_var 2) (fp_sub (fp_var 6) fp_int)) fp_int) (fp_if (ft_truth (fp_var 8) o.K) (fp_sub_ix o.K (fp_var 8) fp_int) fp_int)) (fss_one (fs_ret fp_bl)) fss_nil)))))
    (fss_cons (fs_for (vs := [9]) (fun _ => PassesOwn.never) o.calm (fi_range2 (by intro _; rfl) (fun _ => g.range) (fa_cons fp_int (fa_cons (fp_addI (fp_callB (cr_len' o.K) cd_len (by intro _; rfl) (fun _ => g.len) bt_len (fa_cons (fp_var 3) fa_nil)) fp_int) fa_nil))) (fg_name 9 hN) (fss_cons (fs_setLcF 10 (own := [("pair", 11)]) o.calm hN (fi0_of (fi_list o.K (fp_var 0))) (fun _ => blkOk_by (N := ["leads", "couples", "doors", "outs", "a", "b", "i", "labels", "live", "o", "unlike", "pair", "label"]) (sc := defScope s__law_e_room_allows) (by decide +kernel)) (fg_name 11 (nd_blk hN)) (fts_one (ft_w (fw_and (ft_cmp (o.blk).eqR opd_eq (fp_sub_ix (o.blk).K (fp_var 11) fp_int) (fp_var 9)) (fw_and1 (ft_cmp (o.blk).eqR opd_eq (fp_sub_ix (o.blk).K (fp_sub_ix (o.blk).K (fp_var 2) (fp_sub (fp_sub_ix (o.blk).K (fp_var 11) fp_int) fp_int)) fp_int) fp_int))))) (fp_var 11))
    (fss_one (fs_if (ft_cmp o.neR opd_ne (fp_sub_ix o.K (fp_sub_ix o.K (fp_var 3) (fp_sub (fp_var 9) fp_int)) fp_int) (fp_if (ft_truth (fp_var 10) o.K) fp_int fp_int)) (fss_one (fs_ret fp_bl)) fss_nil))))
    (fss_one (fs_ret fp_bl)))))
end
abbrev s__law_e_wire_allows : Stmt := topS 18
theorem sc__law_e_wire_allows : FnScope ["pair", "outs", "doors", "lost", "there", "at", "label", "bit", "other", "carried", "here", "due"] ["pair", "outs", "doors"] (defScope s__law_e_wire_allows) := ⟨rfl, rfl, rfl, by decide +kernel, rfl, by decide +kernel, by decide +kernel⟩
def b__law_e_wire_allows_1 : List SV → Option Out := (dSeq (dSetT (bTup [(bName 6), (bName 7)]) (dOp dIx (dVar 1) (dVar 5))) (dSeq (dSetT (bTup [(bName 8), (bName 9)]) (dOp dIx (dVar 2) (dVar 5))) (dSeq (dSet 10 (dOp dInQ (dOp dAddI (dVar 5) (dC (.int 1))) (dVar 3))) (dSeq (dIfS (dAndB (dTruth (dVar 10)) (dTest (dOp dNe (dVar 6) (dC (.int 0))))) (dRet (dC (.bl false))) dNx) (dSeq (dIfS (dAndB (dNotB (dTruth (dVar 10))) (dTest (dOp dNe (dVar 6) (dVar 8)))) (dIfS (dOrB (dTest (dOp dEq (dVar 6) (dC (.int 0)))) (dOrB (dTest (dOp dEq (dVar 8) (dC (.int 0)))) (dOrB (dTest (dOp dEq (dVar 7) (dC (.int 0)))) (dTest (dOp dNinQ (dOp dAddI (dVar 5) (dC (.int 1))) (dOp dIx (dVar 4) (dC (.int 1)))))))) (dRet (dC (.bl false))) dNx) dNx) (dSeq (dIfS (dAndB (dTruth (dVar 10)) (dTest (dOp dInQ (dOp dAddI (dVar 5) (dC (.int 1))) (dOp dIx (dVar 4) (dC (.int 0)))))) (dSet 11 (dC (.int 1))) (dIfS (dOrB (dTruth (dVar 10)) (dTest (dOp dInQ (dOp dAddI (dVar 5) (dC (.int 1))) (dOp dIx (dVar 4) (dC (.int 0)))))) (dSet 11 (dC (.int 0))) (dSet 11 (dVar 7)))) (dIfS (dTest (dOp dNe (dVar 9) (dVar 11))) (dRet (dC (.bl false))) dNx)))))))
def d__law_e_wire_allows : List SV → Option Out := (dSeq (dSetT (bTup [(bName 3), (bName 4)]) (dVar 0)) (dSeq (dFor (dRange1 (dCons (dCallB dLen (dCons (dVar 1) dNil)) dNil)) (bName 5) b__law_e_wire_allows_1) (dRet (dC (.bl true)))))
def v__law_e_wire_allows := runP d__law_e_wire_allows 12
section
variable {P : Program} {w : PySem.World} {K : PySem.W.Frag} {mg : Str → Option Value} {base : Heap} {cls : Nat → Addr}
theorem ok__law_e_wire_allows {f : Addr} {fd : FuncData} (F : Fun K "_law_e_wire_allows" "_law_e_wire_allows" s__law_e_wire_allows f fd) (g : Glob mg) (z : ClsF K (cls 0))  : FnOk P w K mg base CX0 1 f fd ["pair", "outs", "doors"] (spP ⟨K, cls, w⟩ [.p, .p, .p] v__law_e_wire_allows) := by
    refine fn_P (k := 0) F sc__law_e_wire_allows rfl rfl (ms := [.p, .p, .p]) (rest := [.p, .p, .p, .p, .p, .p, .p, .p, .p]) rfl fun cdv A outer s H E hr => ?_
    have o : XOk (bodyX P w K mg base ["pair", "outs", "doors", "lost", "there", "at", "label", "bit", "other", "carried", "here", "due"] "_law_e_wire_allows" s__law_e_wire_allows f cdv A outer s H E) ⟨K, cls, w⟩ 0 := ⟨fun _ => rfl, fun _ => rfl, fun _ => hr⟩
    have hN : ∀ j, ((bodyX P w K mg base ["pair", "outs", "doors", "lost", "there", "at", "label", "bit", "other", "carried", "here", "due"] "_law_e_wire_allows" s__law_e_wire_allows f cdv A outer s H E) j).N.Nodup := fun _ => sc__law_e_wire_allows.nd
    exact (fss_cons (fs_setT (vs := [3, 4]) (fp_var 0) (fg_tup o.calm o.K (fgs_cons (fg_name 3 hN) (fgs_cons (fg_name 4 hN) fgs_nil))))
    (fss_cons (fs_for (vs := [5]) (fun _ => PassesOwn.never) o.calm (fi_range1 (by intro _; rfl) (fun _ => g.range) (fa_cons (fp_callB (cr_len' o.K) cd_len (by intro _; rfl) (fun _ => g.len) bt_len (fa_cons (fp_var 1) fa_nil)) fa_nil)) (fg_name 5 hN) (fss_cons (fs_setT (vs := [6, 7]) (fp_sub_ix o.K (fp_var 1) (fp_var 5)) (fg_tup o.calm o.K (fgs_cons (fg_name 6 hN) (fgs_cons (fg_name 7 hN) fgs_nil))))
    (fss_cons (fs_setT (vs := [8, 9]) (fp_sub_ix o.K (fp_var 2) (fp_var 5)) (fg_tup o.calm o.K (fgs_cons (fg_name 8 hN) (fgs_cons (fg_name 9 hN) fgs_nil))))
    (fss_cons (fs_set 10 hN (fp_cmp o.inQ opd_inQ (fp_addI (fp_var 5) fp_int) (fp_var 3)))
    (fss_cons (fs_if (ft_w (fw_and (ft_truth (fp_var 10) o.K) (fw_and1 (ft_cmp o.neR opd_ne (fp_var 6) fp_int)))) (fss_one (fs_ret fp_bl)) fss_nil)
    (fss_cons (fs_if (ft_w (fw_and (ft_not (ft_truth (fp_var 10) o.K)) (fw_and1 (ft_cmp o.neR opd_ne (fp_var 6) (fp_var 8))))) (fss_one (fs_if (ft_w (fw_or (ft_cmp o.eqR opd_eq (fp_var 6) fp_int) (fw_or (ft_cmp o.eqR opd_eq (fp_var 8) fp_int) (fw_or (ft_cmp o.eqR opd_eq (fp_var 7) fp_int) (fw_or1 (ft_cmp o.ninQ opd_ninQ (fp_addI (fp_var 5) fp_int) (fp_sub_ix o.K (fp_var 4) fp_int))))))) (fss_one (fs_ret fp_bl)) fss_nil)) fss_nil)
    (fss_cons (fs_if (ft_w (fw_and (ft_truth (fp_var 10) o.K) (fw_and1 (ft_cmp o.inQ opd_inQ (fp_addI (fp_var 5) fp_int) (fp_sub_ix o.K (fp_var 4) fp_int))))) (fss_one (fs_set 11 hN fp_int)) (fss_one (fs_if (ft_w (fw_or (ft_truth (fp_var 10) o.K) (fw_or1 (ft_cmp o.inQ opd_inQ (fp_addI (fp_var 5) fp_int) (fp_sub_ix o.K (fp_var 4) fp_int))))) (fss_one (fs_set 11 hN fp_int)) (fss_one (fs_set 11 hN (fp_var 7))))))
    (fss_one (fs_if (ft_cmp o.neR opd_ne (fp_var 9) (fp_var 11)) (fss_one (fs_ret fp_bl)) fss_nil)))))))))
    (fss_one (fs_ret fp_bl))))
end
abbrev s__law_same : Stmt := topS 19
theorem sc__law_same : FnScope ["answer", "due", "kind", "kinds", "at"] ["answer", "due"] (defScope s__law_same) := ⟨rfl, rfl, rfl, by decide +kernel, rfl, by decide +kernel, by decide +kernel⟩
def e__law_same_1 : (List D → Option D) → List SV → Option D := fun rec => (dCallF rec (dCons (dOp dIx (dVar 0) (dVar 4)) (dCons (dOp dIx (dVar 1) (dVar 4)) dNil)))
def d__law_same (rec : List D → Option D) : List SV → Option Out := (dSeq (dIfS (dOrB (dTruth (dCallB (dIsi "list") (dCons (dVar 1) dNil))) (dTruth (dCallB (dIsi "tuple") (dCons (dVar 1) dNil)))) (dSeq (dSet 2 (dIf (dTruth (dCallB (dIsi "list") (dCons (dVar 1) dNil))) (dCallB (dIsi "list") (dCons (dVar 0) dNil)) (dCallB (dIsi "tuple") (dCons (dVar 0) dNil)))) (dRet (dBool (dAndB (dTest (dVar 2)) (dTest (dBool (dAndB (dTest (dOp dEq (dCallB dLen (dCons (dVar 0) dNil)) (dCallB dLen (dCons (dVar 1) dNil)))) (dTest (dCallB dAllL (dCons (dFr (dLc (dRange1 (dCons (dCallB dLen (dCons (dVar 1) dNil)) dNil)) [4] (bName 4) dYes (e__law_same_1 rec))) dNil)))))))))) dNx) (dSeq (dIfS (dOrB (dTest (dOp dIs (dVar 1) (dC .non))) (dTest (dOp dIs (dVar 0) (dC .non)))) (dRet (dBool (dAndB (dTest (dOp dIs (dVar 1) (dC .non))) (dTest (dOp dIs (dVar 0) (dC .non)))))) dNx) (dSeq (dSet 3 (dBool (dAndB (dTest (dOp dEq (dCallB (dIsi "bool") (dCons (dVar 0) dNil)) (dCallB (dIsi "bool") (dCons (dVar 1) dNil)))) (dTest (dOp dEq (dCallB (dIsi "int") (dCons (dVar 0) dNil)) (dCallB (dIsi "int") (dCons (dVar 1) dNil))))))) (dRet (dBool (dAndB (dTest (dVar 3)) (dTest (dBool (dAndB (dTest (dOp dEq (dCallB (dIsi "str") (dCons (dVar 0) dNil)) (dCallB (dIsi "str") (dCons (dVar 1) dNil)))) (dTest (dOp dEq (dVar 0) (dVar 1))))))))))))
def v__law_same : Nat → List D → Option D
  | 0 => fun _ => none
  | n + 1 => runP (d__law_same (v__law_same n)) 5
section
variable {P : Program} {w : PySem.World} {K : PySem.W.Frag} {mg : Str → Option Value} {base : Heap} {cls : Nat → Addr}
theorem ok__law_same {f : Addr} {fd : FuncData} (F : Fun K "_law_same" "_law_same" s__law_same f fd) (g : Glob mg) (z : ClsF K (cls 0))  (hm : mg "_law_same" = some (.ref f)) (hk : PySem.W.keepIn K (.ref f) = true) (hb : Binds K fd ["answer", "due"] []) : ∀ n : Nat, FnOk P w K mg base CX0 (0 + n) f fd ["answer", "due"] (spP ⟨K, cls, w⟩ [.b, .b] (v__law_same n))
  | 0 => fn_none
  | n + 1 => by
    have c__law_same : CalP P w K mg base (0 + n) "_law_same" ["answer", "due"] (spP ⟨K, cls, w⟩ [.b, .b] (v__law_same n)) := ⟨f, fd, ok__law_same F g z  hm hk hb n, hm, hk, hb⟩
    refine fn_P (k := 0 + n) F sc__law_same rfl rfl (ms := [.b, .b]) (rest := [.p, .p, .p]) rfl fun cdv A outer s H E hr => ?_
    have o : XOk (bodyX P w K mg base ["answer", "due", "kind", "kinds", "at"] "_law_same" s__law_same f cdv A outer s H E) ⟨K, cls, w⟩ (0 + n) := ⟨fun _ => rfl, fun _ => rfl, fun _ => hr⟩
    have hN : ∀ j, ((bodyX P w K mg base ["answer", "due", "kind", "kinds", "at"] "_law_same" s__law_same f cdv A outer s H E) j).N.Nodup := fun _ => sc__law_same.nd
    exact (fss_cons (fs_if (ft_w (fw_or (ft_truth (fp_isi o.K (by intro _; rfl) (fun _ => g.isinstance) (by intro _; rfl) (fun _ => g.list) bt_list (fp_var 1)) o.K) (fw_or1 (ft_truth (fp_isi o.K (by intro _; rfl) (fun _ => g.isinstance) (by intro _; rfl) (fun _ => g.tuple) bt_tuple (fp_var 1)) o.K)))) (fss_cons (fs_set 2 hN (fp_if (ft_truth (fp_isi o.K (by intro _; rfl) (fun _ => g.isinstance) (by intro _; rfl) (fun _ => g.list) bt_list (fp_var 1)) o.K) (fp_isi o.K (by intro _; rfl) (fun _ => g.isinstance) (by intro _; rfl) (fun _ => g.list) bt_list (fp_var 0)) (fp_isi o.K (by intro _; rfl) (fun _ => g.isinstance) (by intro _; rfl) (fun _ => g.tuple) bt_tuple (fp_var 0))))
    (fss_one (fs_ret (fp_andV (fp_var 2) (fp_andV (fp_cmp o.eqR opd_eq (fp_callB (cr_len' o.K) cd_len (by intro _; rfl) (fun _ => g.len) bt_len (fa_cons (fp_var 0) fa_nil)) (fp_callB (cr_len' o.K) cd_len (by intro _; rfl) (fun _ => g.len) bt_len (fa_cons (fp_var 1) fa_nil))) (fp_one (fp_callB (cr_all' o.K o.calm) cd_all (by intro _; rfl) (fun _ => g.all) bt_all (fa_cons (fp_fr (fo_lc0 (own := [("at", 4)]) o.calm hN (fi0_of (fi_range1 (by intro _; rfl) (fun _ => g.range) (fa_cons (fp_callB (cr_len' o.K) cd_len (by intro _; rfl) (fun _ => g.len) bt_len (fa_cons (fp_var 1) fa_nil)) fa_nil))) (fun _ => blkOk_by (N := ["answer", "due", "kind", "kinds", "at"]) (sc := defScope s__law_same) (by decide +kernel)) (fg_name 4 (nd_blk hN)) fts_nil (fp_call (fun _ => ⟨c__law_same.ex⟩) (fun j => ((o.blk).room j).mono (by omega)) (fam_cons (fp_sub_ix (o.blk).K (fp_var 0) (fp_var 4)) (fam_cons (fp_sub_ix (o.blk).K (fp_var 1) (fp_var 4)) fam_nil))))) fa_nil)))))))) fss_nil)
    (fss_cons (fs_if (ft_w (fw_or (ft_cmp (fun _ => op_isN) opd_is (fp_var 1) fp_non) (fw_or1 (ft_cmp (fun _ => op_isN) opd_is (fp_var 0) fp_non)))) (fss_one (fs_ret (fp_andV (fp_cmp (fun _ => op_isN) opd_is (fp_var 1) fp_non) (fp_one (fp_cmp (fun _ => op_isN) opd_is (fp_var 0) fp_non))))) fss_nil)
    (fss_cons (fs_set 3 hN (fp_andV (fp_cmp o.eqR opd_eq (fp_isi o.K (by intro _; rfl) (fun _ => g.isinstance) (by intro _; rfl) (fun _ => g.bool) bt_bool (fp_var 0)) (fp_isi o.K (by intro _; rfl) (fun _ => g.isinstance) (by intro _; rfl) (fun _ => g.bool) bt_bool (fp_var 1))) (fp_one (fp_cmp o.eqR opd_eq (fp_isi o.K (by intro _; rfl) (fun _ => g.isinstance) (by intro _; rfl) (fun _ => g.int) bt_int (fp_var 0)) (fp_isi o.K (by intro _; rfl) (fun _ => g.isinstance) (by intro _; rfl) (fun _ => g.int) bt_int (fp_var 1))))))
    (fss_one (fs_ret (fp_andV (fp_var 3) (fp_andV (fp_cmp o.eqR opd_eq (fp_isi o.K (by intro _; rfl) (fun _ => g.isinstance) (by intro _; rfl) (fun _ => g.str) bt_str (fp_var 0)) (fp_isi o.K (by intro _; rfl) (fun _ => g.isinstance) (by intro _; rfl) (fun _ => g.str) bt_str (fp_var 1))) (fp_one (fp_cmp o.eqR opd_eq (fp_var 0) (fp_var 1))))))))))
end
abbrev s__law_source : Stmt := topS 20
theorem sc__law_source : FnScope ["script", "at", "cell", "size", "small", "one"] ["script", "at"] (defScope s__law_source) := ⟨rfl, rfl, rfl, by decide +kernel, rfl, by decide +kernel, by decide +kernel⟩
def e__law_source_1 : List SV → Option D := (dOp dMod (dCallB dInt (dCons (dVar 5) dNil)) (dC (.int 999983)))
def d__law_source : List SV → Option Out := (dSeq (dSet 2 (dIf (dTest (dOp dLt (dVar 1) (dCallB dLen (dCons (dVar 0) dNil)))) (dCallB dInt (dCons (dOp dIx (dVar 0) (dVar 1)) dNil)) (dOp dAddI (dOp dMul (dC (.int 29)) (dCallB dSum (dCons (dFr (dLc (dItems (dFr (dSlL (dVar 0) dNoPart (dPart (dC (.int 6)))))) [5] (bName 5) dYes e__law_source_1)) dNil))) (dC (.int 23))))) (dSeq (dSet 3 (dOp dMod (dCallB dAbs (dCons (dVar 2) dNil)) (dOp dMul (dOp dPow (dC (.int 10)) (dC (.int 60))) (dOp dPow (dC (.int 10)) (dC (.int 60)))))) (dSeq (dSet 4 (dOp dMod (dCallB dInt (dCons (dOp dAddI (dOp dAddI (dOp dAddI (dOp dMul (dC (.int 2)) (dVar 3)) (dIf (dTest (dOp dLt (dVar 2) (dC (.int 0)))) (dC (.int 1)) (dC (.int 0)))) (dOp dMul (dVar 1) (dC (.int 120121)))) (dC (.int 65537))) dNil)) (dC (.int 2147483629)))) (dRetO (dLst (dCons (dIf (dTest (dOp dGe (dVar 3) (dOp dPow (dC (.int 10)) (dC (.int 18))))) (dVar 3) (dC (.int 0))) (dCons (dOp dMod (dCallB dInt (dCons (dOp dMul (dOp dAddI (dVar 4) (dC (.int 6151))) (dOp dAddI (dVar 4) (dC (.int 98317)))) dNil)) (dC (.int 2147483629))) (dCons (dVar 1) dNil))))))))
def v__law_source := runO d__law_source 6
section
variable {P : Program} {w : PySem.World} {K : PySem.W.Frag} {mg : Str → Option Value} {base : Heap} {cls : Nat → Addr}
theorem ok__law_source {f : Addr} {fd : FuncData} (F : Fun K "_law_source" "_law_source" s__law_source f fd) (g : Glob mg) (z : ClsF K (cls 0))  : FnOk P w K mg base CX0 1 f fd ["script", "at"] (spO ⟨K, cls, w⟩ [.p, .p] v__law_source) := by
    refine fn_O (k := 0) F sc__law_source rfl rfl (ms := [.p, .p]) (rest := [.p, .p, .p, .p]) rfl fun cdv A outer s H E hr => ?_
    have o : XOk (bodyX P w K mg base ["script", "at", "cell", "size", "small", "one"] "_law_source" s__law_source f cdv A outer s H E) ⟨K, cls, w⟩ 0 := ⟨fun _ => rfl, fun _ => rfl, fun _ => hr⟩
    have hN : ∀ j, ((bodyX P w K mg base ["script", "at", "cell", "size", "small", "one"] "_law_source" s__law_source f cdv A outer s H E) j).N.Nodup := fun _ => sc__law_source.nd
    exact (fss_cons (fs_set 2 hN (fp_if (ft_cmp (fun _ => op_lt) opd_B0 (fp_var 1) (fp_callB (cr_len' o.K) cd_len (by intro _; rfl) (fun _ => g.len) bt_len (fa_cons (fp_var 0) fa_nil))) (fp_callTy (fun _ => call_int1) cd_int (by intro _; rfl) (fun _ => g.int) bt_int (fa_cons (fp_sub_ix o.K (fp_var 0) (fp_var 1)) fa_nil)) (fp_addI (fp_mul fp_int (fp_callB (cr_sum' o.K o.calm) cd_sum (by intro _; rfl) (fun _ => g.sum) bt_sum (fa_cons (fp_fr (fo_lc0 (own := [("one", 5)]) o.calm hN (fi0_of (fi_list o.K (fp_fr (fo_slice o.K (fp_var 0) fpo_none (fpo_some fp_int))))) (fun _ => blkOk_by (N := ["script", "at", "cell", "size", "small", "one"]) (sc := defScope s__law_source) (by decide +kernel)) (fg_name 5 (nd_blk hN)) fts_nil (fp_mod (fp_callTy (fun _ => call_int1) cd_int (by intro _; rfl) (fun _ => g.int) bt_int (fa_cons (fp_var 5) fa_nil)) fp_int))) fa_nil))) fp_int)))
    (fss_cons (fs_set 3 hN (fp_mod (fp_callB (fun _ => call_abs) cd_abs (by intro _; rfl) (fun _ => g.abs) bt_abs (fa_cons (fp_var 2) fa_nil)) (fp_mul (fp_pow fp_int fp_int) (fp_pow fp_int fp_int))))
    (fss_cons (fs_set 4 hN (fp_mod (fp_callTy (fun _ => call_int1) cd_int (by intro _; rfl) (fun _ => g.int) bt_int (fa_cons (fp_addI (fp_addI (fp_addI (fp_mul fp_int (fp_var 3)) (fp_if (ft_cmp (fun _ => op_lt) opd_B0 (fp_var 2) fp_int) fp_int fp_int)) (fp_mul (fp_var 1) fp_int)) fp_int) fa_nil)) fp_int))
    (fss_one (fs_retO (fo_lst (fa_cons (fp_if (ft_cmp (fun _ => op_ge) opd_B0 (fp_var 3) (fp_pow fp_int fp_int)) (fp_var 3) fp_int) (fa_cons (fp_mod (fp_callTy (fun _ => call_int1) cd_int (by intro _; rfl) (fun _ => g.int) bt_int (fa_cons (fp_mul (fp_addI (fp_var 4) fp_int) (fp_addI (fp_var 4) fp_int)) fa_nil)) fp_int) (fa_cons (fp_var 1) fa_nil)))))))))
end
abbrev s__law_copied : Stmt := topS 22
theorem sc__law_copied : FnScope ["thing", "one", "key"] ["thing"] (defScope s__law_copied) := ⟨rfl, rfl, rfl, by decide +kernel, rfl, by decide +kernel, by decide +kernel⟩
def e__law_copied_1 : (List D → Option D) → List SV → Option D := fun rec => (dCallF rec (dCons (dVar 1) dNil))
def e__law_copied_2 : (List D → Option D) → List SV → Option D := fun rec => (dCallF rec (dCons (dVar 1) dNil))
def d__law_copied (rec : List D → Option D) : List SV → Option Out := (dSeq (dIfS (dTruth (dCallB (dIsi "list") (dCons (dVar 0) dNil))) (dRet (dFr (dLc (dItems (dVar 0)) [1] (bName 1) dYes (e__law_copied_1 rec)))) dNx) (dSeq (dIfS (dTruth (dCallB (dIsi "tuple") (dCons (dVar 0) dNil))) (dRet (dCallB dTuple (dCons (dFr (dLc (dItemsT (dVar 0)) [1] (bName 1) dYes (e__law_copied_2 rec))) dNil))) dNx) (dSeq (dIfS (dTruth (dCallB (dIsi "dict") (dCons (dVar 0) dNil))) (fun _ => none) dNx) (dRet (dSc (dVar 0))))))
def v__law_copied : Nat → List D → Option D
  | 0 => fun _ => none
  | n + 1 => runP (d__law_copied (v__law_copied n)) 3
section
variable {P : Program} {w : PySem.World} {K : PySem.W.Frag} {mg : Str → Option Value} {base : Heap} {cls : Nat → Addr}
theorem ok__law_copied {f : Addr} {fd : FuncData} (F : Fun K "_law_copied" "_law_copied" s__law_copied f fd) (g : Glob mg) (z : ClsF K (cls 0))  (hm : mg "_law_copied" = some (.ref f)) (hk : PySem.W.keepIn K (.ref f) = true) (hb : Binds K fd ["thing"] []) : ∀ n : Nat, FnOk P w K mg base CX0 (0 + n) f fd ["thing"] (spP ⟨K, cls, w⟩ [.b] (v__law_copied n))
  | 0 => fn_none
  | n + 1 => by
    have c__law_copied : CalP P w K mg base (0 + n) "_law_copied" ["thing"] (spP ⟨K, cls, w⟩ [.b] (v__law_copied n)) := ⟨f, fd, ok__law_copied F g z  hm hk hb n, hm, hk, hb⟩
    refine fn_P (k := 0 + n) F sc__law_copied rfl rfl (ms := [.b]) (rest := [.b, .p]) rfl fun cdv A outer s H E hr => ?_
    have o : XOk (bodyX P w K mg base ["thing", "one", "key"] "_law_copied" s__law_copied f cdv A outer s H E) ⟨K, cls, w⟩ (0 + n) := ⟨fun _ => rfl, fun _ => rfl, fun _ => hr⟩
    have hN : ∀ j, ((bodyX P w K mg base ["thing", "one", "key"] "_law_copied" s__law_copied f cdv A outer s H E) j).N.Nodup := fun _ => sc__law_copied.nd
    exact (fss_cons (fs_if (ft_truth (fp_isi o.K (by intro _; rfl) (fun _ => g.isinstance) (by intro _; rfl) (fun _ => g.list) bt_list (fp_var 0)) o.K) (fss_one (fs_ret (fp_fr (fo_lc0 (own := [("one", 1)]) o.calm hN (fi0_of (fi_list o.K (fp_var 0))) (fun _ => blkOk_by (N := ["thing", "one", "key"]) (sc := defScope s__law_copied) (by decide +kernel)) (fg_name 1 (nd_blk hN)) fts_nil (fp_call (fun _ => ⟨c__law_copied.ex⟩) (fun j => ((o.blk).room j).mono (by omega)) (fam_cons (fp_var 1) fam_nil)))))) fss_nil)
    (fss_cons (fs_if (ft_truth (fp_isi o.K (by intro _; rfl) (fun _ => g.isinstance) (by intro _; rfl) (fun _ => g.tuple) bt_tuple (fp_var 0)) o.K) (fss_one (fs_ret (fp_callTy (cr_tuple' o.K) cd_tuple (by intro _; rfl) (fun _ => g.tuple) bt_tuple (fa_cons (fp_fr (fo_lc0 (own := [("one", 1)]) o.calm hN (fi0_of (fi_tup o.K (fp_var 0))) (fun _ => blkOk_by (N := ["thing", "one", "key"]) (sc := defScope s__law_copied) (by decide +kernel)) (fg_name 1 (nd_blk hN)) fts_nil (fp_call (fun _ => ⟨c__law_copied.ex⟩) (fun j => ((o.blk).room j).mono (by omega)) (fam_cons (fp_var 1) fam_nil)))) fa_nil)))) fss_nil)
    (fss_cons (fs_if (ft_truth (fp_isi o.K (by intro _; rfl) (fun _ => g.isinstance) (by intro _; rfl) (fun _ => g.dict) bt_dict (fp_var 0)) o.K) (fss_one fs_not) fss_nil)
    (fss_one (fs_ret (fp_sc (fp_var 0)))))))
end
abbrev s__law_drawn_face : Stmt := topS 23
theorem sc__law_drawn_face : FnScope ["stock", "ins", "outs", "leads", "i", "couples", "a", "b", "implied", "o"] ["stock"] (defScope s__law_drawn_face) := ⟨rfl, rfl, rfl, by decide +kernel, rfl, by decide +kernel, by decide +kernel⟩
def p__law_drawn_face_1 : List SV → Option (Bool × List SV) := (xTest (xOp dEq (xFr (dCallM v__law_pick 0 (dCons (dC (.int 2)) dNil))) (xOf (dC (.int 0)))))
def e__law_drawn_face_1 : List SV → Option (D × List SV) := (xOf (dTup (dCons (dVar 4) (dCons (dVar 9) dNil))))
def b__law_drawn_face_1 : List SV → Option Out := (dSetXo 3 (xCatOwn 3 (xFr (xLc (xiOf (dRange2 (dCons (dC (.int 1)) (dCons (dOp dAddI (dVar 2) (dC (.int 1))) dNil)))) [9] (bName 9) p__law_drawn_face_1 e__law_drawn_face_1))))
def e__law_drawn_face_2 : List SV → Option D := (dBool (dAndB (dTest (dOp dInQ (dTup (dCons (dVar 4) (dCons (dVar 6) dNil))) (dOwn 3))) (dTest (dOp dInQ (dTup (dCons (dVar 4) (dCons (dVar 7) dNil))) (dOwn 3)))))
def b__law_drawn_face_2 : List SV → Option Out := (dSeq (dSet 8 (dCallB dAnyL (dCons (dFr (dLc (dRange2 (dCons (dC (.int 1)) (dCons (dOp dAddI (dVar 1) (dC (.int 1))) dNil))) [4] (bName 4) dYes e__law_drawn_face_2)) dNil))) (dIfX (xOr (xbOf (dTruth (dVar 8))) (xTest (xOp dEq (xFr (dCallM v__law_pick 0 (dCons (dC (.int 2)) dNil))) (xOf (dC (.int 0)))))) (dApp 5 (dTup (dCons (dVar 6) (dCons (dVar 7) dNil)))) dNx))
def b__law_drawn_face_3 : List SV → Option Out := (dFor (dRange2 (dCons (dOp dAddI (dVar 6) (dC (.int 1))) (dCons (dOp dAddI (dVar 2) (dC (.int 1))) dNil))) (bName 7) b__law_drawn_face_2)
def d__law_drawn_face : List SV → Option Out := (dSeq (dSetX 1 (xFr (dCallM v__law_pick 0 (dCons (dC (.int 4)) dNil)))) (dSeq (dSetX 2 (xFr (dCallM v__law_pick 0 (dCons (dCallB dMin2 (dCons (dC (.int 4)) (dCons (dOp dSub (dC (.int 5)) (dVar 1)) dNil))) dNil)))) (dSeq (dSetO 3 (dLst dNil)) (dSeq (dFor (dRange2 (dCons (dC (.int 1)) (dCons (dOp dAddI (dVar 1) (dC (.int 1))) dNil))) (bName 4) b__law_drawn_face_1) (dSeq (dSetO 5 (dLst dNil)) (dSeq (dFor (dRange2 (dCons (dC (.int 1)) (dCons (dOp dAddI (dVar 2) (dC (.int 1))) dNil))) (bName 6) b__law_drawn_face_3) (dRetX (xTup (xCons (xOf (dVar 1)) (xCons (xOf (dVar 2)) (xCons (xShare 3) (xCons (xShare 5) xNil))))))))))))
def v__law_drawn_face := runM d__law_drawn_face 10
section
variable {P : Program} {w : PySem.World} {K : PySem.W.Frag} {mg : Str → Option Value} {base : Heap} {cls : Nat → Addr}
theorem ok__law_drawn_face {f : Addr} {fd : FuncData} (F : Fun K "_law_drawn_face" "_law_drawn_face" s__law_drawn_face f fd) (g : Glob mg) (z : ClsF K (cls 0)) (c__law_pick : CalP P w K mg base 1 "_law_pick" ["source", "many"] (spM ⟨K, cls, w⟩ [.p] v__law_pick)) : FnOk P w K mg base CX0 2 f fd ["stock"] (spM ⟨K, cls, w⟩ [] v__law_drawn_face) := by
    refine fn_M (k := 1) F sc__law_drawn_face rfl rfl (ms := []) (rest := [.p, .p, .p, .p, .p, .p, .p, .p, .p]) rfl fun cdv A outer s H E hr => ?_
    have o : XOk (bodyX P w K mg base ["stock", "ins", "outs", "leads", "i", "couples", "a", "b", "implied", "o"] "_law_drawn_face" s__law_drawn_face f cdv A outer s H E) ⟨K, cls, w⟩ 1 := ⟨fun _ => rfl, fun _ => rfl, fun _ => hr⟩
    have hN : ∀ j, ((bodyX P w K mg base ["stock", "ins", "outs", "leads", "i", "couples", "a", "b", "implied", "o"] "_law_drawn_face" s__law_drawn_face f cdv A outer s H E) j).N.Nodup := fun _ => sc__law_drawn_face.nd
    exact (fss_cons (fs_setX 1 hN (fx_fr (fxo_call 0 (fun _ => ⟨c__law_pick.ex⟩) (fun j => (o.room j).mono (by omega)) (fam_cons fp_int fam_nil))))
    (fss_cons (fs_setX 2 hN (fx_fr (fxo_call 0 (fun _ => ⟨c__law_pick.ex⟩) (fun j => (o.room j).mono (by omega)) (fam_cons (fp_callB (fun j => cr_min2 (o.calm j)) cd_min2 (by intro _; rfl) (fun _ => g.min) bt_min (fa_cons fp_int (fa_cons (fp_sub fp_int (fp_var 1)) fa_nil))) fam_nil))))
    (fss_cons (fs_setO 3 hN (fo_lst (fa_nil (m := .p))))
    (fss_cons (fs_for (vs := [4]) (fun _ => PassesOwn.never) o.calm (fi_range2 (by intro _; rfl) (fun _ => g.range) (fa_cons fp_int (fa_cons (fp_addI (fp_var 1) fp_int) fa_nil))) (fg_name 4 hN) (fss_one (fs_setXo 3 hN (fxo_catOwn 3 o.K (fx_fr (fxo_lc (own := [("o", 9)]) o.calm hN (fix_of (fi_range2 (by intro _; rfl) (fun _ => g.range) (fa_cons fp_int (fa_cons (fp_addI (fp_var 2) fp_int) fa_nil)))) (fun _ => blkOk_by (N := ["stock", "ins", "outs", "leads", "i", "couples", "a", "b", "implied", "o"]) (sc := defScope s__law_drawn_face) (by decide +kernel)) (fg_name 9 (nd_blk hN)) (fxts_one (fxb_cmp (o.blk).eqR opd_eq (fx_fr (fxo_call 0 (fun _ => ⟨c__law_pick.ex⟩) (fun j => ((o.blk).room j).mono (by omega)) (fam_cons fp_int fam_nil))) (fx_of fp_int))) (fx_of (fp_tup (fa_cons (fp_var 4) (fa_cons (fp_var 9) fa_nil))))))))))
    (fss_cons (fs_setO 5 hN (fo_lst (fa_nil (m := .p))))
    (fss_cons (fs_for (vs := [6]) (fun _ => PassesOwn.never) o.calm (fi_range2 (by intro _; rfl) (fun _ => g.range) (fa_cons fp_int (fa_cons (fp_addI (fp_var 2) fp_int) fa_nil))) (fg_name 6 hN) (fss_one (fs_for (vs := [7]) (fun _ => PassesOwn.never) o.calm (fi_range2 (by intro _; rfl) (fun _ => g.range) (fa_cons (fp_addI (fp_var 6) fp_int) (fa_cons (fp_addI (fp_var 2) fp_int) fa_nil))) (fg_name 7 hN) (fss_cons (fs_set 8 hN (fp_callB (cr_any' o.K o.calm) cd_any (by intro _; rfl) (fun _ => g.any) bt_any (fa_cons (fp_fr (fo_lc0 (own := [("i", 4)]) o.calm hN (fi0_of (fi_range2 (by intro _; rfl) (fun _ => g.range) (fa_cons fp_int (fa_cons (fp_addI (fp_var 1) fp_int) fa_nil)))) (fun _ => blkOk_by (N := ["stock", "ins", "outs", "leads", "i", "couples", "a", "b", "implied", "o"]) (sc := defScope s__law_drawn_face) (by decide +kernel)) (fg_name 4 (nd_blk hN)) fts_nil (fp_andV (fp_cmp (o.blk).inQ opd_inQ (fp_tup (fa_cons (fp_var 4) (fa_cons (fp_var 6) fa_nil))) (fp_own 3)) (fp_one (fp_cmp (o.blk).inQ opd_inQ (fp_tup (fa_cons (fp_var 4) (fa_cons (fp_var 7) fa_nil))) (fp_own 3)))))) fa_nil)))
    (fss_one (fs_ifX (fxb_w (fxw_or (fxb_of (ft_truth (fp_var 8) o.K)) (fxw_or1 (fxb_cmp o.eqR opd_eq (fx_fr (fxo_call 0 (fun _ => ⟨c__law_pick.ex⟩) (fun j => (o.room j).mono (by omega)) (fam_cons fp_int fam_nil))) (fx_of fp_int))))) (fss_one (fs_app 5 (fp_tup (fa_cons (fp_var 6) (fa_cons (fp_var 7) fa_nil))) (hK := o.K))) fss_nil))))))
    (fss_one (fs_retX (fx_tup (fxa_cons (fx_of (fp_var 1)) (fxa_cons (fx_of (fp_var 2)) (fxa_cons (fx_share 3) (fxa_cons (fx_share 5) fxa_nil)))))))))))))
end
abbrev s__law_numbers_to : Stmt := topS 24
theorem sc__law_numbers_to : FnScope ["stock", "k", "at"] ["stock", "k"] (defScope s__law_numbers_to) := ⟨rfl, rfl, rfl, by decide +kernel, rfl, by decide +kernel, by decide +kernel⟩
def p__law_numbers_to_1 : List SV → Option (Bool × List SV) := (xTest (xOp dEq (xFr (dCallM v__law_pick 0 (dCons (dC (.int 2)) dNil))) (xOf (dC (.int 0)))))
def e__law_numbers_to_1 : List SV → Option (D × List SV) := (xOf (dVar 2))
def d__law_numbers_to : List SV → Option Out := (dRetX (xFr (xLc (xiOf (dRange2 (dCons (dC (.int 1)) (dCons (dOp dAddI (dVar 1) (dC (.int 1))) dNil)))) [2] (bName 2) p__law_numbers_to_1 e__law_numbers_to_1)))
def v__law_numbers_to := runM d__law_numbers_to 3
section
variable {P : Program} {w : PySem.World} {K : PySem.W.Frag} {mg : Str → Option Value} {base : Heap} {cls : Nat → Addr}
theorem ok__law_numbers_to {f : Addr} {fd : FuncData} (F : Fun K "_law_numbers_to" "_law_numbers_to" s__law_numbers_to f fd) (g : Glob mg) (z : ClsF K (cls 0)) (c__law_pick : CalP P w K mg base 1 "_law_pick" ["source", "many"] (spM ⟨K, cls, w⟩ [.p] v__law_pick)) : FnOk P w K mg base CX0 2 f fd ["stock", "k"] (spM ⟨K, cls, w⟩ [.p] v__law_numbers_to) := by
    refine fn_M (k := 1) F sc__law_numbers_to rfl rfl (ms := [.p]) (rest := [.p]) rfl fun cdv A outer s H E hr => ?_
    have o : XOk (bodyX P w K mg base ["stock", "k", "at"] "_law_numbers_to" s__law_numbers_to f cdv A outer s H E) ⟨K, cls, w⟩ 1 := ⟨fun _ => rfl, fun _ => rfl, fun _ => hr⟩
    have hN : ∀ j, ((bodyX P w K mg base ["stock", "k", "at"] "_law_numbers_to" s__law_numbers_to f cdv A outer s H E) j).N.Nodup := fun _ => sc__law_numbers_to.nd
    exact (fss_one (fs_retX (fx_fr (fxo_lc (own := [("at", 2)]) o.calm hN (fix_of (fi_range2 (by intro _; rfl) (fun _ => g.range) (fa_cons fp_int (fa_cons (fp_addI (fp_var 1) fp_int) fa_nil)))) (fun _ => blkOk_by (N := ["stock", "k", "at"]) (sc := defScope s__law_numbers_to) (by decide +kernel)) (fg_name 2 (nd_blk hN)) (fxts_one (fxb_cmp (o.blk).eqR opd_eq (fx_fr (fxo_call 0 (fun _ => ⟨c__law_pick.ex⟩) (fun j => ((o.blk).room j).mono (by omega)) (fam_cons fp_int fam_nil))) (fx_of fp_int))) (fx_of (fp_var 2))))))
end
abbrev s_law : Stmt := topS 25
theorem sc_law : FnScope ["script", "stock", "ins", "outs", "leads", "couples", "due", "states", "doors", "face", "answer", "wires", "k", "pairs", "turn", "told", "before", "behind", "given", "others", "one", "pair", "lost", "there"] ["script"] (defScope s_law) := ⟨rfl, rfl, rfl, by decide +kernel, rfl, by decide +kernel, by decide +kernel⟩
def p_law_1 : List SV → Option Bool := (dTruth (dCallF v__law_e_room_allows (dCons (dVar 4) (dCons (dVar 5) (dCons (dVar 8) (dCons (dVar 20) dNil))))))
def e_law_1 : List SV → Option D := (dTup (dCons (dVar 8) (dCons (dVar 20) dNil)))
def b_law_1 : List SV → Option Out := (dSet 6 (dFr (dCat (dVar 6) (dFr (dLc (dItems (dVar 7)) [20] (bName 20) p_law_1 e_law_1)))))
def b_law_2 : List SV → Option Out := (dAppX 13 (xTup (xCons (xFr (dCallM v__law_numbers_to 11 (dCons (dVar 12) dNil))) (xCons (xTup (xCons (xFr (dCallM v__law_numbers_to 11 (dCons (dVar 12) dNil))) (xCons (xFr (dCallM v__law_numbers_to 11 (dCons (dVar 12) dNil))) xNil))) xNil))))
def e_law_2 : List SV → Option D := (dCallF v__law_e_wire_allows (dCons (dVar 21) (dCons (dVar 16) (dCons (dVar 17) dNil))))
def b_law_3 : List SV → Option Out := (dIfS (dTruth (dCallB dAnyL (dCons (dFr (dLc (dItemsOwn 13) [21] (bName 21) dYes e_law_2)) dNil))) (dApp 15 (dTup (dCons (dVar 16) (dCons (dVar 17) dNil)))) dNx)
def b_law_4 : List SV → Option Out := (dFor (dItems (dVar 7)) (bName 17) b_law_3)
def e_law_3 : List SV → Option D := (dTup (dCons (dCallB dTuple (dCons (dVar 22) dNil)) (dCons (dTup (dCons (dCallB dTuple (dCons (dOp dIx (dVar 23) (dC (.int 0))) dNil)) (dCons (dCallB dTuple (dCons (dOp dIx (dVar 23) (dC (.int 1))) dNil)) dNil))) dNil)))
def d_law : List SV → Option Out := (dSeq (dSetO 1 (dCallFo v__law_source (dCons (dVar 0) (dCons (dC (.int 0)) dNil)))) (dSeq (dSetTX (bTup [(bName 2), (bName 3), (bName 4), (bName 5)]) (xFr (dCallM v__law_drawn_face 1 dNil))) (dSeq (dSet 6 (dFr (dLst dNil))) (dSeq (dSet 7 (dCallF v__law_e_states (dCons (dVar 3) dNil))) (dSeq (dFor (dItems (dCallF v__law_e_states (dCons (dVar 2) dNil))) (bName 8) b_law_1) (dSeq (dSetX 9 (xFr (xMake 0 4 v_Face___init__ (xCons (xOf (dVar 2)) (xCons (xOf (dVar 3)) (xCons (xFr (dCallM v__law_e_mixed 1 (dCons (dVar 4) dNil))) (xCons (xOf (dFr (dCallO dList (dCons (dVar 5) dNil)))) xNil))))))) (dSeq (dSetO 10 (dCallFo v_room_step (dCons (dVar 9) dNil))) (dSeq (dIfS (dNotB (dTruth (dCallF (v__law_same 12) (dCons (dOwn 10) (dCons (dVar 6) dNil))))) (dRet (dC (.bl false))) dNx) (dSeq (dApp 10 (dIxOwn 10 (dC (.int 0)))) (dSeq (dIfS (dNotB (dTruth (dCallF (v__law_same 12) (dCons (dFr (dCallFo v_room_step (dCons (dFr (dMake 0 v_Face___init__ (dCons (dVar 2) (dCons (dVar 3) (dCons (dVar 4) (dCons (dVar 5) dNil)))))) dNil))) (dCons (dVar 6) dNil))))) (dRet (dC (.bl false))) dNx) (dSeq (dSetO 11 (dCallFo v__law_source (dCons (dVar 0) (dCons (dC (.int 1)) dNil)))) (dSeq (dSetX 12 (xFr (dCallM v__law_pick 11 (dCons (dC (.int 3)) dNil)))) (dSeq (dSetO 13 (dLst dNil)) (dSeq (dForX (xRange1 (xCons (xFr (dCallM v__law_pick 11 (dCons (dC (.int 4)) dNil))) xNil)) (bName 14) b_law_2) (dSeq (dSetO 15 (dLst dNil)) (dSeq (dSet 7 (dCallF v__law_e_states (dCons (dVar 12) dNil))) (dSeq (dFor (dItems (dVar 7)) (bName 16) b_law_4) (dSeq (dSet 18 (dCallF (v__law_copied 12) (dCons (dOwn 13) dNil))) (dSeq (dSetO 10 (dCallFo v_wire_step (dCons (dVar 12) (dCons (dVar 18) dNil)))) (dSeq (dIfS (dOrB (dNotB (dTruth (dCallF (v__law_same 12) (dCons (dOwn 10) (dCons (dOwn 15) dNil))))) (dNotB (dTruth (dCallF (v__law_same 12) (dCons (dVar 18) (dCons (dOwn 13) dNil)))))) (dRet (dC (.bl false))) dNx) (dSeq (dApp 10 (dC .non)) (dSeq (dSet 19 (dFr (dLc (dItemsOwn 13) [22, 23] (bTup [(bName 22), (bName 23)]) dYes e_law_3))) (dRet (dBool (dAndB (dTest (dCallF (v__law_same 12) (dCons (dFr (dCallFo v_wire_step (dCons (dVar 12) (dCons (dFr (dCat (dVar 19) (dFr (dSlL (dVar 19) dNoPart (dPart (dC (.int 1))))))) dNil)))) (dCons (dOwn 15) dNil)))) (dTest (dOp dEq (dFr (dCallFo v_room_step (dCons (dVar 9) dNil))) (dVar 6))))))))))))))))))))))))))))
def v_law := runP d_law 24
section
variable {P : Program} {w : PySem.World} {K : PySem.W.Frag} {mg : Str → Option Value} {base : Heap} {cls : Nat → Addr}
theorem ok_law {f : Addr} {fd : FuncData} (F : Fun K "law" "law" s_law f fd) (g : Glob mg) (z : ClsF K (cls 0)) (c_room_step : CalP P w K mg base 3 "room_step" ["face"] (spO ⟨K, cls, w⟩ [.p] v_room_step)) (c_wire_step : CalP P w K mg base 2 "wire_step" ["k", "pairs"] (spO ⟨K, cls, w⟩ [.p, .p] v_wire_step)) (c_Face___init__ : MakP P w K mg base 3 "Face" (cls 0) ["self", "ins", "outs", "leads", "couples"] (spM ⟨K, cls, w⟩ [.p, .p, .p, .p] v_Face___init__)) (c__law_pick : CalP P w K mg base 1 "_law_pick" ["source", "many"] (spM ⟨K, cls, w⟩ [.p] v__law_pick)) (c__law_e_mixed : CalP P w K mg base 2 "_law_e_mixed" ["stock", "things"] (spM ⟨K, cls, w⟩ [.p] v__law_e_mixed)) (c__law_e_states : CalP P w K mg base 1 "_law_e_states" ["k"] (spP ⟨K, cls, w⟩ [.p] v__law_e_states)) (c__law_e_room_allows : CalP P w K mg base 1 "_law_e_room_allows" ["leads", "couples", "doors", "outs"] (spP ⟨K, cls, w⟩ [.p, .p, .p, .p] v__law_e_room_allows)) (c__law_e_wire_allows : CalP P w K mg base 1 "_law_e_wire_allows" ["pair", "outs", "doors"] (spP ⟨K, cls, w⟩ [.p, .p, .p] v__law_e_wire_allows)) (c__law_same : CalP P w K mg base 12 "_law_same" ["answer", "due"] (spP ⟨K, cls, w⟩ [.b, .b] (v__law_same 12))) (c__law_source : CalP P w K mg base 1 "_law_source" ["script", "at"] (spO ⟨K, cls, w⟩ [.p, .p] v__law_source)) (c__law_copied : CalP P w K mg base 12 "_law_copied" ["thing"] (spP ⟨K, cls, w⟩ [.b] (v__law_copied 12))) (c__law_drawn_face : CalP P w K mg base 2 "_law_drawn_face" ["stock"] (spM ⟨K, cls, w⟩ [] v__law_drawn_face)) (c__law_numbers_to : CalP P w K mg base 2 "_law_numbers_to" ["stock", "k"] (spM ⟨K, cls, w⟩ [.p] v__law_numbers_to)) : FnOk P w K mg base CX0 14 f fd ["script"] (spP ⟨K, cls, w⟩ [.p] v_law) := by
    refine fn_P (k := 13) F sc_law rfl rfl (ms := [.p]) (rest := [.p, .p, .p, .p, .p, .p, .p, .p, .p, .p, .p, .p, .p, .p, .p, .p, .p, .p, .p, .p, .p, .p, .p]) rfl fun cdv A outer s H E hr => ?_
    have o : XOk (bodyX P w K mg base ["script", "stock", "ins", "outs", "leads", "couples", "due", "states", "doors", "face", "answer", "wires", "k", "pairs", "turn", "told", "before", "behind", "given", "others", "one", "pair", "lost", "there"] "law" s_law f cdv A outer s H E) ⟨K, cls, w⟩ 13 := ⟨fun _ => rfl, fun _ => rfl, fun _ => hr⟩
    have hN : ∀ j, ((bodyX P w K mg base ["script", "stock", "ins", "outs", "leads", "couples", "due", "states", "doors", "face", "answer", "wires", "k", "pairs", "turn", "told", "before", "behind", "given", "others", "one", "pair", "lost", "there"] "law" s_law f cdv A outer s H E) j).N.Nodup := fun _ => sc_law.nd
    exact (fss_cons (fs_setO 1 hN (fo_call (fun _ => ⟨c__law_source.ex⟩) (fun j => (o.room j).mono (by omega)) (fam_cons (fp_var 0) (fam_cons fp_int fam_nil))))
    (fss_cons (fs_setTX (vs := [2, 3, 4, 5]) (fx_fr (fxo_call 1 (fun _ => ⟨c__law_drawn_face.ex⟩) (fun j => (o.room j).mono (by omega)) fam_nil)) (fg_tup o.calm o.K (fgs_cons (fg_name 2 hN) (fgs_cons (fg_name 3 hN) (fgs_cons (fg_name 4 hN) (fgs_cons (fg_name 5 hN) fgs_nil))))))
    (fss_cons (fs_set 6 hN (fp_fr (fo_lst (fa_nil (m := .p)))))
    (fss_cons (fs_set 7 hN (fp_call (fun _ => ⟨c__law_e_states.ex⟩) (fun j => (o.room j).mono (by omega)) (fam_cons (fp_var 3) fam_nil)))
    (fss_cons (fs_for (vs := [8]) (fun _ => PassesOwn.never) o.calm (fi_list o.K (fp_call (fun _ => ⟨c__law_e_states.ex⟩) (fun j => (o.room j).mono (by omega)) (fam_cons (fp_var 2) fam_nil))) (fg_name 8 hN) (fss_one (fs_set 6 hN (fp_fr (fo_cat o.K (fp_var 6) (fp_fr (fo_lc0 (own := [("one", 20)]) o.calm hN (fi0_of (fi_list o.K (fp_var 7))) (fun _ => blkOk_by (N := ["script", "stock", "ins", "outs", "leads", "couples", "due", "states", "doors", "face", "answer", "wires", "k", "pairs", "turn", "told", "before", "behind", "given", "others", "one", "pair", "lost", "there"]) (sc := defScope s_law) (by decide +kernel)) (fg_name 20 (nd_blk hN)) (fts_one (ft_truth (fp_call (fun _ => ⟨c__law_e_room_allows.ex⟩) (fun j => ((o.blk).room j).mono (by omega)) (fam_cons (fp_var 4) (fam_cons (fp_var 5) (fam_cons (fp_var 8) (fam_cons (fp_var 20) fam_nil))))) (o.blk).K)) (fp_tup (fa_cons (fp_var 8) (fa_cons (fp_var 20) fa_nil))))))))))
    (fss_cons (fs_setX 9 hN (fx_fr (fxo_make 0 (fun _ => ⟨c_Face___init__.ex⟩) (fun j => (o.room j).mono (by omega)) (fxa_cons (fx_of (fp_var 2)) (fxa_cons (fx_of (fp_var 3)) (fxa_cons (fx_fr (fxo_call 1 (fun _ => ⟨c__law_e_mixed.ex⟩) (fun j => (o.room j).mono (by omega)) (fam_cons (fp_var 4) fam_nil))) (fxa_cons (fx_of (fp_fr (fo_callTy (cr_list' o.K) co_list (by intro _; rfl) (fun _ => g.list) bt_list (fa_cons (fp_var 5) fa_nil)))) fxa_nil)))))))
    (fss_cons (fs_setO 10 hN (fo_call (fun _ => ⟨c_room_step.ex⟩) (fun j => (o.room j).mono (by omega)) (fam_cons (fp_var 9) fam_nil)))
    (fss_cons (fs_if (ft_not (ft_truth (fp_call (fun _ => ⟨c__law_same.ex⟩) (fun j => (o.room j).mono (by omega)) (fam_cons (fp_own 10) (fam_cons (fp_var 6) fam_nil))) o.K)) (fss_one (fs_ret fp_bl)) fss_nil)
    (fss_cons (fs_app 10 (fp_ixOwn 10 o.K fp_int) (hK := o.K))
    (fss_cons (fs_if (ft_not (ft_truth (fp_call (fun _ => ⟨c__law_same.ex⟩) (fun j => (o.room j).mono (by omega)) (fam_cons (fp_fr (fo_call (fun _ => ⟨c_room_step.ex⟩) (fun j => (o.room j).mono (by omega)) (fam_cons (fp_fr (fo_make 0 (fun _ => ⟨c_Face___init__.ex⟩) (fun j => (o.room j).mono (by omega)) (fam_cons (fp_var 2) (fam_cons (fp_var 3) (fam_cons (fp_var 4) (fam_cons (fp_var 5) fam_nil)))))) fam_nil))) (fam_cons (fp_var 6) fam_nil))) o.K)) (fss_one (fs_ret fp_bl)) fss_nil)
    (fss_cons (fs_setO 11 hN (fo_call (fun _ => ⟨c__law_source.ex⟩) (fun j => (o.room j).mono (by omega)) (fam_cons (fp_var 0) (fam_cons fp_int fam_nil))))
    (fss_cons (fs_setX 12 hN (fx_fr (fxo_call 11 (fun _ => ⟨c__law_pick.ex⟩) (fun j => (o.room j).mono (by omega)) (fam_cons fp_int fam_nil))))
    (fss_cons (fs_setO 13 hN (fo_lst (fa_nil (m := .p))))
    (fss_cons (fs_forX (vs := [14]) (fun _ => PassesOwn.never) o.calm (fix_range1 (by intro _; rfl) (fun _ => g.range) (fxa_cons (fx_fr (fxo_call 11 (fun _ => ⟨c__law_pick.ex⟩) (fun j => (o.room j).mono (by omega)) (fam_cons fp_int fam_nil))) fxa_nil)) (fg_name 14 hN) (fss_one (fs_appX 13 (fx_tup (fxa_cons (fx_fr (fxo_call 11 (fun _ => ⟨c__law_numbers_to.ex⟩) (fun j => (o.room j).mono (by omega)) (fam_cons (fp_var 12) fam_nil))) (fxa_cons (fx_tup (fxa_cons (fx_fr (fxo_call 11 (fun _ => ⟨c__law_numbers_to.ex⟩) (fun j => (o.room j).mono (by omega)) (fam_cons (fp_var 12) fam_nil))) (fxa_cons (fx_fr (fxo_call 11 (fun _ => ⟨c__law_numbers_to.ex⟩) (fun j => (o.room j).mono (by omega)) (fam_cons (fp_var 12) fam_nil))) fxa_nil))) fxa_nil))) (hK := o.K))))
    (fss_cons (fs_setO 15 hN (fo_lst (fa_nil (m := .p))))
    (fss_cons (fs_set 7 hN (fp_call (fun _ => ⟨c__law_e_states.ex⟩) (fun j => (o.room j).mono (by omega)) (fam_cons (fp_var 12) fam_nil)))
    (fss_cons (fs_for (vs := [16]) (fun _ => PassesOwn.never) o.calm (fi_list o.K (fp_var 7)) (fg_name 16 hN) (fss_one (fs_for (vs := [17]) (fun _ => PassesOwn.never) o.calm (fi_list o.K (fp_var 7)) (fg_name 17 hN) (fss_one (fs_if (ft_truth (fp_callB (cr_any' o.K o.calm) cd_any (by intro _; rfl) (fun _ => g.any) bt_any (fa_cons (fp_fr (fo_lc0 (own := [("pair", 21)]) o.calm hN (fi0_L o.K (fl_own 13)) (fun _ => blkOk_by (N := ["script", "stock", "ins", "outs", "leads", "couples", "due", "states", "doors", "face", "answer", "wires", "k", "pairs", "turn", "told", "before", "behind", "given", "others", "one", "pair", "lost", "there"]) (sc := defScope s_law) (by decide +kernel)) (fg_name 21 (nd_blk hN)) fts_nil (fp_call (fun _ => ⟨c__law_e_wire_allows.ex⟩) (fun j => ((o.blk).room j).mono (by omega)) (fam_cons (fp_var 21) (fam_cons (fp_var 16) (fam_cons (fp_var 17) fam_nil)))))) fa_nil)) o.K) (fss_one (fs_app 15 (fp_tup (fa_cons (fp_var 16) (fa_cons (fp_var 17) fa_nil))) (hK := o.K))) fss_nil)))))
    (fss_cons (fs_set 18 hN (fp_call (fun _ => ⟨c__law_copied.ex⟩) (fun j => (o.room j).mono (by omega)) (fam_cons (fp_own 13) fam_nil)))
    (fss_cons (fs_setO 10 hN (fo_call (fun _ => ⟨c_wire_step.ex⟩) (fun j => (o.room j).mono (by omega)) (fam_cons (fp_var 12) (fam_cons (fp_var 18) fam_nil))))
    (fss_cons (fs_if (ft_w (fw_or (ft_not (ft_truth (fp_call (fun _ => ⟨c__law_same.ex⟩) (fun j => (o.room j).mono (by omega)) (fam_cons (fp_own 10) (fam_cons (fp_own 15) fam_nil))) o.K)) (fw_or1 (ft_not (ft_truth (fp_call (fun _ => ⟨c__law_same.ex⟩) (fun j => (o.room j).mono (by omega)) (fam_cons (fp_var 18) (fam_cons (fp_own 13) fam_nil))) o.K))))) (fss_one (fs_ret fp_bl)) fss_nil)
    (fss_cons (fs_app 10 fp_non (hK := o.K))
    (fss_cons (fs_setLcF 19 (own := [("lost", 22), ("there", 23)]) o.calm hN (fi0_L o.K (fl_own 13)) (fun _ => blkOk_by (N := ["script", "stock", "ins", "outs", "leads", "couples", "due", "states", "doors", "face", "answer", "wires", "k", "pairs", "turn", "told", "before", "behind", "given", "others", "one", "pair", "lost", "there"]) (sc := defScope s_law) (by decide +kernel)) (fg_tup (o.blk).calm (o.blk).K (fgs_cons (fg_name 22 (nd_blk hN)) (fgs_cons (fg_name 23 (nd_blk hN)) fgs_nil))) fts_nil (fp_tup (fa_cons (fp_callTy (cr_tuple' (o.blk).K) cd_tuple (by intro _; rfl) (fun _ => g.tuple) bt_tuple (fa_cons (fp_var 22) fa_nil)) (fa_cons (fp_tup (fa_cons (fp_callTy (cr_tuple' (o.blk).K) cd_tuple (by intro _; rfl) (fun _ => g.tuple) bt_tuple (fa_cons (fp_sub_ix (o.blk).K (fp_var 23) fp_int) fa_nil)) (fa_cons (fp_callTy (cr_tuple' (o.blk).K) cd_tuple (by intro _; rfl) (fun _ => g.tuple) bt_tuple (fa_cons (fp_sub_ix (o.blk).K (fp_var 23) fp_int) fa_nil)) fa_nil))) fa_nil))))
    (fss_one (fs_ret (fp_andV (fp_call (fun _ => ⟨c__law_same.ex⟩) (fun j => (o.room j).mono (by omega)) (fam_cons (fp_fr (fo_call (fun _ => ⟨c_wire_step.ex⟩) (fun j => (o.room j).mono (by omega)) (fam_cons (fp_var 12) (fam_cons (fp_fr (fo_cat o.K (fp_var 19) (fp_fr (fo_slice o.K (fp_var 19) fpo_none (fpo_some fp_int))))) fam_nil)))) (fam_cons (fp_own 15) fam_nil))) (fp_one (fp_cmp o.eqR opd_eq (fp_fr (fo_call (fun _ => ⟨c_room_step.ex⟩) (fun j => (o.room j).mono (by omega)) (fam_cons (fp_var 9) fam_nil))) (fp_var 6))))))))))))))))))))))))))))
end
end K37

set_option Elab.async false
set_option linter.all false
set_option maxRecDepth 100000
set_option maxHeartbeats 4000000
namespace K37
open PySem L2 My

/-! ### the plain data -/
def words {α : Type} (A : List α) : Nat → List (List α)
  | 0 => [[]]
  | n + 1 => (words A n).flatMap fun r => A.map fun a => r ++ [a]
theorem words_len {α : Type} (A : List α) : ∀ n, (words A n).length = A.length ^ n
  | 0 => rfl
  | n + 1 => by
    show ((words A n).flatMap fun r => A.map fun a => r ++ [a]).length = _
    rw [List.length_flatMap]
    simp only [List.length_map]
    rw [List.map_const', List.sum_replicate_nat, words_len A n, Nat.pow_succ]
theorem mem_words {α : Type} {A : List α} : ∀ {n : Nat} {r : List α}, r ∈ words A n ↔ r.length = n ∧ ∀ x ∈ r, x ∈ A
  | 0, r => by
    show r ∈ [[]] ↔ _
    constructor
    · intro h
      have e : r = [] := by simpa using h
      subst e
      exact ⟨rfl, by simp⟩
    · rintro ⟨h, _⟩
      have e : r = [] := List.length_eq_zero_iff.mp h
      subst e
      simp
  | n + 1, r => by
    show (r ∈ (words A n).flatMap fun r => A.map fun a => r ++ [a]) ↔ _
    rw [List.mem_flatMap]
    constructor
    · rintro ⟨u, hu, h⟩
      obtain ⟨a, ha, rfl⟩ := List.mem_map.mp h
      obtain ⟨h1, h2⟩ := mem_words.mp hu
      refine ⟨by simp [h1], fun x hx => ?_⟩
      rcases List.mem_append.mp hx with h3 | h3
      · exact h2 x h3
      · have : x = a := by simpa using h3
        rw [this]
        exact ha
    · rintro ⟨h1, h2⟩
      have hne : r ≠ [] := by
        intro e
        rw [e] at h1
        simp at h1
      refine ⟨r.dropLast, mem_words.mpr ⟨by rw [List.length_dropLast, h1]; rfl, fun x hx => h2 x (List.dropLast_subset r hx)⟩, ?_⟩
      exact List.mem_map.mpr ⟨r.getLast hne, h2 _ (List.getLast_mem hne), List.dropLast_concat_getLast hne⟩
def eT (l : List Int) : D := .tup (l.map .int)
def eS1 (x : Int × Int) : D := .tup [.int x.1, .int x.2]
def eS (l : List (Int × Int)) : D := .tup (l.map eS1)
def eP (p : List (Int × Int) × List (Int × Int)) : D := .tup [eS p.1, eS p.2]
theorem eT_snoc {r : List Int} {a : Int} (h : r.length ≤ 100) : dCatT (eT r) (.tup [.int a]) = some (eT (r ++ [a])) := by
  unfold eT
  rw [catT_eq (by rw [List.length_map]; have := line; show r.length + 1 ≤ sizeLine; omega), List.map_append]
  rfl
theorem eS_snoc {r : List (Int × Int)} {a : Int × Int} (h : r.length ≤ 100) : dCatT (eS r) (.tup [eS1 a]) = some (eS (r ++ [a])) := by
  unfold eS
  rw [catT_eq (by rw [List.length_map]; have := line; show r.length + 1 ≤ sizeLine; omega), List.map_append]
  rfl
theorem tup1 {f : List SV → Option D} {s : List SV} {a : D} (h : f s = some a) : dTup (dCons f dNil) s = some (.tup [a]) := tup_eq (args1 h) (by have := line; show 1 ≤ sizeLine; omega)
theorem tup2 {f f2 : List SV → Option D} {s : List SV} {a b : D} (h : f s = some a) (h2 : f2 s = some b) : dTup (dCons f (dCons f2 dNil)) s = some (.tup [a, b]) := tup_eq (args2 h h2) (by have := line; show 2 ≤ sizeLine; omega)
theorem words_small {α : Type} {A : List α} {n : Nat} (hA : A.length ≤ 6) (hn : n ≤ 4) : (words A n).length ≤ 1296 := by
  rw [words_len]
  have h1 : A.length ^ n ≤ 6 ^ n := Nat.pow_le_pow_left hA n
  have h2 : 6 ^ n ≤ 6 ^ 4 := Nat.pow_le_pow_right (by omega) hn
  omega
def L3 : List Int := [0, 1, 2]
def L2' : List Int := [0, 1]
theorem words_flat {α : Type} (A : List α) (n : Nat) (e : List α → D) : ((words A n).flatMap fun r => A.map fun a => e (r ++ [a])) = (words A (n + 1)).map e := by
  show _ = ((words A n).flatMap fun r => A.map fun a => r ++ [a]).map e
  rw [List.map_flatMap]
  simp only [List.map_map]
  rfl
theorem label_lists_eq {n : Nat} (hn : n ≤ 3) : v_label_lists [.int n] = some (.lst ((words L3 n).map eT)) := by
  show runP d_label_lists 5 _ = _
  apply run_P
  show WP (d_label_lists [.fz (.int n), .un, .un, .un, .un]) _ _ _ _
  unfold d_label_lists
  apply w_seq
  refine w_set (d := .lst ((words L3 0).map eT)) rfl ?_
  apply w_seq
  refine w_for (xs := List.range n) (enc := fun i : Nat => D.int i) (fun pre s => ∃ x, s = [.fz (.int n), .fz (.lst ((words L3 pre.length).map eT)), x, .un, .un]) (range1_eq rfl (by omega)) ⟨_, rfl⟩ ?_ ?_
  · rintro pre i s ⟨q, hq⟩ ⟨x, rfl⟩
    have hl : pre.length + 1 ≤ n := by
      have := congrArg List.length hq
      rw [List.length_range, List.length_append, List.length_cons] at this
      omega
    refine ⟨_, rfl, ?_⟩
    unfold b_label_lists_1
    refine w_set (d := .lst ((words L3 (pre.length + 1)).map eT)) ?_ ⟨_, by rw [List.length_append]; rfl⟩
    rw [← words_flat]
    refine frL (lc2_of (enc := eT) (xs := words L3 pre.length) (g := fun r => L3.map fun a => eT (r ++ [a])) rfl (fun r hr => ⟨_, rfl, lcIn_map (enc := D.int) (xs := L3) rfl fun a ha => ⟨_, rfl, ?_⟩⟩) ?_)
    · exact (op2 (a := eT r) (b := .tup [.int a]) rfl (tup1 rfl)).trans (eT_snoc (by have := (mem_words.mp hr).1; omega))
    · rw [words_flat, List.length_map]
      have := words_small (A := L3) (n := pre.length + 1) (by decide) (by omega)
      have := line
      omega
  · rintro s ⟨x, rfl⟩
    refine w_ret (d := .lst ((words L3 n).map eT)) ?_ rfl
    rw [List.length_range]
    rfl
theorem bit_lists_eq {n : Nat} (hn : n ≤ 3) : v_bit_lists [.int n] = some (.lst ((words L2' n).map eT)) := by
  show runP d_bit_lists 5 _ = _
  apply run_P
  show WP (d_bit_lists [.fz (.int n), .un, .un, .un, .un]) _ _ _ _
  unfold d_bit_lists
  apply w_seq
  refine w_set (d := .lst ((words L2' 0).map eT)) rfl ?_
  apply w_seq
  refine w_for (xs := List.range n) (enc := fun i : Nat => D.int i) (fun pre s => ∃ x, s = [.fz (.int n), .fz (.lst ((words L2' pre.length).map eT)), x, .un, .un]) (range1_eq rfl (by omega)) ⟨_, rfl⟩ ?_ ?_
  · rintro pre i s ⟨q, hq⟩ ⟨x, rfl⟩
    have hl : pre.length + 1 ≤ n := by
      have := congrArg List.length hq
      rw [List.length_range, List.length_append, List.length_cons] at this
      omega
    refine ⟨_, rfl, ?_⟩
    unfold b_bit_lists_1
    refine w_set (d := .lst ((words L2' (pre.length + 1)).map eT)) ?_ ⟨_, by rw [List.length_append]; rfl⟩
    rw [← words_flat]
    refine frL (lc2_of (enc := eT) (xs := words L2' pre.length) (g := fun r => L2'.map fun a => eT (r ++ [a])) rfl (fun r hr => ⟨_, rfl, lcIn_map (enc := D.int) (xs := L2') rfl fun a ha => ⟨_, rfl, ?_⟩⟩) ?_)
    · exact (op2 (a := eT r) (b := .tup [.int a]) rfl (tup1 rfl)).trans (eT_snoc (by have := (mem_words.mp hr).1; omega))
    · rw [words_flat, List.length_map]
      have := words_small (A := L2') (n := pre.length + 1) (by decide) (by omega)
      have := line
      omega
  · rintro s ⟨x, rfl⟩
    refine w_ret (d := .lst ((words L2' n).map eT)) ?_ rfl
    rw [List.length_range]
    rfl
theorem enumD_map {xs : List D} : ∀ (k : Nat), enumD k xs = (xs.zipIdx k).map fun p => .tup [.int (p.2 : Int), p.1] := by
  induction xs with
  | nil => intro k; rfl
  | cons x xs ih =>
    intro k
    show D.tup [.int (k : Int), x] :: enumD (k + 1) xs = _
    rw [ih (k + 1)]
    rfl
def pairUp : List Int → List Int → List (Int × Int) := List.zip
theorem state_of_eq {ls bs : List Int} (hl : ls.length ≤ bs.length) (hn : ls.length ≤ 100) : v_state_of [eT ls, eT bs] = some (eS (ls.zip bs)) := by
  show runP d_state_of 4 _ = _
  apply run_P
  show WP (d_state_of [.fz (eT ls), .fz (eT bs), .un, .un]) _ _ _ _
  unfold d_state_of
  refine w_ret (d := eS (ls.zip bs)) ?_ rfl
  have e : dLc (dEnumT (dVar 0)) [2, 3] (bTup [(bName 2), (bName 3)]) dYes e_state_of_1 [.fz (eT ls), .fz (eT bs), .un, .un] = some (oL ((ls.zipIdx 0).map fun p => eS1 (p.1, bs.getD p.2 0))) := by
    refine lc_map (enc := fun p : Int × Nat => .tup [.int (p.2 : Int), .int p.1]) (xs := ls.zipIdx 0) ?_ ?_ ?_
    · show some (enumD 0 (ls.map D.int)) = _
      rw [enumD_map, List.zipIdx_map, List.map_map]
      rfl
    · rw [List.length_zipIdx]
      have := line
      omega
    · rintro ⟨a, k⟩ hp
      have hk : k < ls.length := by
        have := (List.mem_zipIdx hp).2.1
        omega
      refine ⟨_, rfl, ?_⟩
      refine tup2 rfl ?_
      refine (op2 (a := eT bs) (b := .int (k : Int)) rfl rfl).trans ?_
      show atI (bs.map D.int) (k : Int) = _
      rw [atI_nat', List.getElem?_map, List.getElem?_eq_getElem (by omega)]
      show some (D.int bs[k]) = some (D.int (bs.getD k 0))
      rw [List.getD_eq_getElem?_getD, List.getElem?_eq_getElem (by omega)]
      rfl
  rw [cb_eq (args1 (frL e))]
  show some (D.tup _) = some (D.tup _)
  congr 2
  apply List.ext_getElem
  · simp; omega
  · intro k h1 h2
    simp only [List.length_map, List.length_zipIdx] at h1
    simp only [List.getElem_map, List.getElem_zipIdx, List.getElem_zip, Nat.zero_add]
    rw [List.getD_eq_getElem?_getD, List.getElem?_eq_getElem (by omega)]
    rfl
end K37

set_option Elab.async false
set_option linter.all false
set_option maxRecDepth 100000
set_option maxHeartbeats 4000000
namespace K37
open PySem L2 My

theorem _root_.My.WP.imp {x : Option Out} {nx nx0 bk ct : List SV → Prop} {rt : OD → List SV → Prop} (h : WP x nx0 rt bk ct) (k : ∀ s, nx0 s → nx s) : WP x nx rt bk ct := by
  constructor
  have h := h.ex
  cases x with
  | none => exact h
  | some o =>
    cases o with
    | nx s => exact k s h
    | rt r s => exact h
    | bk s => exact h
    | ct s => exact h
/-! ### plain data: numbers in lists and tuples -/
def Pln : Nat → D → Prop
  | 0, .int _ => True
  | 0, _ => False
  | k + 1, .int _ => True
  | k + 1, .lst ds => ∀ d ∈ ds, Pln k d
  | k + 1, .tup ds => ∀ d ∈ ds, Pln k d
  | _ + 1, _ => False
theorem Pln.int (k : Nat) (i : Int) : Pln k (.int i) := by cases k <;> exact trivial
theorem pys_all {P : PyData → Prop} : ∀ {ds : List D}, (∀ d ∈ ds, P d.py) → ∀ x ∈ D.pys ds, P x
  | [], _, x, h => by simp [D.pys] at h
  | d :: ds, k, x, h => by
    rw [D.pys] at h
    rcases List.mem_cons.mp h with rfl | h
    · exact k d (by simp)
    · exact pys_all (fun y hy => k y (by simp [hy])) x h
theorem lay_all : ∀ {xs : List PyData}, (∀ x ∈ xs, x.canLay0 = true) → PyData.canLayAll0 xs = true
  | [], _ => by simp [PyData.canLayAll0]
  | x :: xs, h => by
    rw [PyData.canLayAll0, h x (by simp), lay_all fun y hy => h y (by simp [hy])]
    rfl
theorem dep_all {k : Nat} : ∀ {xs : List PyData}, (∀ x ∈ xs, x.depth ≤ k) → PyData.depthAll xs ≤ k
  | [], _ => by simp [PyData.depthAll]
  | x :: xs, h => by
    rw [PyData.depthAll]
    have h1 := h x (by simp)
    have h2 : PyData.depthAll xs ≤ k := dep_all fun y hy => h y (List.mem_cons_of_mem _ hy)
    exact Nat.max_le.mpr ⟨h1, h2⟩
theorem Pln.lay : ∀ {k : Nat} {d : D}, Pln k d → d.py.canLay0 = true ∧ d.py.depth ≤ k
  | 0, .int i, _ => ⟨by simp [D.py, PyData.canLay0], by simp [D.py, PyData.depth]⟩
  | k + 1, .int i, _ => ⟨by simp [D.py, PyData.canLay0], by simp [D.py, PyData.depth]⟩
  | k + 1, .lst ds, h => by
    have h : ∀ d ∈ ds, Pln k d := h
    have h1 := pys_all (P := fun x => x.canLay0 = true ∧ x.depth ≤ k) fun d hd => (h d hd).lay
    exact ⟨by rw [D.py, PyData.canLay0]; exact lay_all fun x hx => (h1 x hx).1, by rw [D.py, PyData.depth]; have := dep_all fun x hx => (h1 x hx).2; omega⟩
  | k + 1, .tup ds, h => by
    have h : ∀ d ∈ ds, Pln k d := h
    have h1 := pys_all (P := fun x => x.canLay0 = true ∧ x.depth ≤ k) fun d hd => (h d hd).lay
    exact ⟨by rw [D.py, PyData.canLay0]; exact lay_all fun x hx => (h1 x hx).1, by rw [D.py, PyData.depth]; have := dep_all fun x hx => (h1 x hx).2; omega⟩
theorem Pln.ok {k : Nat} {d : D} (h : Pln k d) (hk : k ≤ 64) : d.ok = true := by
  show (d.py.canLay0 && decide (d.py.depth ≤ 64)) = true
  rw [h.lay.1, Bool.true_and]
  exact decide_eq_true (Nat.le_trans h.lay.2 hk)
theorem Pln.up {k : Nat} : ∀ {j : Nat} {d : D}, Pln j d → j ≤ k → Pln k d := by
  induction k with
  | zero =>
    intro j d h hj
    have : j = 0 := by omega
    rw [← this]
    exact h
  | succ k ih =>
    intro j d h hj
    cases d with
    | int i => exact trivial
    | lst ds =>
      cases j with
      | zero => exact h.elim
      | succ j => exact fun x hx => ih (h x hx) (by omega)
    | tup ds =>
      cases j with
      | zero => exact h.elim
      | succ j => exact fun x hx => ih (h x hx) (by omega)
    | _ => cases j <;> exact h.elim
theorem eqvAll_self : ∀ {ds : List D}, (∀ d ∈ ds, d.eqv d = true) → PyData.eqvAll (D.pys ds) (D.pys ds) = true
  | [], _ => by simp [D.pys, PyData.eqvAll]
  | d :: ds, h => by
    rw [D.pys, PyData.eqvAll]
    have h1 : PyData.eqv d.py d.py = true := h d (by simp)
    rw [h1, eqvAll_self fun y hy => h y (by simp [hy])]
    rfl
theorem Pln.eqv : ∀ {k : Nat} {d : D}, Pln k d → d.eqv d = true
  | 0, .int i, _ => by show PyData.eqv (.int i) (.int i) = true; simp [PyData.eqv]
  | k + 1, .int i, _ => by show PyData.eqv (.int i) (.int i) = true; simp [PyData.eqv]
  | k + 1, .lst ds, h => by
    have h : ∀ d ∈ ds, Pln k d := h
    show PyData.eqv (.list (D.pys ds)) (.list (D.pys ds)) = true
    rw [PyData.eqv]
    exact eqvAll_self fun d hd => (h d hd).eqv
  | k + 1, .tup ds, h => by
    have h : ∀ d ∈ ds, Pln k d := h
    show PyData.eqv (.tuple (D.pys ds)) (.tuple (D.pys ds)) = true
    rw [PyData.eqv]
    exact eqvAll_self fun d hd => (h d hd).eqv
/-! ### numbers in a list or a tuple -/
def sq (t : Bool) (l : List Int) : D := if t then .tup (l.map .int) else .lst (l.map .int)
theorem sq_pln (t : Bool) (l : List Int) : Pln 1 (sq t l) := by
  cases t <;>
  · intro d hd
    obtain ⟨i, _, rfl⟩ := List.mem_map.mp hd
    exact trivial
theorem sq_ds (t : Bool) (l : List Int) : seqD? (sq t l) = some (l.map .int) := by cases t <;> rfl
theorem in_ints (w : Int) : ∀ l : List Int, ((l.map D.int).any fun z => z.eqv (.int w)) = decide (w ∈ l)
  | [] => by simp
  | x :: l => by
    show ((D.int x).eqv (.int w) || (l.map D.int).any fun z => z.eqv (.int w)) = _
    rw [in_ints w l]
    show (decide (x = w) || decide (w ∈ l)) = _
    by_cases h : x = w
    · subst h
      simp
    · have h' : ¬ w = x := fun e => h e.symm
      simp [h, h', List.mem_cons]
theorem in_sq (t : Bool) (l : List Int) (w : Int) : dInQ (.int w) (sq t l) = some (.bl (decide (w ∈ l))) := by
  unfold dInQ
  rw [sq_ds, Option.bind_some, (sq_pln t l).ok (by omega), in_ints]
  rfl
theorem nin_sq (t : Bool) (l : List Int) (w : Int) : dNinQ (.int w) (sq t l) = some (.bl (!decide (w ∈ l))) := by
  unfold dNinQ
  rw [sq_ds, Option.bind_some, (sq_pln t l).ok (by omega), in_ints]
  rfl
/-! ### wires: a pair (lost, (read, swapped)) -/
structure Pr where
  lost : List Int
  rd : List Int
  sw : List Int
def ePr (t : Bool) (p : Pr) : D := .tup [sq t p.lost, .tup [sq t p.rd, sq t p.sw]]
def car (g r : Bool) (bit : Int) : Int := if g || r then (if g && r then 1 else 0) else bit
def labs (g h : Bool) (label bit : Int) : List Int := if g then (if label = 0 then [0, 1, 2] else []) else if decide (0 < label) && (decide (bit = 1) && h) then [1, 2] else [label]
def wstep (p : Pr) (k : Nat) (x : Int × Int) : List (Int × Int) := (labs (decide ((k : Int) + 1 ∈ p.lost)) (decide ((k : Int) + 1 ∈ p.sw)) x.1 x.2).map fun one => (one, car (decide ((k : Int) + 1 ∈ p.lost)) (decide ((k : Int) + 1 ∈ p.rd)) x.2)
def beh (p : Pr) (found : List (List (Int × Int))) (x : (Int × Int) × Nat) : List (List (Int × Int)) := found.flatMap fun d => (wstep p x.2 x.1).map fun y => d ++ [y]
theorem labs_len (g h : Bool) (label bit : Int) : (labs g h label bit).length ≤ 3 := by
  unfold labs
  repeat' split
  all_goals simp
theorem beh_len (p : Pr) : ∀ (xs : List ((Int × Int) × Nat)) (f : List (List (Int × Int))), (xs.foldl (beh p) f).length ≤ f.length * 3 ^ xs.length
  | [], f => by simp
  | x :: xs, f => by
    have h := beh_len p xs (beh p f x)
    have h1 : (beh p f x).length ≤ f.length * 3 := by
      unfold beh
      rw [List.length_flatMap]
      have : ∀ (f : List (List (Int × Int))), (f.map fun d => ((wstep p x.2 x.1).map fun y => d ++ [y]).length).sum ≤ f.length * 3 := by
        intro f
        induction f with
        | nil => simp
        | cons d f ih =>
          rw [List.map_cons, List.sum_cons, List.length_cons, List.length_map]
          have : (wstep p x.2 x.1).length ≤ 3 := by
            unfold wstep
            rw [List.length_map]
            exact labs_len _ _ _ _
          omega
      exact this f
    refine Nat.le_trans h ?_
    rw [List.length_cons, Nat.pow_succ]
    calc (beh p f x).length * 3 ^ xs.length ≤ (f.length * 3) * 3 ^ xs.length := Nat.mul_le_mul_right _ h1
      _ = f.length * (3 ^ xs.length * 3) := by rw [Nat.mul_assoc, Nat.mul_comm 3]
theorem dEq_int (i j : Int) : dEq (.int i) (.int j) = some (.bl (decide (i = j))) := rfl
theorem dNe_int (i j : Int) : dNe (.int i) (.int j) = some (.bl (!decide (i = j))) := rfl
theorem doors_behind_eq {t : Bool} {p : Pr} {outs : List (Int × Int)} (hn : outs.length ≤ 4) : v_doors_behind [eS outs, ePr t p] = some (.lst (((outs.zipIdx).foldl (beh p) [[]]).map eS)) := by
  show runP d_doors_behind 14 _ = _
  apply run_P
  show WP (d_doors_behind [.fz (eS outs), .fz (ePr t p), .un, .un, .un, .un, .un, .un, .un, .un, .un, .un, .un, .un]) _ _ _ _
  unfold d_doors_behind
  apply w_seq
  refine w_setT (d := ePr t p) rfl rfl ?_
  apply w_seq
  refine w_set (d := .lst ([[]].map eS)) rfl ?_
  apply w_seq
  refine w_for (xs := outs.zipIdx) (enc := fun q : (Int × Int) × Nat => .tup [.int (q.2 : Int), eS1 q.1]) (fun pre s => ∃ a b c d e f g, s = [.fz (eS outs), .fz (ePr t p), .fz (sq t p.lost), .fz (.tup [sq t p.rd, sq t p.sw]), .fz (.lst ((pre.foldl (beh p) [[]]).map eS)), a, b, c, d, e, f, g, .un, .un] ∧ (∀ r ∈ pre.foldl (beh p) [[]], r.length = pre.length)) ?_ ⟨_, _, _, _, _, _, _, rfl, by simp⟩ ?_ ?_
  · show some (enumD 0 (outs.map eS1)) = _
    rw [enumD_map, List.zipIdx_map, List.map_map]
    rfl
  · rintro pre ⟨⟨label, bit⟩, k⟩ s ⟨q, hq⟩ ⟨a, b, c, d, e, f, g, rfl, hr⟩
    have hpre : pre.length + 1 ≤ 4 := by
      have := congrArg List.length hq
      rw [List.length_zipIdx, List.length_append, List.length_cons] at this
      omega
    refine ⟨_, rfl, ?_⟩
    unfold b_doors_behind_1
    generalize hgl : decide ((k : Int) + 1 ∈ p.lost) = gl
    generalize hgr : decide ((k : Int) + 1 ∈ p.rd) = gr
    generalize hgs : decide ((k : Int) + 1 ∈ p.sw) = gs
    have il : dInQ (.int ((k : Int) + 1)) (sq t p.lost) = some (.bl gl) := by rw [in_sq, hgl]
    have ir : dInQ (.int ((k : Int) + 1)) (sq t p.rd) = some (.bl gr) := by rw [in_sq, hgr]
    have is_ : dInQ (.int ((k : Int) + 1)) (sq t p.sw) = some (.bl gs) := by rw [in_sq, hgs]
    apply w_seq
    refine w_set (d := .int ((k : Int) + 1)) rfl ?_
    apply w_seq
    refine w_set (d := .bl gl) ((op2 (a := .int ((k : Int) + 1)) (b := sq t p.lost) rfl rfl).trans il) ?_
    apply w_seq
    refine w_set (d := .int bit) rfl ?_
    apply w_seq
    refine (WP.imp (nx0 := fun s' => s' = [.fz (eS outs), .fz (ePr t p), .fz (sq t p.lost), .fz (.tup [sq t p.rd, sq t p.sw]), .fz (.lst ((pre.foldl (beh p) [[]]).map eS)), .fz (.int k), .fz (.int label), .fz (.int bit), .fz (.int ((k : Int) + 1)), .fz (.bl gl), .fz (.int (car gl gr bit)), g, .un, .un]) ?_ ?_)
    · have hr2 : ∀ z : SV, dOp dInQ (dVar 8) (dOp dIx (dVar 3) (dC (.int 0))) [.fz (eS outs), .fz (ePr t p), .fz (sq t p.lost), .fz (.tup [sq t p.rd, sq t p.sw]), .fz (.lst ((pre.foldl (beh p) [[]]).map eS)), .fz (.int k), .fz (.int label), .fz (.int bit), .fz (.int ((k : Int) + 1)), .fz (.bl gl), .fz (.int bit), z, .un, .un] = some (.bl gr) := fun z => (op2 (a := .int ((k : Int) + 1)) (b := sq t p.rd) rfl rfl).trans ir
      refine w_if (b := gl || gr) (or_b rfl (test_b (hr2 g))) ?_
      cases gl with
      | true =>
        refine w_set (d := .int (car true gr bit)) ?_ rfl
        have e1 := if_t (f := dC (.int 1)) (g := dC (.int 0)) (and_b (f := dTruth (dVar 9)) (a := true) rfl (test_b (hr2 g)))
        refine e1.trans ?_
        cases gr <;> rfl
      | false =>
        cases gr with
        | true =>
          refine w_set (d := .int (car false true bit)) ?_ rfl
          have e1 := if_t (f := dC (.int 1)) (g := dC (.int 0)) (and_b (f := dTruth (dVar 9)) (a := false) rfl (test_b (hr2 g)))
          exact e1
        | false => exact w_nx rfl
    · rintro s' rfl
      apply w_seq
      refine w_set (d := .lst [.int label]) rfl ?_
      apply w_seq
      refine (WP.imp (nx0 := fun s' => s' = [.fz (eS outs), .fz (ePr t p), .fz (sq t p.lost), .fz (.tup [sq t p.rd, sq t p.sw]), .fz (.lst ((pre.foldl (beh p) [[]]).map eS)), .fz (.int k), .fz (.int label), .fz (.int bit), .fz (.int ((k : Int) + 1)), .fz (.bl gl), .fz (.int (car gl gr bit)), .fz (.lst ((labs gl gs label bit).map .int)), .un, .un]) ?_ ?_)
      · refine w_if (b := gl) (by cases gl <;> rfl) ?_
        cases gl with
        | true =>
          refine w_set (d := .lst ((labs true gs label bit).map .int)) ?_ rfl
          refine (if_t (b := decide (label = 0)) (test_b ((op2 (a := .int label) (b := .int 0) rfl rfl).trans (dEq_int _ _)))).trans ?_
          unfold labs
          by_cases c0 : label = 0
          · rw [decide_eq_true c0, if_pos c0]
            rfl
          · rw [decide_eq_false c0, if_neg c0]
            rfl
        | false =>
          refine w_if (b := decide (0 < label) && (decide (bit = 1) && gs)) ?_ ?_
          · refine and_b (test_b ((op2 (a := .int label) (b := .int 0) rfl rfl).trans rfl)) (and_b (test_b ((op2 (a := .int bit) (b := .int 1) rfl rfl).trans (dEq_int _ _))) (test_b ((op2 (a := .int ((k : Int) + 1)) (b := sq t p.sw) rfl rfl).trans is_)))
          · have el : labs false gs label bit = if (decide (0 < label) && (decide (bit = 1) && gs)) = true then [1, 2] else [label] := rfl
            rw [el]
            generalize (decide (0 < label) && (decide (bit = 1) && gs)) = cc
            cases cc with
            | true =>
              rw [if_pos rfl]
              exact w_set (d := .lst [.int 1, .int 2]) rfl rfl
            | false => exact w_nx rfl
      · rintro s' rfl
        refine w_set (d := .lst ((beh p (pre.foldl (beh p) [[]]) ((label, bit), k)).map eS)) ?_ ⟨_, _, _, _, _, _, _, by rw [List.foldl_append]; rfl, ?_⟩
        · have hb : ((beh p (pre.foldl (beh p) [[]]) ((label, bit), k)).map eS) = ((pre.foldl (beh p) [[]]).flatMap fun r => (labs gl gs label bit).map fun one => eS (r ++ [(one, car gl gr bit)])) := by
            unfold beh wstep
            rw [List.map_flatMap]
            simp only [List.map_map, hgl, hgr, hgs]
            rfl
          rw [hb]
          refine frL (lc2_of (enc := eS) (xs := pre.foldl (beh p) [[]]) (g := fun r => (labs gl gs label bit).map fun one => eS (r ++ [(one, car gl gr bit)])) rfl (fun r hr1 => ⟨_, rfl, lcIn_map (enc := D.int) (xs := labs gl gs label bit) rfl fun a ha => ⟨_, rfl, ?_⟩⟩) ?_)
          · refine (op2 (a := eS r) (b := .tup [eS1 (a, car gl gr bit)]) rfl (tup1 (tup2 rfl rfl))).trans (eS_snoc ?_)
            have := hr r hr1
            omega
          · rw [← hb, List.length_map]
            have h1 := beh_len p (pre ++ [((label, bit), k)]) [[]]
            rw [List.foldl_append] at h1
            have h2 : (beh p (pre.foldl (beh p) [[]]) ((label, bit), k)).length ≤ 1 * 3 ^ (pre.length + 1) := by
              rw [List.length_append] at h1
              exact h1
            have h3 : 3 ^ (pre.length + 1) ≤ 3 ^ 4 := Nat.pow_le_pow_right (by omega) hpre
            have := line
            omega
        · rw [List.foldl_append]
          intro r hr1
          have hr1 : r ∈ beh p (pre.foldl (beh p) [[]]) ((label, bit), k) := hr1
          unfold beh at hr1
          obtain ⟨u, hu, h⟩ := List.mem_flatMap.mp hr1
          obtain ⟨y, _, rfl⟩ := List.mem_map.mp h
          rw [List.length_append, List.length_append, hr u hu]
          rfl
  · rintro s ⟨a, b, c, d, e, f, g, rfl, _⟩
    exact w_ret (d := .lst ((outs.zipIdx.foldl (beh p) [[]]).map eS)) rfl rfl
end K37

set_option Elab.async false
set_option linter.all false
set_option maxRecDepth 100000
set_option maxHeartbeats 4000000
namespace K37
open PySem L2 My

theorem range_split {n x : Nat} {p : List Nat} (h : ∃ q, List.range n = p ++ x :: q) : x = p.length ∧ p.length < n := by
  obtain ⟨q, hq⟩ := h
  have hl := congrArg List.length hq
  rw [List.length_range, List.length_append, List.length_cons] at hl
  have h1 : p.length < n := by omega
  have h2 := congrArg (fun l => l[p.length]?) hq
  simp only [List.getElem?_range h1, List.getElem?_append_right (Nat.le_refl _), Nat.sub_self] at h2
  simp only [List.getElem?_cons_zero, Option.some.injEq] at h2
  exact ⟨h2.symm, h1⟩
def wok (p : Pr) (k : Nat) (x y : Int × Int) : Bool :=
  !(decide ((k : Int) + 1 ∈ p.lost) && !decide (x.1 = 0)) &&
  (!((!decide ((k : Int) + 1 ∈ p.lost) && !decide (x.1 = y.1)) && (decide (x.1 = 0) || (decide (y.1 = 0) || (decide (x.2 = 0) || !decide ((k : Int) + 1 ∈ p.sw))))) &&
  decide (y.2 = if decide ((k : Int) + 1 ∈ p.lost) && decide ((k : Int) + 1 ∈ p.rd) then 1 else if decide ((k : Int) + 1 ∈ p.lost) || decide ((k : Int) + 1 ∈ p.rd) then 0 else x.2))
def allowsW (p : Pr) (outs doors : List (Int × Int)) : Bool := (List.range outs.length).all fun k => wok p k (outs.getD k (0, 0)) (doors.getD k (0, 0))
theorem eS_get {l : List (Int × Int)} {k : Nat} (h : k < l.length) : dIx (eS l) (.int (k : Int)) = some (eS1 (l.getD k (0, 0))) := by
  show atI (l.map eS1) (k : Int) = _
  rw [atI_nat', List.getElem?_map, List.getElem?_eq_getElem h, List.getD_eq_getElem?_getD, List.getElem?_eq_getElem h]
  rfl
theorem len_S {s : List SV} {i : Nat} {l : List (Int × Int)} (h : dVar i s = some (eS l)) : dCallB dLen (dCons (dVar i) dNil) s = some (.int (l.length : Int)) := by
  rw [cb_eq (args1 h)]
  show some (D.int ((l.map eS1).length : Int)) = _
  rw [List.length_map]
theorem wire_allows_eq {p : Pr} {outs doors : List (Int × Int)} (hd : doors.length = outs.length) (hn : outs.length ≤ 100) : v__law_e_wire_allows [ePr false p, eS outs, eS doors] = some (.bl (allowsW p outs doors)) := by
  show runP d__law_e_wire_allows 12 _ = _
  apply run_P
  show WP (d__law_e_wire_allows [.fz (ePr false p), .fz (eS outs), .fz (eS doors), .un, .un, .un, .un, .un, .un, .un, .un, .un]) _ _ _ _
  unfold d__law_e_wire_allows
  apply w_seq
  refine w_setT (d := ePr false p) rfl rfl ?_
  apply w_seq
  refine w_for (xs := List.range outs.length) (enc := fun i : Nat => D.int i) (fun pre s => ∃ a b c d e f g, s = [.fz (ePr false p), .fz (eS outs), .fz (eS doors), .fz (sq false p.lost), .fz (.tup [sq false p.rd, sq false p.sw]), a, b, c, d, e, f, g] ∧ ∀ k, k < pre.length → wok p k (outs.getD k (0, 0)) (doors.getD k (0, 0)) = true) ?_ ⟨_, _, _, _, _, _, _, rfl, by simp⟩ ?_ ?_
  · exact range1_eq (args1 (len_S rfl)) (by omega)
  · rintro pre k s hq ⟨a, b, c, d, e, f, g, rfl, hall⟩
    obtain ⟨rfl, hk⟩ := range_split hq
    refine ⟨_, rfl, ?_⟩
    unfold b__law_e_wire_allows_1
    generalize hpk : pre.length = k at hk hall ⊢
    have fail : wok p k (outs.getD k (0, 0)) (doors.getD k (0, 0)) = false → (OD.fz (.bl false)).toD = .bl (allowsW p outs doors) := fun h => by
      show D.bl false = _
      congr 1
      symm
      unfold allowsW
      rw [List.all_eq_false]
      exact ⟨k, List.mem_range.mpr hk, by rw [h]; decide⟩
    have okk : wok p k (outs.getD k (0, 0)) (doors.getD k (0, 0)) = true → ∀ j, j < (pre ++ [k]).length → wok p j (outs.getD j (0, 0)) (doors.getD j (0, 0)) = true := fun h j hj => by
      rw [List.length_append, hpk] at hj
      by_cases e : j = k
      · rw [e]
        exact h
      · exact hall j (by have : j < k + 1 := hj; omega)
    have go := eS_get (l := outs) hk
    have gd := eS_get (l := doors) (k := k) (by omega)
    unfold wok at fail
    generalize hwok : wok p k (outs.getD k (0, 0)) (doors.getD k (0, 0)) = ww at okk
    unfold wok at hwok
    generalize hx : outs.getD k (0, 0) = x at *
    generalize hy : doors.getD k (0, 0) = y at *
    obtain ⟨label, bit⟩ := x
    obtain ⟨other, carried⟩ := y
    have il : dInQ (.int ((k : Int) + 1)) (sq false p.lost) = some (.bl (decide ((k : Int) + 1 ∈ p.lost))) := in_sq _ _ _
    have ir : dInQ (.int ((k : Int) + 1)) (sq false p.rd) = some (.bl (decide ((k : Int) + 1 ∈ p.rd))) := in_sq _ _ _
    have is_ : dNinQ (.int ((k : Int) + 1)) (sq false p.sw) = some (.bl (!decide ((k : Int) + 1 ∈ p.sw))) := nin_sq _ _ _
    generalize decide ((k : Int) + 1 ∈ p.lost) = gl at *
    generalize decide ((k : Int) + 1 ∈ p.rd) = gr at *
    generalize decide ((k : Int) + 1 ∈ p.sw) = gs at *
    simp only at fail hwok
    apply w_seq
    refine w_setT (d := eS1 (label, bit)) ((op2 (a := eS outs) (b := .int (k : Int)) rfl rfl).trans go) rfl ?_
    apply w_seq
    refine w_setT (d := eS1 (other, carried)) ((op2 (a := eS doors) (b := .int (k : Int)) rfl rfl).trans gd) rfl ?_
    apply w_seq
    refine w_set (d := .bl gl) ((op2 (a := .int ((k : Int) + 1)) (b := sq false p.lost) rfl rfl).trans il) ?_
    apply w_seq
    refine w_if (b := gl && !decide (label = 0)) (and_b rfl (test_b ((op2 (a := .int label) (b := .int 0) rfl rfl).trans (dNe_int _ _)))) ?_
    cases h1 : (gl && !decide (label = 0)) with
    | true =>
      rw [if_pos rfl]
      refine w_ret (d := .bl false) rfl (fail ?_)
      rw [h1]
      rfl
    | false =>
    rw [if_neg (by decide)]
    rw [h1] at hwok fail
    apply w_nx
    apply w_seq
    refine WP.imp (nx0 := fun s' => s' = [.fz (ePr false p), .fz (eS outs), .fz (eS doors), .fz (sq false p.lost), .fz (.tup [sq false p.rd, sq false p.sw]), .fz (.int k), .fz (.int label), .fz (.int bit), .fz (.int other), .fz (.int carried), .fz (.bl gl), g] ∧ ((!gl && !decide (label = other)) && (decide (label = 0) || (decide (other = 0) || (decide (bit = 0) || !gs)))) = false) ?_ ?_
    · refine w_if (b := !gl && !decide (label = other)) (and_b (not_b rfl) (test_b ((op2 (a := .int label) (b := .int other) rfl rfl).trans (dNe_int _ _)))) ?_
      cases h2 : (!gl && !decide (label = other)) with
      | true =>
        rw [if_pos rfl]
        refine w_if (b := decide (label = 0) || (decide (other = 0) || (decide (bit = 0) || !gs))) (or_b (test_b ((op2 (a := .int label) (b := .int 0) rfl rfl).trans (dEq_int _ _))) (or_b (test_b ((op2 (a := .int other) (b := .int 0) rfl rfl).trans (dEq_int _ _))) (or_b (test_b ((op2 (a := .int bit) (b := .int 0) rfl rfl).trans (dEq_int _ _))) (test_b ((op2 (a := .int ((k : Int) + 1)) (b := sq false p.sw) rfl rfl).trans is_))))) ?_
        cases h3 : (decide (label = 0) || (decide (other = 0) || (decide (bit = 0) || !gs))) with
        | true =>
          rw [if_pos rfl]
          refine w_ret (d := .bl false) rfl (fail ?_)
          rw [h2, h3]
          rfl
        | false =>
          rw [if_neg (by decide)]
          exact w_nx ⟨rfl, rfl⟩
      | false =>
        rw [if_neg (by decide)]
        exact w_nx ⟨rfl, rfl⟩
    · rintro s' ⟨rfl, h2⟩
      rw [h2] at hwok fail
      apply w_seq
      refine WP.imp (nx0 := fun s' => s' = [.fz (ePr false p), .fz (eS outs), .fz (eS doors), .fz (sq false p.lost), .fz (.tup [sq false p.rd, sq false p.sw]), .fz (.int k), .fz (.int label), .fz (.int bit), .fz (.int other), .fz (.int carried), .fz (.bl gl), .fz (.int (if gl && gr then 1 else if gl || gr then 0 else bit))]) ?_ ?_
      · have hr2 : dTest (dOp dInQ (dOp dAddI (dVar 5) (dC (.int 1))) (dOp dIx (dVar 4) (dC (.int 0)))) [.fz (ePr false p), .fz (eS outs), .fz (eS doors), .fz (sq false p.lost), .fz (.tup [sq false p.rd, sq false p.sw]), .fz (.int k), .fz (.int label), .fz (.int bit), .fz (.int other), .fz (.int carried), .fz (.bl gl), g] = some gr := test_b ((op2 (a := .int ((k : Int) + 1)) (b := sq false p.rd) rfl rfl).trans ir)
        refine w_if (b := gl && gr) (and_b rfl hr2) ?_
        cases h3 : (gl && gr) with
        | true =>
          rw [if_pos rfl]
          exact w_set (d := .int 1) rfl rfl
        | false =>
          rw [if_neg (by decide)]
          refine w_if (b := gl || gr) (or_b rfl hr2) ?_
          cases h4 : (gl || gr) with
          | true =>
            rw [if_pos rfl]
            exact w_set (d := .int 0) rfl rfl
          | false =>
            rw [if_neg (by decide)]
            exact w_set (d := .int bit) rfl rfl
      · rintro s' rfl
        generalize (if gl && gr then (1 : Int) else if gl || gr then 0 else bit) = due at *
        refine w_if (b := !decide (carried = due)) (test_b ((op2 (a := .int carried) (b := .int due) rfl rfl).trans (dNe_int _ _))) ?_
        by_cases c : carried = due
        · rw [decide_eq_true c]
          rw [decide_eq_true c] at hwok
          exact w_nx ⟨_, _, _, _, _, _, _, rfl, okk hwok.symm⟩
        · rw [decide_eq_false c]
          rw [decide_eq_false c] at fail
          exact w_ret (d := .bl false) rfl (fail rfl)
  · rintro s ⟨a, b, c, d, e, f, g, rfl, hall⟩
    refine w_ret (d := .bl true) rfl ?_
    show D.bl true = _
    congr 1
    symm
    unfold allowsW
    rw [List.all_eq_true]
    intro k hk
    exact hall k (by rw [List.length_range]; exact List.mem_range.mp hk)
/-- one wire: what may stand behind -/
def Lab (x : Int × Int) : Prop := (x.1 = 0 ∨ x.1 = 1 ∨ x.1 = 2) ∧ (x.2 = 0 ∨ x.2 = 1)
theorem wok_iff {p : Pr} {k : Nat} {x y : Int × Int} (hx : Lab x) (hy : Lab y) : wok p k x y = true ↔ y ∈ wstep p k x := by
  obtain ⟨a, b⟩ := x
  obtain ⟨c, d⟩ := y
  unfold wok wstep labs car
  simp only
  generalize decide ((k : Int) + 1 ∈ p.lost) = gl
  generalize decide ((k : Int) + 1 ∈ p.rd) = gr
  generalize decide ((k : Int) + 1 ∈ p.sw) = gs
  obtain ⟨ha, hb⟩ := hx
  obtain ⟨hc, hd⟩ := hy
  simp only at ha hb hc hd
  rcases ha with rfl | rfl | rfl <;> rcases hb with rfl | rfl <;> rcases hc with rfl | rfl | rfl <;> rcases hd with rfl | rfl <;> cases gl <;> cases gr <;> cases gs <;> decide
end K37

set_option Elab.async false
set_option linter.all false
set_option maxRecDepth 100000
set_option maxHeartbeats 4000000
namespace K37
open PySem L2 My

def S6 : List (Int × Int) := [(0, 0), (0, 1), (1, 0), (1, 1), (2, 0), (2, 1)]
theorem S6_lab {x : Int × Int} (h : x ∈ S6) : Lab x := by
  unfold S6 at h
  simp only [List.mem_cons, List.not_mem_nil, or_false] at h
  rcases h with rfl | rfl | rfl | rfl | rfl | rfl <;> exact ⟨by decide, by decide⟩
theorem lab_S6 {x : Int × Int} (h : Lab x) : x ∈ S6 := by
  obtain ⟨a, b⟩ := x
  obtain ⟨ha, hb⟩ := h
  simp only at ha hb
  rcases ha with rfl | rfl | rfl <;> rcases hb with rfl | rfl <;> decide
theorem states_eq {n : Nat} (hn : n ≤ 3) : v__law_e_states [.int n] = some (.lst ((words S6 n).map eS)) := by
  show runP d__law_e_states 7 _ = _
  apply run_P
  show WP (d__law_e_states [.fz (.int n), .un, .un, .un, .un, .un, .un]) _ _ _ _
  unfold d__law_e_states
  apply w_seq
  refine w_set (d := .lst ((words S6 0).map eS)) rfl ?_
  apply w_seq
  refine w_for (xs := List.range n) (enc := fun i : Nat => D.int i) (fun pre s => ∃ a b c d, s = [.fz (.int n), .fz (.lst ((words S6 pre.length).map eS)), a, b, c, d, .un]) (range1_eq rfl (by omega)) ⟨_, _, _, _, rfl⟩ ?_ ?_
  · rintro pre k s hq ⟨a, b, c, d, rfl⟩
    obtain ⟨rfl, hk⟩ := range_split hq
    refine ⟨_, rfl, ?_⟩
    unfold b__law_e_states_3
    apply w_seq
    refine w_set (d := .lst []) rfl ?_
    apply w_seq
    refine w_for (xs := words S6 pre.length) (enc := eS) (fun p s => ∃ c d, s = [.fz (.int n), .fz (.lst ((words S6 pre.length).map eS)), .fz (.int pre.length), .fz (.lst ((p.flatMap fun r => S6.map fun x => r ++ [x]).map eS)), c, d, .un]) rfl ⟨_, _, rfl⟩ ?_ ?_
    · rintro p r s ⟨q2, hq2⟩ ⟨c, d, rfl⟩
      refine ⟨_, rfl, ?_⟩
      unfold b__law_e_states_2
      have hr : r.length = pre.length := (mem_words.mp (by rw [hq2]; simp)).1
      have hp : p.length ≤ 216 := by
        have h1 := congrArg List.length hq2
        rw [words_len, List.length_append] at h1
        have h2 : S6.length ^ pre.length ≤ 6 ^ 3 := Nat.pow_le_pow_right (by decide) (by omega)
        omega
      have hfl : (p.flatMap fun r => S6.map fun x => r ++ [x]).length = p.length * 6 := by
        rw [List.length_flatMap]
        simp only [List.length_map]
        rw [List.map_const', List.sum_replicate_nat]
        rfl
      refine w_for (xs := List.range 3) (enc := fun i : Nat => D.int i) (fun pl s => ∃ d, s = [.fz (.int n), .fz (.lst ((words S6 pre.length).map eS)), .fz (.int pre.length), .fz (.lst (((p.flatMap fun r => S6.map fun x => r ++ [x]) ++ (pl.flatMap fun l : Nat => [r ++ [((l : Int), 0)], r ++ [((l : Int), 1)]])).map eS)), .fz (eS r), d, .un]) (range1_eq rfl (by omega)) ⟨d, by simp⟩ ?_ ?_
      · rintro pl l s hql ⟨d, rfl⟩
        obtain ⟨rfl, hl⟩ := range_split hql
        refine ⟨_, rfl, ?_⟩
        unfold b__law_e_states_1
        have hpl : (pl.flatMap fun l : Nat => [r ++ [((l : Int), (0 : Int))], r ++ [((l : Int), 1)]]).length = pl.length * 2 := by
          rw [List.length_flatMap]
          simp only [List.length_cons, List.length_nil]
          rw [List.map_const', List.sum_replicate_nat]
        refine w_set (d := .lst (((p.flatMap fun r => S6.map fun x => r ++ [x]) ++ ((pl ++ [pl.length]).flatMap fun l : Nat => [r ++ [((l : Int), 0)], r ++ [((l : Int), 1)]])).map eS)) ?_ ⟨_, rfl⟩
        have e1 : ((p.flatMap fun r => S6.map fun x => r ++ [x]) ++ ((pl ++ [pl.length]).flatMap fun l : Nat => [r ++ [((l : Int), 0)], r ++ [((l : Int), 1)]])).map eS = ((p.flatMap fun r => S6.map fun x => r ++ [x]) ++ (pl.flatMap fun l : Nat => [r ++ [((l : Int), 0)], r ++ [((l : Int), 1)]])).map eS ++ (List.range 2).map fun b : Nat => eS (r ++ [((pl.length : Int), (b : Int))]) := by
          rw [List.flatMap_append, ← List.append_assoc, List.map_append]
          rfl
        rw [e1]
        refine frL (cat_eq (xs := ((p.flatMap fun r => S6.map fun x => r ++ [x]) ++ (pl.flatMap fun l : Nat => [r ++ [((l : Int), 0)], r ++ [((l : Int), 1)]])).map eS) rfl (frL (lc_map (enc := fun i : Nat => D.int i) (xs := List.range 2) (g := fun b : Nat => eS (r ++ [((pl.length : Int), (b : Int))])) (range1_eq rfl (by omega)) (by have := line; show 2 ≤ sizeLine; omega) fun x hx => ⟨_, rfl, ?_⟩)) ?_)
        · exact (op2 (a := eS r) (b := .tup [eS1 ((pl.length : Int), (x : Int))]) rfl (tup1 (tup2 rfl rfl))).trans (eS_snoc (by omega))
        · rw [List.length_map, List.length_append, hfl, hpl, List.length_map]
          have := line
          show p.length * 6 + pl.length * 2 + 2 ≤ sizeLine
          omega
      · rintro s ⟨d, rfl⟩
        refine ⟨_, _, by rw [List.flatMap_append]; rfl⟩
    · rintro s ⟨c, d, rfl⟩
      exact w_set (d := .lst ((words S6 (pre.length + 1)).map eS)) rfl ⟨_, _, _, _, by rw [List.length_append]; rfl⟩
  · rintro s ⟨a, b, c, d, rfl⟩
    refine w_ret (d := .lst ((words S6 n).map eS)) ?_ rfl
    rw [List.length_range]
    rfl
/-! ### what stands behind -/
def AllIn (p : Pr) : List ((Int × Int) × Nat) → List (Int × Int) → Prop
  | [], [] => True
  | x :: xs, y :: ys => y ∈ wstep p x.2 x.1 ∧ AllIn p xs ys
  | _, _ => False
theorem mem_beh {p : Pr} : ∀ {xs : List ((Int × Int) × Nat)} {f : List (List (Int × Int))} {d : List (Int × Int)}, d ∈ xs.foldl (beh p) f ↔ ∃ u ∈ f, ∃ v, d = u ++ v ∧ AllIn p xs v
  | [], f, d => by
    constructor
    · intro h
      exact ⟨d, h, [], by simp, trivial⟩
    · rintro ⟨u, hu, v, rfl, h⟩
      cases v with
      | nil => simpa using hu
      | cons y ys => exact h.elim
  | x :: xs, f, d => by
    rw [List.foldl_cons, mem_beh]
    constructor
    · rintro ⟨u, hu, v, rfl, h⟩
      unfold beh at hu
      obtain ⟨w, hw, h2⟩ := List.mem_flatMap.mp hu
      obtain ⟨y, hy, rfl⟩ := List.mem_map.mp h2
      exact ⟨w, hw, y :: v, by simp, hy, h⟩
    · rintro ⟨u, hu, v, rfl, h⟩
      cases v with
      | nil => exact h.elim
      | cons y ys =>
        refine ⟨u ++ [y], ?_, ys, by simp, h.2⟩
        unfold beh
        exact List.mem_flatMap.mpr ⟨u, hu, List.mem_map.mpr ⟨y, h.1, rfl⟩⟩
theorem allIn_iff {p : Pr} : ∀ {outs doors : List (Int × Int)} {n : Nat}, AllIn p (outs.zipIdx n) doors ↔ doors.length = outs.length ∧ ∀ k, k < outs.length → doors.getD k (0, 0) ∈ wstep p (n + k) (outs.getD k (0, 0))
  | [], doors, n => by
    cases doors with
    | nil => exact ⟨fun _ => ⟨rfl, fun k h => absurd h (by simp)⟩, fun _ => trivial⟩
    | cons y ys => exact ⟨fun h => h.elim, fun h => absurd h.1 (by simp)⟩
  | x :: outs, doors, n => by
    cases doors with
    | nil => exact ⟨fun h => h.elim, fun h => absurd h.1 (by simp)⟩
    | cons y ys =>
      show (y ∈ wstep p n x ∧ AllIn p (outs.zipIdx (n + 1)) ys) ↔ _
      rw [allIn_iff]
      constructor
      · rintro ⟨h1, h2, h3⟩
        refine ⟨by simp [h2], fun k hk => ?_⟩
        cases k with
        | zero => exact h1
        | succ k =>
          have := h3 k (by simpa using hk)
          rw [show n + (k + 1) = n + 1 + k from by omega]
          exact this
      · rintro ⟨h1, h2⟩
        refine ⟨h2 0 (by simp), by simpa using h1, fun k hk => ?_⟩
        have := h2 (k + 1) (by simpa using hk)
        rw [show n + (k + 1) = n + 1 + k from by omega] at this
        exact this
def behind (p : Pr) (outs : List (Int × Int)) : List (List (Int × Int)) := outs.zipIdx.foldl (beh p) [[]]
theorem mem_behind {p : Pr} {outs doors : List (Int × Int)} : doors ∈ behind p outs ↔ doors.length = outs.length ∧ ∀ k, k < outs.length → doors.getD k (0, 0) ∈ wstep p k (outs.getD k (0, 0)) := by
  unfold behind
  rw [mem_beh]
  have e := allIn_iff (p := p) (outs := outs) (doors := doors) (n := 0)
  simp only [Nat.zero_add] at e
  rw [← e]
  constructor
  · rintro ⟨u, hu, v, rfl, h⟩
    have : u = [] := by simpa using hu
    subst this
    exact h
  · exact fun h => ⟨[], by simp, doors, by simp, h⟩
theorem wstep_lab {p : Pr} {k : Nat} {x y : Int × Int} (hx : Lab x) (h : y ∈ wstep p k x) : Lab y := by
  unfold wstep at h
  obtain ⟨one, h1, rfl⟩ := List.mem_map.mp h
  obtain ⟨hx1, hx2⟩ := hx
  refine ⟨?_, ?_⟩
  · unfold labs at h1
    repeat' split at h1
    all_goals simp only [List.mem_cons, List.not_mem_nil, or_false] at h1
    · simpa using h1
    · rcases h1 with rfl | rfl
      · exact .inr (.inl rfl)
      · exact .inr (.inr rfl)
    · rw [h1]
      exact hx1
  · unfold car
    simp only
    repeat' split
    · exact .inr rfl
    · exact .inl rfl
    · exact hx2
theorem getD_mem {α : Type} {l : List α} {k : Nat} {z : α} (h : k < l.length) : l.getD k z ∈ l := by
  rw [List.getD_eq_getElem?_getD, List.getElem?_eq_getElem h]
  exact List.getElem_mem h
theorem mem_getD {α : Type} {l : List α} {x : α} (z : α) (h : x ∈ l) : ∃ k, k < l.length ∧ l.getD k z = x := by
  obtain ⟨k, hk, e⟩ := List.getElem_of_mem h
  refine ⟨k, hk, ?_⟩
  rw [List.getD_eq_getElem?_getD, List.getElem?_eq_getElem hk, ← e]
  rfl
/-- of states, one stands behind the other exactly where the wires allow it -/
theorem behind_iff {p : Pr} {n : Nat} {outs doors : List (Int × Int)} (ho : outs ∈ words S6 n) : doors ∈ behind p outs ↔ doors ∈ words S6 n ∧ allowsW p outs doors = true := by
  obtain ⟨ho1, ho2⟩ := mem_words.mp ho
  rw [mem_behind, mem_words]
  unfold allowsW
  rw [List.all_eq_true]
  constructor
  · rintro ⟨h1, h2⟩
    have h3 : ∀ x ∈ doors, x ∈ S6 := fun x hx => by
      obtain ⟨k, hk, rfl⟩ := mem_getD (0, 0) hx
      exact lab_S6 (wstep_lab (S6_lab (ho2 _ (getD_mem (by omega)))) (h2 k (by omega)))
    refine ⟨⟨by omega, h3⟩, fun k hk => ?_⟩
    have hk := List.mem_range.mp hk
    exact (wok_iff (S6_lab (ho2 _ (getD_mem hk))) (S6_lab (h3 _ (getD_mem (by omega))))).mpr (h2 k hk)
  · rintro ⟨⟨h1, h3⟩, h2⟩
    refine ⟨by omega, fun k hk => ?_⟩
    exact (wok_iff (S6_lab (ho2 _ (getD_mem hk))) (S6_lab (h3 _ (getD_mem (by omega))))).mp (h2 k (List.mem_range.mpr hk))
end K37

set_option Elab.async false
set_option linter.all false
set_option maxRecDepth 100000
set_option maxHeartbeats 4000000
namespace K37
open PySem PySem.W L2 My

/-! ### sorted: what is the same list in strict order -/
theorem pw_tri {α : Type} {R : α → α → Prop} : ∀ {l : List α}, l.Pairwise R → ∀ a ∈ l, ∀ b ∈ l, a = b ∨ R a b ∨ R b a
  | [], _, a, ha, _, _ => absurd ha (by simp)
  | x :: l, h, a, ha, b, hb => by
    obtain ⟨h1, h2⟩ := List.pairwise_cons.mp h
    rcases List.mem_cons.mp ha with e1 | ha2
    · rcases List.mem_cons.mp hb with e | hb2
      · exact .inl (e1.trans e.symm)
      · exact .inr (.inl (by rw [e1]; exact h1 b hb2))
    · rcases List.mem_cons.mp hb with e | hb2
      · exact .inr (.inr (by rw [e]; exact h1 a ha2))
      · exact pw_tri h2 a ha2 b hb2
def Lt (a b : D) : Prop := dataLt a.py b.py = true
theorem sorted_to {ds due : List D} (hp : ds.Perm due) (hlt : due.Pairwise Lt) (ok : sortOk ds = true) : dSorted [.lst ds] = some (oL due) := by
  show (if sortOk ds = true then some (oL (ds.mergeSort (dataLe false D.py))) else none) = _
  rw [if_pos ok]
  congr 2
  have tot := PySem.W.sortLe_total (PyProof.Rows.listOrd PyProof.Rows.itemOrd) false (fun b : D => keyToks b.py)
  have h1 : (ds.mergeSort (dataLe false D.py)).Pairwise (fun a b => dataLe false D.py a b = true) := List.pairwise_mergeSort tot.trans (fun a b => by
    rcases tot.total a b with h | h
    · show (dataLe false D.py a b || dataLe false D.py b a) = true
      rw [show dataLe false D.py a b = true from h]
      rfl
    · show (dataLe false D.py a b || dataLe false D.py b a) = true
      rw [show dataLe false D.py b a = true from h, Bool.or_true]) ds
  have le_of : ∀ {a b : D}, Lt a b → dataLe false D.py a b = true ∧ dataLe false D.py b a = false := fun {a b} h => by
    have e : ∀ x y : D, dataLe false D.py x y = !(PyProof.Rows.lexLt PyProof.Rows.itemOrd (keyToks y.py) (keyToks x.py)) := fun _ _ => rfl
    have h' : PyProof.Rows.lexLt PyProof.Rows.itemOrd (keyToks a.py) (keyToks b.py) = true := h
    refine ⟨?_, by rw [e, h']; rfl⟩
    rw [e]
    cases c : PyProof.Rows.lexLt PyProof.Rows.itemOrd (keyToks b.py) (keyToks a.py) with
    | false => rfl
    | true =>
      have := PyProof.Rows.lex_trans _ _ _ h' c
      rw [PyProof.Rows.lex_irrefl] at this
      exact absurd this (by decide)
  have h2 : due.Pairwise (fun a b => dataLe false D.py a b = true) := hlt.imp fun h => (le_of h).1
  have hpm : (ds.mergeSort (dataLe false D.py)).Perm due := (List.mergeSort_perm ds _).trans hp
  refine List.Perm.eq_of_pairwise (fun a b ha hb h3 h4 => ?_) h1 h2 hpm
  rcases pw_tri hlt a (hpm.subset ha) b hb with e | e | e
  · exact e
  · rw [(le_of e).2] at h4
    cases h4
  · rw [(le_of e).2] at h3
    cases h3
/-! ### the order of the signs -/
abbrev Tok' := Int ⊕ List Nat
def Lx (p q : List Tok') : Prop := ∀ u v, PyProof.Rows.lexLt PyProof.Rows.itemOrd (p ++ u) (q ++ v) = true
theorem Lx.pre {p q : List Tok'} (c : List Tok') (h : Lx p q) : Lx (c ++ p) (c ++ q) := fun u v => by
  rw [List.append_assoc, List.append_assoc, lex_pre]
  exact h u v
theorem Lx.app {p q : List Tok'} (r t : List Tok') (h : Lx p q) : Lx (p ++ r) (q ++ t) := fun u v => by
  rw [List.append_assoc, List.append_assoc]
  exact h _ _
theorem Lx.at {a b : Int} (h : a < b) (r t : List Tok') : Lx (.inl a :: r) (.inl b :: t) := fun u v => by
  have hne : (Sum.inl a : Tok') ≠ .inl b := fun e => by
    have := Sum.inl.inj e
    omega
  exact (PyProof.Rows.lex_diff (O := PyProof.Rows.itemOrd) hne).trans (decide_eq_true h)
def t1 (x : Int × Int) : List Tok' := [.inl 1, .inl 1, .inl x.1, .inl 1, .inl x.2, .inl 0]
def tk (l : List (Int × Int)) : List Tok' := l.flatMap t1
def tP (x : List (Int × Int) × List (Int × Int)) : List Tok' := .inl 1 :: ((tk x.1 ++ [.inl 0]) ++ (.inl 1 :: ((tk x.2 ++ [.inl 0]) ++ [.inl 0])))
theorem toks_S1 (x : Int × Int) : (.inl 1 :: keyToks (eS1 x).py : List Tok') = t1 x := rfl
theorem toks_S : ∀ l : List (Int × Int), keyToksAll (D.pys (l.map eS1)) = tk l ++ [.inl 0]
  | [] => rfl
  | x :: l => by
    show Sum.inl 1 :: (keyToks (eS1 x).py ++ keyToksAll (D.pys (l.map eS1))) = t1 x ++ tk l ++ [.inl 0]
    rw [toks_S l, ← toks_S1, List.append_assoc]
    rfl
theorem toks_P (x : List (Int × Int) × List (Int × Int)) : keyToks (eP x).py = tP x := by
  show Sum.inl 1 :: (keyToksAll (D.pys (x.1.map eS1)) ++ Sum.inl 1 :: (keyToksAll (D.pys (x.2.map eS1)) ++ [.inl 0])) = _
  rw [toks_S, toks_S]
  rfl
def Lw (a b : Int × Int) : Prop := a.1 < b.1 ∨ a.1 = b.1 ∧ a.2 < b.2
theorem Lw.lx {a b : Int × Int} (h : Lw a b) : Lx (t1 a) (t1 b) := by
  obtain ⟨a1, a2⟩ := a
  obtain ⟨b1, b2⟩ := b
  rcases h with h | ⟨h, h2⟩
  · exact Lx.pre [.inl 1, .inl 1] (Lx.at h _ _)
  · simp only at h h2
    subst h
    exact Lx.pre [.inl 1, .inl 1, .inl a1, .inl 1] (Lx.at h2 _ _)
theorem S6_up : S6.Pairwise Lw := by
  unfold S6
  simp only [List.pairwise_cons, List.mem_cons, List.not_mem_nil, or_false]
  simp [Lw]
theorem words_up : ∀ n, (words S6 n).Pairwise fun a b => Lx (tk a) (tk b)
  | 0 => by
    show [[]].Pairwise _
    simp
  | n + 1 => by
    show ((words S6 n).flatMap fun r => S6.map fun a => r ++ [a]).Pairwise _
    rw [List.pairwise_flatMap]
    have snoc : ∀ (r : List (Int × Int)) (a : Int × Int), tk (r ++ [a]) = tk r ++ t1 a := fun r a => by
      unfold tk
      rw [List.flatMap_append]
      simp
    refine ⟨fun r hr => ?_, (words_up n).imp fun {a b} h x hx y hy => ?_⟩
    · rw [List.pairwise_map]
      refine S6_up.imp fun {a b} h => ?_
      rw [snoc, snoc]
      exact h.lx.pre _
    · obtain ⟨u, _, rfl⟩ := List.mem_map.mp hx
      obtain ⟨v, _, rfl⟩ := List.mem_map.mp hy
      rw [snoc, snoc]
      exact h.app _ _
/-- the due list: all couples of states with the property, the first outermost -/
def couples (i o : Nat) (q : List (Int × Int) → List (Int × Int) → Bool) : List (List (Int × Int) × List (Int × Int)) := (words S6 i).flatMap fun d => ((words S6 o).filter (q d)).map fun w => (d, w)
theorem mem_couples {i o : Nat} {q : List (Int × Int) → List (Int × Int) → Bool} {x : List (Int × Int) × List (Int × Int)} : x ∈ couples i o q ↔ x.1 ∈ words S6 i ∧ x.2 ∈ words S6 o ∧ q x.1 x.2 = true := by
  unfold couples
  rw [List.mem_flatMap]
  constructor
  · rintro ⟨d, hd, h⟩
    obtain ⟨w, hw, rfl⟩ := List.mem_map.mp h
    obtain ⟨h1, h2⟩ := List.mem_filter.mp hw
    exact ⟨hd, h1, h2⟩
  · rintro ⟨h1, h2, h3⟩
    exact ⟨x.1, h1, List.mem_map.mpr ⟨x.2, List.mem_filter.mpr ⟨h2, h3⟩, rfl⟩⟩
theorem couples_up (i o : Nat) (q : List (Int × Int) → List (Int × Int) → Bool) : (couples i o q).Pairwise fun a b => Lx (tP a) (tP b) := by
  unfold couples
  rw [List.pairwise_flatMap]
  refine ⟨fun d hd => ?_, (words_up i).imp fun {a b} h x hx y hy => ?_⟩
  · rw [List.pairwise_map]
    refine ((words_up o).filter _).imp fun {a b} h => ?_
    exact Lx.pre [.inl 1] (Lx.pre (tk d ++ [.inl 0]) (Lx.pre [.inl 1] ((h.app _ _).app _ _)))
  · obtain ⟨u, _, rfl⟩ := List.mem_map.mp hx
    obtain ⟨v, _, rfl⟩ := List.mem_map.mp hy
    exact Lx.pre [.inl 1] ((h.app _ _).app _ _)
theorem lx_ne {x y : List (Int × Int) × List (Int × Int)} (h : Lx (tP x) (tP y)) : x ≠ y := fun e => by
  subst e
  have := h [] []
  rw [PyProof.Rows.lex_irrefl] at this
  cases this
theorem couples_nodup (i o : Nat) (q : List (Int × Int) → List (Int × Int) → Bool) : (couples i o q).Nodup := (couples_up i o q).imp lx_ne
theorem couples_lt (i o : Nat) (q : List (Int × Int) → List (Int × Int) → Bool) : ((couples i o q).map eP).Pairwise Lt := by
  rw [List.pairwise_map]
  refine (couples_up i o q).imp fun {a b} h => ?_
  show PyProof.Rows.lexLt PyProof.Rows.itemOrd (keyToks (eP a).py) (keyToks (eP b).py) = true
  rw [toks_P, toks_P]
  have := h [] []
  rwa [List.append_nil, List.append_nil] at this
/-! ### may be sorted -/
theorem pln_S1 (x : Int × Int) : Pln 1 (eS1 x) := fun d hd => by
  have : d = .int x.1 ∨ d = .int x.2 := by simpa using hd
  rcases this with rfl | rfl <;> exact trivial
theorem pln_S (l : List (Int × Int)) : Pln 2 (eS l) := fun d hd => by
  obtain ⟨x, _, rfl⟩ := List.mem_map.mp hd
  exact pln_S1 x
theorem pln_P (x : List (Int × Int) × List (Int × Int)) : Pln 3 (eP x) := fun d hd => by
  have : d = eS x.1 ∨ d = eS x.2 := by simpa using hd
  rcases this with rfl | rfl <;> exact pln_S _
theorem alike_S : ∀ l m : List (Int × Int), alikeAll (D.pys (l.map eS1)) (D.pys (m.map eS1)) = true
  | [], m => by cases m <;> rfl
  | x :: l, [] => rfl
  | x :: l, y :: m => by
    show (alike (eS1 x).py (eS1 y).py && alikeAll (D.pys (l.map eS1)) (D.pys (m.map eS1))) = true
    rw [alike_S l m]
    rfl
theorem alike_P (x y : List (Int × Int) × List (Int × Int)) : alike (eP x).py (eP y).py = true := by
  show (alikeAll (D.pys (x.1.map eS1)) (D.pys (y.1.map eS1)) && (alikeAll (D.pys (x.2.map eS1)) (D.pys (y.2.map eS1)) && true)) = true
  rw [alike_S, alike_S]
  rfl
theorem sortOk_P {l : List (List (Int × Int) × List (Int × Int))} (hn : l.length ≤ 100000) : sortOk (l.map eP) = true := by
  unfold sortOk
  rw [Bool.and_eq_true, Bool.and_eq_true, Bool.and_eq_true]
  refine ⟨⟨⟨?_, ?_⟩, ?_⟩, ?_⟩
  · rw [List.all_eq_true]
    intro a ha
    rw [List.all_eq_true]
    intro b hb
    obtain ⟨x, _, rfl⟩ := List.mem_map.mp ha
    obtain ⟨y, _, rfl⟩ := List.mem_map.mp hb
    exact alike_P x y
  · rw [List.all_eq_true]
    intro a ha
    obtain ⟨x, _, rfl⟩ := List.mem_map.mp ha
    rfl
  · rw [List.all_eq_true]
    intro a ha
    obtain ⟨x, _, rfl⟩ := List.mem_map.mp ha
    rw [(pln_P x).ok (by omega), Bool.true_and]
    exact decide_eq_true (Nat.le_trans (pln_P x).lay.2 (by omega))
  · rw [List.length_map]
    have := line
    exact decide_eq_true (by omega)
/-- a list of just the couples asked for, sorted -/
theorem sorted_couples {i o : Nat} {q : List (Int × Int) → List (Int × Int) → Bool} {l : List (List (Int × Int) × List (Int × Int))} (hn : l.length ≤ 100000) (nd : l.Nodup) (h : ∀ x, x ∈ l ↔ x ∈ couples i o q) : dSorted [.lst (l.map eP)] = some (oL ((couples i o q).map eP)) := by
  refine sorted_to ?_ (couples_lt i o q) (sortOk_P hn)
  exact ((List.perm_ext_iff_of_nodup nd (couples_nodup i o q)).mpr h).map eP
end K37

set_option Elab.async false
set_option linter.all false
set_option maxRecDepth 100000
set_option maxHeartbeats 4000000
namespace K37
open PySem L2 My

abbrev Cp := List (Int × Int) × List (Int × Int)
def nk1 (x : Int × Int) : NestedKey := .tup [.num x.1, .num x.2]
def nkP (x : Cp) : NestedKey := .tup [.tup (x.1.map nk1), .tup (x.2.map nk1)]
theorem nk_S : ∀ l : List (Int × Int), nkAll (l.map eS1) = some (l.map nk1)
  | [] => rfl
  | x :: l => by
    show ((nkOf (eS1 x)).bind fun k => (nkAll (l.map eS1)).map (k :: ·)) = _
    rw [nk_S l]
    rfl
theorem nk_P (x : Cp) : nkOf (eP x) = some (nkP x) := by
  show (((nkOf (eS x.1)).bind fun k => ((nkOf (eS x.2)).bind fun k2 => (some []).map (k2 :: ·)).map (k :: ·))).map NestedKey.tup = _
  have h : ∀ l, nkOf (eS l) = some (.tup (l.map nk1)) := fun l => by
    show (nkAll (l.map eS1)).map NestedKey.tup = _
    rw [nk_S]
    rfl
  rw [h, h]
  rfl
theorem nk_all : ∀ l : List Cp, nkAll (l.map eP) = some (l.map nkP)
  | [] => rfl
  | x :: l => by
    show ((nkOf (eP x)).bind fun k => (nkAll (l.map eP)).map (k :: ·)) = _
    rw [nk_all l, nk_P]
    rfl
theorem nk1_inj {x y : Int × Int} (h : nk1 x = nk1 y) : x = y := by
  obtain ⟨a, b⟩ := x
  obtain ⟨c, d⟩ := y
  unfold nk1 at h
  simp only [NestedKey.tup.injEq, List.cons.injEq, NestedKey.num.injEq, and_true] at h
  rw [h.1, h.2]
theorem map_inj' {α β : Type} {f : α → β} (hf : ∀ x y, f x = f y → x = y) : ∀ {l m : List α}, l.map f = m.map f → l = m
  | [], [], _ => rfl
  | [], _ :: _, h => by simp at h
  | _ :: _, [], h => by simp at h
  | x :: l, y :: m, h => by
    simp only [List.map_cons, List.cons.injEq] at h
    rw [hf x y h.1, map_inj' hf h.2]
theorem nkP_inj {x y : Cp} (h : nkP x = nkP y) : x = y := by
  obtain ⟨a, b⟩ := x
  obtain ⟨c, d⟩ := y
  unfold nkP at h
  simp only [NestedKey.tup.injEq, List.cons.injEq, and_true] at h
  rw [map_inj' (fun _ _ => nk1_inj) h.1, map_inj' (fun _ _ => nk1_inj) h.2]
theorem dep_S : ∀ l : List (Int × Int), NestedKey.depthAll (l.map nk1) ≤ 1
  | [] => by simp [NestedKey.depthAll]
  | x :: l => by
    have := dep_S l
    show max (nk1 x).depth (NestedKey.depthAll (l.map nk1)) ≤ 1
    have h : (nk1 x).depth = 1 := by simp [nk1, NestedKey.depth, NestedKey.depthAll]
    omega
theorem dep_P (x : Cp) : (nkP x).depth ≤ 8 := by
  have h1 := dep_S x.1
  have h2 := dep_S x.2
  simp only [nkP, NestedKey.depth, NestedKey.depthAll]
  omega
def putP (l : List Cp) (x : Cp) : List Cp := if x ∈ l then l else l ++ [x]
theorem w_nput {nx bk ct : List SV → Prop} {rt : OD → List SV → Prop} {s : List SV} {i : Nat} {fk : List SV → Option D} {x : Cp} {l : List Cp} (e : fk s = some (eP x)) (h : s[i]? = some (.own (.nst (l.map eP)))) (hn : l.length < sizeLine) (q : nx (s.set i (.own (.nst ((putP l x).map eP))))) : WP (dNput i fk s) nx rt bk ct := by
  constructor
  unfold dNput
  rw [e, Option.bind_some, h]
  show WP0 ((nkOf (eP x)).bind fun k => (nkAll (l.map eP)).bind fun kk => if k.depth ≤ 8 ∧ (l.map eP).length < sizeLine then some (Out.nx (s.set i (.own (.nst (if k ∈ kk then l.map eP else l.map eP ++ [eP x]))))) else none) nx rt bk ct
  rw [nk_P, Option.bind_some, nk_all, Option.bind_some, if_pos ⟨dep_P x, by rw [List.length_map]; exact hn⟩]
  have e2 : (if nkP x ∈ l.map nkP then l.map eP else l.map eP ++ [eP x]) = (putP l x).map eP := by
    unfold putP
    by_cases c : x ∈ l
    · rw [if_pos c, if_pos (List.mem_map.mpr ⟨x, c, rfl⟩)]
    · rw [if_neg c, if_neg (fun h => ?_), List.map_append]
      · rfl
      · obtain ⟨y, hy, e⟩ := List.mem_map.mp h
        rw [nkP_inj e] at hy
        exact c hy
  show nx (s.set i (.own (.nst (if nkP x ∈ l.map nkP then l.map eP else l.map eP ++ [eP x]))))
  rw [e2]
  exact q
theorem mem_putP {l : List Cp} {x y : Cp} : y ∈ putP l x ↔ y ∈ l ∨ y = x := by
  unfold putP
  by_cases c : x ∈ l
  · rw [if_pos c]
    constructor
    · exact .inl
    · rintro (h | rfl)
      · exact h
      · exact c
  · rw [if_neg c, List.mem_append, List.mem_singleton]
theorem putP_nd {l : List Cp} {x : Cp} (h : l.Nodup) : (putP l x).Nodup := by
  unfold putP
  by_cases c : x ∈ l
  · rw [if_pos c]
    exact h
  · rw [if_neg c, List.nodup_append]
    refine ⟨h, by simp, fun a ha b hb e => ?_⟩
    have : b = x := by simpa using hb
    rw [e, this] at ha
    exact c ha
theorem putP_len (l : List Cp) (x : Cp) : (putP l x).length ≤ l.length + 1 := by
  unfold putP
  split
  · omega
  · rw [List.length_append]
    exact Nat.le_refl _
/-! ### all states by labels and bits -/
def states (k : Nat) : List (List (Int × Int)) := (words L3 k).flatMap fun l => (words L2' k).map fun b => l.zip b
theorem mem_states {k : Nat} {x : List (Int × Int)} : x ∈ states k ↔ x ∈ words S6 k := by
  unfold states
  rw [List.mem_flatMap, mem_words]
  constructor
  · rintro ⟨l, hl, h⟩
    obtain ⟨b, hb, rfl⟩ := List.mem_map.mp h
    obtain ⟨l1, l2⟩ := mem_words.mp hl
    obtain ⟨b1, b2⟩ := mem_words.mp hb
    refine ⟨by rw [List.length_zip, l1, b1, Nat.min_self], fun y hy => ?_⟩
    obtain ⟨a, c⟩ := y
    have h1 := l2 _ (List.of_mem_zip hy).1
    have h2 := b2 _ (List.of_mem_zip hy).2
    refine lab_S6 ⟨?_, ?_⟩
    · simpa [L3] using h1
    · simpa [L2'] using h2
  · rintro ⟨h1, h2⟩
    refine ⟨x.map (·.1), mem_words.mpr ⟨by rw [List.length_map, h1], fun a ha => ?_⟩, List.mem_map.mpr ⟨x.map (·.2), mem_words.mpr ⟨by rw [List.length_map, h1], fun a ha => ?_⟩, ?_⟩⟩
    · obtain ⟨y, hy, rfl⟩ := List.mem_map.mp ha
      have := (S6_lab (h2 y hy)).1
      simpa [L3] using this
    · obtain ⟨y, hy, rfl⟩ := List.mem_map.mp ha
      have := (S6_lab (h2 y hy)).2
      simpa [L2'] using this
    · rw [List.zip_map']
      exact List.map_id x
theorem states_len {k : Nat} (hk : k ≤ 2) : (states k).length ≤ 36 := by
  have h : ∀ l : List (List Int), (l.flatMap fun l => (words L2' k).map fun b => l.zip b).length = l.length * (words L2' k).length := fun l => by
    rw [List.length_flatMap]
    simp only [List.length_map]
    rw [List.map_const', List.sum_replicate_nat]
  unfold states
  rw [h, words_len, words_len]
  have h1 : L3.length ^ k ≤ 3 ^ 2 := Nat.pow_le_pow_right (by decide) hk
  have h2 : L2'.length ^ k ≤ 2 ^ 2 := Nat.pow_le_pow_right (by decide) hk
  exact Nat.le_trans (Nat.mul_le_mul h1 h2) (by decide)
theorem behind_len {p : Pr} {outs : List (Int × Int)} (h : outs.length ≤ 2) : (behind p outs).length ≤ 9 := by
  have h1 := beh_len p outs.zipIdx [[]]
  rw [List.length_zipIdx] at h1
  have h2 : 3 ^ outs.length ≤ 3 ^ 2 := Nat.pow_le_pow_right (by omega) h
  unfold behind
  have e : ([[]] : List (List (Int × Int))).length = 1 := rfl
  rw [e] at h1
  omega
def anyW (ps : List Pr) (outs doors : List (Int × Int)) : Bool := ps.any fun p => allowsW p outs doors
theorem wire_step_eq {t : Bool} {k : Nat} {ps : List Pr} (hk : k ≤ 2) (hp : ps.length ≤ 4) : v_wire_step [.int k, .lst (ps.map (ePr t))] = some (oL ((couples k k (anyW ps)).map eP)) := by
  show runO d_wire_step 9 _ = _
  apply run_O
  show WP (d_wire_step [.fz (.int k), .fz (.lst (ps.map (ePr t))), .un, .un, .un, .un, .un, .un, .un]) _ _ _ _
  unfold d_wire_step
  apply w_seq
  refine w_setO (o := .nst []) rfl ?_
  apply w_seq
  refine w_set (d := .lst ((states k).map eS)) ?_ ?_
  · have e : (states k).map eS = (words L3 k).flatMap fun l => (words L2' k).map fun b => eS (l.zip b) := by
      unfold states
      rw [List.map_flatMap]
      simp only [List.map_map]
      rfl
    rw [e]
    refine frL (lc2_of (enc := eT) (xs := words L3 k) (g := fun l => (words L2' k).map fun b => eS (l.zip b)) ?_ (fun r hr => ⟨_, rfl, lcIn_map (enc := eT) (xs := words L2' k) ?_ fun a ha => ⟨_, rfl, ?_⟩⟩) ?_)
    · exact items_eq ((cf_eq (args1 rfl)).trans (label_lists_eq (by omega)))
    · exact items_eq ((cf_eq (args1 rfl)).trans (bit_lists_eq (by omega)))
    · have h1 := (mem_words.mp hr).1
      have h2 := (mem_words.mp ha).1
      exact (cf_eq (args2 (a := eT r) (b := eT a) rfl rfl)).trans (state_of_eq (by omega) (by omega))
    · rw [← e, List.length_map]
      have := states_len hk
      have := line
      omega
  apply w_seq
  refine w_for (xs := states k) (enc := eS) (fun po s => ∃ a b c l, s = [.fz (.int k), .fz (.lst (ps.map (ePr t))), .own (.nst (l.map eP)), .fz (.lst ((states k).map eS)), a, b, c, .un, .un] ∧ l.Nodup ∧ (∀ x, x ∈ l ↔ x.1 ∈ po ∧ ∃ p ∈ ps, x.2 ∈ behind p x.1) ∧ l.length ≤ po.length * 100) rfl ⟨_, _, _, [], rfl, List.nodup_nil, by simp, by simp⟩ ?_ ?_
  · rintro po outs s ⟨qo, hqo⟩ ⟨a, b, c, l, rfl, nd, hm, hlen⟩
    refine ⟨_, rfl, ?_⟩
    have houts : outs ∈ states k := by rw [hqo]; simp
    have hol : outs.length = k := (mem_words.mp (mem_states.mp houts)).1
    have hpo : po.length ≤ 36 := by
      have := states_len hk
      rw [hqo, List.length_append] at this
      omega
    unfold b_wire_step_3
    refine w_for (xs := ps) (enc := ePr t) (fun pp s => ∃ b c l, s = [.fz (.int k), .fz (.lst (ps.map (ePr t))), .own (.nst (l.map eP)), .fz (.lst ((states k).map eS)), .fz (eS outs), b, c, .un, .un] ∧ l.Nodup ∧ (∀ x, x ∈ l ↔ (x.1 ∈ po ∧ ∃ p ∈ ps, x.2 ∈ behind p x.1) ∨ (x.1 = outs ∧ ∃ p ∈ pp, x.2 ∈ behind p x.1)) ∧ l.length ≤ po.length * 100 + pp.length * 10) rfl ⟨_, _, l, rfl, nd, fun x => by rw [hm x]; simp, by simpa using hlen⟩ ?_ ?_
    · rintro pp p s ⟨qp, hqp⟩ ⟨b, c, l, rfl, nd, hm, hlen⟩
      refine ⟨_, rfl, ?_⟩
      have hpp : pp.length ≤ 4 := by
        have h := congrArg List.length hqp
        rw [List.length_append] at h
        omega
      unfold b_wire_step_2
      refine w_for (xs := behind p outs) (enc := eS) (fun pd s => ∃ c l, s = [.fz (.int k), .fz (.lst (ps.map (ePr t))), .own (.nst (l.map eP)), .fz (.lst ((states k).map eS)), .fz (eS outs), .fz (ePr t p), c, .un, .un] ∧ l.Nodup ∧ (∀ x, x ∈ l ↔ (x.1 ∈ po ∧ ∃ p ∈ ps, x.2 ∈ behind p x.1) ∨ (x.1 = outs ∧ ∃ p ∈ pp, x.2 ∈ behind p x.1) ∨ (x.1 = outs ∧ x.2 ∈ pd)) ∧ l.length ≤ po.length * 100 + pp.length * 10 + pd.length) ?_ ⟨_, l, rfl, nd, fun x => by rw [hm x]; simp, by simpa using hlen⟩ ?_ ?_
      · exact items_eq ((cf_eq (args2 (a := eS outs) (b := ePr t p) rfl rfl)).trans (doors_behind_eq (by omega)))
      · rintro pd doors s ⟨qd, hqd⟩ ⟨c, l, rfl, nd, hm, hlen⟩
        refine ⟨_, rfl, ?_⟩
        have hpd : pd.length ≤ 9 := by
          have h := behind_len (p := p) (outs := outs) (by omega)
          rw [hqd, List.length_append] at h
          omega
        unfold b_wire_step_1
        refine w_nput (x := (outs, doors)) (l := l) (tup2 rfl rfl) rfl (by have := line; omega) ⟨_, putP l (outs, doors), rfl, putP_nd nd, fun x => ?_, ?_⟩
        · rw [mem_putP, hm x, List.mem_append, List.mem_singleton]
          obtain ⟨x1, x2⟩ := x
          simp only [Prod.mk.injEq]
          grind
        · have := putP_len l (outs, doors)
          rw [List.length_append]
          show (putP l (outs, doors)).length ≤ po.length * 100 + pp.length * 10 + (pd.length + 1)
          omega
      · rintro s ⟨c, l, rfl, nd, hm, hlen⟩
        refine ⟨_, _, l, rfl, nd, fun x => ?_, ?_⟩
        · rw [hm x]
          obtain ⟨x1, x2⟩ := x
          simp only [List.mem_append, List.mem_singleton]
          constructor
          · rintro (h | h | ⟨rfl, h⟩)
            · exact .inl h
            · obtain ⟨h1, q, hq, h2⟩ := h
              exact .inr ⟨h1, q, .inl hq, h2⟩
            · exact .inr ⟨rfl, p, .inr rfl, h⟩
          · rintro (h | ⟨h1, q, hq | rfl, h2⟩)
            · exact .inl h
            · exact .inr (.inl ⟨h1, q, hq, h2⟩)
            · refine .inr (.inr ⟨h1, ?_⟩)
              have h1 : x1 = outs := h1
              rw [h1] at h2
              exact h2
        · have := behind_len (p := p) (outs := outs) (by omega)
          rw [List.length_append]
          show l.length ≤ po.length * 100 + (pp.length + 1) * 10
          omega
    · rintro s ⟨b, c, l, rfl, nd, hm, hlen⟩
      refine ⟨_, _, _, l, rfl, nd, fun x => ?_, ?_⟩
      · rw [hm x]
        simp only [List.mem_append, List.mem_singleton]
        constructor
        · rintro (⟨h1, h2⟩ | ⟨h1, h2⟩)
          · exact ⟨.inl h1, h2⟩
          · exact ⟨.inr h1, h2⟩
        · rintro ⟨h1 | h1, h2⟩
          · exact .inl ⟨h1, h2⟩
          · exact .inr ⟨h1, h2⟩
      · rw [List.length_append]
        show l.length ≤ (po.length + 1) * 100
        omega
  · rintro s ⟨a, b, c, l, rfl, nd, hm, hlen⟩
    refine w_retO (o := oL ((couples k k (anyW ps)).map eP)) ?_ rfl
    refine (co_eq (args1 (frL (l := l.map eP) rfl))).trans (sorted_couples (by have := states_len hk; omega) nd fun x => ?_)
    rw [hm x, mem_couples, mem_states]
    unfold anyW
    rw [List.any_eq_true]
    constructor
    · rintro ⟨h1, p, hp, h2⟩
      obtain ⟨h3, h4⟩ := (behind_iff h1).mp h2
      exact ⟨h1, h3, p, hp, h4⟩
    · rintro ⟨h1, h3, p, hp, h4⟩
      exact ⟨h1, p, hp, (behind_iff h1).mpr ⟨h3, h4⟩⟩
end K37

set_option Elab.async false
set_option linter.all false
set_option maxRecDepth 100000
set_option maxHeartbeats 4000000
namespace K37
open PySem L2 My

def gi (l : List Int) (a : Int) : Int := l.getD (a - 1).toNat 0
def gS (l : List (Int × Int)) (a : Int) : Int × Int := l.getD (a - 1).toNat (0, 0)
def Inr (n : Nat) (a : Int) : Prop := 1 ≤ a ∧ a ≤ n
theorem gi_T {l : List Int} {a : Int} (h : Inr l.length a) : dIx (eT l) (.int (a - 1)) = some (.int (gi l a)) := by
  obtain ⟨h1, h2⟩ := h
  have e : a - 1 = (((a - 1).toNat : Nat) : Int) := by omega
  show atI (l.map D.int) (a - 1) = _
  rw [e, atI_nat', List.getElem?_map]
  unfold gi
  rw [List.getD_eq_getElem?_getD, List.getElem?_eq_getElem (by omega)]
  rfl
theorem gi_S {l : List (Int × Int)} {a : Int} (h : Inr l.length a) : dIx (eS l) (.int (a - 1)) = some (eS1 (gS l a)) := by
  obtain ⟨h1, h2⟩ := h
  have e : a - 1 = (((a - 1).toNat : Nat) : Int) := by omega
  show atI (l.map eS1) (a - 1) = _
  rw [e, atI_nat', List.getElem?_map]
  unfold gS
  rw [List.getD_eq_getElem?_getD, List.getElem?_eq_getElem (by omega)]
  rfl
/-- one couple agrees: x, y the two labels -/
def agr (x y : Int) : Bool := !(decide (0 < x) && (decide (0 < y) && !decide (x = y)))
def agrees (labels : List Int) (cps : List (Int × Int)) : Bool := cps.all fun c => agr (gi labels c.1) (gi labels c.2)
theorem agree_in_eq {labels : List Int} {cps : List (Int × Int)} (h : ∀ c ∈ cps, Inr labels.length c.1 ∧ Inr labels.length c.2) : v_agree_in [eT labels, .lst (cps.map eS1)] = some (.bl (agrees labels cps)) := by
  show runP d_agree_in 4 _ = _
  apply run_P
  show WP (d_agree_in [.fz (eT labels), .fz (.lst (cps.map eS1)), .un, .un]) _ _ _ _
  unfold d_agree_in
  apply w_seq
  refine w_for (xs := cps) (enc := eS1) (fun pre s => ∃ x y, s = [.fz (eT labels), .fz (.lst (cps.map eS1)), x, y] ∧ ∀ c ∈ pre, agr (gi labels c.1) (gi labels c.2) = true) rfl ⟨_, _, rfl, by simp⟩ ?_ ?_
  · rintro pre ⟨a, b⟩ s ⟨q, hq⟩ ⟨x, y, rfl, hall⟩
    have hc : (a, b) ∈ cps := by rw [hq]; simp
    obtain ⟨ha, hb⟩ := h _ hc
    refine ⟨_, rfl, ?_⟩
    unfold b_agree_in_1
    have ga : dOp dIx (dVar 0) (dOp dSub (dVar 2) (dC (.int 1))) [.fz (eT labels), .fz (.lst (cps.map eS1)), .fz (.int a), .fz (.int b)] = some (.int (gi labels a)) := (op2 (a := eT labels) (b := .int (a - 1)) rfl rfl).trans (gi_T ha)
    have gb : dOp dIx (dVar 0) (dOp dSub (dVar 3) (dC (.int 1))) [.fz (eT labels), .fz (.lst (cps.map eS1)), .fz (.int a), .fz (.int b)] = some (.int (gi labels b)) := (op2 (a := eT labels) (b := .int (b - 1)) rfl rfl).trans (gi_T hb)
    refine w_if (b := decide (0 < gi labels a) && (decide (0 < gi labels b) && !decide (gi labels a = gi labels b))) (and_b (test_b ((op2 ga (b := .int 0) rfl).trans rfl)) (and_b (test_b ((op2 gb (b := .int 0) rfl).trans rfl)) (test_b ((op2 ga gb).trans (dNe_int _ _))))) ?_
    cases c : (decide (0 < gi labels a) && (decide (0 < gi labels b) && !decide (gi labels a = gi labels b))) with
    | true =>
      rw [if_pos rfl]
      refine w_ret (d := .bl false) rfl ?_
      show D.bl false = _
      congr 1
      symm
      unfold agrees
      rw [List.all_eq_false]
      refine ⟨(a, b), hc, ?_⟩
      unfold agr
      rw [c]
      decide
    | false =>
      rw [if_neg (by decide)]
      refine w_nx ⟨_, _, rfl, fun c' hc' => ?_⟩
      rcases List.mem_append.mp hc' with h' | h'
      · exact hall c' h'
      · have : c' = (a, b) := by simpa using h'
        rw [this]
        unfold agr
        rw [c]
        rfl
  · rintro s ⟨x, y, rfl, hall⟩
    refine w_ret (d := .bl true) rfl ?_
    show D.bl true = _
    congr 1
    symm
    unfold agrees
    rw [List.all_eq_true]
    exact hall
/-! ### the law's own conditions -/
def live (leads : List (Int × Int)) (outs : List (Int × Int)) (i : Int) : List Int := ((leads.filter fun c => decide (c.1 = i)).map fun c => (gS outs c.2).1).filter fun x => decide (0 < x)
def unlike (leads : List (Int × Int)) (doors : List (Int × Int)) (o : Int) : List (Int × Int) := leads.filter fun c => decide (c.2 = o) && decide ((gS doors c.1).2 = 0)
def ok1 (cps outs : List (Int × Int)) : Bool := cps.all fun c => agr (gS outs c.1).1 (gS outs c.2).1
def ok2 (leads doors outs : List (Int × Int)) (k : Nat) : Bool := decide ((doors.getD k (0, 0)).1 = (live leads outs (k + 1 : Nat)).headD 0)
def ok3 (leads doors outs : List (Int × Int)) (k : Nat) : Bool := decide ((outs.getD k (0, 0)).2 = if (unlike leads doors (k + 1 : Nat)).isEmpty then 1 else 0)
def roomOk (leads cps doors outs : List (Int × Int)) : Bool := ok1 cps outs && ((List.range doors.length).all (ok2 leads doors outs) && (List.range outs.length).all (ok3 leads doors outs))
theorem map_split {f : Nat → Nat} {n x : Nat} {p : List Nat} (h : ∃ q, (List.range n) = p ++ x :: q) : x = p.length ∧ p.length < n := range_split h
theorem room_allows_eq {leads cps doors outs : List (Int × Int)} (hl : ∀ c ∈ leads, Inr doors.length c.1 ∧ Inr outs.length c.2) (hc : ∀ c ∈ cps, Inr outs.length c.1 ∧ Inr outs.length c.2) (nl : leads.length ≤ 100) (nd : doors.length ≤ 100) (no : outs.length ≤ 100) :
    v__law_e_room_allows [.lst (leads.map eS1), .lst (cps.map eS1), eS doors, eS outs] = some (.bl (roomOk leads cps doors outs)) := by
  show runP d__law_e_room_allows 13 _ = _
  apply run_P
  show WP (d__law_e_room_allows [.fz (.lst (leads.map eS1)), .fz (.lst (cps.map eS1)), .fz (eS doors), .fz (eS outs), .un, .un, .un, .un, .un, .un, .un, .un, .un]) _ _ _ _
  have fal : roomOk leads cps doors outs = false → (OD.fz (.bl false)).toD = .bl (roomOk leads cps doors outs) := fun h => by rw [h]; rfl
  unfold d__law_e_room_allows
  apply w_seq
  refine w_for (xs := cps) (enc := eS1) (fun pre s => ∃ x y, s = [.fz (.lst (leads.map eS1)), .fz (.lst (cps.map eS1)), .fz (eS doors), .fz (eS outs), x, y, .un, .un, .un, .un, .un, .un, .un] ∧ ∀ c ∈ pre, agr (gS outs c.1).1 (gS outs c.2).1 = true) rfl ⟨_, _, rfl, by simp⟩ ?_ ?_
  · rintro pre ⟨a, b⟩ s ⟨q, hq⟩ ⟨x, y, rfl, hall⟩
    have hab : (a, b) ∈ cps := by rw [hq]; simp
    obtain ⟨ha, hb⟩ := hc _ hab
    refine ⟨_, rfl, ?_⟩
    unfold b__law_e_room_allows_1
    have ga : dOp dIx (dOp dIx (dVar 3) (dOp dSub (dVar 4) (dC (.int 1)))) (dC (.int 0)) [.fz (.lst (leads.map eS1)), .fz (.lst (cps.map eS1)), .fz (eS doors), .fz (eS outs), .fz (.int a), .fz (.int b), .un, .un, .un, .un, .un, .un, .un] = some (.int (gS outs a).1) := (op2 ((op2 (a := eS outs) (b := .int (a - 1)) rfl rfl).trans (gi_S ha)) (b := .int 0) rfl).trans rfl
    have gb : dOp dIx (dOp dIx (dVar 3) (dOp dSub (dVar 5) (dC (.int 1)))) (dC (.int 0)) [.fz (.lst (leads.map eS1)), .fz (.lst (cps.map eS1)), .fz (eS doors), .fz (eS outs), .fz (.int a), .fz (.int b), .un, .un, .un, .un, .un, .un, .un] = some (.int (gS outs b).1) := (op2 ((op2 (a := eS outs) (b := .int (b - 1)) rfl rfl).trans (gi_S hb)) (b := .int 0) rfl).trans rfl
    refine w_if (b := decide (0 < (gS outs a).1) && (decide (0 < (gS outs b).1) && !decide ((gS outs a).1 = (gS outs b).1))) (and_b (test_b ((op2 ga (b := .int 0) rfl).trans rfl)) (and_b (test_b ((op2 gb (b := .int 0) rfl).trans rfl)) (test_b ((op2 ga gb).trans (dNe_int _ _))))) ?_
    cases c : (decide (0 < (gS outs a).1) && (decide (0 < (gS outs b).1) && !decide ((gS outs a).1 = (gS outs b).1))) with
    | true =>
      rw [if_pos rfl]
      refine w_ret (d := .bl false) rfl (fal ?_)
      have h1 : ok1 cps outs = false := by
        unfold ok1
        rw [List.all_eq_false]
        refine ⟨(a, b), hab, ?_⟩
        unfold agr
        rw [c]
        decide
      unfold roomOk
      rw [h1]
      rfl
    | false =>
      rw [if_neg (by decide)]
      refine w_nx ⟨_, _, rfl, fun c' hc' => ?_⟩
      rcases List.mem_append.mp hc' with h' | h'
      · exact hall c' h'
      · have : c' = (a, b) := by simpa using h'
        rw [this]
        unfold agr
        rw [c]
        rfl
  rintro s ⟨x, y, rfl, hall1⟩
  have h1 : ok1 cps outs = true := by
    unfold ok1
    rw [List.all_eq_true]
    exact hall1
  have rng : ∀ (j n : Nat) (s : List SV) (l : List (Int × Int)), l.length = n → n ≤ 100 → dVar j s = some (eS l) → dRange2 (dCons (dC (.int 1)) (dCons (dOp dAddI (dCallB dLen (dCons (dVar j) dNil)) (dC (.int 1))) dNil)) s = some ((List.range n).map fun k : Nat => D.int ((k + 1 : Nat) : Int)) := fun j n s l e hn hv => by
    have e1 : dOp dAddI (dCallB dLen (dCons (dVar j) dNil)) (dC (.int 1)) s = some (.int ((n + 1 : Nat) : Int)) := by
      rw [op2 (len_S hv) (b := .int 1) rfl, e]
      rfl
    have := range2_eq (i := 1) (n := n + 1) (s := s) (args2 (f := dC (.int 1)) (a := .int 1) rfl e1) (by omega) (by omega)
    rw [show n + 1 - 1 = n from by omega] at this
    rw [this]
    congr 1
    exact List.map_congr_left fun k _ => by rw [Nat.add_comm]
  apply w_seq
  refine w_for (xs := List.range doors.length) (enc := fun k : Nat => D.int ((k + 1 : Nat) : Int)) (fun pre s => ∃ a b c, s = [.fz (.lst (leads.map eS1)), .fz (.lst (cps.map eS1)), .fz (eS doors), .fz (eS outs), x, y, a, b, c, .un, .un, .un, .un] ∧ ∀ k, k < pre.length → ok2 leads doors outs k = true) (rng 2 _ _ doors rfl nd rfl) ⟨_, _, _, rfl, by simp⟩ ?_ ?_
  · rintro pre k s hq ⟨a, b, c, rfl, hall⟩
    obtain ⟨rfl, hk⟩ := range_split hq
    refine ⟨_, rfl, ?_⟩
    unfold b__law_e_room_allows_2
    generalize hpk : pre.length = k at hk hall ⊢
    apply w_seq
    refine w_set (d := .lst (((leads.filter fun c => decide (c.1 = ((k + 1 : Nat) : Int))).map fun c => (gS outs c.2).1).map D.int)) ?_ ?_
    · refine (frL (lc_of (enc := eS1) (xs := leads) (q := fun c => decide (c.1 = ((k + 1 : Nat) : Int))) (g := fun c => .int (gS outs c.2).1) rfl (by have := line; omega) fun z hcl => ⟨_, rfl, ?_, fun _ => ?_⟩)).trans (by rw [List.map_map]; rfl)
      · exact test_b ((op2 ((op2 (a := eS1 z) (b := .int 0) rfl rfl).trans rfl) (b := .int ((k + 1 : Nat) : Int)) rfl).trans (dEq_int _ _))
      · have e1 : dOp dSub (dOp dIx (dVar 11) (dC (.int 1))) (dC (.int 1)) (((wipeS ([.fz (.lst (leads.map eS1)), .fz (.lst (cps.map eS1)), .fz (eS doors), .fz (eS outs), x, y, .fz (.int ((k + 1 : Nat) : Int)), b, c, .un, .un, .un, .un] : List SV) [11])).set 11 (.fz (eS1 z))) = some (.int (z.2 - 1)) := rfl
        exact (op2 ((op2 (a := eS outs) rfl rfl).trans (gi_S (hl z hcl).2)) (b := .int 0) rfl).trans rfl
    apply w_seq
    refine w_set (d := .lst ((live leads outs ((k + 1 : Nat) : Int)).map D.int)) ?_ ?_
    · refine (frL (lc_of (enc := D.int) (xs := (leads.filter fun c => decide (c.1 = ((k + 1 : Nat) : Int))).map fun c => (gS outs c.2).1) (q := fun x => decide (0 < x)) (g := fun x => .int x) rfl ?_ fun c hcl => ⟨_, rfl, ?_, fun _ => rfl⟩)).trans rfl
      · rw [List.length_map]
        have := List.length_filter_le (fun c : Int × Int => decide (c.1 = ((k + 1 : Nat) : Int))) leads
        have := line
        omega
      · exact test_b ((op2 (a := .int c) (b := .int 0) rfl rfl).trans rfl)
    generalize hlv : live leads outs ((k + 1 : Nat) : Int) = lv
    have gd : dOp dIx (dOp dIx (dVar 2) (dOp dSub (dVar 6) (dC (.int 1)))) (dC (.int 0)) [.fz (.lst (leads.map eS1)), .fz (.lst (cps.map eS1)), .fz (eS doors), .fz (eS outs), x, y, .fz (.int ((k + 1 : Nat) : Int)), .fz (.lst (((leads.filter fun c => decide (c.1 = ((k + 1 : Nat) : Int))).map fun c => (gS outs c.2).1).map D.int)), .fz (.lst (lv.map D.int)), .un, .un, .un, .un] = some (.int (doors.getD k (0, 0)).1) := by
      have e : ((k + 1 : Nat) : Int) - 1 = (k : Int) := by omega
      refine (op2 ((op2 (a := eS doors) (b := .int (k : Int)) rfl ?_).trans (eS_get hk)) (b := .int 0) rfl).trans rfl
      show some (D.int (((k + 1 : Nat) : Int) - 1)) = _
      rw [e]
    have gl : dIf (dTruth (dVar 8)) (dOp dIx (dVar 8) (dC (.int 0))) (dC (.int 0)) [.fz (.lst (leads.map eS1)), .fz (.lst (cps.map eS1)), .fz (eS doors), .fz (eS outs), x, y, .fz (.int ((k + 1 : Nat) : Int)), .fz (.lst (((leads.filter fun c => decide (c.1 = ((k + 1 : Nat) : Int))).map fun c => (gS outs c.2).1).map D.int)), .fz (.lst (lv.map D.int)), .un, .un, .un, .un] = some (.int (lv.headD 0)) := by
      cases lv with
      | nil => rfl
      | cons z zs =>
        refine (if_t (b := true) rfl).trans ?_
        rw [if_pos rfl]
        refine (op2 (a := .lst ((z :: zs).map D.int)) (b := .int 0) rfl rfl).trans ?_
        have e : dIx (.lst ((z :: zs).map D.int)) (.int ((0 : Nat) : Int)) = ((z :: zs).map D.int)[0]? := atI_nat' _ _
        exact e
    refine w_if (b := !decide ((doors.getD k (0, 0)).1 = lv.headD 0)) (test_b ((op2 gd gl).trans (dNe_int _ _))) ?_
    have eo : ok2 leads doors outs k = decide ((doors.getD k (0, 0)).1 = lv.headD 0) := by
      unfold ok2
      rw [hlv]
    by_cases c0 : (doors.getD k (0, 0)).1 = lv.headD 0
    · rw [decide_eq_true c0] at eo ⊢
      refine w_nx ⟨_, _, _, rfl, fun j hj => ?_⟩
      rw [List.length_append, hpk] at hj
      by_cases e : j = k
      · rw [e]
        exact eo
      · exact hall j (by have : j < k + 1 := hj; omega)
    · rw [decide_eq_false c0] at eo ⊢
      refine w_ret (d := .bl false) rfl (fal ?_)
      have h2 : (List.range doors.length).all (ok2 leads doors outs) = false := by
        rw [List.all_eq_false]
        exact ⟨k, List.mem_range.mpr hk, by rw [eo]; decide⟩
      unfold roomOk
      rw [h2, Bool.false_and, Bool.and_false]
  rintro s ⟨a, b, c, rfl, hall2⟩
  have h2 : (List.range doors.length).all (ok2 leads doors outs) = true := by
    rw [List.all_eq_true]
    intro k hk
    exact hall2 k (by rw [List.length_range]; exact List.mem_range.mp hk)
  apply w_seq
  refine w_for (xs := List.range outs.length) (enc := fun k : Nat => D.int ((k + 1 : Nat) : Int)) (fun pre s => ∃ d e, s = [.fz (.lst (leads.map eS1)), .fz (.lst (cps.map eS1)), .fz (eS doors), .fz (eS outs), x, y, a, b, c, d, e, .un, .un] ∧ ∀ k, k < pre.length → ok3 leads doors outs k = true) (rng 3 _ _ outs rfl no rfl) ⟨_, _, rfl, by simp⟩ ?_ ?_
  · rintro pre k s hq ⟨d, e, rfl, hall⟩
    obtain ⟨rfl, hk⟩ := range_split hq
    refine ⟨_, rfl, ?_⟩
    unfold b__law_e_room_allows_3
    generalize hpk : pre.length = k at hk hall ⊢
    apply w_seq
    refine w_set (d := .lst ((unlike leads doors ((k + 1 : Nat) : Int)).map eS1)) ?_ ?_
    · refine (frL (lc_of (enc := eS1) (xs := leads) (q := fun c => decide (c.2 = ((k + 1 : Nat) : Int)) && decide ((gS doors c.1).2 = 0)) (g := eS1) rfl (by have := line; omega) fun c hcl => ⟨_, rfl, ?_, fun _ => rfl⟩)).trans rfl
      refine and_b (test_b ((op2 ((op2 (a := eS1 c) (b := .int 1) rfl rfl).trans rfl) (b := .int ((k + 1 : Nat) : Int)) rfl).trans (dEq_int _ _))) (test_b ((op2 ((op2 ((op2 (a := eS doors) (b := .int (c.1 - 1)) rfl rfl).trans (gi_S (hl c hcl).1)) (b := .int 1) rfl).trans rfl) (b := .int 0) rfl).trans (dEq_int _ _)))
    generalize hul : unlike leads doors ((k + 1 : Nat) : Int) = ul
    have go : dOp dIx (dOp dIx (dVar 3) (dOp dSub (dVar 9) (dC (.int 1)))) (dC (.int 1)) [.fz (.lst (leads.map eS1)), .fz (.lst (cps.map eS1)), .fz (eS doors), .fz (eS outs), x, y, a, b, c, .fz (.int ((k + 1 : Nat) : Int)), .fz (.lst (ul.map eS1)), .un, .un] = some (.int (outs.getD k (0, 0)).2) := by
      have e : ((k + 1 : Nat) : Int) - 1 = (k : Int) := by omega
      refine (op2 ((op2 (a := eS outs) (b := .int (k : Int)) rfl ?_).trans (eS_get hk)) (b := .int 1) rfl).trans rfl
      show some (D.int (((k + 1 : Nat) : Int) - 1)) = _
      rw [e]
    have gl : dIf (dTruth (dVar 10)) (dC (.int 0)) (dC (.int 1)) [.fz (.lst (leads.map eS1)), .fz (.lst (cps.map eS1)), .fz (eS doors), .fz (eS outs), x, y, a, b, c, .fz (.int ((k + 1 : Nat) : Int)), .fz (.lst (ul.map eS1)), .un, .un] = some (.int (if ul.isEmpty then 1 else 0)) := by
      cases ul with
      | nil => rfl
      | cons z zs => rfl
    refine w_if (b := !decide ((outs.getD k (0, 0)).2 = if ul.isEmpty then 1 else 0)) (test_b ((op2 go gl).trans (dNe_int _ _))) ?_
    have eo : ok3 leads doors outs k = decide ((outs.getD k (0, 0)).2 = if ul.isEmpty then 1 else 0) := by
      unfold ok3
      rw [hul]
    by_cases c0 : (outs.getD k (0, 0)).2 = if ul.isEmpty then 1 else 0
    · rw [decide_eq_true c0] at eo ⊢
      refine w_nx ⟨_, _, rfl, fun j hj => ?_⟩
      rw [List.length_append, hpk] at hj
      by_cases e : j = k
      · rw [e]
        exact eo
      · exact hall j (by have : j < k + 1 := hj; omega)
    · rw [decide_eq_false c0] at eo ⊢
      refine w_ret (d := .bl false) rfl (fal ?_)
      have h3 : (List.range outs.length).all (ok3 leads doors outs) = false := by
        rw [List.all_eq_false]
        exact ⟨k, List.mem_range.mpr hk, by rw [eo]; decide⟩
      unfold roomOk
      rw [h3, Bool.and_false, Bool.and_false]
  rintro s ⟨d, e, rfl, hall3⟩
  refine w_ret (d := .bl true) rfl ?_
  show D.bl true = _
  congr 1
  symm
  unfold roomOk
  rw [h1, h2, Bool.true_and, Bool.true_and, List.all_eq_true]
  intro k hk
  exact hall3 k (by rw [List.length_range]; exact List.mem_range.mp hk)
end K37

set_option Elab.async false
set_option linter.all false
set_option maxRecDepth 100000
set_option maxHeartbeats 4000000
namespace K37
open PySem L2 My

theorem allI_ints : ∀ l : List Int, allI (l.map D.int) = some l
  | [] => rfl
  | x :: l => by
    show (allI (l.map D.int)).map (x :: ·) = _
    rw [allI_ints l]
    rfl
theorem fzs_fz : ∀ l : List D, fzs (l.map OD.fz) = some l
  | [] => rfl
  | d :: l => by
    show (fzs (l.map OD.fz)).map (d :: ·) = _
    rw [fzs_fz l]
    rfl
theorem items_own {s : List SV} {i : Nat} {l : List D} (h : s[i]? = some (.own (oL l))) : dItemsOwn i s = some l := by
  unfold dItemsOwn
  rw [h]
  exact fzs_fz l
def fO (ins outs : Nat) (ll cl : D) : D := .obj 0 ["ins", "outs", "lead_list", "couple_list"] [.int ins, .int outs, ll, cl]
def leadF (leads : List (Int × Int)) (k : Nat) : List (Int × Int) := leads.filter fun c => decide (c.1 = ((1 + k : Nat) : Int))
def leadB (leads : List (Int × Int)) (k : Nat) : List (Int × Int) := leads.filter fun c => decide (c.2 = ((1 + k : Nat) : Int))
def dl (leads : List (Int × Int)) (ins : Nat) (labels : List Int) : List Int := (List.range ins).map fun k => maxL (0 :: (leadF leads k).map fun c => gi labels c.2)
def ob (leads : List (Int × Int)) (outs : Nat) (bits : List Int) : List Int := (List.range outs).map fun k => minL (1 :: (leadB leads k).map fun c => gi bits c.1)
def cpl (leads : List (Int × Int)) (ins outs : Nat) (labels bits : List Int) : Cp := ((dl leads ins labels).zip bits, labels.zip (ob leads outs bits))
def found (leads cps : List (Int × Int)) (ins outs : Nat) (ls : List (List Int)) : List Cp := (ls.filter fun l => agrees l cps).flatMap fun l => (words L2' ins).map fun b => cpl leads ins outs l b
theorem found_len (leads cps : List (Int × Int)) (ins outs : Nat) (hi : ins ≤ 3) (ls : List (List Int)) : (found leads cps ins outs ls).length ≤ ls.length * 8 := by
  unfold found
  rw [List.length_flatMap]
  simp only [List.length_map]
  rw [List.map_const', List.sum_replicate_nat, words_len]
  have h1 := List.length_filter_le (fun l => agrees l cps) ls
  have h2 : L2'.length ^ ins ≤ 2 ^ 3 := Nat.pow_le_pow_right (by decide) hi
  exact Nat.mul_le_mul h1 h2
theorem dMax_ints {l : List Int} (h : l ≠ []) : dMaxL [.lst (l.map D.int)] = some (.int (maxL l)) := by
  show (allI (l.map D.int)).bind _ = _
  rw [allI_ints, Option.bind_some, if_pos h]
theorem dMin_ints {l : List Int} (h : l ≠ []) : dMinL [.lst (l.map D.int)] = some (.int (minL l)) := by
  show (allI (l.map D.int)).bind _ = _
  rw [allI_ints, Option.bind_some, if_pos h]
theorem filt_len {α : Type} (p : α → Bool) (l : List α) (h : l.length ≤ 100) : (l.filter p).length ≤ 100 := Nat.le_trans (List.length_filter_le p l) h
/-- the walk of room_step to its list, for a face that tells these leads and couples -/
theorem room_found {ins outs : Nat} {ll cl : D} {leads cps : List (Int × Int)} (hi : ins ≤ 3) (ho : outs ≤ 3) (hL : v_Face_leads [fO ins outs ll cl] = some (.lst (leads.map eS1))) (hC : v_Face_couples [fO ins outs ll cl] = some (.lst (cps.map eS1)))
    (hl : ∀ c ∈ leads, Inr ins c.1 ∧ Inr outs c.2) (hc : ∀ c ∈ cps, Inr outs c.1 ∧ Inr outs c.2) (nl : leads.length ≤ 100) {r : OD} (hr : dSorted [.lst ((found leads cps ins outs (words L3 outs)).map eP)] = some r) : v_room_step [fO ins outs ll cl] = some r := by
  show runO d_room_step 16 _ = _
  apply run_O
  generalize hF : fO ins outs ll cl = F at *
  have fi : dFld 0 "ins" F = some (.int ins) := by rw [← hF]; rfl
  have fo : dFld 0 "outs" F = some (.int outs) := by rw [← hF]; rfl
  have mL : ∀ s, dVar 0 s = some F → dMeth 0 "leads" v_Face_leads (dVar 0) dNil s = some (.lst (leads.map eS1)) := fun s h => by
    unfold dMeth
    rw [h, Option.bind_some, ← hF]
    rw [← hF] at hL
    exact hL
  have mC : ∀ s, dVar 0 s = some F → dMeth 0 "couples" v_Face_couples (dVar 0) dNil s = some (.lst (cps.map eS1)) := fun s h => by
    unfold dMeth
    rw [h, Option.bind_some, ← hF]
    rw [← hF] at hC
    exact hC
  clear hF
  show WP (d_room_step [.fz F, .un, .un, .un, .un, .un, .un, .un, .un, .un, .un, .un, .un, .un, .un, .un]) _ _ _ _
  unfold d_room_step
  apply w_seq
  refine w_set (d := .lst (leads.map eS1)) (mL _ rfl) ?_
  apply w_seq
  refine w_set (d := .lst (cps.map eS1)) (mC _ rfl) ?_
  have fld : ∀ (f : Str) (n : Nat) (s : List SV), dFld 0 f F = some (.int n) → dVar 0 s = some F → n ≤ 3 → dRange2 (dCons (dC (.int 1)) (dCons (dOp dAddI (dUn (dFld 0 f) (dVar 0)) (dC (.int 1))) dNil)) s = some ((List.range n).map fun k : Nat => D.int ((1 + k : Nat) : Int)) := fun f n s h1 h2 h3 => by
    have e0 : dUn (dFld 0 f) (dVar 0) s = some (.int n) := by
      unfold dUn
      rw [h2, Option.bind_some, h1]
    have e1 : dOp dAddI (dUn (dFld 0 f) (dVar 0)) (dC (.int 1)) s = some (.int ((n + 1 : Nat) : Int)) := (op2 e0 (b := .int 1) rfl).trans rfl
    have := range2_eq (i := 1) (n := n + 1) (s := s) (args2 (f := dC (.int 1)) (a := .int 1) rfl e1) (by omega) (by omega)
    rw [show n + 1 - 1 = n from by omega] at this
    exact this
  apply w_seq
  refine w_set (d := .lst ((List.range ins).map fun k => .lst ((leadF leads k).map fun c => D.int (c.2 - 1)))) ?_ ?_
  · refine frL (lc_map (enc := fun k : Nat => D.int ((1 + k : Nat) : Int)) (xs := List.range ins) (g := fun k => .lst ((leadF leads k).map fun c => D.int (c.2 - 1))) (fld "ins" ins _ fi rfl hi) (by rw [List.length_range]; have := line; omega) fun k hk => ⟨_, rfl, ?_⟩)
    exact frL (lc_of (enc := eS1) (xs := leads) (q := fun c => decide (c.1 = ((1 + k : Nat) : Int))) (g := fun c => .int (c.2 - 1)) rfl (by have := line; omega) fun c hcl => ⟨_, rfl, test_b ((op2 (a := .int c.1) (b := .int ((1 + k : Nat) : Int)) rfl rfl).trans (dEq_int _ _)), fun _ => rfl⟩)
  apply w_seq
  refine w_set (d := .lst ((List.range outs).map fun k => .lst ((leadB leads k).map fun c => D.int (c.1 - 1)))) ?_ ?_
  · refine frL (lc_map (enc := fun k : Nat => D.int ((1 + k : Nat) : Int)) (xs := List.range outs) (g := fun k => .lst ((leadB leads k).map fun c => D.int (c.1 - 1))) (fld "outs" outs _ fo rfl ho) (by rw [List.length_range]; have := line; omega) fun k hk => ⟨_, rfl, ?_⟩)
    exact frL (lc_of (enc := eS1) (xs := leads) (q := fun c => decide (c.2 = ((1 + k : Nat) : Int))) (g := fun c => .int (c.1 - 1)) rfl (by have := line; omega) fun c hcl => ⟨_, rfl, test_b ((op2 (a := .int c.2) (b := .int ((1 + k : Nat) : Int)) rfl rfl).trans (dEq_int _ _)), fun _ => rfl⟩)
  apply w_seq
  refine w_setO (o := oL []) rfl ?_
  apply w_seq
  refine w_for (xs := words L3 outs) (enc := eT) (fun pre s => ∃ a b c d, s = [.fz F, .fz (.lst (leads.map eS1)), .fz (.lst (cps.map eS1)), .fz (.lst ((List.range ins).map fun k => .lst ((leadF leads k).map fun c => D.int (c.2 - 1)))), .fz (.lst ((List.range outs).map fun k => .lst ((leadB leads k).map fun c => D.int (c.1 - 1)))), .own (oL ((found leads cps ins outs pre).map eP)), a, b, c, d, .un, .un, .un, .un, .un, .un]) ?_ ⟨_, _, _, _, rfl⟩ ?_ ?_
  · refine items_eq ((cf_eq (args1 ?_)).trans (label_lists_eq ho))
    show dUn (dFld 0 "outs") (dVar 0) _ = _
    unfold dUn
    exact fo
  · rintro pre l s ⟨q, hq⟩ ⟨a, b, c, d, rfl⟩
    have hlw : l ∈ words L3 outs := by rw [hq]; simp
    obtain ⟨ll1, ll2⟩ := mem_words.mp hlw
    have hpre : pre.length ≤ 27 := by
      have h := congrArg List.length hq
      rw [words_len, List.length_append] at h
      have h2 : L3.length ^ outs ≤ 3 ^ 3 := Nat.pow_le_pow_right (by decide) ho
      omega
    have hfl := found_len leads cps ins outs hi pre
    refine ⟨_, rfl, ?_⟩
    unfold b_room_step_2
    apply w_seq
    refine w_if (b := !agrees l cps) (not_b ?_) ?_
    · unfold dTruth
      rw [(cf_eq (args2 (a := eT l) (b := .lst (cps.map eS1)) rfl rfl)).trans (agree_in_eq fun c hcc => by rw [ll1]; exact hc c hcc)]
      rfl
    cases hag : agrees l cps with
    | false =>
      refine w_ct ⟨.fz (eT l), b, c, d, ?_⟩
      have e : found leads cps ins outs (pre ++ [l]) = found leads cps ins outs pre := by
        unfold found
        rw [List.filter_append, List.filter_cons_of_neg (by simp [hag])]
        simp
      rw [e]
      rfl
    | true =>
      refine w_nx ?_
      apply w_seq
      refine w_set (d := eT (dl leads ins l)) ?_ ?_
      · refine (cb_eq (args1 (frL (lc_map (enc := fun k => .lst ((leadF leads k).map fun c => D.int (c.2 - 1))) (xs := List.range ins) (g := fun k => .int (maxL (0 :: (leadF leads k).map fun c => gi l c.2))) rfl (by rw [List.length_range]; have := line; omega) fun k hk => ⟨_, rfl, ?_⟩)))).trans ?_
        · have h1 := filt_len (fun c : Int × Int => decide (c.1 = ((1 + k : Nat) : Int))) leads nl
          have e1 := dMax_ints (l := 0 :: (leadF leads k).map fun c => gi l c.2) (by simp)
          refine (cb_eq (args1 (frL (cat_eq (xs := [.int 0]) (ys := (leadF leads k).map fun c => D.int (gi l c.2)) rfl (frL (lc_map (enc := fun c : Int × Int => D.int (c.2 - 1)) (xs := leadF leads k) (g := fun c => D.int (gi l c.2)) rfl ?_ fun c hcf => ⟨_, rfl, ?_⟩)) ?_)))).trans ?_
          · have := line
            unfold leadF
            omega
          · have hcl : c ∈ leads := (List.mem_filter.mp hcf).1
            exact (op2 (a := eT l) (b := .int (c.2 - 1)) rfl rfl).trans (gi_T (by rw [ll1]; exact (hl c hcl).2))
          · rw [List.length_map]
            have := line
            unfold leadF
            show 1 + _ ≤ _
            omega
          · rw [List.map_cons, List.map_map] at e1
            exact e1
        · show some (D.tup ((List.range ins).map fun k => D.int (maxL (0 :: (leadF leads k).map fun c => gi l c.2)))) = some (D.tup ((dl leads ins l).map D.int))
          unfold dl
          rw [List.map_map]
          rfl
      refine w_for (xs := words L2' ins) (enc := eT) (fun bs s => ∃ c d, s = [.fz F, .fz (.lst (leads.map eS1)), .fz (.lst (cps.map eS1)), .fz (.lst ((List.range ins).map fun k => .lst ((leadF leads k).map fun c => D.int (c.2 - 1)))), .fz (.lst ((List.range outs).map fun k => .lst ((leadB leads k).map fun c => D.int (c.1 - 1)))), .own (oL ((found leads cps ins outs pre ++ bs.map fun b => cpl leads ins outs l b).map eP)), .fz (eT l), .fz (eT (dl leads ins l)), c, d, .un, .un, .un, .un, .un, .un]) ?_ ⟨c, d, by simp⟩ ?_ ?_
      · refine items_eq ((cf_eq (args1 ?_)).trans (bit_lists_eq hi))
        show dUn (dFld 0 "ins") (dVar 0) _ = _
        unfold dUn
        exact fi
      · rintro bs bt s ⟨q2, hq2⟩ ⟨c, d, rfl⟩
        have hbw : bt ∈ words L2' ins := by rw [hq2]; simp
        have hb1 := (mem_words.mp hbw).1
        have hbs : bs.length ≤ 8 := by
          have h := congrArg List.length hq2
          rw [words_len, List.length_append] at h
          have h2 : L2'.length ^ ins ≤ 2 ^ 3 := Nat.pow_le_pow_right (by decide) hi
          omega
        refine ⟨_, rfl, ?_⟩
        unfold b_room_step_1
        apply w_seq
        refine w_set (d := eT (ob leads outs bt)) ?_ ?_
        · refine (cb_eq (args1 (frL (lc_map (enc := fun k => .lst ((leadB leads k).map fun c => D.int (c.1 - 1))) (xs := List.range outs) (g := fun k => .int (minL (1 :: (leadB leads k).map fun c => gi bt c.1))) rfl (by rw [List.length_range]; have := line; omega) fun k hk => ⟨_, rfl, ?_⟩)))).trans ?_
          · have h1 := filt_len (fun c : Int × Int => decide (c.2 = ((1 + k : Nat) : Int))) leads nl
            have e1 := dMin_ints (l := 1 :: (leadB leads k).map fun c => gi bt c.1) (by simp)
            refine (cb_eq (args1 (frL (cat_eq (xs := [.int 1]) (ys := (leadB leads k).map fun c => D.int (gi bt c.1)) rfl (frL (lc_map (enc := fun c : Int × Int => D.int (c.1 - 1)) (xs := leadB leads k) (g := fun c => D.int (gi bt c.1)) rfl ?_ fun c hcf => ⟨_, rfl, ?_⟩)) ?_)))).trans ?_
            · have := line
              unfold leadB
              omega
            · have hcl : c ∈ leads := (List.mem_filter.mp hcf).1
              exact (op2 (a := eT bt) (b := .int (c.1 - 1)) rfl rfl).trans (gi_T (by rw [hb1]; exact (hl c hcl).1))
            · rw [List.length_map]
              have := line
              unfold leadB
              show 1 + _ ≤ _
              omega
            · rw [List.map_cons, List.map_map] at e1
              exact e1
          · show some (D.tup ((List.range outs).map fun k => D.int (minL (1 :: (leadB leads k).map fun c => gi bt c.1)))) = some (D.tup ((ob leads outs bt).map D.int))
            unfold ob
            rw [List.map_map]
            rfl
        have dln : (dl leads ins l).length = ins := by unfold dl; rw [List.length_map, List.length_range]
        have obn : (ob leads outs bt).length = outs := by unfold ob; rw [List.length_map, List.length_range]
        refine w_app (d := eP (cpl leads ins outs l bt)) (l := (found leads cps ins outs pre ++ bs.map fun b => cpl leads ins outs l b).map eP) (tup2 ((cf_eq (args2 (a := eT (dl leads ins l)) (b := eT bt) rfl rfl)).trans (state_of_eq (by omega) (by omega))) ((cf_eq (args2 (a := eT l) (b := eT (ob leads outs bt)) rfl rfl)).trans (state_of_eq (by omega) (by omega)))) rfl ?_ ⟨.fz (eT bt), .fz (eT (ob leads outs bt)), ?_⟩
        · rw [List.length_map, List.length_append, List.length_map]
          have := line
          omega
        · rw [List.map_append (l₁ := bs), ← List.append_assoc, List.map_append (l₁ := found leads cps ins outs pre ++ _)]
          rfl
      · rintro s ⟨c, d, rfl⟩
        refine ⟨.fz (eT l), .fz (eT (dl leads ins l)), c, d, ?_⟩
        have e : found leads cps ins outs (pre ++ [l]) = found leads cps ins outs pre ++ (words L2' ins).map fun b => cpl leads ins outs l b := by
          unfold found
          rw [List.filter_append, List.filter_cons_of_pos (p := fun l => agrees l cps) (a := l) (l := []) hag, List.flatMap_append]
          simp
        rw [e]
  · rintro s ⟨a, b, c, d, rfl⟩
    refine w_retO (o := r) ?_ rfl
    unfold dSortedL
    rw [items_own (l := (found leads cps ins outs (words L3 outs)).map eP) rfl, Option.bind_some]
    exact hr
end K37

set_option Elab.async false
set_option linter.all false
set_option maxRecDepth 100000
set_option maxHeartbeats 4000000
namespace K37
open PySem L2 My

theorem words_nodup {α : Type} {A : List α} (hA : A.Nodup) : ∀ n, (words A n).Nodup
  | 0 => by show [[]].Nodup; simp
  | n + 1 => by
    show List.Pairwise _ ((words A n).flatMap fun r => A.map fun a => r ++ [a])
    rw [List.pairwise_flatMap]
    refine ⟨fun r hr => ?_, (words_nodup hA n).imp fun {a b} h x hx y hy => ?_⟩
    · rw [List.pairwise_map]
      exact hA.imp fun {a b} h e => h (by simpa using e)
    · obtain ⟨u, _, rfl⟩ := List.mem_map.mp hx
      obtain ⟨v, _, rfl⟩ := List.mem_map.mp hy
      intro e
      exact h (List.append_inj_left' e rfl)
theorem gS1 (l : List (Int × Int)) (a : Int) : (gS l a).1 = gi (l.map (·.1)) a := by
  unfold gS gi
  rw [List.getD_eq_getElem?_getD, List.getD_eq_getElem?_getD, List.getElem?_map]
  cases l[(a - 1).toNat]? <;> rfl
theorem gS2 (l : List (Int × Int)) (a : Int) : (gS l a).2 = gi (l.map (·.2)) a := by
  unfold gS gi
  rw [List.getD_eq_getElem?_getD, List.getD_eq_getElem?_getD, List.getElem?_map]
  cases l[(a - 1).toNat]? <;> rfl
theorem head_max {xs : List Int} (h0 : ∀ x ∈ xs, 0 ≤ x) (h1 : ∀ x ∈ xs, ∀ y ∈ xs, 0 < x → 0 < y → x = y) : (xs.filter fun x => decide (0 < x)).headD 0 = maxL (0 :: xs) := by
  have hm := maxL_mem (0 :: xs) (by simp)
  have hg := maxL_ge (0 :: xs)
  cases e : xs.filter fun x => decide (0 < x) with
  | nil =>
    have hz : ∀ x ∈ xs, x = 0 := fun x hx => by
      have h2 := h0 x hx
      by_cases c : 0 < x
      · have : x ∈ xs.filter fun x => decide (0 < x) := List.mem_filter.mpr ⟨hx, decide_eq_true c⟩
        rw [e] at this
        exact absurd this (by simp)
      · omega
    show (0 : Int) = _
    rcases List.mem_cons.mp hm with h | h
    · exact h.symm
    · exact (hz _ h).symm
  | cons v vs =>
    have hv : v ∈ xs.filter fun x => decide (0 < x) := by rw [e]; simp
    obtain ⟨hv1, hv2⟩ := List.mem_filter.mp hv
    have hv2 : 0 < v := of_decide_eq_true hv2
    show v = _
    have h3 := hg v (List.mem_cons_of_mem _ hv1)
    rcases List.mem_cons.mp hm with h | h
    · omega
    · exact h1 v hv1 _ h hv2 (by omega)
theorem min_bits {ys : List Int} (h : ∀ y ∈ ys, y = 0 ∨ y = 1) : minL (1 :: ys) = if (ys.filter fun y => decide (y = 0)).isEmpty then 1 else 0 := by
  have hm := minL_mem (1 :: ys) (by simp)
  have hg := minL_le (1 :: ys)
  cases e : ys.filter fun y => decide (y = 0) with
  | nil =>
    have hz : ∀ y ∈ ys, y = 1 := fun y hy => by
      rcases h y hy with c | c
      · have : y ∈ ys.filter fun y => decide (y = 0) := List.mem_filter.mpr ⟨hy, decide_eq_true c⟩
        rw [e] at this
        exact absurd this (by simp)
      · exact c
    show _ = (1 : Int)
    rcases List.mem_cons.mp hm with h2 | h2
    · exact h2
    · exact hz _ h2
  | cons v vs =>
    have hv : v ∈ ys.filter fun y => decide (y = 0) := by rw [e]; simp
    obtain ⟨hv1, hv2⟩ := List.mem_filter.mp hv
    have hv2 : v = 0 := of_decide_eq_true hv2
    show _ = (0 : Int)
    have h3 := hg v (List.mem_cons_of_mem _ hv1)
    rcases List.mem_cons.mp hm with h2 | h2
    · omega
    · rcases h _ h2 with h4 | h4
      · exact h4
      · omega
/-- couples that one lead implies are told -/
def Clo (leads cps : List (Int × Int)) : Prop := ∀ i a b, (i, a) ∈ leads → (i, b) ∈ leads → a ≠ b → (a, b) ∈ cps ∨ (b, a) ∈ cps
theorem agr_eq {x y : Int} (h : agr x y = true) (hx : 0 < x) (hy : 0 < y) : x = y := by
  unfold agr at h
  rw [decide_eq_true hx, decide_eq_true hy] at h
  simpa using h
theorem live_eq {leads cps o : List (Int × Int)} (hcl : Clo leads cps) (hl : ∀ x ∈ o, Lab x) (ha : agrees (o.map (·.1)) cps = true) (k : Nat) : (live leads o (k + 1 : Nat)).headD 0 = maxL (0 :: (leadF leads k).map fun c => gi (o.map (·.1)) c.2) := by
  have e : live leads o (k + 1 : Nat) = ((leadF leads k).map fun c => gi (o.map (·.1)) c.2).filter fun x => decide (0 < x) := by
    unfold live leadF
    rw [Nat.add_comm 1 k]
    congr 1
    exact List.map_congr_left fun c _ => gS1 o c.2
  have g0 : ∀ a, 0 ≤ gi (o.map (·.1)) a := fun a => by
    rw [← gS1]
    unfold gS
    rw [List.getD_eq_getElem?_getD]
    cases c : o[(a - 1).toNat]? with
    | none => exact Int.le_refl 0
    | some x =>
      have := (hl x (List.mem_of_getElem? c)).1
      show 0 ≤ x.1
      omega
  rw [e]
  refine head_max (fun x hx => ?_) fun x hx y hy h1 h2 => ?_
  · obtain ⟨c, _, rfl⟩ := List.mem_map.mp hx
    exact g0 _
  · obtain ⟨c, hc, rfl⟩ := List.mem_map.mp hx
    obtain ⟨d, hd, rfl⟩ := List.mem_map.mp hy
    obtain ⟨c1, c2⟩ := List.mem_filter.mp hc
    obtain ⟨d1, d2⟩ := List.mem_filter.mp hd
    obtain ⟨ci, ca⟩ := c
    obtain ⟨di, da⟩ := d
    have c2 : ci = ((1 + k : Nat) : Int) := of_decide_eq_true c2
    have d2 : di = ((1 + k : Nat) : Int) := of_decide_eq_true d2
    subst c2 d2
    by_cases e : ca = da
    · rw [e]
    · unfold agrees at ha
      rw [List.all_eq_true] at ha
      rcases hcl _ _ _ c1 d1 e with h | h
      · exact agr_eq (ha _ h) h1 h2
      · exact (agr_eq (ha _ h) h2 h1).symm
theorem unlike_eq {leads d : List (Int × Int)} (hl : ∀ x ∈ d, Lab x) (hr : ∀ c ∈ leads, Inr d.length c.1) (k : Nat) : (if (unlike leads d (k + 1 : Nat)).isEmpty then (1 : Int) else 0) = minL (1 :: (leadB leads k).map fun c => gi (d.map (·.2)) c.1) := by
  rw [min_bits]
  · have e : (((leadB leads k).map fun c => gi (d.map (·.2)) c.1).filter fun y => decide (y = 0)) = (unlike leads d (k + 1 : Nat)).map fun c => gi (d.map (·.2)) c.1 := by
      unfold unlike leadB
      rw [List.filter_map, List.filter_filter, Nat.add_comm 1 k]
      congr 1
      refine List.filter_congr fun c _ => ?_
      rw [gS2, Bool.and_comm]
      rfl
    rw [e, List.isEmpty_map]
  · intro y hy
    obtain ⟨c, hc, rfl⟩ := List.mem_map.mp hy
    obtain ⟨h1, h2⟩ := hr c (List.mem_filter.mp hc).1
    rw [← gS2]
    unfold gS
    exact (hl _ (getD_mem (by omega))).2
theorem map_eq_range {α : Type} {l : List α} {z : α} {f : α → Int} {g : Nat → Int} {n : Nat} (hn : l.length = n) : (l.map f = (List.range n).map g) ↔ ∀ k, k < n → f (l.getD k z) = g k := by
  constructor
  · intro h k hk
    have := congrArg (fun l => l[k]?) h
    simp only [List.getElem?_map, List.getElem?_range hk, List.getElem?_eq_getElem (show k < l.length by omega), Option.map_some, Option.some.injEq] at this
    rw [List.getD_eq_getElem?_getD, List.getElem?_eq_getElem (show k < l.length by omega)]
    exact this
  · intro h
    apply List.ext_getElem
    · simp [hn]
    · intro k h1 h2
      simp only [List.length_map] at h1
      simp only [List.getElem_map, List.getElem_range]
      have := h k (by omega)
      rw [List.getD_eq_getElem?_getD, List.getElem?_eq_getElem h1] at this
      exact this
/-- the law's conditions say just what the program makes -/
theorem roomOk_iff {leads cps d o : List (Int × Int)} {ins outs : Nat} (hcl : Clo leads cps) (hr : ∀ c ∈ leads, Inr ins c.1) (hd : d ∈ words S6 ins) (ho : o ∈ words S6 outs) : roomOk leads cps d o = true ↔ agrees (o.map (·.1)) cps = true ∧ d.map (·.1) = dl leads ins (o.map (·.1)) ∧ o.map (·.2) = ob leads outs (d.map (·.2)) := by
  obtain ⟨d1, d2⟩ := mem_words.mp hd
  obtain ⟨o1, o2⟩ := mem_words.mp ho
  have dL : ∀ x ∈ d, Lab x := fun x hx => S6_lab (d2 x hx)
  have oL' : ∀ x ∈ o, Lab x := fun x hx => S6_lab (o2 x hx)
  have e1 : ok1 cps o = agrees (o.map (·.1)) cps := by
    unfold ok1 agrees
    congr 1
    funext c
    rw [gS1, gS1]
  unfold roomOk dl ob
  rw [Bool.and_eq_true, Bool.and_eq_true, e1]
  refine and_congr_right fun ha => and_congr ?_ ?_
  · rw [map_eq_range (z := (0, 0)) d1, d1, List.all_eq_true]
    constructor
    · intro h k hk
      have := of_decide_eq_true (h k (List.mem_range.mpr hk))
      rw [this, live_eq hcl oL' ha]
    · intro h k hk
      refine decide_eq_true ?_
      rw [h k (List.mem_range.mp hk), live_eq hcl oL' ha]
  · rw [map_eq_range (z := (0, 0)) o1, o1, List.all_eq_true]
    constructor
    · intro h k hk
      have := of_decide_eq_true (h k (List.mem_range.mpr hk))
      rw [this, unlike_eq dL (by rw [d1]; exact hr)]
    · intro h k hk
      refine decide_eq_true ?_
      rw [h k (List.mem_range.mp hk), unlike_eq dL (by rw [d1]; exact hr)]
theorem zip_self (l : List (Int × Int)) : (l.map (·.1)).zip (l.map (·.2)) = l := by
  rw [List.zip_map']
  exact List.map_id l
theorem L3_iff {x : Int} : x ∈ L3 ↔ x = 0 ∨ x = 1 ∨ x = 2 := by simp [L3]
theorem L2_iff {x : Int} : x ∈ L2' ↔ x = 0 ∨ x = 1 := by simp [L2']
theorem cpl_parts {leads : List (Int × Int)} {ins outs : Nat} {l b : List Int} (hl : l.length = outs) (hb : b.length = ins) : (cpl leads ins outs l b).1.map (·.1) = dl leads ins l ∧ (cpl leads ins outs l b).1.map (·.2) = b ∧ (cpl leads ins outs l b).2.map (·.1) = l ∧ (cpl leads ins outs l b).2.map (·.2) = ob leads outs b := by
  have dln : (dl leads ins l).length = ins := by unfold dl; rw [List.length_map, List.length_range]
  have obn : (ob leads outs b).length = outs := by unfold ob; rw [List.length_map, List.length_range]
  unfold cpl
  exact ⟨List.map_fst_zip (by omega), List.map_snd_zip (by omega), List.map_fst_zip (by omega), List.map_snd_zip (by omega)⟩
theorem mem_found {leads cps : List (Int × Int)} {ins outs : Nat} {x : Cp} : x ∈ found leads cps ins outs (words L3 outs) ↔ ∃ l b, l ∈ words L3 outs ∧ agrees l cps = true ∧ b ∈ words L2' ins ∧ x = cpl leads ins outs l b := by
  unfold found
  rw [List.mem_flatMap]
  constructor
  · rintro ⟨l, hl, h⟩
    obtain ⟨h1, h2⟩ := List.mem_filter.mp hl
    obtain ⟨b, hb, rfl⟩ := List.mem_map.mp h
    exact ⟨l, b, h1, h2, hb, rfl⟩
  · rintro ⟨l, b, h1, h2, hb, rfl⟩
    exact ⟨l, List.mem_filter.mpr ⟨h1, h2⟩, List.mem_map.mpr ⟨b, hb, rfl⟩⟩
theorem gi_in {A l : List Int} {a : Int} (h : ∀ x ∈ l, x ∈ A) (h0 : (0 : Int) ∈ A) : gi l a ∈ A := by
  unfold gi
  rw [List.getD_eq_getElem?_getD]
  cases c : l[(a - 1).toNat]? with
  | none => exact h0
  | some x => exact h x (List.mem_of_getElem? c)
theorem found_iff {leads cps : List (Int × Int)} {ins outs : Nat} (hcl : Clo leads cps) (hr : ∀ c ∈ leads, Inr ins c.1) (x : Cp) : x ∈ found leads cps ins outs (words L3 outs) ↔ x ∈ couples ins outs (roomOk leads cps) := by
  rw [mem_found, mem_couples]
  constructor
  · rintro ⟨l, b, h1, h2, hb, rfl⟩
    obtain ⟨l1, l2⟩ := mem_words.mp h1
    obtain ⟨b1, b2⟩ := mem_words.mp hb
    obtain ⟨p1, p2, p3, p4⟩ := cpl_parts (leads := leads) l1 b1
    have w1 : (cpl leads ins outs l b).1 ∈ words S6 ins := by
      refine mem_words.mpr ⟨by rw [← List.length_map (f := (·.2)), p2, b1], fun y hy => lab_S6 ⟨?_, ?_⟩⟩
      · have hy1 : y.1 ∈ dl leads ins l := by rw [← p1]; exact List.mem_map.mpr ⟨y, hy, rfl⟩
        unfold dl at hy1
        obtain ⟨k, _, e⟩ := List.mem_map.mp hy1
        have hm := maxL_mem (0 :: (leadF leads k).map fun c => gi l c.2) (by simp)
        rw [e] at hm
        rw [← L3_iff]
        rcases List.mem_cons.mp hm with h | h
        · rw [h]; decide
        · obtain ⟨c, _, e2⟩ := List.mem_map.mp h
          rw [← e2]
          exact gi_in l2 (by decide)
      · have hy1 : y.2 ∈ b := by rw [← p2]; exact List.mem_map.mpr ⟨y, hy, rfl⟩
        exact L2_iff.mp (b2 _ hy1)
    have w2 : (cpl leads ins outs l b).2 ∈ words S6 outs := by
      refine mem_words.mpr ⟨by rw [← List.length_map (f := (·.1)), p3, l1], fun y hy => lab_S6 ⟨?_, ?_⟩⟩
      · have hy1 : y.1 ∈ l := by rw [← p3]; exact List.mem_map.mpr ⟨y, hy, rfl⟩
        exact L3_iff.mp (l2 _ hy1)
      · have hy1 : y.2 ∈ ob leads outs b := by rw [← p4]; exact List.mem_map.mpr ⟨y, hy, rfl⟩
        unfold ob at hy1
        obtain ⟨k, _, e⟩ := List.mem_map.mp hy1
        have hm := minL_mem (1 :: (leadB leads k).map fun c => gi b c.1) (by simp)
        rw [e] at hm
        rw [← L2_iff]
        rcases List.mem_cons.mp hm with h | h
        · rw [h]; decide
        · obtain ⟨c, _, e2⟩ := List.mem_map.mp h
          rw [← e2]
          exact gi_in b2 (by decide)
    refine ⟨w1, w2, (roomOk_iff hcl hr w1 w2).mpr ⟨by rw [p3]; exact h2, by rw [p1, p3], by rw [p4, p2]⟩⟩
  · rintro ⟨w1, w2, h⟩
    obtain ⟨h1, h2, h3⟩ := (roomOk_iff hcl hr w1 w2).mp h
    obtain ⟨d1, d2⟩ := mem_words.mp w1
    obtain ⟨o1, o2⟩ := mem_words.mp w2
    refine ⟨x.2.map (·.1), x.1.map (·.2), mem_words.mpr ⟨by rw [List.length_map, o1], fun a ha => ?_⟩, h1, mem_words.mpr ⟨by rw [List.length_map, d1], fun a ha => ?_⟩, ?_⟩
    · obtain ⟨y, hy, rfl⟩ := List.mem_map.mp ha
      exact L3_iff.mpr (S6_lab (o2 y hy)).1
    · obtain ⟨y, hy, rfl⟩ := List.mem_map.mp ha
      exact L2_iff.mpr (S6_lab (d2 y hy)).2
    · unfold cpl
      rw [← h2, ← h3, zip_self, zip_self]
theorem found_nodup {leads cps : List (Int × Int)} {ins outs : Nat} : (found leads cps ins outs (words L3 outs)).Nodup := by
  unfold found
  show List.Pairwise _ _
  rw [List.pairwise_flatMap]
  have n3 : L3.Nodup := by decide
  have n2 : L2'.Nodup := by decide
  refine ⟨fun l hl => ?_, ?_⟩
  · rw [List.pairwise_map]
    obtain ⟨l1, _⟩ := mem_words.mp (List.mem_filter.mp hl).1
    refine List.Pairwise.imp_of_mem (fun {a b} ha hb h e => ?_) (words_nodup n2 ins)
    have pa := (cpl_parts (leads := leads) l1 (mem_words.mp ha).1).2.1
    have pb := (cpl_parts (leads := leads) l1 (mem_words.mp hb).1).2.1
    exact h (by rw [← pa, ← pb, e])
  · refine List.Pairwise.imp_of_mem (fun {a b} ha hb h x hx y hy e => ?_) ((words_nodup n3 outs).filter _)
    obtain ⟨u, hu, rfl⟩ := List.mem_map.mp hx
    obtain ⟨v, hv, rfl⟩ := List.mem_map.mp hy
    have pa := (cpl_parts (leads := leads) (mem_words.mp (List.mem_filter.mp ha).1).1 (mem_words.mp hu).1).2.2.1
    have pb := (cpl_parts (leads := leads) (mem_words.mp (List.mem_filter.mp hb).1).1 (mem_words.mp hv).1).2.2.1
    exact h (by rw [← pa, ← pb, e])
/-- room_step, for a face that tells these leads and couples -/
theorem room_step_eq {ins outs : Nat} {ll cl : D} {leads cps : List (Int × Int)} (hi : ins ≤ 3) (ho : outs ≤ 3) (hL : v_Face_leads [fO ins outs ll cl] = some (.lst (leads.map eS1))) (hC : v_Face_couples [fO ins outs ll cl] = some (.lst (cps.map eS1)))
    (hl : ∀ c ∈ leads, Inr ins c.1 ∧ Inr outs c.2) (hc : ∀ c ∈ cps, Inr outs c.1 ∧ Inr outs c.2) (nl : leads.length ≤ 100) (hcl : Clo leads cps) : v_room_step [fO ins outs ll cl] = some (oL ((couples ins outs (roomOk leads cps)).map eP)) := by
  refine room_found hi ho hL hC hl hc nl (sorted_couples ?_ found_nodup (found_iff hcl fun c h => (hl c h).1))
  have h1 := found_len leads cps ins outs hi (words L3 outs)
  have h2 := words_small (A := L3) (n := outs) (by decide) (by omega)
  omega
end K37

set_option Elab.async false
set_option linter.all false
set_option maxRecDepth 100000
set_option maxHeartbeats 4000000
namespace K37
open PySem L2 My

def eR (r : List Int) : D := .lst (r.map .int)
def at0 (r : List Int) (k : Nat) : Int := r[k]?.getD 0
theorem eR_get {r : List Int} {k : Nat} (h : k < r.length) : dIx (eR r) (.int (k : Int)) = some (.int (at0 r k)) := by
  show atI (r.map D.int) (k : Int) = _
  rw [atI_nat', List.getElem?_map, List.getElem?_eq_getElem h]
  unfold at0
  rw [List.getElem?_eq_getElem h]
  rfl
theorem cb1 {g : List D → Option D} {f : List SV → Option D} {s : List SV} {a : D} (h : f s = some a) : dCallB g (dCons f dNil) s = g [a] := cb_eq (args1 h)
theorem lc_items {fi : List SV → Option (List D)} {s : List SV} {i : Nat} {e : List SV → Option D} {ds : List D} {g : D → D} (h : fi s = some ds) (hn : ds.length ≤ 1000) (he : ∀ d ∈ ds, e ((s.set i .un).set i (.fz d)) = some (g d)) : dLc fi [i] (bName i) dYes e s = some (oL (ds.map g)) :=
  lc_map (enc := fun d => d) (xs := ds) (by rw [h, List.map_id']) (by have := line; omega) fun d hd => ⟨_, rfl, he d hd⟩
def srcO (a b c : Int) : OD := oL [.int a, .int b, .int c]
def Src (n : Nat) (o : OD) : Prop := ∃ a b c : Int, o = srcO a b c ∧ (0 ≤ a ∧ a < 10 ^ 120) ∧ (0 ≤ b ∧ b < 2147483647) ∧ 0 ≤ c ∧ c ≤ n
theorem pick_eq {n : Nat} {o : OD} {many : Int} (hs : Src n o) (hn : n ≤ 1000000) (h0 : 0 < many) (h1 : many < 2 ^ 1000) : ∃ r o', v__law_pick o [.int many] = some (.fz (.int r), o') ∧ 0 ≤ r ∧ r < many ∧ Src (n + 1) o' := by
  obtain ⟨a, b, c, rfl, ⟨a0, a1⟩, ⟨b0, b1⟩, c0, c1⟩ := hs
  have hmany : many.natAbs < 2 ^ 4000 := lt_pow (by omega) h1 (by omega)
  have key : ∃ r o', v__law_pick (srcO a b c) [.int many] = some (r, o') ∧ ∃ x : Int, r = .fz (.int x) ∧ 0 ≤ x ∧ x < many ∧ Src (n + 1) o' := by
    show ∃ r o', runM d__law_pick 3 (srcO a b c) [.int many] = some (r, o') ∧ _
    refine run_M (Q := fun r o' => ∃ x : Int, r = .fz (.int x) ∧ 0 ≤ x ∧ x < many ∧ Src (n + 1) o') ?_
    show WP (d__law_pick [.own (srcO a b c), .fz (.int many), .un]) _ _ _ _
    have i0 : ∀ x : SV, dIxOwn 0 (dC (.int 0)) [.own (oL [.int a, .int b, .int c]), .fz (.int many), x] = some (.int a) := fun x => own_ixL (k := 0) (z := 0) (l := [.int a, .int b, .int c]) rfl rfl rfl
    have j1 : ∀ p q r : Int, dIxOwn 0 (dC (.int 1)) [.own (oL [.int p, .int q, .int r]), .fz (.int many), .un] = some (.int q) := fun p q r => own_ixL (k := 1) (z := 1) (l := [.int p, .int q, .int r]) rfl rfl rfl
    have j2 : ∀ p q r : Int, dIxOwn 0 (dC (.int 2)) [.own (oL [.int p, .int q, .int r]), .fz (.int many), .un] = some (.int r) := fun p q r => own_ixL (k := 2) (z := 2) (l := [.int p, .int q, .int r]) rfl rfl rfl
    unfold d__law_pick
    apply w_seq
    refine w_if (b := decide (0 < a)) ?e1 ?_
    case e1 =>
      unfold dTest
      rw [show dOp dGt (dIxOwn 0 (dC (.int 0))) (dC (.int 0)) [.own (srcO a b c), .fz (.int many), .un] = some (.bl (decide (0 < a))) from op2 (a := .int a) (b := .int 0) (i0 _) rfl]
      rfl
    by_cases ha : 0 < a
    · rw [if_pos (decide_eq_true ha)]
      apply w_seq
      refine w_set (d := .int (a % many)) ?e2 ?_
      case e2 => exact (op2 (a := .int a) (b := .int many) ((cb1 (i0 _)).trans rfl) rfl).trans (dMod_pos h0 _)
      apply w_seq
      refine w_setIx (k := 0) (d := .int (a / many)) (l := [.int a, .int b, .int c]) ?e3 rfl rfl (by simp) ?_
      case e3 => exact (op2 (a := .int a) (b := .int many) (i0 _) rfl).trans (dDiv_pos h0 hmany _)
      refine w_ret (d := .int (a % many)) rfl ?_
      have hb := emod_bound (a := a) h0
      have hq : 0 ≤ a / many := Int.ediv_nonneg a0 (by omega)
      have hq2 : a / many ≤ a := Int.ediv_le_self many a0
      exact ⟨_, rfl, _, rfl, hb.1, hb.2, a / many, b, c, rfl, ⟨hq, by omega⟩, ⟨b0, b1⟩, c0, by omega⟩
    · rw [if_neg (by simpa using ha)]
      apply w_nx
      apply w_seq
      refine w_augIx (k := 2) (a := .int c) (d := .int 1) (r := .int (c + 1)) (l := [.int a, .int b, .int c]) rfl rfl rfl rfl rfl ?_
      have mo : ∀ {x y : Int}, 0 ≤ x → x < 2 ^ 100 → 0 ≤ y → y < 2 ^ 100 → mulOk x y = true := fun {x y} p q r s => mulOk_of (lt_pow p q (by omega)) (lt_pow r s (by omega))
      apply w_seq
      refine w_setIx (k := 1) (d := .int ((b * 48271 + (c + 1) * 60013) % 2147483647)) (l := [.int a, .int b, .int (c + 1)]) ?e4 rfl rfl (by simp) ?_
      case e4 =>
        have q1 := (op2 (g := dMul) (a := .int b) (b := .int 48271) (f2 := dC (.int 48271)) (j1 a b (c + 1)) rfl).trans (dMul_eq (mo b0 (by omega) (by omega) (by omega)))
        have q2 := (op2 (g := dMul) (a := .int (c + 1)) (b := .int 60013) (f2 := dC (.int 60013)) (j2 a b (c + 1)) rfl).trans (dMul_eq (mo (by omega) (by omega) (by omega) (by omega)))
        have q3 := (op2 (g := dAddI) q1 q2).trans (show dAddI _ _ = some (.int (b * 48271 + (c + 1) * 60013)) from rfl)
        exact (op2 (a := .int (b * 48271 + (c + 1) * 60013)) (b := .int 2147483647) ((cb1 q3).trans rfl) rfl).trans (dMod_pos (by omega) _)
      have hb := emod_bound (a := b * 48271 + (c + 1) * 60013) (m := 2147483647) (by omega)
      generalize (b * 48271 + (c + 1) * 60013) % 2147483647 = b2 at hb ⊢
      have hx := emod_bound (a := b2 * 16807 + (c + 1) * 7411) (m := 2147483629) (by omega)
      refine w_ret (d := .int ((b2 * 16807 + (c + 1) * 7411) % 2147483629 / 8 % many)) ?e5 ?_
      case e5 =>
        have e9 : dOp dMod (dCallB dInt (dCons (dOp dAddI (dOp dMul (dIxOwn 0 (dC (.int 1))) (dC (.int 16807))) (dOp dMul (dIxOwn 0 (dC (.int 2))) (dC (.int 7411)))) dNil)) (dC (.int 2147483629)) [.own (oL [.int a, .int b2, .int (c + 1)]), .fz (.int many), .un] = some (.int ((b2 * 16807 + (c + 1) * 7411) % 2147483629)) := by
          have q1 := (op2 (g := dMul) (a := .int b2) (b := .int 16807) (f2 := dC (.int 16807)) (j1 a b2 (c + 1)) rfl).trans (dMul_eq (mo hb.1 (by omega) (by omega) (by omega)))
          have q2 := (op2 (g := dMul) (a := .int (c + 1)) (b := .int 7411) (f2 := dC (.int 7411)) (j2 a b2 (c + 1)) rfl).trans (dMul_eq (mo (by omega) (by omega) (by omega) (by omega)))
          have q3 := (op2 (g := dAddI) q1 q2).trans (show dAddI _ _ = some (.int (b2 * 16807 + (c + 1) * 7411)) from rfl)
          exact (op2 (a := .int (b2 * 16807 + (c + 1) * 7411)) (b := .int 2147483629) ((cb1 q3).trans rfl) rfl).trans (dMod_pos (by omega) _)
        show dOp dMod _ _ [.own (oL [.int a, .int b2, .int (c + 1)]), .fz (.int many), .un] = _
        exact (op2 (a := .int ((b2 * 16807 + (c + 1) * 7411) % 2147483629 / 8)) (b := .int many) ((op2 (a := .int ((b2 * 16807 + (c + 1) * 7411) % 2147483629)) (b := .int 8) e9 rfl).trans (dDiv_pos (by omega) (lt_pow (n := 10) (by omega) (by omega) (by omega)) _)) rfl).trans (dMod_pos h0 _)
      have hy := emod_bound (a := (b2 * 16807 + (c + 1) * 7411) % 2147483629 / 8) h0
      exact ⟨_, rfl, _, rfl, hy.1, hy.2, a, b2, c + 1, rfl, ⟨a0, a1⟩, hb, by omega, by omega⟩
  obtain ⟨r, o', h, x, rfl, h2⟩ := key
  exact ⟨x, o', h, h2⟩
theorem sum_bound {b : Int} (hb : 0 ≤ b) : ∀ {l : List Int}, (∀ x ∈ l, 0 ≤ x ∧ x ≤ b) → 0 ≤ l.sum ∧ l.sum ≤ b * l.length
  | [], _ => ⟨by simp, by simp⟩
  | x :: l, h => by
    obtain ⟨h1, h2⟩ := sum_bound hb (l := l) fun y hy => h y (by simp [hy])
    have := h x (by simp)
    rw [List.sum_cons, List.length_cons]
    have e : b * ((l.length + 1 : Nat) : Int) = b * l.length + b := by
      rw [Int.natCast_add, Int.mul_add]
      simp
    omega
theorem pow60 : dPow (.int 10) (.int 60) = some (.int (10 ^ 60)) := rfl
theorem pow18 : dPow (.int 10) (.int 18) = some (.int (10 ^ 18)) := rfl
theorem cut_ints (ns : List Int) (lo hi : Option Int) : ∃ ms : List Int, cutD (ns.map D.int) lo hi = ms.map D.int ∧ ms.length ≤ ns.length := by
  refine ⟨(ns.drop (HT.sIx ns.length 0 lo)).take (HT.sIx ns.length ns.length hi - HT.sIx ns.length 0 lo), ?_, ?_⟩
  · unfold cutD
    rw [List.length_map, List.map_take, List.map_drop]
  · rw [List.length_take, List.length_drop]
    omega
theorem cell_eq {ns : List Int} {k : Nat} (hl : ns.length ≤ 63) : ∃ c : Int, dIf (dTest (dOp dLt (dVar 1) (dCallB dLen (dCons (dVar 0) dNil)))) (dCallB dInt (dCons (dOp dIx (dVar 0) (dVar 1)) dNil)) (dOp dAddI (dOp dMul (dC (.int 29)) (dCallB dSum (dCons (dFr (dLc (dItems (dFr (dSlL (dVar 0) dNoPart (dPart (dC (.int 6)))))) [5] (bName 5) dYes e__law_source_1)) dNil))) (dC (.int 23))) [.fz (eR ns), .fz (.int (k : Int)), .un, .un, .un, .un] = some (.int c) := by
  have t : dTest (dOp dLt (dVar 1) (dCallB dLen (dCons (dVar 0) dNil))) [.fz (eR ns), .fz (.int (k : Int)), .un, .un, .un, .un] = some (decide ((k : Int) < (ns.length : Int))) :=
    test_b ((op2 (a := .int (k : Int)) (b := .int (ns.length : Int)) rfl ((cb1 (a := eR ns) rfl).trans (by simp [dLen, eR]))).trans rfl)
  unfold dIf
  rw [t]
  by_cases h : (k : Int) < (ns.length : Int)
  · rw [decide_eq_true h]
    have hk : k < ns.length := by omega
    exact ⟨at0 ns k, (cb1 ((op2 (a := eR ns) (b := .int (k : Int)) rfl rfl).trans (eR_get hk))).trans rfl⟩
  · rw [decide_eq_false h]
    obtain ⟨ms, e1, e2⟩ := cut_ints ns none (some 6)
    have e3 : dItems (dFr (dSlL (dVar 0) dNoPart (dPart (dC (.int 6))))) [.fz (eR ns), .fz (.int (k : Int)), .un, .un, .un, .un] = some (ms.map D.int) := by
      unfold dItems
      rw [fr_eq (o := oL (cutD (ns.map D.int) none (some 6))) rfl, toD_oL, e1]
      rfl
    have e4 : dFr (dLc (dItems (dFr (dSlL (dVar 0) dNoPart (dPart (dC (.int 6)))))) [5] (bName 5) dYes e__law_source_1) [.fz (eR ns), .fz (.int (k : Int)), .un, .un, .un, .un] = some (.lst ((ms.map (· % 999983)).map D.int)) := by
      rw [fr_eq (lc_items (ds := ms.map D.int) (g := fun d => match d with | .int x => .int (x % 999983) | _ => .non) e3 (by rw [List.length_map]; omega) ?_), toD_oL]
      · rw [List.map_map, List.map_map]
        rfl
      · intro d hd
        obtain ⟨x, _, rfl⟩ := List.mem_map.mp hd
        exact (op2 (a := .int x) (b := .int 999983) ((cb1 (a := .int x) rfl).trans rfl) rfl).trans (dMod_pos (by omega) _)
    have e5 := (cb1 (g := dSum) e4).trans (show (allI ((ms.map (· % 999983)).map D.int)).map (fun ns => D.int ns.sum) = some (.int (ms.map (· % 999983)).sum) by rw [allI_ints]; rfl)
    obtain ⟨s1, s2⟩ := sum_bound (b := 999983) (by omega) (l := ms.map (· % 999983)) fun x hx => by
      obtain ⟨y, _, rfl⟩ := List.mem_map.mp hx
      have := emod_bound (a := y) (m := 999983) (by omega)
      omega
    rw [List.length_map] at s2
    refine ⟨29 * (ms.map (· % 999983)).sum + 23, ?_⟩
    have e6 := (op2 (g := dMul) (f := dC (.int 29)) (a := .int 29) rfl e5).trans (dMul_eq (mulOk_of (lt_pow (n := 10) (by omega) (by omega) (by omega)) (lt_pow (n := 100) s1 (by omega) (by omega))))
    exact (op2 (g := dAddI) e6 (f2 := dC (.int 23)) (b := .int 23) rfl).trans rfl
theorem lst3 {f f2 f3 : List SV → Option D} {s : List SV} {a b c : D} (h : f s = some a) (h2 : f2 s = some b) (h3 : f3 s = some c) : dLst (dCons f (dCons f2 (dCons f3 dNil))) s = some (oL [a, b, c]) := by
  unfold dLst dCons dNil
  rw [h, h2, h3]
  show (if ([a, b, c] : List D).length ≤ sizeLine then some (oL [a, b, c]) else none) = _
  exact if_pos (by have := line; show 3 ≤ sizeLine; omega)
theorem source_eq {ns : List Int} {k : Nat} (hl : ns.length ≤ 63) (hk : k ≤ 5) : ∃ o, v__law_source [eR ns, .int (k : Int)] = some o ∧ Src 10 o := by
  obtain ⟨c, hc⟩ := cell_eq (k := k) hl
  have key : ∀ o : OD, (∃ a b : Int, o = srcO a b k ∧ (0 ≤ a ∧ a < 10 ^ 120) ∧ (0 ≤ b ∧ b < 2147483647)) → Src 10 o := fun o ⟨a, b, e, h1, h2⟩ => ⟨a, b, k, e, h1, h2, by omega, by omega⟩
  have h120 : (10 : Int) ^ 60 * 10 ^ 60 = 10 ^ 120 := by rw [← Int.pow_add]
  have big : (10 : Int) ^ 120 < 2 ^ 400 := by decide +kernel
  have p18 : (0 : Int) < 10 ^ 18 := by decide +kernel
  generalize hA : (if c < 0 then -c else c) % (10 ^ 120 : Int) = size
  have hsz := emod_bound (a := if c < 0 then -c else c) (m := 10 ^ 120) (by decide +kernel)
  rw [hA] at hsz
  refine ⟨srcO (if (10 : Int) ^ 18 ≤ size then size else 0) (((2 * size + (if c < 0 then 1 else 0) + k * 120121 + 65537) % 2147483629 + 6151) * ((2 * size + (if c < 0 then 1 else 0) + k * 120121 + 65537) % 2147483629 + 98317) % 2147483629) k, ?_, key _ ⟨_, _, rfl, ?_, ?_⟩⟩
  · show runO d__law_source 6 _ = _
    apply run_O
    show WP (d__law_source [.fz (eR ns), .fz (.int (k : Int)), .un, .un, .un, .un]) _ _ _ _
    unfold d__law_source
    apply w_seq
    refine w_set (d := .int c) hc ?_
    apply w_seq
    refine w_set (d := .int size) ?e1 ?_
    case e1 =>
      have m1 : mulOk ((10 : Int) ^ 60) (10 ^ 60) = true := mulOk_of (lt_pow (n := 400) (by decide +kernel) (by decide +kernel) (by omega)) (lt_pow (n := 400) (by decide +kernel) (by decide +kernel) (by omega))
      have q1 : dOp dMul (dOp dPow (dC (.int 10)) (dC (.int 60))) (dOp dPow (dC (.int 10)) (dC (.int 60))) [.fz (eR ns), .fz (.int (k : Int)), .fz (.int c), .un, .un, .un] = some (.int (10 ^ 120)) := by
        rw [← h120]
        exact (op2 (a := .int (10 ^ 60)) (b := .int (10 ^ 60)) ((op2 (a := .int 10) (b := .int 60) rfl rfl).trans pow60) ((op2 (a := .int 10) (b := .int 60) rfl rfl).trans pow60)).trans (dMul_eq m1)
      rw [← hA]
      exact (op2 (a := .int (if c < 0 then -c else c)) (b := .int (10 ^ 120)) ((cb1 (a := .int c) rfl).trans rfl) q1).trans (dMod_pos (by decide +kernel) _)
    apply w_seq
    refine w_set (d := .int ((2 * size + (if c < 0 then 1 else 0) + k * 120121 + 65537) % 2147483629)) ?e2 ?_
    case e2 =>
      have q1 : dOp dMul (dC (.int 2)) (dVar 3) [.fz (eR ns), .fz (.int (k : Int)), .fz (.int c), .fz (.int size), .un, .un] = some (.int (2 * size)) := (op2 (a := .int 2) (b := .int size) rfl rfl).trans (dMul_eq (mulOk_of (lt_pow (n := 10) (by omega) (by omega) (by omega)) (lt_pow (n := 400) hsz.1 (by omega) (by omega))))
      have q2 : dIf (dTest (dOp dLt (dVar 2) (dC (.int 0)))) (dC (.int 1)) (dC (.int 0)) [.fz (eR ns), .fz (.int (k : Int)), .fz (.int c), .fz (.int size), .un, .un] = some (.int (if c < 0 then 1 else 0)) := by
        unfold dIf
        rw [test_b ((op2 (a := .int c) (b := .int 0) rfl rfl).trans (show dIB (fun i j => decide (i < j)) (.int c) (.int 0) = some (.bl (decide (c < 0))) from rfl))]
        by_cases h : c < 0
        · rw [decide_eq_true h, if_pos h]
          rfl
        · rw [decide_eq_false h, if_neg h]
          rfl
      have q3 : dOp dMul (dVar 1) (dC (.int 120121)) [.fz (eR ns), .fz (.int (k : Int)), .fz (.int c), .fz (.int size), .un, .un] = some (.int (k * 120121)) := (op2 (a := .int (k : Int)) (b := .int 120121) rfl rfl).trans (dMul_eq (mulOk_of (lt_pow (n := 10) (by omega) (by omega) (by omega)) (lt_pow (n := 400) (by omega) (by omega) (by omega))))
      have q4 := (op2 (g := dAddI) q1 q2).trans (show dAddI _ _ = some (.int (2 * size + (if c < 0 then 1 else 0))) from rfl)
      have q5 := (op2 (g := dAddI) q4 q3).trans (show dAddI _ _ = some (.int (2 * size + (if c < 0 then 1 else 0) + k * 120121)) from rfl)
      have q6 := (op2 (g := dAddI) q5 (f2 := dC (.int 65537)) (b := .int 65537) rfl).trans (show dAddI _ _ = some (.int (2 * size + (if c < 0 then 1 else 0) + k * 120121 + 65537)) from rfl)
      exact (op2 (a := .int (2 * size + (if c < 0 then 1 else 0) + k * 120121 + 65537)) (b := .int 2147483629) ((cb1 q6).trans rfl) rfl).trans (dMod_pos (by omega) _)
    have hsm := emod_bound (a := 2 * size + (if c < 0 then 1 else 0) + k * 120121 + 65537) (m := 2147483629) (by omega)
    generalize (2 * size + (if c < 0 then 1 else 0) + k * 120121 + 65537) % 2147483629 = sm at hsm ⊢
    refine w_retO (o := srcO (if (10 : Int) ^ 18 ≤ size then size else 0) ((sm + 6151) * (sm + 98317) % 2147483629) k) ?e3 rfl
    have q1 : dIf (dTest (dOp dGe (dVar 3) (dOp dPow (dC (.int 10)) (dC (.int 18))))) (dVar 3) (dC (.int 0)) [.fz (eR ns), .fz (.int (k : Int)), .fz (.int c), .fz (.int size), .fz (.int sm), .un] = some (.int (if (10 : Int) ^ 18 ≤ size then size else 0)) := by
      unfold dIf
      rw [test_b ((op2 (a := .int size) (b := .int (10 ^ 18)) rfl ((op2 (a := .int 10) (b := .int 18) rfl rfl).trans pow18)).trans (show dIB (fun i j => decide (j ≤ i)) (.int size) (.int (10 ^ 18)) = some (.bl (decide ((10 : Int) ^ 18 ≤ size))) from rfl))]
      by_cases h : (10 : Int) ^ 18 ≤ size
      · rw [decide_eq_true h, if_pos h]
        rfl
      · rw [decide_eq_false h, if_neg h]
        rfl
    have q2 := (op2 (g := dAddI) (f := dVar 4) (f2 := dC (.int 6151)) (s := [.fz (eR ns), .fz (.int (k : Int)), .fz (.int c), .fz (.int size), .fz (.int sm), .un]) (a := .int sm) (b := .int 6151) rfl rfl).trans (show dAddI _ _ = some (.int (sm + 6151)) from rfl)
    have q3 := (op2 (g := dAddI) (f := dVar 4) (f2 := dC (.int 98317)) (s := [.fz (eR ns), .fz (.int (k : Int)), .fz (.int c), .fz (.int size), .fz (.int sm), .un]) (a := .int sm) (b := .int 98317) rfl rfl).trans (show dAddI _ _ = some (.int (sm + 98317)) from rfl)
    have q4 := (op2 (g := dMul) q2 q3).trans (dMul_eq (mulOk_of (lt_pow (n := 100) (by omega) (by omega) (by omega)) (lt_pow (n := 100) (by omega) (by omega) (by omega))))
    have q5 := (op2 (g := dMod) (f2 := dC (.int 2147483629)) (b := .int 2147483629) ((cb1 (g := dInt) q4).trans rfl) rfl).trans (dMod_pos (by omega) _)
    exact lst3 q1 q5 rfl
  · split
    · exact hsz
    · exact ⟨by omega, by decide +kernel⟩
  · have := emod_bound (a := (((2 * size + (if c < 0 then 1 else 0) + k * 120121 + 65537) % 2147483629 + 6151) * ((2 * size + (if c < 0 then 1 else 0) + k * 120121 + 65537) % 2147483629 + 98317))) (m := 2147483629) (by omega)
    omega
end K37

set_option Elab.async false
set_option linter.all false
set_option maxRecDepth 100000
set_option maxHeartbeats 4000000
namespace K37
open PySem L2 My

/-! ### the face: rows of bits -/
def mem4 (n : Nat) : List Nat := (List.range 4).filter fun b => n.testBit b
theorem members_eq {n : Nat} (h : n < 16) : v_members_of [.int n] = some (.lst ((mem4 n).map fun (b : Nat) => D.int b)) := by
  match n, h with
  | 0, _ => rfl
  | 1, _ => rfl
  | 2, _ => rfl
  | 3, _ => rfl
  | 4, _ => rfl
  | 5, _ => rfl
  | 6, _ => rfl
  | 7, _ => rfl
  | 8, _ => rfl
  | 9, _ => rfl
  | 10, _ => rfl
  | 11, _ => rfl
  | 12, _ => rfl
  | 13, _ => rfl
  | 14, _ => rfl
  | 15, _ => rfl
  | n + 16, h => exact absurd h (by omega)
theorem or_nat {a b : Nat} (ha : a < 16) (hb : b < 16) : dBOr (.int a) (.int b) = some (.int (a ||| b : Nat)) := by
  have key : ∀ a : Fin 16, ∀ b : Fin 16, Builtin.bitOr (a.val : Int) (b.val : Int) = ((a.val ||| b.val : Nat) : Int) := by decide +kernel
  have := key ⟨a, ha⟩ ⟨b, hb⟩
  show some (D.int (Builtin.bitOr (a : Int) (b : Int))) = _
  rw [this]
theorem shl_nat {o : Nat} (h : o < 4) : dShl (.int 1) (.int o) = some (.int (1 <<< o : Nat)) := by
  match o, h with
  | 0, _ => rfl
  | 1, _ => rfl
  | 2, _ => rfl
  | 3, _ => rfl
theorem or_lt {a b : Nat} (ha : a < 16) (hb : b < 16) : a ||| b < 16 := Nat.or_lt_two_pow (n := 4) ha hb
theorem sh_lt {o : Nat} (h : o < 4) : 1 <<< o < 16 := by
  match o, h with
  | 0, _ => decide
  | 1, _ => decide
  | 2, _ => decide
  | 3, _ => decide
theorem sh_bit (o b : Nat) : (1 <<< o).testBit b = decide (o = b) := by
  rw [Nat.one_shiftLeft, Nat.testBit_two_pow]
def eN (l : List Nat) : List D := l.map fun (b : Nat) => D.int b
theorem eN_get {l : List Nat} {k : Nat} (h : k < l.length) : (eN l)[k]? = some (.int (l.getD k 0 : Nat)) := by
  unfold eN
  rw [List.getElem?_map, List.getElem?_eq_getElem h, List.getD_eq_getElem?_getD, List.getElem?_eq_getElem h]
  rfl
theorem getD_set {l : List Nat} {k i v : Nat} (h : k < l.length) : (l.set k v).getD i 0 = if i = k then v else l.getD i 0 := by
  rw [List.getD_eq_getElem?_getD, List.getD_eq_getElem?_getD, List.getElem?_set]
  by_cases e : i = k
  · subst e
    rw [if_pos rfl, if_pos rfl, if_pos h]
    rfl
  · rw [if_neg e, if_neg (fun h => e h.symm)]
theorem getD_rep (n i : Nat) : (List.replicate n 0).getD i 0 = 0 := by
  rw [List.getD_eq_getElem?_getD, List.getElem?_replicate]
  split <;> rfl
/-- rows[i] = rows[i] | 1 << o -/
theorem w_orIx {nx bk ct : List SV → Prop} {rt : OD → List SV → Prop} {s : List SV} {j i o : Nat} {fi fo : List SV → Option D} {rows : List Nat} (hi : fi s = some (.int i)) (ho : fo s = some (.int o)) (hs : s[j]? = some (.own (oL (eN rows)))) (hl : i < rows.length) (h16 : ∀ r ∈ rows, r < 16) (h4 : o < 4) (q : nx (s.set j (.own (oL (eN (rows.set i (rows.getD i 0 ||| 1 <<< o))))))) : WP (dSetIx j fi (dOp dBOr (dIxOwn j fi) (dOp dShl (dC (.int 1)) fo)) s) nx rt bk ct := by
  have hr : rows.getD i 0 < 16 := h16 _ (getD_mem hl)
  have e1 : dIxOwn j fi s = some (.int (rows.getD i 0 : Nat)) := by
    have e0 : dIxOwn j (dC (.int (i : Int))) s = some (.int (rows.getD i 0 : Nat)) := own_ix hs (eN_get hl)
    unfold dIxOwn at e0 ⊢
    rw [hi]
    exact e0
  refine w_setIx (k := i) (l := eN rows) (d := .int (rows.getD i 0 ||| 1 <<< o : Nat)) ?_ hi hs (by unfold eN; rw [List.length_map]; exact hl) ?_
  · exact (op2 e1 ((op2 (a := .int 1) rfl ho).trans (shl_nat h4))).trans (or_nat hr (sh_lt h4))
  · have e : (eN rows).set i (.int (rows.getD i 0 ||| 1 <<< o : Nat)) = eN (rows.set i (rows.getD i 0 ||| 1 <<< o)) := by
      unfold eN
      rw [List.map_set]
    rw [e]
    exact q
theorem set_lt {rows : List Nat} {i v : Nat} (h : ∀ r ∈ rows, r < 16) (hv : v < 16) : ∀ r ∈ rows.set i v, r < 16 := fun r hr => by
  rcases List.mem_or_eq_of_mem_set hr with h1 | h1
  · exact h r h1
  · rw [h1]
    exact hv
theorem row_bit {rows : List Nat} {i o a b : Nat} (hl : i < rows.length) : ((rows.set i (rows.getD i 0 ||| 1 <<< o)).getD a 0).testBit b = true ↔ (rows.getD a 0).testBit b = true ∨ (a = i ∧ o = b) := by
  rw [getD_set hl]
  by_cases e : a = i
  · subst e
    rw [if_pos rfl, Nat.testBit_or, sh_bit, Bool.or_eq_true, decide_eq_true_eq]
    simp
  · rw [if_neg e]
    simp [e]
/-- what the rows say -/
def RowsL (n : Nat) (leads : List (Int × Int)) (rows : List Nat) : Prop := rows.length = n + 1 ∧ (∀ r ∈ rows, r < 16) ∧ ∀ a b : Nat, (rows.getD a 0).testBit b = true ↔ ((a : Int), (b : Int)) ∈ leads
def RowsC (n : Nat) (cps : List (Int × Int)) (rows : List Nat) : Prop := rows.length = n + 1 ∧ (∀ r ∈ rows, r < 16) ∧ ∀ a b : Nat, (rows.getD a 0).testBit b = true ↔ ((a : Int), (b : Int)) ∈ cps ∨ ((b : Int), (a : Int)) ∈ cps
def RowsD (n : Nat) (leads cps : List (Int × Int)) (rows : List Nat) : Prop := rows.length = n + 1 ∧ (∀ r ∈ rows, r < 16) ∧ ∀ a b : Nat, a ≤ n → ((rows.getD a 0).testBit b = true ↔ a = b ∨ ((a : Int), (b : Int)) ∈ cps ∨ ((b : Int), (a : Int)) ∈ cps ∨ ∃ i : Nat, ((i : Int), (a : Int)) ∈ leads ∧ ((i : Int), (b : Int)) ∈ leads)
theorem rep_eN (n : Nat) : (List.range n).map (fun _ => D.int 0) = eN (List.replicate n 0) := by
  unfold eN
  rw [List.map_replicate, List.map_const', List.length_range]
  rfl
theorem bit_lt {n b : Nat} (h : n < 16) (hb : n.testBit b = true) : b < 4 := by
  rcases Nat.lt_or_ge b 4 with h1 | h1
  · exact h1
  · rw [Nat.testBit_lt_two_pow (Nat.lt_of_lt_of_le h (Nat.pow_le_pow_right (n := 2) (by omega) h1))] at hb
    cases hb
theorem mem4_iff {n b : Nat} (h : n < 16) : b ∈ mem4 n ↔ n.testBit b = true := by
  unfold mem4
  rw [List.mem_filter, List.mem_range]
  exact ⟨fun h => h.2, fun hb => ⟨bit_lt h hb, hb⟩⟩
end K37

set_option Elab.async false
set_option linter.all false
set_option maxRecDepth 100000
set_option maxHeartbeats 400000
namespace K37
open PySem L2 My

theorem prop1 {O P B E : Prop} (e : E) : ((O ∨ (P ∧ B)) ∨ B) ↔ (O ∨ ((P ∨ E) ∧ B)) := by
  constructor
  · rintro ((h | h) | h)
    · exact .inl h
    · exact .inr ⟨.inl h.1, h.2⟩
    · exact .inr ⟨.inr e, h⟩
  · rintro (h | ⟨_, h⟩)
    · exact .inl (.inl h)
    · exact .inr h
theorem prop2 {O P B E : Prop} (e : ¬ E) : (O ∨ (P ∧ B)) ↔ (O ∨ ((P ∨ E) ∧ B)) := by
  constructor
  · rintro (h | h)
    · exact .inl h
    · exact .inr ⟨.inl h.1, h.2⟩
  · rintro (h | ⟨h1 | h1, h⟩)
    · exact .inl h
    · exact .inr ⟨h1, h⟩
    · exact absurd h1 e
theorem _root_.My.w_retShare {nx bk ct : List SV → Prop} {rt : OD → List SV → Prop} {s : List SV} {i : Nat} {o : OD} (h : s[i]? = some (.own o)) (q : rt (.fz o.toD) (s.set i (.fz o.toD))) : WP (dRetX (xShare i) s) nx rt bk ct := by
  refine w_retX (d := o.toD) (s' := s.set i (.fz o.toD)) ?_ q
  unfold xShare
  rw [h]
/-- closed_rows -/
theorem closed_eq {ni no : Nat} {leads cps : List (Int × Int)} {lr cr : List Nat} (hi : ni ≤ 3) (ho : no ≤ 3) (hL : RowsL ni leads lr) (hC : RowsC no cps cr) (hl : ∀ c ∈ leads, Inr ni c.1 ∧ Inr no c.2) : ∃ rows, v_closed_rows [.lst (eN lr), .lst (eN cr)] = some (.lst (eN rows)) ∧ RowsD no leads cps rows := by
  obtain ⟨l1, l2, l3⟩ := hL
  obtain ⟨c1, c2, c3⟩ := hC
  have key : ∃ r, v_closed_rows [.lst (eN lr), .lst (eN cr)] = some r ∧ ∃ rows, r = .lst (eN rows) ∧ RowsD no leads cps rows := by
    show ∃ r, runP d_closed_rows 5 [.lst (eN lr), .lst (eN cr)] = some r ∧ _
    have w : WP (d_closed_rows (initS 5 [.lst (eN lr), .lst (eN cr)])) (fun _ => False) (fun o _ => ∃ rows, o.toD = .lst (eN rows) ∧ RowsD no leads cps rows) (fun _ => False) (fun _ => False) := by
      show WP (d_closed_rows [.fz (.lst (eN lr)), .fz (.lst (eN cr)), .un, .un, .un]) _ _ _ _
      unfold d_closed_rows
      apply w_seq
      refine w_setO (o := oL (eN (cr.zipIdx.map fun p => p.1 ||| 1 <<< p.2))) ?_ ?_
      · have e : eN (cr.zipIdx.map fun p => p.1 ||| 1 <<< p.2) = cr.zipIdx.map fun p => D.int ((p.1 ||| 1 <<< p.2 : Nat) : Int) := by
          unfold eN
          rw [List.map_map]
          rfl
        rw [e]
        refine lc_map (enc := fun p : Nat × Nat => .tup [.int (p.2 : Int), .int (p.1 : Int)]) (xs := cr.zipIdx) (g := fun p => D.int ((p.1 ||| 1 <<< p.2 : Nat) : Int)) ?_ ?_ ?_
        · show some (enumD 0 (eN cr)) = _
          unfold eN
          rw [enumD_map, List.zipIdx_map, List.map_map]
          rfl
        · rw [List.length_zipIdx]
          have := line
          omega
        · rintro ⟨r, k⟩ hp
          have hp2 := List.mem_zipIdx hp
          have hk : k < 4 := by
            have := hp2.2.1
            omega
          have hr : r < 16 := by
            rw [hp2.2.2]
            exact c2 _ (List.getElem_mem _)
          refine ⟨_, rfl, ?_⟩
          exact (op2 (a := .int r) rfl ((op2 (a := .int 1) (b := .int k) rfl rfl).trans (shl_nat hk))).trans (or_nat hr (sh_lt hk))
      have base : RowsD no [] cps (cr.zipIdx.map fun p => p.1 ||| 1 <<< p.2) := by
        refine ⟨by rw [List.length_map, List.length_zipIdx, c1], fun r hr => ?_, fun a b ha => ?_⟩
        · obtain ⟨⟨r0, k⟩, hp, rfl⟩ := List.mem_map.mp hr
          have hp2 := List.mem_zipIdx hp
          refine or_lt ?_ (sh_lt (by have := hp2.2.1; show k < 4; omega))
          show r0 < 16
          rw [hp2.2.2]
          exact c2 _ (List.getElem_mem _)
        · have e : (cr.zipIdx.map fun p => p.1 ||| 1 <<< p.2).getD a 0 = cr.getD a 0 ||| 1 <<< a := by
            rw [List.getD_eq_getElem?_getD, List.getD_eq_getElem?_getD, List.getElem?_map, List.getElem?_zipIdx, List.getElem?_eq_getElem (show a < cr.length by omega)]
            simp
          rw [e, Nat.testBit_or, sh_bit, Bool.or_eq_true, decide_eq_true_eq, c3]
          constructor
          · rintro ((h | h) | h)
            · exact .inr (.inl h)
            · exact .inr (.inr (.inl h))
            · exact .inl h
          · rintro (h | h | h | ⟨i, h, _⟩)
            · exact .inr h
            · exact .inl (.inl h)
            · exact .inl (.inr h)
            · exact absurd h (by simp)
      apply w_seq
      refine w_for (xs := List.range lr.length) (enc := fun i : Nat => D.int ((lr.getD i 0 : Nat) : Int)) (fun pre s => ∃ x y rows, s = [.fz (.lst (eN lr)), .fz (.lst (eN cr)), .own (oL (eN rows)), x, y] ∧ RowsD no (leads.filter fun c => decide (c.1 < ((pre.length : Nat) : Int))) cps rows) ?_ ⟨_, _, _, rfl, ?_⟩ ?_ ?_
      · show some (eN lr) = _
        unfold eN
        congr 1
        apply List.ext_getElem
        · simp
        · intro k h1 h2
          simp only [List.length_map] at h1
          simp only [List.getElem_map, List.getElem_range]
          rw [List.getD_eq_getElem?_getD, List.getElem?_eq_getElem h1]
          rfl
      · have e : (leads.filter fun c => decide (c.1 < ((([] : List Nat).length : Nat) : Int))) = [] := by
          rw [List.filter_eq_nil_iff]
          intro c hc h
          have h1 := (hl c hc).1.1
          have h2 := of_decide_eq_true h
          have h3 : (([] : List Nat).length : Int) = 0 := rfl
          omega
        rw [e]
        exact base
      · rintro pre k s hq ⟨x, y, rows, rfl, hR⟩
        obtain ⟨rfl, hk⟩ := range_split hq
        refine ⟨_, rfl, ?_⟩
        unfold b_closed_rows_2
        generalize hpk : pre.length = k at *
        have hrow : lr.getD k 0 < 16 := l2 _ (getD_mem hk)
        generalize hrw : lr.getD k 0 = rw at hrow
        refine w_for (xs := mem4 rw) (enc := fun b : Nat => D.int b) (fun pm s => ∃ y rows, s = [.fz (.lst (eN lr)), .fz (.lst (eN cr)), .own (oL (eN rows)), .fz (.int (rw : Nat)), y] ∧ rows.length = no + 1 ∧ (∀ r ∈ rows, r < 16) ∧ ∀ a b : Nat, a ≤ no → ((rows.getD a 0).testBit b = true ↔ (a = b ∨ ((a : Int), (b : Int)) ∈ cps ∨ ((b : Int), (a : Int)) ∈ cps ∨ ∃ i : Nat, ((i : Int), (a : Int)) ∈ leads.filter (fun c => decide (c.1 < ((k : Nat) : Int))) ∧ ((i : Int), (b : Int)) ∈ leads.filter (fun c => decide (c.1 < ((k : Nat) : Int)))) ∨ (a ∈ pm ∧ rw.testBit b = true))) ?_ ⟨_, rows, rfl, hR.1, hR.2.1, fun a b ha => ?_⟩ ?_ ?_
        · exact items_eq ((cf_eq (args1 (f := dVar 3) (a := .int (rw : Nat)) rfl)).trans (members_eq hrow))
        · rw [hR.2.2 a b ha]
          simp
        · rintro pm m s ⟨qm, hqm⟩ ⟨y, rows, rfl, r1, r2, r3⟩
          have hmm : m ∈ mem4 rw := by rw [hqm]; simp
          have hbit := (mem4_iff hrow).mp hmm
          have hmo : m ≤ no := by
            rw [← hrw] at hbit
            have := (hl _ ((l3 _ _).mp hbit)).2.2
            have h : ((m : Nat) : Int) ≤ no := this
            omega
          refine ⟨_, rfl, ?_⟩
          unfold b_closed_rows_1
          have hml : m < rows.length := by omega
          have hrm : rows.getD m 0 < 16 := r2 _ (getD_mem hml)
          refine w_setIx (k := m) (l := eN rows) (d := .int (rows.getD m 0 ||| rw : Nat)) ?_ rfl rfl (by unfold eN; rw [List.length_map]; exact hml) ?_
          · exact (op2 (own_ix (l := eN rows) rfl (eN_get hml)) (b := .int (rw : Nat)) rfl).trans (or_nat hrm hrow)
          · have e : (eN rows).set m (.int (rows.getD m 0 ||| rw : Nat)) = eN (rows.set m (rows.getD m 0 ||| rw)) := by
              unfold eN
              rw [List.map_set]
            rw [e]
            refine ⟨.fz (.int (m : Nat)), rows.set m (rows.getD m 0 ||| rw), rfl, by rw [List.length_set, r1], set_lt r2 (or_lt hrm hrow), fun a b ha => ?_⟩
            rw [getD_set hml, List.mem_append, List.mem_singleton]
            by_cases ea : a = m
            · rw [if_pos ea, Nat.testBit_or, Bool.or_eq_true, ← ea, r3 a b ha]
              exact prop1 rfl
            · rw [if_neg ea, r3 a b ha]
              exact prop2 ea
        · rintro s ⟨y, rows, rfl, r1, r2, r3⟩
          refine ⟨_, _, rows, rfl, r1, r2, fun a b ha => ?_⟩
          rw [r3 a b ha]
          have e1 : ((pre ++ [k]).length : Nat) = k + 1 := by rw [List.length_append, hpk]; rfl
          rw [e1, mem4_iff hrow, ← hrw, l3, l3]
          simp only [List.mem_filter, decide_eq_true_eq]
          constructor
          · rintro ((h | h | h | ⟨i, ⟨h1, h2⟩, h3, h4⟩) | ⟨h1, h2⟩)
            · exact .inl h
            · exact .inr (.inl h)
            · exact .inr (.inr (.inl h))
            · exact .inr (.inr (.inr ⟨i, ⟨h1, by omega⟩, h3, by omega⟩))
            · exact .inr (.inr (.inr ⟨k, ⟨h1, by omega⟩, h2, by omega⟩))
          · rintro (h | h | h | ⟨i, ⟨h1, h2⟩, h3, h4⟩)
            · exact .inl (.inl h)
            · exact .inl (.inr (.inl h))
            · exact .inl (.inr (.inr (.inl h)))
            · by_cases e : i = k
              · rw [e] at h1 h3
                exact .inr ⟨h1, h3⟩
              · exact .inl (.inr (.inr (.inr ⟨i, ⟨h1, by omega⟩, h3, by omega⟩)))
      · rintro s ⟨x, y, rows, rfl, hR⟩
        refine w_retShare (i := 2) (o := oL (eN rows)) rfl ⟨rows, ?_, ?_⟩
        · exact toD_oL _
        · have e : (leads.filter fun c => decide (c.1 < (((List.range lr.length).length : Nat) : Int))) = leads := by
            rw [List.filter_eq_self]
            intro c hc
            have h := (hl c hc).1.2
            rw [List.length_range, l1]
            exact decide_eq_true (by omega)
          rw [e] at hR
          exact hR
    unfold runP
    cases e : d_closed_rows (initS 5 [.lst (eN lr), .lst (eN cr)]) with
    | none =>
      rw [e] at w
      exact w.ex.elim
    | some o =>
      rw [e] at w
      have w := w.ex
      cases o with
      | nx s => exact w.elim
      | bk s => exact w.elim
      | ct s => exact w.elim
      | rt o s => exact ⟨_, rfl, w⟩
  obtain ⟨r, h1, rows, rfl, h2⟩ := key
  exact ⟨rows, h1, h2⟩
end K37

set_option Elab.async false
set_option linter.all false
set_option maxRecDepth 100000
set_option maxHeartbeats 1000000
namespace K37
open PySem L2 My

theorem w_setFld {nx bk ct : List SV → Prop} {rt : OD → List SV → Prop} {s s' : List SV} {c0 i : Nat} {f : Str} {fv : List SV → Option (D × List SV)} {d : D} {ns : List Str} {ds : List D} (e : fv s = some (d, s')) (h : s'[i]? = some (.own (.obj c0 ns ds))) (hn : ns.length < 1000) (q : nx (s'.set i (.own (.obj c0 (putNs f ns) (putVs f d ns ds))))) : WP (dSetFld c0 i f fv s) nx rt bk ct := by
  constructor
  unfold dSetFld
  rw [e, Option.bind_some]
  show WP0 (match s'[i]? with
    | some (.own (.obj c ns ds)) => if c = c0 ∧ ns.length < 1000 then some (Out.nx (s'.set i (.own (.obj c (putNs f ns) (putVs f d ns ds))))) else none
    | _ => none) nx rt bk ct
  rw [h]
  show WP0 (if c0 = c0 ∧ ns.length < 1000 then some (Out.nx (s'.set i (.own (.obj c0 (putNs f ns) (putVs f d ns ds))))) else none) nx rt bk ct
  rw [if_pos ⟨rfl, hn⟩]
  exact q
def fNs : List Str := ["ins", "outs", "lead_list", "couple_list"]
theorem nat_of {n : Nat} {a : Int} (h : Inr n a) : ∃ k : Nat, a = k ∧ 1 ≤ k ∧ k ≤ n := ⟨a.toNat, by have := h.1; omega, by have := h.1; omega, by have := h.2; have := h.1; omega⟩
theorem init_eq {ni no : Nat} {leads cps : List (Int × Int)} (hi : ni ≤ 3) (ho : no ≤ 3) (hl : ∀ c ∈ leads, Inr ni c.1 ∧ Inr no c.2) (hc : ∀ c ∈ cps, Inr no c.1 ∧ Inr no c.2) : ∃ lr cl, v_Face___init__ (.obj 0 [] []) [.int ni, .int no, .lst (leads.map eS1), .lst (cps.map eS1)] = some (.fz .non, .obj 0 fNs [.int ni, .int no, .lst (eN lr), .lst (eN cl)]) ∧ RowsL ni leads lr ∧ RowsD no leads cps cl := by
  have key : ∃ r o', v_Face___init__ (.obj 0 [] []) [.int ni, .int no, .lst (leads.map eS1), .lst (cps.map eS1)] = some (r, o') ∧ r = .fz .non ∧ ∃ lr cl, o' = .obj 0 fNs [.int ni, .int no, .lst (eN lr), .lst (eN cl)] ∧ RowsL ni leads lr ∧ RowsD no leads cps cl := by
    show ∃ r o', runM d_Face___init__ 12 (.obj 0 [] []) [.int ni, .int no, .lst (leads.map eS1), .lst (cps.map eS1)] = some (r, o') ∧ _
    refine run_M (Q := fun r o' => r = .fz .non ∧ ∃ lr cl, o' = .obj 0 fNs [.int ni, .int no, .lst (eN lr), .lst (eN cl)] ∧ RowsL ni leads lr ∧ RowsD no leads cps cl) ?_
    show WP (d_Face___init__ [.own (.obj 0 [] []), .fz (.int ni), .fz (.int no), .fz (.lst (leads.map eS1)), .fz (.lst (cps.map eS1)), .un, .un, .un, .un, .un, .un, .un]) _ _ _ _
    unfold d_Face___init__
    apply w_seq
    refine w_setFld (d := .int ni) (s' := [.own (.obj 0 [] []), .fz (.int ni), .fz (.int no), .fz (.lst (leads.map eS1)), .fz (.lst (cps.map eS1)), .un, .un, .un, .un, .un, .un, .un]) rfl rfl (by decide) ?_
    apply w_seq
    refine w_setFld (d := .int no) (s' := [.own (.obj 0 ["ins"] [.int ni]), .fz (.int ni), .fz (.int no), .fz (.lst (leads.map eS1)), .fz (.lst (cps.map eS1)), .un, .un, .un, .un, .un, .un, .un]) rfl rfl (by decide) ?_
    apply w_seq
    refine w_setO (o := oL (eN (List.replicate (ni + 1) 0))) ?_ ?_
    · rw [← rep_eN (ni + 1)]
      refine lc_map (enc := fun i : Nat => D.int i) (xs := List.range (ni + 1)) (g := fun _ => D.int 0) ?_ ?_ ?_
      · exact range1_eq (n := ni + 1) rfl (by omega)
      · rw [List.length_range]
        have := line
        omega
      · intro x hx
        exact ⟨_, rfl, rfl⟩
    apply w_seq
    refine w_setO (o := oL (eN (List.replicate (no + 1) 0))) ?_ ?_
    · rw [← rep_eN (no + 1)]
      refine lc_map (enc := fun i : Nat => D.int i) (xs := List.range (no + 1)) (g := fun _ => D.int 0) ?_ ?_ ?_
      · exact range1_eq (n := no + 1) rfl (by omega)
      · rw [List.length_range]
        have := line
        omega
      · intro x hx
        exact ⟨_, rfl, rfl⟩
    generalize hob : (SV.own (.obj 0 (putNs "outs" ["ins"]) (putVs "outs" (.int no) ["ins"] [.int ni]))) = ob0
    have hob2 : ob0 = SV.own (.obj 0 ["ins", "outs"] [.int ni, .int no]) := by rw [← hob]; rfl
    apply w_seq
    refine w_for (xs := leads) (enc := eS1) (fun pre s => ∃ a b lr, s = [ob0, .fz (.int ni), .fz (.int no), .fz (.lst (leads.map eS1)), .fz (.lst (cps.map eS1)), .own (oL (eN lr)), .own (oL (eN (List.replicate (no + 1) 0))), a, b, .un, .un, .un] ∧ RowsL ni pre lr) rfl ⟨.un, .un, List.replicate (ni + 1) 0, by rw [← hob]; rfl, by rw [List.length_replicate], fun r hr => ?_, fun a b => ?_⟩ ?_ ?_
    · rw [List.eq_of_mem_replicate hr]
      decide
    · rw [getD_rep]
      simp
    · rintro pre ⟨ci, co⟩ s ⟨q, hq⟩ ⟨a, b, lr, rfl, r1, r2, r3⟩
      have hcl : (ci, co) ∈ leads := by rw [hq]; simp
      obtain ⟨i, e1, i1, i2⟩ := nat_of (hl _ hcl).1
      obtain ⟨o, e2, o1, o2⟩ := nat_of (hl _ hcl).2
      simp only at e1 e2
      subst e1 e2
      refine ⟨_, rfl, ?_⟩
      unfold b_Face___init___1
      refine w_orIx (i := i) (o := o) (rows := lr) rfl rfl rfl (by omega) r2 (by omega) ⟨.fz (.int i), .fz (.int o), lr.set i (lr.getD i 0 ||| 1 <<< o), rfl, by rw [List.length_set, r1], set_lt r2 (or_lt (r2 _ (getD_mem (by omega))) (sh_lt (by omega))), fun a b => ?_⟩
      rw [row_bit (by omega), r3, List.mem_append, List.mem_singleton, Prod.mk.injEq]
      constructor
      · rintro (h | ⟨h1, h2⟩)
        · exact .inl h
        · exact .inr ⟨by rw [h1], by rw [h2]⟩
      · rintro (h | ⟨h1, h2⟩)
        · exact .inl h
        · exact .inr ⟨by omega, by omega⟩
    rintro s ⟨a, b, lr, rfl, hL⟩
    apply w_seq
    refine w_for (xs := cps) (enc := eS1) (fun pre s => ∃ c d cr, s = [ob0, .fz (.int ni), .fz (.int no), .fz (.lst (leads.map eS1)), .fz (.lst (cps.map eS1)), .own (oL (eN lr)), .own (oL (eN cr)), a, b, c, d, .un] ∧ RowsC no pre cr) rfl ⟨.un, .un, List.replicate (no + 1) 0, rfl, by rw [List.length_replicate], fun r hr => ?_, fun a b => ?_⟩ ?_ ?_
    · rw [List.eq_of_mem_replicate hr]
      decide
    · rw [getD_rep]
      simp
    · rintro pre ⟨ci, co⟩ s ⟨q, hq⟩ ⟨c, d, cr, rfl, r1, r2, r3⟩
      have hcl : (ci, co) ∈ cps := by rw [hq]; simp
      obtain ⟨i, e1, i1, i2⟩ := nat_of (hc _ hcl).1
      obtain ⟨o, e2, o1, o2⟩ := nat_of (hc _ hcl).2
      simp only at e1 e2
      subst e1 e2
      refine ⟨_, rfl, ?_⟩
      unfold b_Face___init___2
      have t2 := set_lt (i := i) (v := cr.getD i 0 ||| 1 <<< o) r2 (or_lt (r2 _ (getD_mem (by omega))) (sh_lt (by omega)))
      apply w_seq
      refine w_orIx (i := i) (o := o) (rows := cr) rfl rfl rfl (by omega) r2 (by omega) ?_
      refine w_orIx (i := o) (o := i) (rows := cr.set i (cr.getD i 0 ||| 1 <<< o)) rfl rfl rfl (by rw [List.length_set]; omega) t2 (by omega) ⟨.fz (.int i), .fz (.int o), _, rfl, by rw [List.length_set, List.length_set, r1], set_lt t2 (or_lt (t2 _ (getD_mem (by rw [List.length_set]; omega))) (sh_lt (by omega))), fun a b => ?_⟩
      rw [row_bit (by rw [List.length_set]; omega), row_bit (by omega), r3]
      simp only [List.mem_append, List.mem_singleton, Prod.mk.injEq]
      constructor
      · rintro (((h | h) | ⟨h1, h2⟩) | ⟨h1, h2⟩)
        · exact .inl (.inl h)
        · exact .inr (.inl h)
        · exact .inl (.inr ⟨by omega, by omega⟩)
        · exact .inr (.inr ⟨by omega, by omega⟩)
      · rintro ((h | ⟨h1, h2⟩) | (h | ⟨h1, h2⟩))
        · exact .inl (.inl (.inl h))
        · exact .inl (.inr ⟨by omega, by omega⟩)
        · exact .inl (.inl (.inr h))
        · exact .inr ⟨by omega, by omega⟩
    rintro s ⟨c, d, cr, rfl, hC⟩
    subst hob2
    obtain ⟨cl, ecl, hD⟩ := closed_eq hi ho hL hC hl
    apply w_seq
    refine w_setFld (d := .lst (eN lr)) (s' := [SV.own (.obj 0 ["ins", "outs"] [.int ni, .int no]), .fz (.int ni), .fz (.int no), .fz (.lst (leads.map eS1)), .fz (.lst (cps.map eS1)), .fz (.lst (eN lr)), .own (oL (eN cr)), a, b, c, d, .un]) ?_ rfl (by decide) ?_
    · show some ((oL (eN lr)).toD, _) = _
      rw [toD_oL]
      rfl
    refine w_setFld (d := .lst (eN cl)) (ns := ["ins", "outs", "lead_list"]) (ds := [.int ni, .int no, .lst (eN lr)]) (s' := [SV.own (.obj 0 (putNs "lead_list" ["ins", "outs"]) (putVs "lead_list" (.lst (eN lr)) ["ins", "outs"] [.int ni, .int no])), .fz (.int ni), .fz (.int no), .fz (.lst (leads.map eS1)), .fz (.lst (cps.map eS1)), .fz (.lst (eN lr)), .own (oL (eN cr)), a, b, c, d, .un]) ?_ rfl (by decide) ⟨_, rfl, rfl, lr, cl, rfl, hL, hD⟩
    unfold xOf
    rw [cf_eq (args2 (a := .lst (eN lr)) (b := .lst (eN cr)) rfl (by show some ((oL (eN cr)).toD) = _; rw [toD_oL])), ecl]
    rfl
  obtain ⟨r, o', h, rfl, lr, cl, rfl, h2⟩ := key
  exact ⟨lr, cl, h, h2⟩
end K37

set_option Elab.async false
set_option linter.all false
set_option maxRecDepth 100000
set_option maxHeartbeats 1000000
namespace K37
open PySem L2 My

theorem up_ext {l m : List Nat} (hl : l.Pairwise (· < ·)) (hm : m.Pairwise (· < ·)) (h : ∀ x, x ∈ l ↔ x ∈ m) : l = m := by
  have nl : l.Nodup := hl.imp fun h => Nat.ne_of_lt h
  have nm : m.Nodup := hm.imp fun h => Nat.ne_of_lt h
  exact List.Perm.eq_of_pairwise (fun a b _ _ h1 h2 => absurd h1 (Nat.lt_asymm h2)) hl hm ((List.perm_ext_iff_of_nodup nl nm).mpr h)
theorem mem4_up (n : Nat) : (mem4 n).Pairwise (· < ·) := (List.pairwise_lt_range).filter _
theorem filt_sub {l L : List (Int × Int)} (h : l.Sublist L) : L.Nodup → L.filter (fun x => decide (x ∈ l)) = l := by
  induction h with
  | slnil => intro _; rfl
  | cons a h ih =>
    rename_i l1 l2
    intro nd
    obtain ⟨h1, h2⟩ := List.nodup_cons.mp nd
    rw [List.filter_cons_of_neg (by simpa using fun hm => h1 (h.subset hm))]
    exact ih h2
  | cons_cons a h ih =>
    rename_i l1 l2
    intro nd
    obtain ⟨h1, h2⟩ := List.nodup_cons.mp nd
    rw [List.filter_cons_of_pos (by simp)]
    congr 1
    refine Eq.trans (List.filter_congr fun x hx => ?_) (ih h2)
    have : x ≠ a := fun e => h1 (e ▸ hx)
    simp [this]
def ip (a b : Nat) : Int × Int := ((a : Int), (b : Int))
/-- all leads of a face, and all couples, in their order -/
def allL (ni no : Nat) : List (Int × Int) := (List.range ni).flatMap fun i => (List.range no).map fun o => ip (1 + i) (1 + o)
def allC (no : Nat) : List (Int × Int) := (List.range no).flatMap fun a => (List.range (no - (1 + a))).map fun k => ip (1 + a) (1 + a + 1 + k)
theorem ip_inj {a b c d : Nat} (h : ip a b = ip c d) : a = c ∧ b = d := by
  unfold ip at h
  simp only [Prod.mk.injEq] at h
  omega
theorem flat_nodup {n : Nat} {f : Nat → List Nat} (hf : ∀ i, (f i).Nodup) : ((List.range n).flatMap fun i => (f i).map fun o => ip (1 + i) o).Nodup := by
  show List.Pairwise _ _
  rw [List.pairwise_flatMap]
  refine ⟨fun i _ => ?_, (List.pairwise_lt_range).imp fun {a b} h x hx y hy e => ?_⟩
  · rw [List.pairwise_map]
    exact (hf i).imp fun {a b} h e => h (ip_inj e).2
  · obtain ⟨u, _, rfl⟩ := List.mem_map.mp hx
    obtain ⟨v, _, rfl⟩ := List.mem_map.mp hy
    have := (ip_inj e).1
    omega
theorem allL_eq (ni no : Nat) : allL ni no = (List.range ni).flatMap fun i => ((List.range no).map fun o => 1 + o).map fun o => ip (1 + i) o := by
  unfold allL
  simp only [List.map_map]
  rfl
theorem allC_eq (no : Nat) : allC no = (List.range no).flatMap fun a => ((List.range (no - (1 + a))).map fun k => 1 + a + 1 + k).map fun o => ip (1 + a) o := by
  unfold allC
  simp only [List.map_map]
  rfl
theorem shift_up (c n : Nat) : ((List.range n).map fun o => c + o).Pairwise (· < ·) := by
  rw [List.pairwise_map]
  exact (List.pairwise_lt_range).imp fun h => by omega
theorem shift_nodup (c n : Nat) : ((List.range n).map fun o => c + o).Nodup := (shift_up c n).imp fun h => Nat.ne_of_lt h
theorem allL_nodup (ni no : Nat) : (allL ni no).Nodup := by
  rw [allL_eq]
  exact flat_nodup fun i => shift_nodup 1 no
theorem allC_nodup (no : Nat) : (allC no).Nodup := by
  rw [allC_eq]
  exact flat_nodup fun i => shift_nodup (1 + i + 1) _
theorem allL_in {ni no : Nat} {c : Int × Int} (h : c ∈ allL ni no) : Inr ni c.1 ∧ Inr no c.2 := by
  unfold allL at h
  obtain ⟨i, hi, h⟩ := List.mem_flatMap.mp h
  obtain ⟨o, ho, rfl⟩ := List.mem_map.mp h
  have hi := List.mem_range.mp hi
  have ho := List.mem_range.mp ho
  refine ⟨⟨?_, ?_⟩, ⟨?_, ?_⟩⟩
  · show (1 : Int) ≤ ((1 + i : Nat) : Int); omega
  · show ((1 + i : Nat) : Int) ≤ _; omega
  · show (1 : Int) ≤ ((1 + o : Nat) : Int); omega
  · show ((1 + o : Nat) : Int) ≤ _; omega
theorem allC_in {no : Nat} {c : Int × Int} (h : c ∈ allC no) : Inr no c.1 ∧ Inr no c.2 ∧ c.1 < c.2 := by
  unfold allC at h
  obtain ⟨i, hi, h⟩ := List.mem_flatMap.mp h
  obtain ⟨o, ho, rfl⟩ := List.mem_map.mp h
  have hi := List.mem_range.mp hi
  have ho := List.mem_range.mp ho
  refine ⟨⟨?_, ?_⟩, ⟨?_, ?_⟩, ?_⟩
  · show (1 : Int) ≤ ((1 + i : Nat) : Int); omega
  · show ((1 + i : Nat) : Int) ≤ _; omega
  · show (1 : Int) ≤ ((1 + i + 1 + o : Nat) : Int); omega
  · show ((1 + i + 1 + o : Nat) : Int) ≤ _; omega
  · show ((1 + i : Nat) : Int) < ((1 + i + 1 + o : Nat) : Int); omega
theorem flatMap_congr' {α β : Type} {f g : α → List β} : ∀ {l : List α}, (∀ x ∈ l, f x = g x) → l.flatMap f = l.flatMap g
  | [], _ => rfl
  | x :: l, h => by
    rw [List.flatMap_cons, List.flatMap_cons, h x (by simp), flatMap_congr' fun y hy => h y (by simp [hy])]
theorem flat_filter {n : Nat} {f g : Nat → List Nat} {q : Int × Int → Bool} (h : ∀ i, i < n → g i = (f i).filter fun o => q (ip (1 + i) o)) : ((List.range n).flatMap fun i => (g i).map fun o => ip (1 + i) o) = ((List.range n).flatMap fun i => (f i).map fun o => ip (1 + i) o).filter q := by
  rw [List.filter_flatMap]
  refine flatMap_congr' fun i hi => ?_
  rw [h i (List.mem_range.mp hi), List.filter_map]
  rfl
theorem row_ok {rows : List Nat} {n i : Nat} (h1 : rows.length = n + 1) (h2 : ∀ r ∈ rows, r < 16) (hi : i ≤ n) : dIx (.lst (eN rows)) (.int (i : Int)) = some (.int (rows.getD i 0 : Nat)) ∧ rows.getD i 0 < 16 := by
  refine ⟨?_, h2 _ (getD_mem (by omega))⟩
  show atI (eN rows) (i : Int) = _
  rw [atI_nat', eN_get (by omega)]
theorem face_range {F : D} {f : Str} {n : Nat} {s : List SV} (h1 : dFld 0 f F = some (.int n)) (h2 : dVar 0 s = some F) (h3 : n ≤ 3) : dRange2 (dCons (dC (.int 1)) (dCons (dOp dAddI (dUn (dFld 0 f) (dVar 0)) (dC (.int 1))) dNil)) s = some ((List.range n).map fun k : Nat => D.int ((1 + k : Nat) : Int)) := by
  have e0 : dUn (dFld 0 f) (dVar 0) s = some (.int n) := by
    unfold dUn
    rw [h2, Option.bind_some, h1]
  have e1 : dOp dAddI (dUn (dFld 0 f) (dVar 0)) (dC (.int 1)) s = some (.int ((n + 1 : Nat) : Int)) := (op2 e0 (b := .int 1) rfl).trans rfl
  have := range2_eq (i := 1) (n := n + 1) (s := s) (args2 (f := dC (.int 1)) (a := .int 1) rfl e1) (by omega) (by omega)
  rw [show n + 1 - 1 = n from by omega] at this
  exact this
theorem mem4_len (n : Nat) : (mem4 n).length ≤ 4 := by
  unfold mem4
  exact Nat.le_trans (List.length_filter_le _ _) (by simp)
theorem flat_len {n : Nat} {g : Nat → List Nat} (h : ∀ i, (g i).length ≤ 4) (hn : n ≤ 3) : ((List.range n).flatMap fun i => (g i).map fun o => ip (1 + i) o).length ≤ 12 := by
  rw [List.length_flatMap]
  simp only [List.length_map]
  have : ∀ l : List Nat, (l.map fun i => (g i).length).sum ≤ l.length * 4 := by
    intro l
    induction l with
    | nil => simp
    | cons x l ih =>
      rw [List.map_cons, List.sum_cons, List.length_cons]
      have := h x
      omega
  have := this (List.range n)
  rw [List.length_range] at this
  omega
theorem leads_eq {ni no : Nat} {leads leads' : List (Int × Int)} {lr : List Nat} {cl : D} (hi : ni ≤ 3) (ho : no ≤ 3) (hs : leads.Sublist (allL ni no)) (hp : ∀ c, c ∈ leads' ↔ c ∈ leads) (hL : RowsL ni leads' lr) : v_Face_leads [fO ni no (.lst (eN lr)) cl] = some (.lst (leads.map eS1)) := by
  obtain ⟨r1, r2, r3⟩ := hL
  have eL : ((List.range ni).flatMap fun i => (mem4 (lr.getD (1 + i) 0)).map fun o => ip (1 + i) o) = leads := by
    have e := filt_sub hs (allL_nodup ni no)
    rw [allL_eq] at e
    rw [← e]
    refine flat_filter fun i hi' => ?_
    refine up_ext (mem4_up _) ((shift_up 1 no).filter _) fun b => ?_
    rw [mem4_iff (row_ok r1 r2 (by omega)).2, r3, hp, List.mem_filter, decide_eq_true_eq]
    constructor
    · intro h
      have h' := (allL_in (hs.subset h)).2
      have h1 : (1 : Int) ≤ (b : Int) := h'.1
      have h2 : (b : Int) ≤ (no : Int) := h'.2
      exact ⟨List.mem_map.mpr ⟨b - 1, List.mem_range.mpr (by omega), by omega⟩, h⟩
    · exact fun h => h.2
  show runP d_Face_leads 3 _ = _
  apply run_P
  show WP (d_Face_leads [.fz (fO ni no (.lst (eN lr)) cl), .un, .un]) _ _ _ _
  unfold d_Face_leads
  refine w_ret (d := .lst (leads.map eS1)) ?_ rfl
  have e2 : leads.map eS1 = (List.range ni).flatMap fun i => (mem4 (lr.getD (1 + i) 0)).map fun o => eS1 (ip (1 + i) o) := by
    rw [← eL, List.map_flatMap]
    simp only [List.map_map]
    rfl
  rw [e2]
  refine frL (lc2_of (enc := fun k : Nat => D.int ((1 + k : Nat) : Int)) (xs := List.range ni) (g := fun i => (mem4 (lr.getD (1 + i) 0)).map fun o => eS1 (ip (1 + i) o)) (face_range rfl rfl hi) (fun i hi' => ⟨_, rfl, lcIn_map (enc := fun b : Nat => D.int b) (xs := mem4 (lr.getD (1 + i) 0)) ?_ fun b hb => ⟨_, rfl, ?_⟩⟩) ?_)
  · have hi' := List.mem_range.mp hi'
    obtain ⟨g1, g2⟩ := row_ok (i := 1 + i) r1 r2 (by omega)
    exact items_eq ((cf_eq (args1 ((op2 (a := .lst (eN lr)) (b := .int ((1 + i : Nat) : Int)) rfl rfl).trans g1))).trans (members_eq g2))
  · exact tup2 rfl rfl
  · rw [← e2, List.length_map, ← eL]
    have := flat_len (n := ni) (g := fun i => mem4 (lr.getD (1 + i) 0)) (fun i => mem4_len _) hi
    have := line
    omega
theorem couples_eq {ni no : Nat} {leads leads' cps : List (Int × Int)} {cl : List Nat} {ll : D} (ho : no ≤ 3) (hs : cps.Sublist (allC no)) (hp : ∀ c, c ∈ leads' ↔ c ∈ leads) (hcl : Clo leads cps) (hD : RowsD no leads' cps cl) : v_Face_couples [fO ni no ll (.lst (eN cl))] = some (.lst (cps.map eS1)) := by
  obtain ⟨r1, r2, r3⟩ := hD
  have eL : ((List.range no).flatMap fun i => ((mem4 (cl.getD (1 + i) 0)).filter fun b => decide (1 + i < b)).map fun o => ip (1 + i) o) = cps := by
    have e := filt_sub hs (allC_nodup no)
    rw [allC_eq] at e
    rw [← e]
    refine flat_filter fun i hi' => ?_
    refine up_ext ((mem4_up _).filter _) ((shift_up (1 + i + 1) _).filter _) fun b => ?_
    rw [List.mem_filter, mem4_iff (row_ok r1 r2 (by omega)).2, r3 _ _ (by omega), List.mem_filter, decide_eq_true_eq, decide_eq_true_eq]
    constructor
    · rintro ⟨h, hlt⟩
      have hin : (((1 + i : Nat) : Int), (b : Int)) ∈ cps := by
        rcases h with h | h | h | ⟨j, h1, h2⟩
        · omega
        · exact h
        · have h3 : ((b : Nat) : Int) < ((1 + i : Nat) : Int) := (allC_in (hs.subset h)).2.2
          omega
        · rcases hcl _ _ _ ((hp _).mp h1) ((hp _).mp h2) (by omega) with h | h
          · exact h
          · have h3 : ((b : Nat) : Int) < ((1 + i : Nat) : Int) := (allC_in (hs.subset h)).2.2
            omega
      have h2 : (b : Int) ≤ (no : Int) := (allC_in (hs.subset hin)).2.1.2
      exact ⟨List.mem_map.mpr ⟨b - (1 + i + 1), List.mem_range.mpr (by omega), by omega⟩, hin⟩
    · rintro ⟨h1, h2⟩
      obtain ⟨k, _, rfl⟩ := List.mem_map.mp h1
      exact ⟨.inr (.inl h2), by omega⟩
  show runP d_Face_couples 3 _ = _
  apply run_P
  show WP (d_Face_couples [.fz (fO ni no ll (.lst (eN cl))), .un, .un]) _ _ _ _
  unfold d_Face_couples
  refine w_ret (d := .lst (cps.map eS1)) ?_ rfl
  have e2 : cps.map eS1 = (List.range no).flatMap fun i => ((mem4 (cl.getD (1 + i) 0)).filter fun b => decide (1 + i < b)).map fun o => eS1 (ip (1 + i) o) := by
    rw [← eL, List.map_flatMap]
    simp only [List.map_map]
    rfl
  rw [e2]
  refine frL (lc2_of (enc := fun k : Nat => D.int ((1 + k : Nat) : Int)) (xs := List.range no) (g := fun i => ((mem4 (cl.getD (1 + i) 0)).filter fun b => decide (1 + i < b)).map fun o => eS1 (ip (1 + i) o)) (face_range rfl rfl ho) (fun i hi' => ⟨_, rfl, lcIn_of (enc := fun b : Nat => D.int b) (xs := mem4 (cl.getD (1 + i) 0)) (q := fun b => decide (1 + i < b)) (g := fun o => eS1 (ip (1 + i) o)) ?_ fun b hb => ⟨_, rfl, ?_, fun _ => ?_⟩⟩) ?_)
  · have hi' := List.mem_range.mp hi'
    obtain ⟨g1, g2⟩ := row_ok (i := 1 + i) r1 r2 (by omega)
    exact items_eq ((cf_eq (args1 ((op2 (a := .lst (eN cl)) (b := .int ((1 + i : Nat) : Int)) rfl rfl).trans g1))).trans (members_eq g2))
  · refine test_b ((op2 (a := .int ((1 + i : Nat) : Int)) (b := .int (b : Int)) rfl rfl).trans ?_)
    show some (D.bl (decide (((1 + i : Nat) : Int) < (b : Int)))) = some (D.bl (decide (1 + i < b)))
    congr 2
    exact decide_eq_decide.mpr (by omega)
  · exact tup2 rfl rfl
  · rw [← e2, List.length_map, ← eL]
    have := flat_len (n := no) (g := fun i => (mem4 (cl.getD (1 + i) 0)).filter fun b => decide (1 + i < b)) (fun i => Nat.le_trans (List.length_filter_le _ _) (mem4_len _)) ho
    have := line
    omega
end K37

set_option Elab.async false
set_option linter.all false
set_option maxRecDepth 100000
set_option maxHeartbeats 1000000
namespace K37
open PySem L2 My

/-! ### _law_same and _law_copied on plain data -/
theorem allB_true : ∀ n : Nat, allB ((List.range n).map fun _ => D.bl true) = some (List.replicate n true) := fun n => by
  rw [List.map_const', List.length_range]
  induction n with
  | zero => rfl
  | succ n ih =>
    rw [List.replicate_succ, List.replicate_succ]
    show (allB (List.replicate n (D.bl true))).map (true :: ·) = _
    rw [ih]
    rfl
theorem all_true (n : Nat) : dAllL [.lst ((List.range n).map fun _ => D.bl true)] = some (.bl true) := by
  show (allB _).map _ = _
  rw [allB_true]
  show some (D.bl ((List.replicate n true).all id)) = _
  have : (List.replicate n true).all id = true := by
    rw [List.all_eq_true]
    intro x hx
    exact List.eq_of_mem_replicate hx
  rw [this]
theorem same_seq {rec : List D → Option D} {d : D} {ds : List D} (hd : d = .lst ds ∨ d = .tup ds) (hn : ds.length ≤ 50000 ) (h : ∀ x ∈ ds, rec [x, x] = some (.bl true)) : runP (d__law_same rec) 5 [d, d] = some (.bl true) := by
  apply run_P
  show WP (d__law_same rec [.fz d, .fz d, .un, .un, .un]) _ _ _ _
  unfold d__law_same
  have hlen : ∀ (i : Nat) (s : List SV), dVar i s = some d → dCallB dLen (dCons (dVar i) dNil) s = some (.int (ds.length : Int)) := fun i s hv => by
    rw [cb_eq (args1 hv)]
    rcases hd with rfl | rfl <;> rfl
  have hix : ∀ k : Nat, k < ds.length → dIx d (.int (k : Int)) = some (ds.getD k .non) := fun k hk => by
    have e : dIx d (.int (k : Int)) = atI ds (k : Int) := by rcases hd with rfl | rfl <;> rfl
    rw [e, atI_nat', List.getElem?_eq_getElem hk, List.getD_eq_getElem?_getD, List.getElem?_eq_getElem hk]
    rfl
  apply w_seq
  refine w_if (b := true) (by rcases hd with rfl | rfl <;> rfl) ?_
  rw [if_pos rfl]
  apply w_seq
  refine w_set (d := .bl true) (by rcases hd with rfl | rfl <;> rfl) ?_
  refine w_ret (d := .bl true) ?_ rfl
  have e1 : dTest (dOp dEq (dCallB dLen (dCons (dVar 0) dNil)) (dCallB dLen (dCons (dVar 1) dNil))) [.fz d, .fz d, .fz (.bl true), .un, .un] = some true := by
    refine test_b (((op2 (hlen 0 _ rfl) (hlen 1 _ rfl)).trans (dEq_int _ _)).trans ?_)
    rw [decide_eq_true rfl]
  have e2 : dTest (dCallB dAllL (dCons (dFr (dLc (dRange1 (dCons (dCallB dLen (dCons (dVar 1) dNil)) dNil)) [4] (bName 4) dYes (e__law_same_1 rec))) dNil)) [.fz d, .fz d, .fz (.bl true), .un, .un] = some true := by
    refine test_b ((cb_eq (args1 (frL (lc_map (enc := fun i : Nat => D.int i) (xs := List.range ds.length) (g := fun _ => D.bl true) (range1_eq (args1 (hlen 1 _ rfl)) hn) (by rw [List.length_range]; have := line; omega) fun k hk => ⟨_, rfl, ?_⟩)))).trans (all_true _))
    have hk := List.mem_range.mp hk
    refine (cf_eq (args2 ((op2 (a := d) (b := .int (k : Int)) rfl rfl).trans (hix k hk)) ((op2 (a := d) (b := .int (k : Int)) rfl rfl).trans (hix k hk)))).trans (h _ (getD_mem hk))
  have eb : ∀ (f : List SV → Option Bool) (s : List SV), f s = some true → dBool f s = some (.bl true) := fun f s h => by
    unfold dBool
    rw [h]
    rfl
  exact eb _ _ (and_b (a := true) (b := true) rfl (test_b (eb _ _ (and_b e1 e2))))
/-- at most so many items at each place -/
def Sml : Nat → D → Prop
  | 0, .int _ => True
  | 0, _ => False
  | k + 1, .int _ => True
  | k + 1, .lst ds => ds.length ≤ 50000 ∧ ∀ d ∈ ds, Sml k d
  | k + 1, .tup ds => ds.length ≤ 50000 ∧ ∀ d ∈ ds, Sml k d
  | _ + 1, _ => False
theorem same_int (rec : List D → Option D) (i : Int) : runP (d__law_same rec) 5 [.int i, .int i] = some (.bl true) := by
  apply run_P
  show WP (d__law_same rec [.fz (.int i), .fz (.int i), .un, .un, .un]) _ _ _ _
  unfold d__law_same
  apply w_seq
  refine w_if (b := false) rfl ?_
  rw [if_neg (by decide)]
  apply w_nx
  apply w_seq
  refine w_if (b := false) rfl ?_
  rw [if_neg (by decide)]
  apply w_nx
  apply w_seq
  refine w_set (d := .bl true) rfl ?_
  refine w_ret (d := .bl true) ?_ rfl
  have eb : ∀ (f : List SV → Option Bool) (s : List SV), f s = some true → dBool f s = some (.bl true) := fun f s h => by
    unfold dBool
    rw [h]
    rfl
  refine eb _ _ (and_b (a := true) (b := true) rfl (test_b (eb _ _ (and_b (a := true) (b := true) rfl (test_b (((op2 (a := .int i) (b := .int i) rfl rfl).trans (dEq_int _ _)).trans ?_))))))
  rw [decide_eq_true rfl]
theorem same_eq : ∀ {n k : Nat} {d : D}, Sml k d → k < n → v__law_same n [d, d] = some (.bl true)
  | n + 1, k, .int i, _, _ => same_int _ i
  | n + 1, 0, .lst ds, h, _ => h.elim
  | n + 1, 0, .tup ds, h, _ => h.elim
  | n + 1, k + 1, .lst ds, h, hk => same_seq (.inl rfl) h.1 fun x hx => same_eq (n := n) (k := k) (h.2 x hx) (by omega)
  | n + 1, k + 1, .tup ds, h, hk => same_seq (.inr rfl) h.1 fun x hx => same_eq (n := n) (k := k) (h.2 x hx) (by omega)
  | n + 1, 0, .bl _, h, _ => h.elim
  | n + 1, k + 1, .bl _, h, _ => h.elim
  | n + 1, 0, .non, h, _ => h.elim
  | n + 1, k + 1, .non, h, _ => h.elim
  | n + 1, 0, .str _, h, _ => h.elim
  | n + 1, k + 1, .str _, h, _ => h.elim
  | n + 1, 0, .dct _ _, h, _ => h.elim
  | n + 1, k + 1, .dct _ _, h, _ => h.elim
  | n + 1, 0, .nst _, h, _ => h.elim
  | n + 1, k + 1, .nst _, h, _ => h.elim
  | n + 1, 0, .obj _ _ _, h, _ => h.elim
  | n + 1, k + 1, .obj _ _ _, h, _ => h.elim
theorem copied_int (rec : List D → Option D) (i : Int) : runP (d__law_copied rec) 3 [.int i] = some (.int i) := by
  apply run_P
  show WP (d__law_copied rec [.fz (.int i), .un, .un]) _ _ _ _
  unfold d__law_copied
  apply w_seq
  refine w_if (b := false) rfl ?_
  rw [if_neg (by decide)]
  apply w_nx
  apply w_seq
  refine w_if (b := false) rfl ?_
  rw [if_neg (by decide)]
  apply w_nx
  apply w_seq
  refine w_if (b := false) rfl ?_
  rw [if_neg (by decide)]
  apply w_nx
  exact w_ret (d := .int i) rfl rfl
theorem copied_lst {rec : List D → Option D} {ds : List D} (hn : ds.length ≤ 50000) (h : ∀ x ∈ ds, rec [x] = some x) : runP (d__law_copied rec) 3 [.lst ds] = some (.lst ds) := by
  apply run_P
  show WP (d__law_copied rec [.fz (.lst ds), .un, .un]) _ _ _ _
  unfold d__law_copied
  apply w_seq
  refine w_if (b := true) rfl ?_
  rw [if_pos rfl]
  refine w_ret (d := .lst ds) ?_ rfl
  have := lc_map (enc := fun d => d) (xs := ds) (g := fun d => d) (fi := dItems (dVar 0)) (vs := [1]) (s := [.fz (.lst ds), .un, .un]) (bind := bName 1) (fe := e__law_copied_1 rec) (by rw [List.map_id']; rfl) (by have := line; omega) fun x hx => ⟨_, rfl, (cf_eq (args1 (a := x) rfl)).trans (h x hx)⟩
  rw [List.map_id'] at this
  exact frL this
theorem copied_tup {rec : List D → Option D} {ds : List D} (hn : ds.length ≤ 50000) (h : ∀ x ∈ ds, rec [x] = some x) : runP (d__law_copied rec) 3 [.tup ds] = some (.tup ds) := by
  apply run_P
  show WP (d__law_copied rec [.fz (.tup ds), .un, .un]) _ _ _ _
  unfold d__law_copied
  apply w_seq
  refine w_if (b := false) rfl ?_
  rw [if_neg (by decide)]
  apply w_nx
  apply w_seq
  refine w_if (b := true) rfl ?_
  rw [if_pos rfl]
  refine w_ret (d := .tup ds) ?_ rfl
  have := lc_map (enc := fun d => d) (xs := ds) (g := fun d => d) (fi := dItemsT (dVar 0)) (vs := [1]) (s := [.fz (.tup ds), .un, .un]) (bind := bName 1) (fe := e__law_copied_2 rec) (by rw [List.map_id']; rfl) (by have := line; omega) fun x hx => ⟨_, rfl, (cf_eq (args1 (a := x) rfl)).trans (h x hx)⟩
  rw [List.map_id'] at this
  exact (cb_eq (args1 (frL this))).trans rfl
theorem copied_eq : ∀ {n k : Nat} {d : D}, Sml k d → k < n → v__law_copied n [d] = some d
  | n + 1, k, .int i, _, _ => copied_int _ i
  | n + 1, 0, .lst ds, h, _ => h.elim
  | n + 1, 0, .tup ds, h, _ => h.elim
  | n + 1, k + 1, .lst ds, h, hk => copied_lst (rec := v__law_copied n) h.1 fun x hx => copied_eq (n := n) (k := k) (h.2 x hx) (by omega)
  | n + 1, k + 1, .tup ds, h, hk => copied_tup (rec := v__law_copied n) h.1 fun x hx => copied_eq (n := n) (k := k) (h.2 x hx) (by omega)
  | n + 1, 0, .bl _, h, _ => h.elim
  | n + 1, k + 1, .bl _, h, _ => h.elim
  | n + 1, 0, .non, h, _ => h.elim
  | n + 1, k + 1, .non, h, _ => h.elim
  | n + 1, 0, .str _, h, _ => h.elim
  | n + 1, k + 1, .str _, h, _ => h.elim
  | n + 1, 0, .dct _ _, h, _ => h.elim
  | n + 1, k + 1, .dct _ _, h, _ => h.elim
  | n + 1, 0, .nst _, h, _ => h.elim
  | n + 1, k + 1, .nst _, h, _ => h.elim
  | n + 1, 0, .obj _ _ _, h, _ => h.elim
  | n + 1, k + 1, .obj _ _ _, h, _ => h.elim
end K37

set_option Elab.async false
set_option linter.all false
set_option maxRecDepth 100000
set_option maxHeartbeats 1000000
namespace K37
open PySem L2 My

theorem Src.mono {a b : Nat} {o : OD} (h : Src a o) (hab : a ≤ b) : Src b o := by
  obtain ⟨x, y, z, e, h1, h2, h3, h4⟩ := h
  exact ⟨x, y, z, e, h1, h2, h3, by omega⟩
def T2 (s : List SV) (i : Nat) (o : OD) (x : SV) : List SV := (s.set 0 (.own o)).set i x
theorem T2_set (s : List SV) (i : Nat) (o : OD) (x y : SV) : (T2 s i o x).set i y = T2 s i o y := by
  unfold T2
  rw [List.set_set]
theorem T2_src (s : List SV) {i : Nat} (hi : i ≠ 0) (o o2 : OD) (x : SV) : (T2 s i o x).set 0 (.own o2) = T2 s i o2 x := by
  unfold T2
  rw [List.set_comm _ _ (fun e => hi e), List.set_set]
theorem T2_get (s : List SV) {i : Nat} (hi : i ≠ 0) (h : 0 < s.length) (o : OD) (x : SV) : (T2 s i o x)[0]? = some (.own o) := by
  unfold T2
  rw [List.getElem?_set_ne hi, List.getElem?_set_self h]
theorem set0_self {s : List SV} {o : OD} (h0 : s[0]? = some (.own o)) : s.set 0 (.own o) = s := by
  apply List.ext_getElem?
  intro j
  by_cases hj : j = 0
  · subst hj
    rw [List.getElem?_set_self (List.getElem?_eq_some_iff.mp h0).1, h0]
  · rw [List.getElem?_set_ne (fun e => hj e.symm)]
theorem pick_at {n i : Nat} {o : OD} {many : Int} {fs : List SV → Option (List D)} {s : List SV} (hs : Src n o) (hn : n ≤ 1000000) (h0 : 0 < many) (h1 : many < 2 ^ 1000) (h : s[i]? = some (.own o)) (ha : fs s = some [.int many]) : ∃ (r : Int) (o' : OD), xFr (dCallM v__law_pick i fs) s = some (.int r, s.set i (.own o')) ∧ 0 ≤ r ∧ r < many ∧ Src (n + 1) o' := by
  obtain ⟨r, o', hp, r0, r1, hs'⟩ := pick_eq hs hn h0 h1
  exact ⟨r, o', xfr_eq (callM h ha hp), r0, r1, hs'⟩
theorem xtest_eq {f : List SV → Option (D × List SV)} {s s' : List SV} {b : Bool} (h : f s = some (.bl b, s')) : xTest f s = some (b, s') := by
  unfold xTest
  rw [h]
  rfl
theorem xop_eq {g : D → D → Option D} {f f2 : List SV → Option (D × List SV)} {s s1 s2 : List SV} {a b d : D} (h : f s = some (a, s1)) (h2 : f2 s1 = some (b, s2)) (hg : g a b = some d) : xOp g f f2 s = some (d, s2) := by
  unfold xOp
  rw [h, Option.bind_some, h2, Option.bind_some, hg]
  rfl
/-- _law_pick(stock, 2) == 0 -/
def coin : List SV → Option (Bool × List SV) := xTest (xOp dEq (xFr (dCallM v__law_pick 0 (dCons (dC (.int 2)) dNil))) (xOf (dC (.int 0))))
theorem coin_eq {n : Nat} {o : OD} {s : List SV} (hs : Src n o) (hn : n ≤ 1000000) (h : s[0]? = some (.own o)) : ∃ (b : Bool) (o' : OD), coin s = some (b, s.set 0 (.own o')) ∧ Src (n + 1) o' := by
  obtain ⟨r, o', e, _, _, hs'⟩ := pick_at (fs := dCons (dC (.int 2)) dNil) (many := 2) hs hn (by omega) (by decide +kernel) h rfl
  exact ⟨decide (r = 0), o', xtest_eq (xop_eq e rfl (dEq_int r 0)), hs'⟩
theorem xlcGo_pick {α : Type} {enc g : α → D} {s : List SV} {i : Nat} {p : List SV → Option (Bool × List SV)} {fe : List SV → Option (D × List SV)} : ∀ (xs : List α) (n : Nat) (o : OD) (N : Nat), Src n o → n + xs.length ≤ N →
    (∀ (x : α) (n' : Nat) (o' : OD), n' + 1 ≤ N → Src n' o' → ∃ (b : Bool) (o2 : OD), p (T2 s i o' (.fz (enc x))) = some (b, T2 s i o2 (.fz (enc x))) ∧ Src (n' + 1) o2) →
    (∀ (x : α) (o' : OD), fe (T2 s i o' (.fz (enc x))) = some (g x, T2 s i o' (.fz (enc x)))) →
    ∃ (ls : List α) (o' : OD), xlcGo [i] (bName i) p fe (xs.map enc) (T2 s i o .un) = some (ls.map g, T2 s i o' .un) ∧ ls.Sublist xs ∧ Src (n + xs.length) o'
  | [], n, o, N, hs, _, _, _ => ⟨[], o, rfl, List.Sublist.refl _, by simpa using hs⟩
  | x :: xs, n, o, N, hs, hN, step, he => by
    rw [List.length_cons] at hN
    obtain ⟨b, o2, e1, s1⟩ := step x n o (by omega) hs
    obtain ⟨ls, o3, e2, l2, s2⟩ := xlcGo_pick xs (n + 1) o2 N s1 (by omega) step he
    have unf : xlcGo [i] (bName i) p fe ((x :: xs).map enc) (T2 s i o .un) = ((p (T2 s i o (.fz (enc x)))).bind fun b => if b.1 then (fe b.2).bind fun y => (xlcGo [i] (bName i) p fe (xs.map enc) (y.2.set i .un)).map fun r => (y.1 :: r.1, r.2) else xlcGo [i] (bName i) p fe (xs.map enc) (b.2.set i .un)) := by
      have t : T2 s i o (.fz (enc x)) = (T2 s i o .un).set i (.fz (enc x)) := (T2_set _ _ _ _ _).symm
      rw [t]
      rfl
    rw [unf, e1]
    cases b with
    | true =>
      refine ⟨x :: ls, o3, ?_, l2.cons_cons _, s2.mono (by rw [List.length_cons]; omega)⟩
      show ((fe (T2 s i o2 (.fz (enc x)))).bind fun y => (xlcGo [i] (bName i) p fe (xs.map enc) (y.2.set i .un)).map fun r => (y.1 :: r.1, r.2)) = _
      rw [he]
      show ((xlcGo [i] (bName i) p fe (xs.map enc) ((T2 s i o2 (.fz (enc x))).set i .un)).map fun r => (g x :: r.1, r.2)) = _
      rw [T2_set, e2]
      rfl
    | false =>
      refine ⟨ls, o3, ?_, l2.cons _, s2.mono (by rw [List.length_cons]; omega)⟩
      show xlcGo [i] (bName i) p fe (xs.map enc) ((T2 s i o2 (.fz (enc x))).set i .un) = _
      rw [T2_set, e2]
theorem xlc_pick {α : Type} {enc g : α → D} {s : List SV} {i n : Nat} {o : OD} {v : SV} {fi : List SV → Option (List D)} {fe : List SV → Option (D × List SV)} {xs : List α} (hs : Src n o) (h0 : s[0]? = some (.own o)) (hi : i ≠ 0) (hv : s[i]? = some v) (hno : notOwn i s = true) (hf : fi s = some (xs.map enc)) (hw : xs.length ≤ 100) (hn : n ≤ 100000)
    (he : ∀ (x : α) (o' : OD), fe (T2 s i o' (.fz (enc x))) = some (g x, T2 s i o' (.fz (enc x)))) :
    ∃ (ls : List α) (o' : OD), xFr (xLc (xiOf fi) [i] (bName i) coin fe) s = some (.lst (ls.map g), s.set 0 (.own o')) ∧ ls.Sublist xs ∧ Src (n + xs.length) o' := by
  have hlen : 0 < s.length := (List.getElem?_eq_some_iff.mp h0).1
  obtain ⟨ls, o', e1, l1, s1⟩ := xlcGo_pick (s := s) (i := i) (p := coin) (fe := fe) (g := g) (enc := enc) xs n o (n + xs.length) hs (Nat.le_refl _) (fun x n' o' hn' hs' => by
    obtain ⟨b, o2, e, h2⟩ := coin_eq hs' (by omega) (T2_get s hi hlen o' (.fz (enc x)))
    rw [T2_src s hi] at e
    exact ⟨b, o2, e, h2⟩) he
  refine ⟨ls, o', ?_, l1, s1⟩
  have key : xLc (xiOf fi) [i] (bName i) coin fe s = some (oL (ls.map g), s.set 0 (.own o')) := by
    unfold xLc xiOf
    rw [hf]
    show (if decide ((xs.map enc).length ≤ sizeLine) && wipeOk s [i] then (xlcGo [i] (bName i) coin fe (xs.map enc) (wipeS s [i])).map fun r => (oL r.1, unwipe s [i] r.2) else none) = _
    have hc : (decide ((xs.map enc).length ≤ sizeLine) && wipeOk s [i]) = true := by
      rw [List.length_map, decide_eq_true (by have := line; omega), Bool.true_and]
      show (notOwn i s && true) = true
      rw [hno]
      rfl
    rw [if_pos hc]
    have ew : wipeS s [i] = T2 s i o .un := by
      show s.set i .un = (s.set 0 (.own o)).set i .un
      rw [set0_self h0]
    rw [ew, e1]
    show some (oL (ls.map g), (T2 s i o' .un).set i ((wipeS s [])[i]?.getD .un)) = _
    rw [T2_set]
    congr 2
    show (s.set 0 (.own o')).set i (s[i]?.getD .un) = s.set 0 (.own o')
    apply List.ext_getElem?
    intro j
    by_cases hj : j = i
    · subst hj
      rw [List.getElem?_set_self (by rw [List.length_set]; exact (List.getElem?_eq_some_iff.mp hv).1), List.getElem?_set_ne (fun e => hi e.symm), hv]
      rfl
    · rw [List.getElem?_set_ne (fun e => hj e.symm)]
  rw [xfr_eq key, toD_oL]
/-- numbers drawn out of 1 .. k -/
theorem numbers_eq {n k : Nat} {o : OD} (hs : Src n o) (hn : n ≤ 100000) (hk : k ≤ 50) : ∃ (l : List Int) (o' : OD), v__law_numbers_to o [.int k] = some (.fz (.lst (l.map .int)), o') ∧ l.length ≤ k ∧ Src (n + k) o' := by
  have key : ∃ r o', v__law_numbers_to o [.int k] = some (r, o') ∧ ∃ l : List Int, r = .fz (.lst (l.map .int)) ∧ l.length ≤ k ∧ Src (n + k) o' := by
    show ∃ r o', runM d__law_numbers_to 3 o [.int k] = some (r, o') ∧ _
    refine run_M (Q := fun r o' => ∃ l : List Int, r = .fz (.lst (l.map .int)) ∧ l.length ≤ k ∧ Src (n + k) o') ?_
    show WP (d__law_numbers_to [.own o, .fz (.int k), .un]) _ _ _ _
    unfold d__law_numbers_to
    have hr : dRange2 (dCons (dC (.int 1)) (dCons (dOp dAddI (dVar 1) (dC (.int 1))) dNil)) [.own o, .fz (.int k), .un] = some ((List.range k).map fun j : Nat => D.int ((1 + j : Nat) : Int)) := by
      have := range2_eq (i := 1) (n := k + 1) (s := [.own o, .fz (.int k), .un]) (args2 (f := dC (.int 1)) (a := .int 1) (f2 := dOp dAddI (dVar 1) (dC (.int 1))) rfl rfl) (by omega) (by omega)
      rw [show k + 1 - 1 = k from by omega] at this
      exact this
    obtain ⟨ls, o', e, l1, s1⟩ := xlc_pick (i := 2) (g := fun j : Nat => D.int ((1 + j : Nat) : Int)) (fe := e__law_numbers_to_1) hs rfl (by omega) rfl rfl hr (by rw [List.length_range]; omega) hn (fun x o' => rfl)
    rw [List.length_range] at s1
    refine w_retX e ⟨o', rfl, ls.map fun j : Nat => ((1 + j : Nat) : Int), ?_, ?_, s1⟩
    · rw [List.map_map]
      rfl
    · rw [List.length_map]
      have := l1.length_le
      rw [List.length_range] at this
      exact this
  obtain ⟨r, o', h, l, rfl, h2⟩ := key
  exact ⟨l, o', h, h2⟩
theorem erase_map {α β : Type} (f : α → β) : ∀ (l : List α) (r : Nat), (l.map f).eraseIdx r = (l.eraseIdx r).map f
  | [], _ => rfl
  | _ :: _, 0 => rfl
  | x :: l, r + 1 => by
    show f x :: (l.map f).eraseIdx r = f x :: (l.eraseIdx r).map f
    rw [erase_map f l r]
theorem pop_eq {s s' : List SV} {i r : Nat} {fk : List SV → Option (D × List SV)} {l : List D} {d : D} (h0 : s[i]? = some (.own (oL l))) (e : fk s = some (.int (r : Int), s')) (h : s'[i]? = some (.own (oL l))) (hd : l[r]? = some d) (hn : l.length ≤ 1000) : xPop i fk s = some (d, s'.set i (.own (oL (l.eraseIdx r)))) := by
  unfold xPop
  rw [if_pos (own_is h0), e, Option.bind_some]
  show (match s'[i]?, D.int (r : Int) with
    | some (.own (.lst os)), .int n => (ixN os.length n).bind fun j => match os[j]? with
      | some (.fz d) => if os.length ≤ sizeLine then some (d, s'.set i (.own (.lst (os.eraseIdx j)))) else none
      | _ => none
    | _, _ => none) = _
  rw [h]
  have hr : r < l.length := (List.getElem?_eq_some_iff.mp hd).1
  show ((ixN (l.map OD.fz).length (r : Int)).bind fun j => match (l.map OD.fz)[j]? with
      | some (.fz d) => if (l.map OD.fz).length ≤ sizeLine then some (d, s'.set i (.own (.lst ((l.map OD.fz).eraseIdx j)))) else none
      | _ => none) = _
  rw [List.length_map, ixN_nat hr, Option.bind_some, List.getElem?_map, hd]
  show (if l.length ≤ sizeLine then some (d, s'.set i (.own (.lst ((l.map OD.fz).eraseIdx r)))) else none) = _
  rw [if_pos (by have := line; omega)]
  congr 4
  rw [erase_map]
  rfl
theorem erase_perm {α : Type} : ∀ {l : List α} {r : Nat} {x : α}, l[r]? = some x → (x :: l.eraseIdx r).Perm l
  | y :: l, 0, x, h => by
    have : y = x := by simpa using h
    rw [this]
    exact List.Perm.refl _
  | y :: l, r + 1, x, h => by
    have h2 := erase_perm (l := l) (r := r) (x := x) (by simpa using h)
    exact (List.Perm.swap y x (l.eraseIdx r)).trans (h2.cons y)
/-- the leads in another order -/
theorem mixed_eq {n : Nat} {o : OD} {leads : List (Int × Int)} (hs : Src n o) (hn : n ≤ 100000) (hl : leads.length ≤ 100) : ∃ (ls : List (Int × Int)) (o' : OD), v__law_e_mixed o [.lst (leads.map eS1)] = some (.fz (.lst (ls.map eS1)), o') ∧ ls.Perm leads ∧ Src (n + leads.length) o' := by
  have key : ∃ r o', v__law_e_mixed o [.lst (leads.map eS1)] = some (r, o') ∧ ∃ ls : List (Int × Int), r = .fz (.lst (ls.map eS1)) ∧ ls.Perm leads ∧ Src (n + leads.length) o' := by
    show ∃ r o', runM d__law_e_mixed 5 o [.lst (leads.map eS1)] = some (r, o') ∧ _
    refine run_M (Q := fun r o' => ∃ ls : List (Int × Int), r = .fz (.lst (ls.map eS1)) ∧ ls.Perm leads ∧ Src (n + leads.length) o') ?_
    show WP (d__law_e_mixed [.own o, .fz (.lst (leads.map eS1)), .un, .un, .un]) _ _ _ _
    unfold d__law_e_mixed
    apply w_seq
    refine w_setO (o := oL (leads.map eS1)) rfl ?_
    apply w_seq
    refine w_setO (o := oL []) rfl ?_
    have hlen : ∀ (s : List SV) (l : List (Int × Int)), s[2]? = some (.own (oL (l.map eS1))) → dCallB dLen (dCons (dOwn 2) dNil) s = some (.int (l.length : Int)) := fun s l h => by
      have e : dOwn 2 s = some (.lst (l.map eS1)) := by
        unfold dOwn
        rw [h]
        show some ((oL (l.map eS1)).toD) = _
        rw [toD_oL]
      rw [cb_eq (args1 e)]
      show some (D.int ((l.map eS1).length : Int)) = _
      rw [List.length_map]
    apply w_seq
    refine w_for (xs := List.range leads.length) (enc := fun i : Nat => D.int i) (fun pre s => ∃ o' left found x, s = [.own o', .fz (.lst (leads.map eS1)), .own (oL (left.map eS1)), .own (oL (found.map eS1)), x] ∧ Src (n + pre.length) o' ∧ left.length + pre.length = leads.length ∧ found.length = pre.length ∧ (found ++ left).Perm leads) (range1_eq (args1 (hlen _ leads rfl)) (by omega)) ⟨o, leads, [], .un, rfl, hs, rfl, rfl, List.Perm.refl _⟩ ?_ ?_
    · rintro pre k s hq ⟨o1, left, found, x, rfl, hs1, h1, h2, h3⟩
      obtain ⟨rfl, hk⟩ := range_split hq
      refine ⟨_, rfl, ?_⟩
      unfold b__law_e_mixed_1
      obtain ⟨r, o2, e, r0, r1, hs2⟩ := pick_at (i := 0) (s := [.own o1, .fz (.lst (leads.map eS1)), .own (oL (left.map eS1)), .own (oL (found.map eS1)), .fz (.int pre.length)]) (fs := dCons (dCallB dLen (dCons (dOwn 2) dNil)) dNil) (many := (left.length : Int)) hs1 (by omega) (by omega) (by
        have : (left.length : Int) ≤ 100 := by omega
        have : (100 : Int) < 2 ^ 1000 := by decide +kernel
        omega) rfl (args1 (hlen _ left rfl))
      obtain ⟨rn, rfl⟩ : ∃ rn : Nat, r = rn := ⟨r.toNat, by omega⟩
      have hrl : rn < left.length := by omega
      have hg : left[rn]? = some left[rn] := List.getElem?_eq_getElem hrl
      have e2 := pop_eq (i := 2) (l := left.map eS1) (d := eS1 left[rn]) rfl e rfl (by rw [List.getElem?_map, hg]; rfl) (by rw [List.length_map]; omega)
      refine w_appX (l0 := found.map eS1) (l := found.map eS1) e2 rfl rfl (by rw [List.length_map]; have := line; omega) ⟨o2, left.eraseIdx rn, found ++ [left[rn]], .fz (.int pre.length), ?_, ?_, ?_, ?_, ?_⟩
      · rw [erase_map, List.map_append]
        rfl
      · rw [List.length_append]
        exact hs2
      · rw [List.length_append, List.length_eraseIdx_of_lt hrl]
        show left.length - 1 + (pre.length + 1) = leads.length
        omega
      · rw [List.length_append, List.length_append, h2]
        rfl
      · rw [List.append_assoc]
        exact ((erase_perm hg).append_left found).trans h3
    · rintro s ⟨o1, left, found, x, rfl, hs1, h1, h2, h3⟩
      rw [List.length_range] at hs1 h1
      refine w_retShare (i := 3) (o := oL (found.map eS1)) rfl ⟨o1, rfl, found, ?_, ?_, hs1⟩
      · rw [toD_oL]
      · have : left = [] := List.length_eq_zero_iff.mp (by omega)
        rw [this, List.append_nil] at h3
        exact h3
  obtain ⟨r, o', h, ls, rfl, h2⟩ := key
  exact ⟨ls, o', h, h2⟩
end K37

set_option Elab.async false
set_option linter.all false
set_option maxRecDepth 100000
set_option maxHeartbeats 1000000
namespace K37
open PySem L2 My

theorem catOwn_eq {s s' : List SV} {i : Nat} {fx : List SV → Option (D × List SV)} {xs xs0 ys : List D} (h0 : s[i]? = some (.own (oL xs0))) (e : fx s = some (.lst ys, s')) (h : s'[i]? = some (.own (oL xs))) (hn : xs.length + ys.length ≤ 10000) : xCatOwn i fx s = some (oL (xs ++ ys), s') := by
  unfold xCatOwn
  rw [if_pos (own_is h0), e, Option.bind_some]
  show (match dItemsOwn i s', D.lst ys with
    | some xs, .lst ys => (catD xs ys).map fun o => (o, s')
    | _, _ => none) = _
  rw [items_own h]
  show (catD xs ys).map _ = _
  unfold catD
  rw [if_pos (by have := line; omega)]
  rfl
theorem in_pairs (x y : Int) : ∀ l : List (Int × Int), ((l.map eS1).any fun z => z.eqv (eS1 (x, y))) = decide ((x, y) ∈ l)
  | [] => by simp
  | c :: l => by
    show ((eS1 c).eqv (eS1 (x, y)) || (l.map eS1).any fun z => z.eqv (eS1 (x, y))) = _
    rw [in_pairs x y l]
    obtain ⟨a, b⟩ := c
    have e : (eS1 (a, b)).eqv (eS1 (x, y)) = (decide (a = x) && (decide (b = y) && true)) := rfl
    rw [e]
    by_cases h : (x, y) = (a, b)
    · rw [Prod.mk.injEq] at h
      rw [decide_eq_true h.1.symm, decide_eq_true h.2.symm]
      have h1 : (x, y) = (a, b) := by rw [h.1, h.2]
      have : decide ((x, y) ∈ (a, b) :: l) = true := decide_eq_true (by rw [h1]; exact List.mem_cons_self)
      rw [this]
      rfl
    · have h2 : (decide (a = x) && (decide (b = y) && true)) = false := by
        rw [Bool.and_true]
        rw [Prod.mk.injEq] at h
        by_cases h3 : a = x
        · by_cases h4 : b = y
          · exact absurd ⟨h3.symm, h4.symm⟩ h
          · rw [decide_eq_false h4, Bool.and_false]
        · rw [decide_eq_false h3, Bool.false_and]
      rw [h2, Bool.false_or]
      exact decide_eq_decide.mpr ⟨fun m => List.mem_cons_of_mem _ m, fun m => (List.mem_cons.mp m).resolve_left h⟩
theorem pairs_pln (l : List (Int × Int)) : Pln 2 (.lst (l.map eS1)) := fun d hd => by
  obtain ⟨x, _, rfl⟩ := List.mem_map.mp hd
  exact pln_S1 x
theorem in_leads (x y : Int) (l : List (Int × Int)) : dInQ (.tup [.int x, .int y]) (.lst (l.map eS1)) = some (.bl (decide ((x, y) ∈ l))) := by
  have e : dInQ (eS1 (x, y)) (.lst (l.map eS1)) = if (eS1 (x, y)).ok && (D.lst (l.map eS1)).ok then some (.bl ((l.map eS1).any fun z => z.eqv (eS1 (x, y)))) else none := rfl
  have e2 : dInQ (.tup [.int x, .int y]) (.lst (l.map eS1)) = dInQ (eS1 (x, y)) (.lst (l.map eS1)) := rfl
  rw [e2, e, (pln_S1 (x, y)).ok (by omega), (pairs_pln l).ok (by omega), in_pairs]
  rfl
theorem allB_bools {α : Type} (f : α → Bool) : ∀ l : List α, allB (l.map fun x => D.bl (f x)) = some (l.map f)
  | [] => rfl
  | x :: l => by
    show (allB (l.map fun x => D.bl (f x))).map (f x :: ·) = _
    rw [allB_bools f l]
    rfl
theorem any_bools {α : Type} (f : α → Bool) (l : List α) : dAnyL [.lst (l.map fun x => D.bl (f x))] = some (.bl (l.any f)) := by
  show (allB _).map _ = _
  rw [allB_bools]
  show some (D.bl ((l.map f).any id)) = _
  rw [List.any_map]
  rfl
theorem mem_allC {no a b : Nat} (h1 : 1 ≤ a) (h2 : a < b) (h3 : b ≤ no) : ip a b ∈ allC no := by
  unfold allC
  refine List.mem_flatMap.mpr ⟨a - 1, List.mem_range.mpr (by omega), List.mem_map.mpr ⟨b - a - 1, List.mem_range.mpr (by omega), ?_⟩⟩
  rw [show 1 + (a - 1) = a from by omega, show a + 1 + (b - a - 1) = b from by omega]
/-- the implied couples -/
def impl (ni : Nat) (leads : List (Int × Int)) (a b : Int) : Bool := (List.range ni).any fun k => decide ((((1 + k : Nat) : Int), a) ∈ leads) && decide ((((1 + k : Nat) : Int), b) ∈ leads)
theorem flat1_len {l : List Nat} {no : Nat} : (l.flatMap fun i => (List.range no).map fun o => ip (1 + i) (1 + o)).length = l.length * no := by
  rw [List.length_flatMap]
  simp only [List.length_map, List.length_range]
  rw [List.map_const', List.sum_replicate_nat]
theorem face_drawn {n : Nat} {o : OD} (hs : Src n o) (hn : n ≤ 10000) : ∃ (ni no : Nat) (leads cps : List (Int × Int)) (o' : OD), v__law_drawn_face o [] = some (.fz (.tup [.int ni, .int no, .lst (leads.map eS1), .lst (cps.map eS1)]), o') ∧ ni ≤ 3 ∧ no ≤ 3 ∧ leads.Sublist (allL ni no) ∧ cps.Sublist (allC no) ∧ Clo leads cps ∧ Src (n + 100) o' := by
  have key : ∃ r o', v__law_drawn_face o [] = some (r, o') ∧ ∃ (ni no : Nat) (leads cps : List (Int × Int)), r = .fz (.tup [.int ni, .int no, .lst (leads.map eS1), .lst (cps.map eS1)]) ∧ ni ≤ 3 ∧ no ≤ 3 ∧ leads.Sublist (allL ni no) ∧ cps.Sublist (allC no) ∧ Clo leads cps ∧ Src (n + 100) o' := by
    show ∃ r o', runM d__law_drawn_face 10 o [] = some (r, o') ∧ _
    refine run_M (Q := fun r o' => ∃ (ni no : Nat) (leads cps : List (Int × Int)), r = .fz (.tup [.int ni, .int no, .lst (leads.map eS1), .lst (cps.map eS1)]) ∧ ni ≤ 3 ∧ no ≤ 3 ∧ leads.Sublist (allL ni no) ∧ cps.Sublist (allC no) ∧ Clo leads cps ∧ Src (n + 100) o') ?_
    show WP (d__law_drawn_face [.own o, .un, .un, .un, .un, .un, .un, .un, .un, .un]) _ _ _ _
    unfold d__law_drawn_face
    have p1000 : (4 : Int) < 2 ^ 1000 := by decide +kernel
    obtain ⟨r1, o1, e1, r10, r11, hs1⟩ := pick_at (i := 0) (s := [.own o, .un, .un, .un, .un, .un, .un, .un, .un, .un]) (fs := dCons (dC (.int 4)) dNil) (many := 4) hs (by omega) (by omega) p1000 rfl rfl
    obtain ⟨ni, rfl⟩ : ∃ ni : Nat, r1 = ni := ⟨r1.toNat, by omega⟩
    apply w_seq
    refine w_setX e1 ?_
    obtain ⟨r2, o2, e2, r20, r21, hs2⟩ := pick_at (i := 0) (s := [.own o1, .fz (.int ni), .un, .un, .un, .un, .un, .un, .un, .un]) (fs := dCons (dCallB dMin2 (dCons (dC (.int 4)) (dCons (dOp dSub (dC (.int 5)) (dVar 1)) dNil))) dNil) (many := if (5 - (ni : Int)) < 4 then 5 - (ni : Int) else 4) hs1 (by omega) (by split <;> omega) (by split <;> omega) rfl rfl
    have hr2 : r2 < 4 := by
      split at r21 <;> omega
    clear r21
    obtain ⟨no, rfl⟩ : ∃ no : Nat, r2 = no := ⟨r2.toNat, by omega⟩
    have hi : ni ≤ 3 := by omega
    have ho : no ≤ 3 := by omega
    apply w_seq
    refine w_setX e2 ?_
    clear e1 e2
    apply w_seq
    refine w_setO (o := oL ([].map eS1)) rfl ?_
    have rng : ∀ (j m : Nat) (s : List SV), m ≤ 3 → dVar j s = some (.int m) → dRange2 (dCons (dC (.int 1)) (dCons (dOp dAddI (dVar j) (dC (.int 1))) dNil)) s = some ((List.range m).map fun k : Nat => D.int ((1 + k : Nat) : Int)) := fun j m s hm hv => by
      have e1 : dOp dAddI (dVar j) (dC (.int 1)) s = some (.int ((m + 1 : Nat) : Int)) := (op2 hv (b := .int 1) rfl).trans rfl
      have := range2_eq (i := 1) (n := m + 1) (s := s) (args2 (f := dC (.int 1)) (a := .int 1) rfl e1) (by omega) (by omega)
      rw [show m + 1 - 1 = m from by omega] at this
      exact this
    apply w_seq
    refine w_for (xs := List.range ni) (enc := fun k : Nat => D.int ((1 + k : Nat) : Int)) (fun pre s => ∃ o' leads x, s = [.own o', .fz (.int ni), .fz (.int no), .own (oL (leads.map eS1)), x, .un, .un, .un, .un, .un] ∧ leads.Sublist (pre.flatMap fun i => (List.range no).map fun o => ip (1 + i) (1 + o)) ∧ Src (n + 2 + pre.length * no) o') (rng 1 ni _ hi rfl) ⟨o2, [], .un, rfl, List.Sublist.refl _, by simpa using hs2⟩ ?_ ?_
    · rintro pre k s hq ⟨o3, leads, x, rfl, hsub, hs3⟩
      obtain ⟨rfl, hk⟩ := range_split hq
      refine ⟨_, rfl, ?_⟩
      unfold b__law_drawn_face_1
      have hp : pre.length * no ≤ 9 := by
        have : pre.length * no ≤ 3 * 3 := Nat.mul_le_mul (by omega) ho
        omega
      obtain ⟨ls, o4, e, l1, s1⟩ := xlc_pick (i := 9) (s := [.own o3, .fz (.int ni), .fz (.int no), .own (oL (leads.map eS1)), .fz (.int ((1 + pre.length : Nat) : Int)), .un, .un, .un, .un, .un]) (xs := List.range no) (g := fun j : Nat => eS1 (ip (1 + pre.length) (1 + j))) (fe := e__law_drawn_face_1) (enc := fun k : Nat => D.int ((1 + k : Nat) : Int)) hs3 rfl (by omega) rfl rfl (rng 2 no _ ho rfl) (by rw [List.length_range]; omega) (by omega) (fun x o' => by
        have : dTup (dCons (dVar 4) (dCons (dVar 9) dNil)) (T2 [.own o3, .fz (.int ni), .fz (.int no), .own (oL (leads.map eS1)), .fz (.int ((1 + pre.length : Nat) : Int)), .un, .un, .un, .un, .un] 9 o' (.fz (.int ((1 + x : Nat) : Int)))) = some (eS1 (ip (1 + pre.length) (1 + x))) := tup2 rfl rfl
        unfold e__law_drawn_face_1 xOf
        rw [this]
        rfl)
      have hll := hsub.length_le
      rw [flat1_len] at hll
      have hl2 := l1.length_le
      rw [List.length_range] at hl2 s1
      refine w_setXo (o := oL ((leads ++ ls.map fun j => ip (1 + pre.length) (1 + j)).map eS1)) (s' := [.own o4, .fz (.int ni), .fz (.int no), .own (oL (leads.map eS1)), .fz (.int ((1 + pre.length : Nat) : Int)), .un, .un, .un, .un, .un]) ?_ ⟨o4, leads ++ ls.map fun j => ip (1 + pre.length) (1 + j), .fz (.int ((1 + pre.length : Nat) : Int)), rfl, ?_, ?_⟩
      · have := catOwn_eq (i := 3) (xs0 := leads.map eS1) (xs := leads.map eS1) rfl e rfl (by rw [List.length_map, List.length_map]; omega)
        rw [List.map_append, List.map_map]
        exact this
      · rw [List.flatMap_append]
        refine hsub.append ?_
        show (ls.map _).Sublist (((List.range no).map fun o => ip (1 + pre.length) (1 + o)) ++ [])
        rw [List.append_nil]
        exact l1.map _
      · rw [List.length_append]
        refine s1.mono ?_
        show n + 2 + pre.length * no + no ≤ n + 2 + (pre.length + 1) * no
        rw [Nat.add_mul]
        omega
    rintro s ⟨o3, leads, x4, rfl, hsub, hs3⟩
    have hsub : leads.Sublist (allL ni no) := hsub
    have hs3 : Src (n + 11) o3 := hs3.mono (by
      rw [List.length_range]
      have : ni * no ≤ 3 * 3 := Nat.mul_le_mul hi ho
      omega)
    apply w_seq
    refine w_setO (o := oL ([].map eS1)) rfl ?_
    apply w_seq
    refine w_for (xs := List.range no) (enc := fun k : Nat => D.int ((1 + k : Nat) : Int)) (fun pre s => ∃ o' cps x6 x7 x8, s = [.own o', .fz (.int ni), .fz (.int no), .own (oL (leads.map eS1)), x4, .own (oL (cps.map eS1)), x6, x7, x8, .un] ∧ cps.Sublist (pre.flatMap fun a => (List.range (no - (1 + a))).map fun k => ip (1 + a) (1 + a + 1 + k)) ∧ (∀ c ∈ (pre.flatMap fun a => (List.range (no - (1 + a))).map fun k => ip (1 + a) (1 + a + 1 + k)), impl ni leads c.1 c.2 = true → c ∈ cps) ∧ Src (n + 11 + pre.length * 3) o') (rng 2 no _ ho rfl) ⟨o3, [], .un, .un, .un, rfl, List.Sublist.refl _, by simp, hs3⟩ ?_ ?_
    · rintro pre k s hq ⟨o4, cps, x6, x7, x8, rfl, hcs, him, hs4⟩
      obtain ⟨rfl, hk⟩ := range_split hq
      refine ⟨_, rfl, ?_⟩
      unfold b__law_drawn_face_3
      have hr3 : dRange2 (dCons (dOp dAddI (dVar 6) (dC (.int 1))) (dCons (dOp dAddI (dVar 2) (dC (.int 1))) dNil)) [.own o4, .fz (.int ni), .fz (.int no), .own (oL (leads.map eS1)), x4, .own (oL (cps.map eS1)), .fz (.int ((1 + pre.length : Nat) : Int)), x7, x8, .un] = some ((List.range (no - (1 + pre.length))).map fun j : Nat => D.int ((1 + pre.length + 1 + j : Nat) : Int)) := by
        have := range2_eq (i := 1 + pre.length + 1) (n := no + 1) (s := [.own o4, .fz (.int ni), .fz (.int no), .own (oL (leads.map eS1)), x4, .own (oL (cps.map eS1)), .fz (.int ((1 + pre.length : Nat) : Int)), x7, x8, .un]) (args2 (f := dOp dAddI (dVar 6) (dC (.int 1))) (f2 := dOp dAddI (dVar 2) (dC (.int 1))) rfl rfl) (by omega) (by omega)
        rw [show no + 1 - (1 + pre.length + 1) = no - (1 + pre.length) from by omega] at this
        exact this
      refine w_for (xs := List.range (no - (1 + pre.length))) (enc := fun j : Nat => D.int ((1 + pre.length + 1 + j : Nat) : Int)) (fun p2 s => ∃ o' cps x7 x8, s = [.own o', .fz (.int ni), .fz (.int no), .own (oL (leads.map eS1)), x4, .own (oL (cps.map eS1)), .fz (.int ((1 + pre.length : Nat) : Int)), x7, x8, .un] ∧ cps.Sublist ((pre.flatMap fun a => (List.range (no - (1 + a))).map fun k => ip (1 + a) (1 + a + 1 + k)) ++ p2.map fun k => ip (1 + pre.length) (1 + pre.length + 1 + k)) ∧ (∀ c ∈ ((pre.flatMap fun a => (List.range (no - (1 + a))).map fun k => ip (1 + a) (1 + a + 1 + k)) ++ p2.map fun k => ip (1 + pre.length) (1 + pre.length + 1 + k)), impl ni leads c.1 c.2 = true → c ∈ cps) ∧ Src (n + 11 + pre.length * 3 + p2.length) o') hr3 ⟨o4, cps, x7, x8, rfl, by simpa using hcs, by simpa using him, hs4⟩ ?_ ?_
      · rintro p2 j s hq2 ⟨o5, cps, x7, x8, rfl, hcs, him, hs5⟩
        obtain ⟨rfl, hj⟩ := range_split hq2
        refine ⟨_, rfl, ?_⟩
        unfold b__law_drawn_face_2
        generalize hA : 1 + pre.length = A at *
        generalize hB : A + 1 + p2.length = B at *
        apply w_seq
        refine w_set (d := .bl (impl ni leads (A : Int) (B : Int))) ?_ ?_
        · have hown : ∀ z : SV, dOwn 3 [.own o5, .fz (.int ni), .fz (.int no), .own (oL (leads.map eS1)), z, .own (oL (cps.map eS1)), .fz (.int (A : Int)), .fz (.int (B : Int)), x8, .un] = some (.lst (leads.map eS1)) := fun z => by
            show some ((oL (leads.map eS1)).toD) = _
            rw [toD_oL]
          refine (cb_eq (args1 (frL (lc_map (enc := fun k : Nat => D.int ((1 + k : Nat) : Int)) (xs := List.range ni) (g := fun k => D.bl (decide ((((1 + k : Nat) : Int), (A : Int)) ∈ leads) && decide ((((1 + k : Nat) : Int), (B : Int)) ∈ leads))) (rng 1 ni _ hi rfl) (by rw [List.length_range]; have := line; omega) fun k hk => ⟨_, rfl, ?_⟩)))).trans (any_bools _ _)
          have eb : ∀ (f : List SV → Option Bool) (s : List SV) (b : Bool), f s = some b → dBool f s = some (.bl b) := fun f s b h => by
            unfold dBool
            rw [h]
            rfl
          exact eb _ _ _ (and_b (test_b ((op2 (tup2 rfl rfl) (hown _)).trans (in_leads _ _ _))) (test_b ((op2 (tup2 rfl rfl) (hown _)).trans (in_leads _ _ _))))
        have hx : ∃ (b : Bool) (o6 : OD), xOr (xbOf (dTruth (dVar 8))) coin [.own o5, .fz (.int ni), .fz (.int no), .own (oL (leads.map eS1)), x4, .own (oL (cps.map eS1)), .fz (.int (A : Int)), .fz (.int (B : Int)), .fz (.bl (impl ni leads (A : Int) (B : Int))), .un] = some (b, [.own o6, .fz (.int ni), .fz (.int no), .own (oL (leads.map eS1)), x4, .own (oL (cps.map eS1)), .fz (.int (A : Int)), .fz (.int (B : Int)), .fz (.bl (impl ni leads (A : Int) (B : Int))), .un]) ∧ Src (n + 11 + pre.length * 3 + p2.length + 1) o6 ∧ (impl ni leads (A : Int) (B : Int) = true → b = true) := by
          cases him2 : impl ni leads (A : Int) (B : Int) with
          | true => exact ⟨true, o5, rfl, hs5.mono (by omega), fun _ => rfl⟩
          | false =>
            obtain ⟨b, o6, e, hs6⟩ := coin_eq (s := [.own o5, .fz (.int ni), .fz (.int no), .own (oL (leads.map eS1)), x4, .own (oL (cps.map eS1)), .fz (.int (A : Int)), .fz (.int (B : Int)), .fz (.bl false), .un]) hs5 (by omega) rfl
            exact ⟨b, o6, e, hs6, fun h => by cases h⟩
        obtain ⟨b, o6, e6, hs6, hb⟩ := hx
        refine w_ifX e6 ?_
        have hcl := hcs.length_le
        have hflat : (pre.flatMap fun a => (List.range (no - (1 + a))).map fun k => ip (1 + a) (1 + a + 1 + k)).length ≤ pre.length * 3 := by
          rw [List.length_flatMap]
          simp only [List.length_map, List.length_range]
          have : ∀ l : List Nat, (l.map fun a => no - (1 + a)).sum ≤ l.length * 3 := by
            intro l
            induction l with
            | nil => simp
            | cons x l ih =>
              rw [List.map_cons, List.sum_cons, List.length_cons]
              omega
          exact this pre
        rw [List.length_append, List.length_map] at hcl
        cases b with
        | true =>
          rw [if_pos rfl]
          refine w_app (d := eS1 (ip A B)) (l := cps.map eS1) (tup2 rfl rfl) rfl (by rw [List.length_map]; have := line; omega) ⟨o6, cps ++ [ip A B], .fz (.int (B : Int)), .fz (.bl (impl ni leads (A : Int) (B : Int))), ?_, ?_, ?_, ?_⟩
          · rw [List.map_append]
            rfl
          · rw [List.map_append, ← List.append_assoc, ← hB]
            exact hcs.append (List.Sublist.refl _)
          · intro c hc hic
            rw [List.map_append, ← List.append_assoc] at hc
            rcases List.mem_append.mp hc with h | h
            · exact List.mem_append_left _ (him c h hic)
            · refine List.mem_append_right _ ?_
              rw [← hB]
              exact h
          · rw [List.length_append]
            exact hs6
        | false =>
          rw [if_neg (by decide)]
          refine w_nx ⟨o6, cps, .fz (.int (B : Int)), .fz (.bl (impl ni leads (A : Int) (B : Int))), rfl, ?_, ?_, ?_⟩
          · rw [List.map_append, ← List.append_assoc]
            exact hcs.trans (List.sublist_append_left _ _)
          · intro c hc hic
            rw [List.map_append, ← List.append_assoc] at hc
            rcases List.mem_append.mp hc with h | h
            · exact him c h hic
            · have hcab : c = ip A B := by
                rw [← hB]
                simpa using h
              rw [hcab] at hic
              have := hb hic
              cases this
          · rw [List.length_append]
            exact hs6
      · rintro s ⟨o5, cps, x7, x8, rfl, hcs, him, hs5⟩
        refine ⟨o5, cps, _, x7, x8, rfl, ?_, ?_, ?_⟩
        · rw [List.flatMap_append]
          simpa using hcs
        · rw [List.flatMap_append]
          simpa using him
        · rw [List.length_append]
          refine hs5.mono ?_
          rw [List.length_range]
          show n + 11 + pre.length * 3 + (no - (1 + pre.length)) ≤ n + 11 + (pre.length + 1) * 3
          omega
    rintro s ⟨o4, cps, x6, x7, x8, rfl, hcs, him, hs4⟩
    refine w_retX (d := .tup [.int ni, .int no, .lst (leads.map eS1), .lst (cps.map eS1)]) (s' := [.own o4, .fz (.int ni), .fz (.int no), .fz (.lst (leads.map eS1)), x4, .fz (.lst (cps.map eS1)), x6, x7, x8, .un]) ?_ ⟨o4, rfl, ni, no, leads, cps, rfl, hi, ho, hsub, hcs, ?_, ?_⟩
    · have e1 : (oL (leads.map eS1)).toD = .lst (leads.map eS1) := toD_oL _
      have e2 : (oL (cps.map eS1)).toD = .lst (cps.map eS1) := toD_oL _
      rw [← e1, ← e2]
      show (if ([D.int ni, D.int no, (oL (leads.map eS1)).toD, (oL (cps.map eS1)).toD] : List D).length ≤ sizeLine then some _ else none) = _
      exact if_pos (by have := line; show 4 ≤ sizeLine; omega)
    · have sym : ∀ i a b : Int, (i, a) ∈ leads → (i, b) ∈ leads → a < b → (a, b) ∈ cps := fun i a b h1 h2 hab => by
        obtain ⟨⟨i1, i2⟩, ⟨a1, a2⟩⟩ := allL_in (hsub.subset h1)
        obtain ⟨_, ⟨b1, b2⟩⟩ := allL_in (hsub.subset h2)
        simp only at i1 i2 a1 a2 b1 b2
        obtain ⟨i, rfl⟩ : ∃ k : Nat, i = k := ⟨i.toNat, by omega⟩
        obtain ⟨a, rfl⟩ : ∃ k : Nat, a = k := ⟨a.toNat, by omega⟩
        obtain ⟨b, rfl⟩ : ∃ k : Nat, b = k := ⟨b.toNat, by omega⟩
        refine him (ip a b) (mem_allC (no := no) (by omega) (by omega) (by omega)) ?_
        unfold impl
        rw [List.any_eq_true]
        refine ⟨i - 1, List.mem_range.mpr (by omega), ?_⟩
        rw [show 1 + (i - 1) = i from by omega, Bool.and_eq_true]
        exact ⟨decide_eq_true h1, decide_eq_true h2⟩
      intro i a b h1 h2 hab
      rcases Int.lt_or_gt_of_ne hab with h | h
      · exact .inl (sym i a b h1 h2 h)
      · exact .inr (sym i b a h2 h1 h)
    · refine hs4.mono ?_
      rw [List.length_range]
      omega
  obtain ⟨r, o', h, ni, no, leads, cps, rfl, h2⟩ := key
  exact ⟨ni, no, leads, cps, o', h, h2⟩
end K37

set_option Elab.async false
set_option linter.all false
set_option maxRecDepth 100000
set_option maxHeartbeats 1000000
namespace K37
open PySem L2 My

theorem sml_S1 (x : Int × Int) : Sml 1 (eS1 x) := ⟨(by show 2 ≤ 50000; omega), fun d hd => by
  have : d = .int x.1 ∨ d = .int x.2 := by simpa using hd
  rcases this with rfl | rfl <;> exact trivial⟩
theorem sml_S {l : List (Int × Int)} (h : l.length ≤ 100) : Sml 2 (eS l) := ⟨by rw [List.length_map]; omega, fun d hd => by
  obtain ⟨x, _, rfl⟩ := List.mem_map.mp hd
  exact sml_S1 x⟩
theorem sml_P {x : Cp} (h1 : x.1.length ≤ 100) (h2 : x.2.length ≤ 100) : Sml 3 (eP x) := ⟨(by show 2 ≤ 50000; omega), fun d hd => by
  have : d = eS x.1 ∨ d = eS x.2 := by simpa using hd
  rcases this with rfl | rfl
  · exact sml_S h1
  · exact sml_S h2⟩
theorem couples_len {i o : Nat} {q : List (Int × Int) → List (Int × Int) → Bool} (hi : i ≤ 3) (ho : o ≤ 3) : (couples i o q).length ≤ 46656 := by
  unfold couples
  rw [List.length_flatMap]
  simp only [List.length_map]
  have h1 : (words S6 o).length ≤ 216 := by
    rw [words_len]
    exact Nat.le_trans (Nat.pow_le_pow_right (by decide) ho) (by decide)
  have h2 : (words S6 i).length ≤ 216 := by
    rw [words_len]
    exact Nat.le_trans (Nat.pow_le_pow_right (by decide) hi) (by decide)
  have : ∀ l : List (List (Int × Int)), (l.map fun d => ((words S6 o).filter (q d)).length).sum ≤ l.length * 216 := by
    intro l
    induction l with
    | nil => simp
    | cons x l ih =>
      rw [List.map_cons, List.sum_cons, List.length_cons]
      have := List.length_filter_le (q x) (words S6 o)
      omega
  have := this (words S6 i)
  omega
theorem sml_couples {i o : Nat} {q : List (Int × Int) → List (Int × Int) → Bool} (hi : i ≤ 3) (ho : o ≤ 3) : Sml 4 (.lst ((couples i o q).map eP)) := ⟨by
  rw [List.length_map]
  have := couples_len (q := q) hi ho
  omega, fun d hd => by
  obtain ⟨x, hx, rfl⟩ := List.mem_map.mp hd
  obtain ⟨h1, h2, _⟩ := mem_couples.mp hx
  exact sml_P (by rw [(mem_words.mp h1).1]; omega) (by rw [(mem_words.mp h2).1]; omega)⟩
theorem pln_couples (l : List Cp) : Pln 4 (.lst (l.map eP)) := fun d hd => by
  obtain ⟨x, _, rfl⟩ := List.mem_map.mp hd
  exact pln_P x
theorem eq_self {d : D} {k : Nat} (h : Pln k d) (hk : k ≤ 64) : dEq d d = some (.bl true) := by
  unfold dEq
  rw [h.ok hk, h.eqv]
  rfl
theorem sml_ints {l : List Int} (h : l.length ≤ 100) : Sml 1 (.lst (l.map .int)) := ⟨by rw [List.length_map]; omega, fun d hd => by
  obtain ⟨x, _, rfl⟩ := List.mem_map.mp hd
  exact trivial⟩
def PrOk (k : Nat) (p : Pr) : Prop := p.lost.length ≤ k ∧ p.rd.length ≤ k ∧ p.sw.length ≤ k
theorem sml_Pr {k : Nat} {p : Pr} (h : PrOk k p) (hk : k ≤ 100) : Sml 3 (ePr false p) := ⟨(by show 2 ≤ 50000; omega), fun d hd => by
  obtain ⟨h1, h2, h3⟩ := h
  have up : ∀ {l : List Int}, l.length ≤ k → Sml 2 (.lst (l.map .int)) := fun {l} hl => ⟨by rw [List.length_map]; omega, fun d hd => by
    obtain ⟨x, _, rfl⟩ := List.mem_map.mp hd
    exact trivial⟩
  have : d = sq false p.lost ∨ d = .tup [sq false p.rd, sq false p.sw] := by simpa using hd
  rcases this with rfl | rfl
  · exact up h1
  · refine ⟨(by show 2 ≤ 50000; omega), fun d hd => ?_⟩
    have : d = sq false p.rd ∨ d = sq false p.sw := by simpa using hd
    rcases this with rfl | rfl
    · exact sml_ints (by omega)
    · exact sml_ints (by omega)⟩
theorem same_at {f f2 : List SV → Option D} {s : List SV} {d : D} {k : Nat} (h : f s = some d) (h2 : f2 s = some d) (hd : Sml k d) (hk : k < 12) : dTruth (dCallF (v__law_same 12) (dCons f (dCons f2 dNil))) s = some true := by
  unfold dTruth
  rw [cf_eq (args2 h h2), same_eq hd hk]
  rfl
theorem own_at {s : List SV} {i : Nat} {l : List D} (h : s[i]? = some (.own (oL l))) : dOwn i s = some (.lst l) := by
  unfold dOwn
  rw [h]
  show some ((oL l).toD) = _
  rw [toD_oL]
theorem num_at {n k : Nat} {o : OD} {s : List SV} (hs : Src n o) (hn : n ≤ 100000) (hk : k ≤ 50) (h : s[11]? = some (.own o)) (hv : dVar 12 s = some (.int k)) : ∃ (l : List Int) (o' : OD), xFr (dCallM v__law_numbers_to 11 (dCons (dVar 12) dNil)) s = some (.lst (l.map .int), s.set 11 (.own o')) ∧ l.length ≤ k ∧ Src (n + k) o' := by
  obtain ⟨l, o', e, h1, h2⟩ := numbers_eq (k := k) hs hn hk
  exact ⟨l, o', xfr_eq (callM h (args1 hv) e), h1, h2⟩
theorem xcons_eq {f : List SV → Option (D × List SV)} {g : List SV → Option (List D × List SV)} {s s1 s2 : List SV} {d : D} {ds : List D} (h : f s = some (d, s1)) (h2 : g s1 = some (ds, s2)) : xCons f g s = some (d :: ds, s2) := by
  unfold xCons
  rw [h, Option.bind_some, h2]
  rfl
theorem xtup_eq {fs : List SV → Option (List D × List SV)} {s s1 : List SV} {ds : List D} (h : fs s = some (ds, s1)) (hn : ds.length ≤ 1000) : xTup fs s = some (.tup ds, s1) := by
  unfold xTup
  rw [h, Option.bind_some]
  exact if_pos (by have := line; show ds.length ≤ sizeLine; omega)
/-- one pair drawn -/
theorem pair_at {n k : Nat} {o : OD} {s : List SV} (hs : Src n o) (hn : n ≤ 10000) (hk : k ≤ 50) (h : s[11]? = some (.own o)) (hv : dVar 12 s = some (.int k)) : ∃ (p : Pr) (o' : OD), xTup (xCons (xFr (dCallM v__law_numbers_to 11 (dCons (dVar 12) dNil))) (xCons (xTup (xCons (xFr (dCallM v__law_numbers_to 11 (dCons (dVar 12) dNil))) (xCons (xFr (dCallM v__law_numbers_to 11 (dCons (dVar 12) dNil))) xNil))) xNil)) s = some (ePr false p, s.set 11 (.own o')) ∧ PrOk k p ∧ Src (n + 3 * k) o' := by
  have hlen : 11 < s.length := (List.getElem?_eq_some_iff.mp h).1
  have keep : ∀ o', (s.set 11 (.own o'))[11]? = some (.own o') := fun o' => List.getElem?_set_self hlen
  have keepv : ∀ o', dVar 12 (s.set 11 (.own o')) = some (.int k) := fun o' => by
    unfold dVar at hv ⊢
    rw [List.getElem?_set_ne (by decide)]
    exact hv
  have ss : ∀ o' o2, (s.set 11 (.own o')).set 11 (.own o2) = s.set 11 (.own o2) := fun _ _ => List.set_set _
  obtain ⟨a, o1, e1, a1, s1⟩ := num_at hs (by omega) hk h hv
  obtain ⟨b, o2, e2, b1, s2⟩ := num_at s1 (by omega) hk (keep o1) (keepv o1)
  rw [ss] at e2
  obtain ⟨c, o3, e3, c1, s3⟩ := num_at s2 (by omega) hk (keep o2) (keepv o2)
  rw [ss] at e3
  refine ⟨⟨a, b, c⟩, o3, ?_, ⟨a1, b1, c1⟩, s3.mono (by omega)⟩
  exact xtup_eq (xcons_eq e1 (xcons_eq (xtup_eq (xcons_eq e2 (xcons_eq e3 rfl)) (by show 2 ≤ 1000; omega)) rfl)) (by show 2 ≤ 1000; omega)
theorem cut1 {α : Type} (f : α → D) (l : List α) : ∃ m, m ≤ 1 ∧ cutD (l.map f) none (some 1) = (l.take m).map f := by
  refine ⟨min 1 l.length, by omega, ?_⟩
  unfold cutD
  have e : HT.sIx (l.map f).length (l.map f).length (some 1) = min 1 l.length := by
    have := HT.sIx_nat (l.map f).length (l.map f).length 1
    rw [List.length_map] at this ⊢
    exact this
  rw [e]
  show ((l.map f).drop 0).take (min 1 l.length - 0) = _
  rw [List.drop_zero, Nat.sub_zero, List.map_take]
theorem truthB {f : List SV → Option D} {s : List SV} {b : Bool} (h : f s = some (.bl b)) : dTruth f s = some b := by
  unfold dTruth
  rw [h]
  rfl
theorem make_eq {g : OD → List D → Option (OD × OD)} {fs : List SV → Option (List D × List SV)} {s s' : List SV} {a b c d : D} {o : OD} (h : fs s = some ([a, b, c, d], s')) (hg : g (.obj 0 [] []) [a, b, c, d] = some (.fz .non, o)) : xMake 0 4 g fs s = some (o, s') := by
  unfold xMake
  rw [h, Option.bind_some]
  show ((g (.obj 0 [] []) [a, b, c, d]).bind fun q => (outN q.1 q.2).map fun o => (o, s')) = _
  rw [hg]
  rfl
theorem make0_eq {g : OD → List D → Option (OD × OD)} {fs : List SV → Option (List D)} {s : List SV} {ds : List D} {o : OD} (h : fs s = some ds) (hg : g (.obj 0 [] []) ds = some (.fz .non, o)) : dMake 0 g fs s = some o := by
  unfold dMake
  rw [h, Option.bind_some, hg]
  rfl
end K37

set_option Elab.async false
set_option linter.all false
set_option maxRecDepth 100000
set_option maxHeartbeats 1000000
namespace K37
open PySem L2 My

def cplD (pre : List (List (Int × Int))) (o : Nat) (q : List (Int × Int) → List (Int × Int) → Bool) : List Cp := pre.flatMap fun d => ((words S6 o).filter (q d)).map fun w => (d, w)
theorem cplD_len {pre : List (List (Int × Int))} {o : Nat} {q : List (Int × Int) → List (Int × Int) → Bool} (ho : o ≤ 3) : (cplD pre o q).length ≤ pre.length * 216 := by
  unfold cplD
  rw [List.length_flatMap]
  simp only [List.length_map]
  have h1 : (words S6 o).length ≤ 216 := by
    rw [words_len]
    exact Nat.le_trans (Nat.pow_le_pow_right (by decide) ho) (by decide)
  have : ∀ l : List (List (Int × Int)), (l.map fun d => ((words S6 o).filter (q d)).length).sum ≤ l.length * 216 := by
    intro l
    induction l with
    | nil => simp
    | cons x l ih =>
      rw [List.map_cons, List.sum_cons, List.length_cons]
      have := List.length_filter_le (q x) (words S6 o)
      omega
  exact this pre
theorem words3 {n : Nat} (h : n ≤ 3) : (words S6 n).length ≤ 216 := by
  rw [words_len]
  exact Nat.le_trans (Nat.pow_le_pow_right (by decide) h) (by decide)
theorem xnil_eq {s : List SV} : xNil s = some ([], s) := rfl
theorem xrange1_eq {fs : List SV → Option (List D × List SV)} {s s' : List SV} {m : Nat} (h : fs s = some ([.int m], s')) (hm : m ≤ 1000) : xRange1 fs s = some ((List.range m).map fun (i : Nat) => D.int i, s') := by
  unfold xRange1
  rw [h, Option.bind_some]
  show ((if rngOk (m : Int) then some (rngD 0 (m : Int).toNat) else none).map fun ds => (ds, s')) = _
  rw [rng_ok (by omega), if_pos rfl, rngD_map]
  simp
theorem law_true (ns : List Int) (hl : ns.length ≤ 63) (hb : ∀ z ∈ ns, Builtin.Int.intBits z ≤ 1048576) : v_law [.lst (ns.map D.int)] = some (.bl true) := by
  show runP d_law 24 _ = _
  apply run_P
  show WP (d_law [.fz (eR ns), .un, .un, .un, .un, .un, .un, .un, .un, .un, .un, .un, .un, .un, .un, .un, .un, .un, .un, .un, .un, .un, .un, .un]) _ _ _ _
  unfold d_law
  obtain ⟨o0, es0, hs0⟩ := source_eq (k := 0) hl (by omega)
  apply w_seq
  refine w_setO (o := o0) ((cfo_eq (args2 (a := eR ns) (b := .int ((0 : Nat) : Int)) rfl rfl)).trans es0) ?_
  obtain ⟨ni, no, leads, cps, o1, ef, hi, ho, hsL, hsC, hclo, hs1⟩ := face_drawn hs0 (by omega)
  apply w_seq
  refine w_setTX (d := .tup [.int ni, .int no, .lst (leads.map eS1), .lst (cps.map eS1)]) (s' := [.fz (eR ns), .own o1, .un, .un, .un, .un, .un, .un, .un, .un, .un, .un, .un, .un, .un, .un, .un, .un, .un, .un, .un, .un, .un, .un]) (xfr_eq (callM (o := o0) rfl rfl ef)) rfl ?_
  clear es0 ef
  apply w_seq
  refine w_set (d := .lst []) rfl ?_
  apply w_seq
  refine w_set (d := .lst ((words S6 no).map eS)) ((cf_eq (args1 rfl)).trans (states_eq ho)) ?_
  have hleads : ∀ c ∈ leads, Inr ni c.1 ∧ Inr no c.2 := fun c hc => allL_in (hsL.subset hc)
  have hcps : ∀ c ∈ cps, Inr no c.1 ∧ Inr no c.2 := fun c hc => ⟨(allC_in (hsC.subset hc)).1, (allC_in (hsC.subset hc)).2.1⟩
  have nleads : leads.length ≤ 100 := by
    have h := hsL.length_le
    unfold allL at h
    rw [flat1_len, List.length_range] at h
    have : ni * no ≤ 3 * 3 := Nat.mul_le_mul hi ho
    omega
  apply w_seq
  refine w_for (xs := words S6 ni) (enc := eS) (fun pre s => ∃ x8, s = [.fz (eR ns), .own o1, .fz (.int ni), .fz (.int no), .fz (.lst (leads.map eS1)), .fz (.lst (cps.map eS1)), .fz (.lst ((cplD pre no (roomOk leads cps)).map eP)), .fz (.lst ((words S6 no).map eS)), x8, .un, .un, .un, .un, .un, .un, .un, .un, .un, .un, .un, .un, .un, .un, .un]) (items_eq ((cf_eq (args1 rfl)).trans (states_eq hi))) ⟨.un, rfl⟩ ?_ ?_
  · rintro pre dr s ⟨q, hq⟩ ⟨x8, rfl⟩
    have hd : dr ∈ words S6 ni := by rw [hq]; simp
    have hdl := (mem_words.mp hd).1
    have hpre : pre.length ≤ 216 := by
      have h := words3 hi
      rw [hq, List.length_append] at h
      omega
    refine ⟨_, rfl, ?_⟩
    unfold b_law_1
    refine w_set (d := .lst ((cplD (pre ++ [dr]) no (roomOk leads cps)).map eP)) ?_ ⟨.fz (eS dr), rfl⟩
    have e1 : (cplD (pre ++ [dr]) no (roomOk leads cps)).map eP = (cplD pre no (roomOk leads cps)).map eP ++ ((words S6 no).filter (roomOk leads cps dr)).map fun w => eP (dr, w) := by
      unfold cplD
      rw [List.flatMap_append, List.map_append]
      congr 1
      show ((((words S6 no).filter (roomOk leads cps dr)).map fun w => (dr, w)) ++ []).map eP = _
      rw [List.append_nil, List.map_map]
      rfl
    rw [e1]
    refine frL (cat_eq rfl (frL (lc_of (enc := eS) (xs := words S6 no) (q := roomOk leads cps dr) (g := fun w => eP (dr, w)) rfl ?_ fun w hw => ⟨_, rfl, ?_, fun _ => tup2 rfl rfl⟩)) ?_)
    · have := words3 ho
      have := line
      omega
    · have hwl := (mem_words.mp hw).1
      exact truthB ((cf_eq (args4 (a := .lst (leads.map eS1)) (b := .lst (cps.map eS1)) (c := eS dr) (d := eS w) rfl rfl rfl rfl)).trans (room_allows_eq (by rw [hdl, hwl]; exact hleads) (by rw [hwl]; exact hcps) nleads (by omega) (by omega)))
    · rw [List.length_map, List.length_map]
      have h1 := cplD_len (pre := pre) (q := roomOk leads cps) ho
      have h2 := List.length_filter_le (roomOk leads cps dr) (words S6 no)
      have h3 := words3 ho
      have := line
      omega
  rintro s ⟨x8, rfl⟩
  have edue : cplD (words S6 ni) no (roomOk leads cps) = couples ni no (roomOk leads cps) := rfl
  rw [edue]
  obtain ⟨ls, o2, em, hperm, hs2⟩ := mixed_eq hs1 (by omega) nleads
  have hpm : ∀ c, c ∈ ls ↔ c ∈ leads := fun c => hperm.mem_iff
  obtain ⟨lr, cl, ei, hR, hD⟩ := init_eq (leads := ls) (cps := cps) hi ho (fun c hc => hleads c ((hpm c).mp hc)) hcps
  have eroom : v_room_step [fO ni no (.lst (eN lr)) (.lst (eN cl))] = some (oL ((couples ni no (roomOk leads cps)).map eP)) := room_step_eq hi ho (leads_eq hi ho hsL hpm hR) (couples_eq ho hsC hpm hclo hD) hleads hcps nleads hclo
  obtain ⟨lr2, cl2, ei2, hR2, hD2⟩ := init_eq (leads := leads) (cps := cps) hi ho hleads hcps
  have eroom2 : v_room_step [fO ni no (.lst (eN lr2)) (.lst (eN cl2))] = some (oL ((couples ni no (roomOk leads cps)).map eP)) := room_step_eq hi ho (leads_eq hi ho hsL (fun _ => Iff.rfl) hR2) (couples_eq ho hsC (fun _ => Iff.rfl) hclo hD2) hleads hcps nleads hclo
  have sdue : Sml 4 (.lst ((couples ni no (roomOk leads cps)).map eP)) := sml_couples hi ho
  have ndue : (couples ni no (roomOk leads cps)).length ≤ 46656 := couples_len hi ho
  have hne : ∃ x rest, couples ni no (roomOk leads cps) = x :: rest := by
    cases e : couples ni no (roomOk leads cps) with
    | cons x r => exact ⟨x, r, rfl⟩
    | nil =>
      exfalso
      have h0 : List.replicate no (0 : Int) ∈ words L3 no := mem_words.mpr ⟨List.length_replicate, fun x hx => by rw [List.eq_of_mem_replicate hx]; decide⟩
      have h1 : List.replicate ni (0 : Int) ∈ words L2' ni := mem_words.mpr ⟨List.length_replicate, fun x hx => by rw [List.eq_of_mem_replicate hx]; decide⟩
      have hz : ∀ a, gi (List.replicate no (0 : Int)) a = 0 := fun a => by
        unfold gi
        rw [List.getD_eq_getElem?_getD, List.getElem?_replicate]
        split <;> rfl
      have h2 : agrees (List.replicate no (0 : Int)) cps = true := by
        unfold agrees
        rw [List.all_eq_true]
        intro c _
        rw [hz, hz]
        rfl
      have := (found_iff hclo (fun c h => (hleads c h).1) _).mp (mem_found.mpr ⟨_, _, h0, h2, h1, rfl⟩)
      rw [e] at this
      exact absurd this (by simp)
  have pdue := pln_couples (couples ni no (roomOk leads cps))
  generalize hdue : couples ni no (roomOk leads cps) = due at *
  apply w_seq
  refine w_setX (d := fO ni no (.lst (eN lr)) (.lst (eN cl))) (s' := [.fz (eR ns), .own o2, .fz (.int ni), .fz (.int no), .fz (.lst (leads.map eS1)), .fz (.lst (cps.map eS1)), .fz (.lst (due.map eP)), .fz (.lst ((words S6 no).map eS)), x8, .un, .un, .un, .un, .un, .un, .un, .un, .un, .un, .un, .un, .un, .un, .un]) ?_ ?_
  · have e := make_eq (g := v_Face___init__) (s := [.fz (eR ns), .own o1, .fz (.int ni), .fz (.int no), .fz (.lst (leads.map eS1)), .fz (.lst (cps.map eS1)), .fz (.lst (due.map eP)), .fz (.lst ((words S6 no).map eS)), x8, .un, .un, .un, .un, .un, .un, .un, .un, .un, .un, .un, .un, .un, .un, .un]) (xcons_eq (f := xOf (dVar 2)) rfl (xcons_eq (f := xOf (dVar 3)) rfl (xcons_eq (xfr_eq (callM (o := o1) (i := 1) rfl (args1 (f := dVar 4) rfl) em)) (xcons_eq (f := xOf (dFr (dCallO dList (dCons (dVar 5) dNil)))) (d := .lst (cps.map eS1)) (by
      unfold xOf
      rw [frL (l := cps.map eS1) ((co_eq (args1 (a := .lst (cps.map eS1)) rfl)).trans rfl)]
      rfl) xnil_eq)))) ei
    exact xfr_eq e
  apply w_seq
  refine w_setO (o := oL (due.map eP)) ((cfo_eq (args1 rfl)).trans eroom) ?_
  apply w_seq
  refine w_if (b := false) (not_b (a := true) (same_at (own_at rfl) rfl sdue (by omega))) ?_
  rw [if_neg (by decide)]
  apply w_nx
  obtain ⟨x0, rest0, hx0⟩ := hne
  apply w_seq
  refine w_app (d := eP x0) (l := due.map eP) ?_ rfl (by rw [List.length_map]; have := line; omega) ?_
  · refine own_ixL (k := 0) (l := due.map eP) rfl rfl ?_
    rw [hx0]
    rfl
  apply w_seq
  refine w_if (b := false) (not_b (a := true) (same_at (frL ((cfo_eq (args1 ((fr_eq (make0_eq (args4 (a := .int ni) (b := .int no) (c := .lst (leads.map eS1)) (d := .lst (cps.map eS1)) rfl rfl rfl rfl) ei2)).trans rfl))).trans eroom2)) rfl sdue (by omega))) ?_
  rw [if_neg (by decide)]
  apply w_nx
  obtain ⟨p0, esw, hw0⟩ := source_eq (k := 1) hl (by omega)
  apply w_seq
  refine w_setO (o := p0) ((cfo_eq (args2 (a := eR ns) (b := .int ((1 : Nat) : Int)) rfl rfl)).trans esw) ?_
  generalize hA : oL (due.map eP ++ [eP x0]) = ans
  obtain ⟨kk, p1, ek, k0, k1, hw1⟩ := pick_at (i := 11) (s := [.fz (eR ns), .own o2, .fz (.int ni), .fz (.int no), .fz (.lst (leads.map eS1)), .fz (.lst (cps.map eS1)), .fz (.lst (due.map eP)), .fz (.lst ((words S6 no).map eS)), x8, .fz (fO ni no (.lst (eN lr)) (.lst (eN cl))), .own ans, .own p0, .un, .un, .un, .un, .un, .un, .un, .un, .un, .un, .un, .un]) (fs := dCons (dC (.int 3)) dNil) (many := 3) hw0 (by omega) (by omega) (by decide +kernel) rfl rfl
  obtain ⟨k, rfl⟩ : ∃ k : Nat, kk = k := ⟨kk.toNat, by omega⟩
  have hk : k ≤ 2 := by omega
  apply w_seq
  refine w_setX ek ?_
  apply w_seq
  refine w_setO (o := oL []) rfl ?_
  obtain ⟨mm, p2, en, m0, m1, hw2⟩ := pick_at (i := 11) (s := [.fz (eR ns), .own o2, .fz (.int ni), .fz (.int no), .fz (.lst (leads.map eS1)), .fz (.lst (cps.map eS1)), .fz (.lst (due.map eP)), .fz (.lst ((words S6 no).map eS)), x8, .fz (fO ni no (.lst (eN lr)) (.lst (eN cl))), .own ans, .own p1, .fz (.int k), .own (oL []), .un, .un, .un, .un, .un, .un, .un, .un, .un, .un]) (fs := dCons (dC (.int 4)) dNil) (many := 4) hw1 (by omega) (by omega) (by decide +kernel) rfl rfl
  obtain ⟨m, rfl⟩ : ∃ m : Nat, mm = m := ⟨mm.toNat, by omega⟩
  apply w_seq
  refine w_forX (xs := List.range m) (enc := fun i : Nat => D.int i) (s' := [.fz (eR ns), .own o2, .fz (.int ni), .fz (.int no), .fz (.lst (leads.map eS1)), .fz (.lst (cps.map eS1)), .fz (.lst (due.map eP)), .fz (.lst ((words S6 no).map eS)), x8, .fz (fO ni no (.lst (eN lr)) (.lst (eN cl))), .own ans, .own p2, .fz (.int k), .own (oL []), .un, .un, .un, .un, .un, .un, .un, .un, .un, .un]) (fun pre s => ∃ p ps x14, s = [.fz (eR ns), .own o2, .fz (.int ni), .fz (.int no), .fz (.lst (leads.map eS1)), .fz (.lst (cps.map eS1)), .fz (.lst (due.map eP)), .fz (.lst ((words S6 no).map eS)), x8, .fz (fO ni no (.lst (eN lr)) (.lst (eN cl))), .own ans, .own p, .fz (.int k), .own (oL (ps.map (ePr false))), x14, .un, .un, .un, .un, .un, .un, .un, .un, .un] ∧ ps.length = pre.length ∧ (∀ q ∈ ps, PrOk k q) ∧ Src (20 + pre.length * 10) p) ?_ ⟨p2, [], .un, rfl, rfl, by simp, hw2.mono (by omega)⟩ ?_ ?_
  · exact xrange1_eq (xcons_eq en xnil_eq) (by omega)
  · rintro pre j s hq ⟨p, ps, x14, rfl, hpl, hpo, hsp⟩
    obtain ⟨rfl, hj⟩ := range_split hq
    refine ⟨_, rfl, ?_⟩
    unfold b_law_2
    obtain ⟨pr, p3, ep, hpr, hsp3⟩ := pair_at (k := k) (s := [.fz (eR ns), .own o2, .fz (.int ni), .fz (.int no), .fz (.lst (leads.map eS1)), .fz (.lst (cps.map eS1)), .fz (.lst (due.map eP)), .fz (.lst ((words S6 no).map eS)), x8, .fz (fO ni no (.lst (eN lr)) (.lst (eN cl))), .own ans, .own p, .fz (.int k), .own (oL (ps.map (ePr false))), .fz (.int pre.length), .un, .un, .un, .un, .un, .un, .un, .un, .un]) hsp (by omega) (by omega) rfl rfl
    refine w_appX (l0 := ps.map (ePr false)) (l := ps.map (ePr false)) ep rfl rfl (by rw [List.length_map]; have := line; omega) ⟨p3, ps ++ [pr], .fz (.int pre.length), ?_, ?_, ?_, ?_⟩
    · rw [List.map_append]
      rfl
    · rw [List.length_append, List.length_append, hpl]
      rfl
    · intro q hq
      rcases List.mem_append.mp hq with h | h
      · exact hpo q h
      · have : q = pr := by simpa using h
        rw [this]
        exact hpr
    · rw [List.length_append]
      refine hsp3.mono ?_
      show 20 + pre.length * 10 + 3 * k ≤ 20 + (pre.length + 1) * 10
      omega
  rintro s ⟨p, ps, x14, rfl, hpl, hpo, hsp⟩
  rw [List.length_range] at hpl
  have hps : ps.length ≤ 3 := by omega
  apply w_seq
  refine w_setO (o := oL []) rfl ?_
  apply w_seq
  refine w_set (d := .lst ((words S6 k).map eS)) ((cf_eq (args1 rfl)).trans (states_eq (by omega))) ?_
  have hwk : (words S6 k).length ≤ 36 := by
    rw [words_len]
    exact Nat.le_trans (Nat.pow_le_pow_right (by decide) hk) (by decide)
  apply w_seq
  refine w_for (xs := words S6 k) (enc := eS) (fun pre s => ∃ x16 x17, s = [.fz (eR ns), .own o2, .fz (.int ni), .fz (.int no), .fz (.lst (leads.map eS1)), .fz (.lst (cps.map eS1)), .fz (.lst (due.map eP)), .fz (.lst ((words S6 k).map eS)), x8, .fz (fO ni no (.lst (eN lr)) (.lst (eN cl))), .own ans, .own p, .fz (.int k), .own (oL (ps.map (ePr false))), x14, .own (oL ((cplD pre k (anyW ps)).map eP)), x16, x17, .un, .un, .un, .un, .un, .un]) rfl ⟨.un, .un, rfl⟩ ?_ ?_
  · rintro pre bf s ⟨q, hq⟩ ⟨x16, x17, rfl⟩
    have hbf : bf ∈ words S6 k := by rw [hq]; simp
    have hbl := (mem_words.mp hbf).1
    have hpre : pre.length ≤ 36 := by
      rw [hq, List.length_append] at hwk
      omega
    refine ⟨_, rfl, ?_⟩
    unfold b_law_4
    refine w_for (xs := words S6 k) (enc := eS) (fun p2 s => ∃ x17, s = [.fz (eR ns), .own o2, .fz (.int ni), .fz (.int no), .fz (.lst (leads.map eS1)), .fz (.lst (cps.map eS1)), .fz (.lst (due.map eP)), .fz (.lst ((words S6 k).map eS)), x8, .fz (fO ni no (.lst (eN lr)) (.lst (eN cl))), .own ans, .own p, .fz (.int k), .own (oL (ps.map (ePr false))), x14, .own (oL ((cplD pre k (anyW ps) ++ (p2.filter (anyW ps bf)).map fun w => (bf, w)).map eP)), .fz (eS bf), x17, .un, .un, .un, .un, .un, .un]) rfl ⟨x17, by simp⟩ ?_ ?_
    · rintro p2 bh s ⟨q2, hq2⟩ ⟨x17, rfl⟩
      have hbh : bh ∈ words S6 k := by rw [hq2]; simp
      have hbhl := (mem_words.mp hbh).1
      have hp2 : p2.length ≤ 36 := by
        rw [hq2, List.length_append] at hwk
        omega
      refine ⟨_, rfl, ?_⟩
      unfold b_law_3
      refine w_if (b := anyW ps bf bh) (truthB ((cb_eq (args1 (frL (lc_map (enc := ePr false) (xs := ps) (g := fun q => D.bl (allowsW q bf bh)) (items_own rfl) (by have := line; omega) fun q hq => ⟨_, rfl, ?_⟩)))).trans (any_bools _ _))) ?_
      · exact (cf_eq (args3 (a := ePr false q) (b := eS bf) (c := eS bh) rfl rfl rfl)).trans (wire_allows_eq (by rw [hbl, hbhl]) (by omega))
      have h1 := cplD_len (pre := pre) (o := k) (q := anyW ps) (by omega)
      have h2 := List.length_filter_le (anyW ps bf) p2
      cases hany : anyW ps bf bh with
      | true =>
        rw [if_pos rfl]
        refine w_app (d := eP (bf, bh)) (l := (cplD pre k (anyW ps) ++ (p2.filter (anyW ps bf)).map fun w => (bf, w)).map eP) (tup2 rfl rfl) rfl ?_ ⟨.fz (eS bh), ?_⟩
        · rw [List.length_map, List.length_append, List.length_map]
          have := line
          omega
        · rw [List.filter_append, List.filter_cons_of_pos (p := anyW ps bf) (a := bh) (l := []) hany, List.map_append (l₁ := p2.filter _), ← List.append_assoc, List.map_append (l₁ := cplD pre k (anyW ps) ++ _)]
          rfl
      | false =>
        rw [if_neg (by decide)]
        refine w_nx ⟨.fz (eS bh), ?_⟩
        rw [List.filter_append, List.filter_cons_of_neg (p := anyW ps bf) (a := bh) (l := []) (by rw [hany]; decide)]
        simp
    · rintro s ⟨x17, rfl⟩
      refine ⟨.fz (eS bf), x17, ?_⟩
      have e : cplD (pre ++ [bf]) k (anyW ps) = cplD pre k (anyW ps) ++ ((words S6 k).filter (anyW ps bf)).map fun w => (bf, w) := by
        unfold cplD
        rw [List.flatMap_append]
        simp
      rw [e]
  rintro s ⟨x16, x17, rfl⟩
  have etold : cplD (words S6 k) k (anyW ps) = couples k k (anyW ps) := rfl
  rw [etold]
  have spairs : Sml 4 (.lst (ps.map (ePr false))) := ⟨by rw [List.length_map]; omega, fun d hd => by
    obtain ⟨q, hq, rfl⟩ := List.mem_map.mp hd
    exact sml_Pr (hpo q hq) (by omega)⟩
  have ewire : v_wire_step [.int k, .lst (ps.map (ePr false))] = some (oL ((couples k k (anyW ps)).map eP)) := wire_step_eq hk (by omega)
  have stold : Sml 4 (.lst ((couples k k (anyW ps)).map eP)) := sml_couples (by omega) (by omega)
  have ntold : (couples k k (anyW ps)).length ≤ 46656 := couples_len (by omega) (by omega)
  obtain ⟨mc, hmc, ecut⟩ := cut1 (ePr true) ps
  have ewire2 : v_wire_step [.int k, .lst ((ps ++ ps.take mc).map (ePr true))] = some (oL ((couples k k (anyW ps)).map eP)) := by
    have e := wire_step_eq (t := true) (ps := ps ++ ps.take mc) hk (by rw [List.length_append, List.length_take]; omega)
    have ea : anyW (ps ++ ps.take mc) = anyW ps := by
      funext a b
      unfold anyW
      rw [List.any_append]
      cases h : (ps.take mc).any fun p => allowsW p a b with
      | false => rw [Bool.or_false]
      | true =>
        rw [List.any_eq_true] at h
        obtain ⟨q, hq, h2⟩ := h
        have : (ps.any fun p => allowsW p a b) = true := List.any_eq_true.mpr ⟨q, List.mem_of_mem_take hq, h2⟩
        rw [this]
        rfl
    rw [ea] at e
    exact e
  generalize couples k k (anyW ps) = told at *
  apply w_seq
  refine w_set (d := .lst (ps.map (ePr false))) ((cf_eq (args1 (own_at rfl))).trans (copied_eq spairs (by omega))) ?_
  apply w_seq
  refine w_setO (o := oL (told.map eP)) ((cfo_eq (args2 (a := .int k) (b := .lst (ps.map (ePr false))) rfl rfl)).trans ewire) ?_
  apply w_seq
  refine w_if (b := false) (or_b (a := false) (b := false) (not_b (a := true) (same_at (own_at rfl) (own_at rfl) stold (by omega))) (not_b (a := true) (same_at rfl (own_at rfl) spairs (by omega)))) ?_
  rw [if_neg (by decide)]
  apply w_nx
  apply w_seq
  refine w_app (d := .non) (l := told.map eP) rfl rfl (by rw [List.length_map]; have := line; omega) ?_
  apply w_seq
  refine w_set (d := .lst (ps.map (ePr true))) (frL (lc_map (enc := ePr false) (xs := ps) (g := ePr true) (items_own rfl) (by have := line; omega) fun q hq => ⟨_, rfl, ?_⟩)) ?_
  · exact tup2 (f := dCallB dTuple (dCons (dVar 22) dNil)) rfl (tup2 (f := dCallB dTuple (dCons (dOp dIx (dVar 23) (dC (.int 0))) dNil)) (f2 := dCallB dTuple (dCons (dOp dIx (dVar 23) (dC (.int 1))) dNil)) rfl rfl)
  refine w_ret (d := .bl true) ?_ rfl
  have eb : ∀ (f : List SV → Option Bool) (s : List SV) (b : Bool), f s = some b → dBool f s = some (.bl b) := fun f s b h => by
    unfold dBool
    rw [h]
    rfl
  have tb : ∀ (f : List SV → Option D) (s : List SV), dTruth f s = some true → f s = some (.bl true) → dTest f s = some true := fun f s _ h => test_b h
  refine eb _ _ true (and_b (a := true) (b := true) (test_b ?_) (test_b ?_))
  · refine (cf_eq (args2 (frL ((cfo_eq (args2 (a := .int k) (b := .lst ((ps ++ ps.take mc).map (ePr true))) rfl ?_)).trans ewire2)) (own_at rfl))).trans (same_eq stold (by omega))
    have ecat := cat_eq (f := dVar 19) (g := dFr (dSlL (dVar 19) dNoPart (dPart (dC (.int 1))))) (s := [.fz (eR ns), .own o2, .fz (.int ni), .fz (.int no), .fz (.lst (leads.map eS1)), .fz (.lst (cps.map eS1)), .fz (.lst (due.map eP)), .fz (.lst ((words S6 k).map eS)), x8, .fz (fO ni no (.lst (eN lr)) (.lst (eN cl))), .own (oL (told.map eP ++ [.non])), .own p, .fz (.int k), .own (oL (ps.map (ePr false))), x14, .own (oL (told.map eP)), x16, x17, .fz (.lst (ps.map (ePr false))), .fz (.lst (ps.map (ePr true))), .un, .un, .un, .un]) (xs := ps.map (ePr true)) (ys := (ps.take mc).map (ePr true)) rfl (frL (by
      show some (oL (cutD (ps.map (ePr true)) none (some 1))) = _
      rw [ecut])) (by rw [List.length_map, List.length_map, List.length_take]; have := line; omega)
    rw [← List.map_append] at ecat
    exact frL ecat
  · exact (op2 (frL ((cfo_eq (args1 rfl)).trans eroom)) rfl).trans (eq_self pdue (by omega))
end K37


namespace K37
open PySem PyProof.Rows L2 My
theorem all_mk {l : PySem.W.OpenLaw} {w : PySem.World} {K : PySem.W.Frag} {h : Heap} {mg : Str → Option Value} {fa C f0 f1 f2 f3 f4 f5 f6 f7 f8 f9 f10 f11 f12 f13 f14 f15 f16 f17 f18 f19 f20 f21 f22 : Addr} (X : K.In h) (G : h.Ns mainGlobals mg) (hfa : mg "law" = some (.ref fa))
    {od0 an0 od1 an1 od2 an2 od3 an3 od4 an4 od5 an5 od6 an6 od7 an7 od8 an8 od9 an9 od10 an10 od11 an11 od12 an12 od13 an13 od14 an14 od15 an15 od16 an16 od17 an17 od18 an18 od19 an19 od20 an20 od21 an21 od22 an22 : Option Addr} {sl0 sl1 sl2 sl3 sl4 sl5 sl6 sl7 sl8 sl9 sl10 sl11 sl12 sl13 sl14 sl15 sl16 sl17 sl18 sl19 sl20 sl21 sl22 : Array (Option Value)}
    {oc0 kV0 dc0 pm0 cd0 ct0 oc1 kV1 dc1 pm1 cd1 ct1 oc2 kV2 dc2 pm2 cd2 ct2 oc3 kV3 dc3 pm3 cd3 ct3 oc4 kV4 dc4 pm4 cd4 ct4 oc5 kV5 dc5 pm5 cd5 ct5 oc6 kV6 dc6 pm6 cd6 ct6 oc7 kV7 dc7 pm7 cd7 ct7 oc8 kV8 dc8 pm8 cd8 ct8 oc9 kV9 dc9 pm9 cd9 ct9 oc10 kV10 dc10 pm10 cd10 ct10 oc11 kV11 dc11 pm11 cd11 ct11 oc12 kV12 dc12 pm12 cd12 ct12 oc13 kV13 dc13 pm13 cd13 ct13 oc14 kV14 dc14 pm14 cd14 ct14 oc15 kV15 dc15 pm15 cd15 ct15 oc16 kV16 dc16 pm16 cd16 ct16 oc17 kV17 dc17 pm17 cd17 ct17 oc18 kV18 dc18 pm18 cd18 ct18 oc19 kV19 dc19 pm19 cd19 ct19 oc20 kV20 dc20 pm20 cd20 ct20 oc21 kV21 dc21 pm21 cd21 ct21 oc22 kV22 dc22 pm22 cd22 ct22 : Value}
    (a0 : PySem.W.nsIn K mainGlobals "label_lists" = some (some (.ref f0)))
    (l0 : K.lookup f0 = some ⟨oc0, od0, .func (PySem.W.fnOf "label_lists" "label_lists" (defArgs s_label_lists) (defBody s_label_lists) (defScope s_label_lists) .none kV0 dc0 pm0 an0 cd0 ct0), sl0⟩) (c0 : PySem.W.codeIn K cd0 "label_lists" = true) (k0 : PySem.W.keepIn K (.ref f0) = true)
    (a1 : PySem.W.nsIn K mainGlobals "bit_lists" = some (some (.ref f1)))
    (l1 : K.lookup f1 = some ⟨oc1, od1, .func (PySem.W.fnOf "bit_lists" "bit_lists" (defArgs s_bit_lists) (defBody s_bit_lists) (defScope s_bit_lists) .none kV1 dc1 pm1 an1 cd1 ct1), sl1⟩) (c1 : PySem.W.codeIn K cd1 "bit_lists" = true) (k1 : PySem.W.keepIn K (.ref f1) = true)
    (a2 : PySem.W.nsIn K mainGlobals "state_of" = some (some (.ref f2)))
    (l2 : K.lookup f2 = some ⟨oc2, od2, .func (PySem.W.fnOf "state_of" "state_of" (defArgs s_state_of) (defBody s_state_of) (defScope s_state_of) .none kV2 dc2 pm2 an2 cd2 ct2), sl2⟩) (c2 : PySem.W.codeIn K cd2 "state_of" = true) (k2 : PySem.W.keepIn K (.ref f2) = true)
    (a3 : PySem.W.nsIn K mainGlobals "agree_in" = some (some (.ref f3)))
    (l3 : K.lookup f3 = some ⟨oc3, od3, .func (PySem.W.fnOf "agree_in" "agree_in" (defArgs s_agree_in) (defBody s_agree_in) (defScope s_agree_in) .none kV3 dc3 pm3 an3 cd3 ct3), sl3⟩) (c3 : PySem.W.codeIn K cd3 "agree_in" = true) (k3 : PySem.W.keepIn K (.ref f3) = true)
    (a4 : PySem.W.nsIn K mainGlobals "members_of" = some (some (.ref f4)))
    (l4 : K.lookup f4 = some ⟨oc4, od4, .func (PySem.W.fnOf "members_of" "members_of" (defArgs s_members_of) (defBody s_members_of) (defScope s_members_of) .none kV4 dc4 pm4 an4 cd4 ct4), sl4⟩) (c4 : PySem.W.codeIn K cd4 "members_of" = true) (k4 : PySem.W.keepIn K (.ref f4) = true)
    (a5 : PySem.W.findIn K (.ref C) "leads" = some (some (.ref f5))) (i5 : PySem.W.isFn K (.ref f5) = true)
    (l5 : K.lookup f5 = some ⟨oc5, od5, .func (PySem.W.fnOf "leads" "Face.leads" (defArgs s_Face_leads) (defBody s_Face_leads) (defScope s_Face_leads) .none kV5 dc5 pm5 an5 cd5 ct5), sl5⟩) (c5 : PySem.W.codeIn K cd5 "Face.leads" = true) (k5 : PySem.W.keepIn K (.ref f5) = true)
    (a6 : PySem.W.findIn K (.ref C) "couples" = some (some (.ref f6))) (i6 : PySem.W.isFn K (.ref f6) = true)
    (l6 : K.lookup f6 = some ⟨oc6, od6, .func (PySem.W.fnOf "couples" "Face.couples" (defArgs s_Face_couples) (defBody s_Face_couples) (defScope s_Face_couples) .none kV6 dc6 pm6 an6 cd6 ct6), sl6⟩) (c6 : PySem.W.codeIn K cd6 "Face.couples" = true) (k6 : PySem.W.keepIn K (.ref f6) = true)
    (a7 : PySem.W.nsIn K mainGlobals "room_step" = some (some (.ref f7)))
    (l7 : K.lookup f7 = some ⟨oc7, od7, .func (PySem.W.fnOf "room_step" "room_step" (defArgs s_room_step) (defBody s_room_step) (defScope s_room_step) .none kV7 dc7 pm7 an7 cd7 ct7), sl7⟩) (c7 : PySem.W.codeIn K cd7 "room_step" = true) (k7 : PySem.W.keepIn K (.ref f7) = true)
    (a8 : PySem.W.nsIn K mainGlobals "doors_behind" = some (some (.ref f8)))
    (l8 : K.lookup f8 = some ⟨oc8, od8, .func (PySem.W.fnOf "doors_behind" "doors_behind" (defArgs s_doors_behind) (defBody s_doors_behind) (defScope s_doors_behind) .none kV8 dc8 pm8 an8 cd8 ct8), sl8⟩) (c8 : PySem.W.codeIn K cd8 "doors_behind" = true) (k8 : PySem.W.keepIn K (.ref f8) = true)
    (a9 : PySem.W.nsIn K mainGlobals "wire_step" = some (some (.ref f9)))
    (l9 : K.lookup f9 = some ⟨oc9, od9, .func (PySem.W.fnOf "wire_step" "wire_step" (defArgs s_wire_step) (defBody s_wire_step) (defScope s_wire_step) .none kV9 dc9 pm9 an9 cd9 ct9), sl9⟩) (c9 : PySem.W.codeIn K cd9 "wire_step" = true) (k9 : PySem.W.keepIn K (.ref f9) = true)
    (a10 : PySem.W.nsIn K mainGlobals "closed_rows" = some (some (.ref f10)))
    (l10 : K.lookup f10 = some ⟨oc10, od10, .func (PySem.W.fnOf "closed_rows" "closed_rows" (defArgs s_closed_rows) (defBody s_closed_rows) (defScope s_closed_rows) .none kV10 dc10 pm10 an10 cd10 ct10), sl10⟩) (c10 : PySem.W.codeIn K cd10 "closed_rows" = true) (k10 : PySem.W.keepIn K (.ref f10) = true)
    (a11 : PySem.W.findIn K (.ref C) "__init__" = some (some (.ref f11))) (i11 : PySem.W.isFn K (.ref f11) = true)
    (l11 : K.lookup f11 = some ⟨oc11, od11, .func (PySem.W.fnOf "__init__" "Face.__init__" (defArgs s_Face___init__) (defBody s_Face___init__) (defScope s_Face___init__) .none kV11 dc11 pm11 an11 cd11 ct11), sl11⟩) (c11 : PySem.W.codeIn K cd11 "Face.__init__" = true) (k11 : PySem.W.keepIn K (.ref f11) = true)
    (a12 : PySem.W.nsIn K mainGlobals "_law_pick" = some (some (.ref f12)))
    (l12 : K.lookup f12 = some ⟨oc12, od12, .func (PySem.W.fnOf "_law_pick" "_law_pick" (defArgs s__law_pick) (defBody s__law_pick) (defScope s__law_pick) .none kV12 dc12 pm12 an12 cd12 ct12), sl12⟩) (c12 : PySem.W.codeIn K cd12 "_law_pick" = true) (k12 : PySem.W.keepIn K (.ref f12) = true)
    (a13 : PySem.W.nsIn K mainGlobals "_law_e_mixed" = some (some (.ref f13)))
    (l13 : K.lookup f13 = some ⟨oc13, od13, .func (PySem.W.fnOf "_law_e_mixed" "_law_e_mixed" (defArgs s__law_e_mixed) (defBody s__law_e_mixed) (defScope s__law_e_mixed) .none kV13 dc13 pm13 an13 cd13 ct13), sl13⟩) (c13 : PySem.W.codeIn K cd13 "_law_e_mixed" = true) (k13 : PySem.W.keepIn K (.ref f13) = true)
    (a14 : PySem.W.nsIn K mainGlobals "_law_e_states" = some (some (.ref f14)))
    (l14 : K.lookup f14 = some ⟨oc14, od14, .func (PySem.W.fnOf "_law_e_states" "_law_e_states" (defArgs s__law_e_states) (defBody s__law_e_states) (defScope s__law_e_states) .none kV14 dc14 pm14 an14 cd14 ct14), sl14⟩) (c14 : PySem.W.codeIn K cd14 "_law_e_states" = true) (k14 : PySem.W.keepIn K (.ref f14) = true)
    (a15 : PySem.W.nsIn K mainGlobals "_law_e_room_allows" = some (some (.ref f15)))
    (l15 : K.lookup f15 = some ⟨oc15, od15, .func (PySem.W.fnOf "_law_e_room_allows" "_law_e_room_allows" (defArgs s__law_e_room_allows) (defBody s__law_e_room_allows) (defScope s__law_e_room_allows) .none kV15 dc15 pm15 an15 cd15 ct15), sl15⟩) (c15 : PySem.W.codeIn K cd15 "_law_e_room_allows" = true) (k15 : PySem.W.keepIn K (.ref f15) = true)
    (a16 : PySem.W.nsIn K mainGlobals "_law_e_wire_allows" = some (some (.ref f16)))
    (l16 : K.lookup f16 = some ⟨oc16, od16, .func (PySem.W.fnOf "_law_e_wire_allows" "_law_e_wire_allows" (defArgs s__law_e_wire_allows) (defBody s__law_e_wire_allows) (defScope s__law_e_wire_allows) .none kV16 dc16 pm16 an16 cd16 ct16), sl16⟩) (c16 : PySem.W.codeIn K cd16 "_law_e_wire_allows" = true) (k16 : PySem.W.keepIn K (.ref f16) = true)
    (a17 : PySem.W.nsIn K mainGlobals "_law_same" = some (some (.ref f17)))
    (l17 : K.lookup f17 = some ⟨oc17, od17, .func (PySem.W.fnOf "_law_same" "_law_same" (defArgs s__law_same) (defBody s__law_same) (defScope s__law_same) .none kV17 dc17 pm17 an17 cd17 ct17), sl17⟩) (c17 : PySem.W.codeIn K cd17 "_law_same" = true) (k17 : PySem.W.keepIn K (.ref f17) = true)
    (a18 : PySem.W.nsIn K mainGlobals "_law_source" = some (some (.ref f18)))
    (l18 : K.lookup f18 = some ⟨oc18, od18, .func (PySem.W.fnOf "_law_source" "_law_source" (defArgs s__law_source) (defBody s__law_source) (defScope s__law_source) .none kV18 dc18 pm18 an18 cd18 ct18), sl18⟩) (c18 : PySem.W.codeIn K cd18 "_law_source" = true) (k18 : PySem.W.keepIn K (.ref f18) = true)
    (a19 : PySem.W.nsIn K mainGlobals "_law_copied" = some (some (.ref f19)))
    (l19 : K.lookup f19 = some ⟨oc19, od19, .func (PySem.W.fnOf "_law_copied" "_law_copied" (defArgs s__law_copied) (defBody s__law_copied) (defScope s__law_copied) .none kV19 dc19 pm19 an19 cd19 ct19), sl19⟩) (c19 : PySem.W.codeIn K cd19 "_law_copied" = true) (k19 : PySem.W.keepIn K (.ref f19) = true)
    (a20 : PySem.W.nsIn K mainGlobals "_law_drawn_face" = some (some (.ref f20)))
    (l20 : K.lookup f20 = some ⟨oc20, od20, .func (PySem.W.fnOf "_law_drawn_face" "_law_drawn_face" (defArgs s__law_drawn_face) (defBody s__law_drawn_face) (defScope s__law_drawn_face) .none kV20 dc20 pm20 an20 cd20 ct20), sl20⟩) (c20 : PySem.W.codeIn K cd20 "_law_drawn_face" = true) (k20 : PySem.W.keepIn K (.ref f20) = true)
    (a21 : PySem.W.nsIn K mainGlobals "_law_numbers_to" = some (some (.ref f21)))
    (l21 : K.lookup f21 = some ⟨oc21, od21, .func (PySem.W.fnOf "_law_numbers_to" "_law_numbers_to" (defArgs s__law_numbers_to) (defBody s__law_numbers_to) (defScope s__law_numbers_to) .none kV21 dc21 pm21 an21 cd21 ct21), sl21⟩) (c21 : PySem.W.codeIn K cd21 "_law_numbers_to" = true) (k21 : PySem.W.keepIn K (.ref f21) = true)
    (a22 : PySem.W.nsIn K mainGlobals "law" = some (some (.ref f22)))
    (l22 : K.lookup f22 = some ⟨oc22, od22, .func (PySem.W.fnOf "law" "law" (defArgs s_law) (defBody s_law) (defScope s_law) .none kV22 dc22 pm22 an22 cd22 ct22), sl22⟩) (c22 : PySem.W.codeIn K cd22 "law" = true) (k22 : PySem.W.keepIn K (.ref f22) = true)
    (aC : PySem.W.nsIn K mainGlobals "Face" = some (some (.ref C))) (pg : PySem.W.plainGet K C Str.empty = true) (hd : PySem.W.hasDictIn K C = true) (po : PySem.W.plainOver K C = true) (sa : PySem.W.findIn K (.ref C) "__setattr__" = some (some (.builtin "object.__setattr__"))) (mk : PySem.W.makesIn K C = true) (kc : PySem.W.keepIn K (.ref C) = true)
    (n0 : PySem.W.findIn K (.ref C) "ins" = some none)
    (n1 : PySem.W.findIn K (.ref C) "outs" = some none)
    (n2 : PySem.W.findIn K (.ref C) "lead_list" = some none)
    (n3 : PySem.W.findIn K (.ref C) "couple_list" = some none)
    (z0 : PySem.W.nsIn K mainGlobals "len" = some none) (z1 : PySem.W.nsIn K mainGlobals "range" = some none) (z2 : PySem.W.nsIn K mainGlobals "int" = some none) (z3 : PySem.W.nsIn K mainGlobals "abs" = some none) (z4 : PySem.W.nsIn K mainGlobals "sum" = some none) (z5 : PySem.W.nsIn K mainGlobals "list" = some none) (z6 : PySem.W.nsIn K mainGlobals "tuple" = some none) (z7 : PySem.W.nsIn K mainGlobals "isinstance" = some none) (z8 : PySem.W.nsIn K mainGlobals "bool" = some none) (z9 : PySem.W.nsIn K mainGlobals "sorted" = some none) (z10 : PySem.W.nsIn K mainGlobals "enumerate" = some none) (z11 : PySem.W.nsIn K mainGlobals "max" = some none) (z12 : PySem.W.nsIn K mainGlobals "min" = some none) (z13 : PySem.W.nsIn K mainGlobals "any" = some none) (z14 : PySem.W.nsIn K mainGlobals "all" = some none) (z15 : PySem.W.nsIn K mainGlobals "dict" = some none) (z16 : PySem.W.nsIn K mainGlobals "str" = some none) :
    ∃ fd : FuncData, (∀ (s : Shared) (v : Value), BindsTo s fd ⟨[v], []⟩ [("script", v)]) ∧ ∀ base : Heap, K.In base → base.Ns mainGlobals mg → FnOk l.prog w K mg base CX0 14 fa fd ["script"] (My.spI K v_law) := by
  have e := hfa.symm.trans (PySem.W.mg_of X G a22)
  cases e
  have g : Glob mg := ⟨PySem.W.mg_none_of X G z0, PySem.W.mg_none_of X G z1, PySem.W.mg_none_of X G z2, PySem.W.mg_none_of X G z3, PySem.W.mg_none_of X G z4, PySem.W.mg_none_of X G z5, PySem.W.mg_none_of X G z6, PySem.W.mg_none_of X G z7, PySem.W.mg_none_of X G z8, PySem.W.mg_none_of X G z9, PySem.W.mg_none_of X G z10, PySem.W.mg_none_of X G z11, PySem.W.mg_none_of X G z12, PySem.W.mg_none_of X G z13, PySem.W.mg_none_of X G z14, PySem.W.mg_none_of X G z15, PySem.W.mg_none_of X G z16⟩
  have z : ClsF K C := ⟨⟨pg, hd, po, sa⟩, n0, n1, n2, n3⟩
  have F0 := fun_mk (st := s_label_lists) l0 c0 k0
  have b0 := F0.binds (ps := ["many"]) fun _ _ _ _ _ _ us hl => match us, hl with | [_], _ => rfl
  have F1 := fun_mk (st := s_bit_lists) l1 c1 k1
  have b1 := F1.binds (ps := ["many"]) fun _ _ _ _ _ _ us hl => match us, hl with | [_], _ => rfl
  have F2 := fun_mk (st := s_state_of) l2 c2 k2
  have b2 := F2.binds (ps := ["labels", "bits"]) fun _ _ _ _ _ _ us hl => match us, hl with | [_, _], _ => rfl
  have F3 := fun_mk (st := s_agree_in) l3 c3 k3
  have b3 := F3.binds (ps := ["labels", "couples"]) fun _ _ _ _ _ _ us hl => match us, hl with | [_, _], _ => rfl
  have F4 := fun_mk (st := s_members_of) l4 c4 k4
  have b4 := F4.binds (ps := ["bits"]) fun _ _ _ _ _ _ us hl => match us, hl with | [_], _ => rfl
  have F5 := fun_mk (st := s_Face_leads) l5 c5 k5
  have b5 := F5.binds (ps := ["self"]) fun _ _ _ _ _ _ us hl => match us, hl with | [_], _ => rfl
  have F6 := fun_mk (st := s_Face_couples) l6 c6 k6
  have b6 := F6.binds (ps := ["self"]) fun _ _ _ _ _ _ us hl => match us, hl with | [_], _ => rfl
  have F7 := fun_mk (st := s_room_step) l7 c7 k7
  have b7 := F7.binds (ps := ["face"]) fun _ _ _ _ _ _ us hl => match us, hl with | [_], _ => rfl
  have F8 := fun_mk (st := s_doors_behind) l8 c8 k8
  have b8 := F8.binds (ps := ["outs", "pair"]) fun _ _ _ _ _ _ us hl => match us, hl with | [_, _], _ => rfl
  have F9 := fun_mk (st := s_wire_step) l9 c9 k9
  have b9 := F9.binds (ps := ["k", "pairs"]) fun _ _ _ _ _ _ us hl => match us, hl with | [_, _], _ => rfl
  have F10 := fun_mk (st := s_closed_rows) l10 c10 k10
  have b10 := F10.binds (ps := ["lead_rows", "couple_rows"]) fun _ _ _ _ _ _ us hl => match us, hl with | [_, _], _ => rfl
  have F11 := fun_mk (st := s_Face___init__) l11 c11 k11
  have b11 := F11.binds (ps := ["self", "ins", "outs", "leads", "couples"]) fun _ _ _ _ _ _ us hl => match us, hl with | [_, _, _, _, _], _ => rfl
  have F12 := fun_mk (st := s__law_pick) l12 c12 k12
  have b12 := F12.binds (ps := ["source", "many"]) fun _ _ _ _ _ _ us hl => match us, hl with | [_, _], _ => rfl
  have F13 := fun_mk (st := s__law_e_mixed) l13 c13 k13
  have b13 := F13.binds (ps := ["stock", "things"]) fun _ _ _ _ _ _ us hl => match us, hl with | [_, _], _ => rfl
  have F14 := fun_mk (st := s__law_e_states) l14 c14 k14
  have b14 := F14.binds (ps := ["k"]) fun _ _ _ _ _ _ us hl => match us, hl with | [_], _ => rfl
  have F15 := fun_mk (st := s__law_e_room_allows) l15 c15 k15
  have b15 := F15.binds (ps := ["leads", "couples", "doors", "outs"]) fun _ _ _ _ _ _ us hl => match us, hl with | [_, _, _, _], _ => rfl
  have F16 := fun_mk (st := s__law_e_wire_allows) l16 c16 k16
  have b16 := F16.binds (ps := ["pair", "outs", "doors"]) fun _ _ _ _ _ _ us hl => match us, hl with | [_, _, _], _ => rfl
  have F17 := fun_mk (st := s__law_same) l17 c17 k17
  have b17 := F17.binds (ps := ["answer", "due"]) fun _ _ _ _ _ _ us hl => match us, hl with | [_, _], _ => rfl
  have F18 := fun_mk (st := s__law_source) l18 c18 k18
  have b18 := F18.binds (ps := ["script", "at"]) fun _ _ _ _ _ _ us hl => match us, hl with | [_, _], _ => rfl
  have F19 := fun_mk (st := s__law_copied) l19 c19 k19
  have b19 := F19.binds (ps := ["thing"]) fun _ _ _ _ _ _ us hl => match us, hl with | [_], _ => rfl
  have F20 := fun_mk (st := s__law_drawn_face) l20 c20 k20
  have b20 := F20.binds (ps := ["stock"]) fun _ _ _ _ _ _ us hl => match us, hl with | [_], _ => rfl
  have F21 := fun_mk (st := s__law_numbers_to) l21 c21 k21
  have b21 := F21.binds (ps := ["stock", "k"]) fun _ _ _ _ _ _ us hl => match us, hl with | [_, _], _ => rfl
  have F22 := fun_mk (st := s_law) l22 c22 k22
  have b22 := F22.binds (ps := ["script"]) fun _ _ _ _ _ _ us hl => match us, hl with | [_], _ => rfl
  refine ⟨PySem.W.fnOf "law" "law" (defArgs s_law) (defBody s_law) (defScope s_law) .none kV22 dc22 pm22 an22 cd22 ct22, fun s v => .of_eq rfl, fun base _ _ => ?_⟩
  have c_label_lists : CalP l.prog w K mg base 1 "label_lists" ["many"] (spP ⟨K, fun _ => C, w⟩ [.p] v_label_lists) := ⟨f0, _, ok_label_lists (cls := fun _ => C) F0 g z , PySem.W.mg_of X G a0, k0, b0⟩
  have c_bit_lists : CalP l.prog w K mg base 1 "bit_lists" ["many"] (spP ⟨K, fun _ => C, w⟩ [.p] v_bit_lists) := ⟨f1, _, ok_bit_lists (cls := fun _ => C) F1 g z , PySem.W.mg_of X G a1, k1, b1⟩
  have c_state_of : CalP l.prog w K mg base 1 "state_of" ["labels", "bits"] (spP ⟨K, fun _ => C, w⟩ [.p, .p] v_state_of) := ⟨f2, _, ok_state_of (cls := fun _ => C) F2 g z , PySem.W.mg_of X G a2, k2, b2⟩
  have c_agree_in : CalP l.prog w K mg base 1 "agree_in" ["labels", "couples"] (spP ⟨K, fun _ => C, w⟩ [.p, .p] v_agree_in) := ⟨f3, _, ok_agree_in (cls := fun _ => C) F3 g z , PySem.W.mg_of X G a3, k3, b3⟩
  have c_members_of : CalP l.prog w K mg base 1 "members_of" ["bits"] (spP ⟨K, fun _ => C, w⟩ [.b] v_members_of) := ⟨f4, _, ok_members_of (cls := fun _ => C) F4 g z , PySem.W.mg_of X G a4, k4, b4⟩
  have c_Face_leads : MetP l.prog w K mg base 2 C "leads" ["self"] (spP ⟨K, fun _ => C, w⟩ [.p] v_Face_leads) := ⟨f5, _, ⟨a5, i5, k5⟩, ok_Face_leads (cls := fun _ => C) F5 g z c_members_of, b5⟩
  have c_Face_couples : MetP l.prog w K mg base 2 C "couples" ["self"] (spP ⟨K, fun _ => C, w⟩ [.p] v_Face_couples) := ⟨f6, _, ⟨a6, i6, k6⟩, ok_Face_couples (cls := fun _ => C) F6 g z c_members_of, b6⟩
  have c_room_step : CalP l.prog w K mg base 3 "room_step" ["face"] (spO ⟨K, fun _ => C, w⟩ [.p] v_room_step) := ⟨f7, _, ok_room_step (cls := fun _ => C) F7 g z c_label_lists c_bit_lists c_state_of c_agree_in c_Face_leads c_Face_couples, PySem.W.mg_of X G a7, k7, b7⟩
  have c_doors_behind : CalP l.prog w K mg base 1 "doors_behind" ["outs", "pair"] (spP ⟨K, fun _ => C, w⟩ [.p, .p] v_doors_behind) := ⟨f8, _, ok_doors_behind (cls := fun _ => C) F8 g z , PySem.W.mg_of X G a8, k8, b8⟩
  have c_wire_step : CalP l.prog w K mg base 2 "wire_step" ["k", "pairs"] (spO ⟨K, fun _ => C, w⟩ [.p, .p] v_wire_step) := ⟨f9, _, ok_wire_step (cls := fun _ => C) F9 g z c_label_lists c_bit_lists c_state_of c_doors_behind, PySem.W.mg_of X G a9, k9, b9⟩
  have c_closed_rows : CalP l.prog w K mg base 2 "closed_rows" ["lead_rows", "couple_rows"] (spP ⟨K, fun _ => C, w⟩ [.p, .b] v_closed_rows) := ⟨f10, _, ok_closed_rows (cls := fun _ => C) F10 g z c_members_of, PySem.W.mg_of X G a10, k10, b10⟩
  have c_Face___init__ : MakP l.prog w K mg base 3 "Face" C ["self", "ins", "outs", "leads", "couples"] (spM ⟨K, fun _ => C, w⟩ [.p, .p, .p, .p] v_Face___init__) := ⟨f11, _, ⟨mk, a11, i11, kc⟩, ok_Face___init__ (cls := fun _ => C) F11 g z c_closed_rows, PySem.W.mg_of X G aC, b11⟩
  have c__law_pick : CalP l.prog w K mg base 1 "_law_pick" ["source", "many"] (spM ⟨K, fun _ => C, w⟩ [.p] v__law_pick) := ⟨f12, _, ok__law_pick (cls := fun _ => C) F12 g z , PySem.W.mg_of X G a12, k12, b12⟩
  have c__law_e_mixed : CalP l.prog w K mg base 2 "_law_e_mixed" ["stock", "things"] (spM ⟨K, fun _ => C, w⟩ [.p] v__law_e_mixed) := ⟨f13, _, ok__law_e_mixed (cls := fun _ => C) F13 g z c__law_pick, PySem.W.mg_of X G a13, k13, b13⟩
  have c__law_e_states : CalP l.prog w K mg base 1 "_law_e_states" ["k"] (spP ⟨K, fun _ => C, w⟩ [.p] v__law_e_states) := ⟨f14, _, ok__law_e_states (cls := fun _ => C) F14 g z , PySem.W.mg_of X G a14, k14, b14⟩
  have c__law_e_room_allows : CalP l.prog w K mg base 1 "_law_e_room_allows" ["leads", "couples", "doors", "outs"] (spP ⟨K, fun _ => C, w⟩ [.p, .p, .p, .p] v__law_e_room_allows) := ⟨f15, _, ok__law_e_room_allows (cls := fun _ => C) F15 g z , PySem.W.mg_of X G a15, k15, b15⟩
  have c__law_e_wire_allows : CalP l.prog w K mg base 1 "_law_e_wire_allows" ["pair", "outs", "doors"] (spP ⟨K, fun _ => C, w⟩ [.p, .p, .p] v__law_e_wire_allows) := ⟨f16, _, ok__law_e_wire_allows (cls := fun _ => C) F16 g z , PySem.W.mg_of X G a16, k16, b16⟩
  have c__law_same : CalP l.prog w K mg base 12 "_law_same" ["answer", "due"] (spP ⟨K, fun _ => C, w⟩ [.b, .b] (v__law_same 12)) := ⟨f17, _, ok__law_same (cls := fun _ => C) F17 g z  (PySem.W.mg_of X G a17) k17 b17 12, PySem.W.mg_of X G a17, k17, b17⟩
  have c__law_source : CalP l.prog w K mg base 1 "_law_source" ["script", "at"] (spO ⟨K, fun _ => C, w⟩ [.p, .p] v__law_source) := ⟨f18, _, ok__law_source (cls := fun _ => C) F18 g z , PySem.W.mg_of X G a18, k18, b18⟩
  have c__law_copied : CalP l.prog w K mg base 12 "_law_copied" ["thing"] (spP ⟨K, fun _ => C, w⟩ [.b] (v__law_copied 12)) := ⟨f19, _, ok__law_copied (cls := fun _ => C) F19 g z  (PySem.W.mg_of X G a19) k19 b19 12, PySem.W.mg_of X G a19, k19, b19⟩
  have c__law_drawn_face : CalP l.prog w K mg base 2 "_law_drawn_face" ["stock"] (spM ⟨K, fun _ => C, w⟩ [] v__law_drawn_face) := ⟨f20, _, ok__law_drawn_face (cls := fun _ => C) F20 g z c__law_pick, PySem.W.mg_of X G a20, k20, b20⟩
  have c__law_numbers_to : CalP l.prog w K mg base 2 "_law_numbers_to" ["stock", "k"] (spM ⟨K, fun _ => C, w⟩ [.p] v__law_numbers_to) := ⟨f21, _, ok__law_numbers_to (cls := fun _ => C) F21 g z c__law_pick, PySem.W.mg_of X G a21, k21, b21⟩
  exact (ok_law (cls := fun _ => C) F22 g z c_room_step c_wire_step c_Face___init__ c__law_pick c__law_e_mixed c__law_e_states c__law_e_room_allows c__law_e_wire_allows c__law_same c__law_source c__law_copied c__law_drawn_face c__law_numbers_to).imp fun vs H Q E h => My.spI_to (T := ⟨K, fun _ => C, w⟩) h
end K37
open PySem PySem.W PyProof.Rows
set_option maxHeartbeats 0 in
theorem PySem.Challenge.cw_leasttold_k37_room_steps_and_wire_steps_holds : PySem.Challenge.rw_leasttold_k37_room_steps_and_wire_steps.Holds := by
  w_on; o_law; k_head; (case hw => w_witness2)
  k_fill
  refine L2.walk_ofB (l := PySem.Challenge.rw_leasttold_k37_room_steps_and_wire_steps) (n := 63) (k := 14) (x := "script") (CX := fun _ => L2.CX0) (sp := fun w => My.spI _ K37.v_law) rfl (by decide) rfl ⟨rfl, by decide, by decide⟩ (fun w h Y => PySem.W.kIn_of Y) ?F (fun w H a ns hl hb hO hS => My.law_endI hS (K37.law_true ns hl hb)) (fun _ _ _ _ _ h => h)
  case F =>
    intro w mg fa h KX G hmg
    refine' K37.all_mk KX G hmg ?a0 ?l0 ?c0 ?k0 ?a1 ?l1 ?c1 ?k1 ?a2 ?l2 ?c2 ?k2 ?a3 ?l3 ?c3 ?k3 ?a4 ?l4 ?c4 ?k4 ?a5 ?i5 ?l5 ?c5 ?k5 ?a6 ?i6 ?l6 ?c6 ?k6 ?a7 ?l7 ?c7 ?k7 ?a8 ?l8 ?c8 ?k8 ?a9 ?l9 ?c9 ?k9 ?a10 ?l10 ?c10 ?k10 ?a11 ?i11 ?l11 ?c11 ?k11 ?a12 ?l12 ?c12 ?k12 ?a13 ?l13 ?c13 ?k13 ?a14 ?l14 ?c14 ?k14 ?a15 ?l15 ?c15 ?k15 ?a16 ?l16 ?c16 ?k16 ?a17 ?l17 ?c17 ?k17 ?a18 ?l18 ?c18 ?k18 ?a19 ?l19 ?c19 ?k19 ?a20 ?l20 ?c20 ?k20 ?a21 ?l21 ?c21 ?k21 ?a22 ?l22 ?c22 ?k22 ?aC ?pg ?hd ?po ?sa ?mk ?kc ?n0 ?n1 ?n2 ?n3 ?z0 ?z1 ?z2 ?z3 ?z4 ?z5 ?z6 ?z7 ?z8 ?z9 ?z10 ?z11 ?z12 ?z13 ?z14 ?z15 ?z16
    case aC => k_is
    case a0 => k_is
    case l0 => k_is
    case c0 => k_is
    case k0 => k_is
    case a1 => k_is
    case l1 => k_is
    case c1 => k_is
    case k1 => k_is
    case a2 => k_is
    case l2 => k_is
    case c2 => k_is
    case k2 => k_is
    case a3 => k_is
    case l3 => k_is
    case c3 => k_is
    case k3 => k_is
    case a4 => k_is
    case l4 => k_is
    case c4 => k_is
    case k4 => k_is
    case a5 => k_is
    case i5 => k_is
    case l5 => k_is
    case c5 => k_is
    case k5 => k_is
    case a6 => k_is
    case i6 => k_is
    case l6 => k_is
    case c6 => k_is
    case k6 => k_is
    case a7 => k_is
    case l7 => k_is
    case c7 => k_is
    case k7 => k_is
    case a8 => k_is
    case l8 => k_is
    case c8 => k_is
    case k8 => k_is
    case a9 => k_is
    case l9 => k_is
    case c9 => k_is
    case k9 => k_is
    case a10 => k_is
    case l10 => k_is
    case c10 => k_is
    case k10 => k_is
    case a11 => k_is
    case i11 => k_is
    case l11 => k_is
    case c11 => k_is
    case k11 => k_is
    case a12 => k_is
    case l12 => k_is
    case c12 => k_is
    case k12 => k_is
    case a13 => k_is
    case l13 => k_is
    case c13 => k_is
    case k13 => k_is
    case a14 => k_is
    case l14 => k_is
    case c14 => k_is
    case k14 => k_is
    case a15 => k_is
    case l15 => k_is
    case c15 => k_is
    case k15 => k_is
    case a16 => k_is
    case l16 => k_is
    case c16 => k_is
    case k16 => k_is
    case a17 => k_is
    case l17 => k_is
    case c17 => k_is
    case k17 => k_is
    case a18 => k_is
    case l18 => k_is
    case c18 => k_is
    case k18 => k_is
    case a19 => k_is
    case l19 => k_is
    case c19 => k_is
    case k19 => k_is
    case a20 => k_is
    case l20 => k_is
    case c20 => k_is
    case k20 => k_is
    case a21 => k_is
    case l21 => k_is
    case c21 => k_is
    case k21 => k_is
    case a22 => k_is
    case l22 => k_is
    case c22 => k_is
    case k22 => k_is
    case pg => k_is
    case hd => k_is
    case po => k_is
    case sa => k_is
    case mk => k_is
    case kc => k_is
    case n0 => k_is
    case n1 => k_is
    case n2 => k_is
    case n3 => k_is
    case z0 => k_is
    case z1 => k_is
    case z2 => k_is
    case z3 => k_is
    case z4 => k_is
    case z5 => k_is
    case z6 => k_is
    case z7 => k_is
    case z8 => k_is
    case z9 => k_is
    case z10 => k_is
    case z11 => k_is
    case z12 => k_is
    case z13 => k_is
    case z14 => k_is
    case z15 => k_is
    case z16 => k_is
