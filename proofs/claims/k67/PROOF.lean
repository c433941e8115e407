import PyProof.Rows.All
import Wide.All
import OpenK.AllK
import Wide.FinOn
import HandS.ForMost
import HandS.ForExc
import HandS.TupAny
import HandS.TupLen
import HandS.Conv
import HandS.Wide
import KE.SortData
import PySem.Challenge.RW_knothouse_k67_polynomials_in_two_variabl
set_option Elab.async false
set_option linter.all false
set_option maxRecDepth 100000
/-! Dl0: pure data over the hand layer. Tuples are values, lists and dicts stand in a store. -/
namespace Dl
open PySem PySem.Spec PyProof.Rows L2

abbrev Sg := L2.St
/-- there, and then -/
def ifS {α : Type} (o : Option α) (k : α → Prop) : Prop := match o with
  | some x => k x
  | none => False
theorem ifS_some {α : Type} {x : α} {k : α → Prop} : ifS (some x) k = k x := rfl
theorem ifS_none {α : Type} {k : α → Prop} : ifS none k = False := rfl
theorem ifS.ex {α : Type} {o : Option α} {k : α → Prop} (h : ifS o k) : ∃ x, o = some x ∧ k x := by
  cases o with
  | none => exact h.elim
  | some x => exact ⟨x, rfl, h⟩
theorem ifS.of {α : Type} {o : Option α} {k : α → Prop} {x : α} (e : o = some x) (h : k x) : ifS o k := by
  rw [e]
  exact h
/-- pure data; ptr: a thing of the store -/
inductive D where
  | non | bl (b : Bool) | int (i : Int) | str (x : Str) | tup (xs : List D) | ptr (a : Addr)
  /-- a list that is never written: of the written part, or the script -/
  | klst (xs : List D)

def D.flat : D → Bool
  | .int _ => true
  | .str _ => true
  | _ => false
/-- a tuple that is never a key -/
def nflat (xs : List D) : Bool := xs.isEmpty || xs.any fun d => !d.flat

structure Pst (H H' : Hp) : Prop where
  t : ∀ b xs, H b = some (.tup xs) → H' b = some (.tup xs)
  f : ∀ b o u, H b = some (.frz o u) → H' b = some (.frz o u)
theorem Pst.rfl {H : Hp} : Pst H H := ⟨fun _ _ h => h, fun _ _ _ h => h⟩
theorem Pst.trans {H H1 H2 : Hp} (a : Pst H H1) (b : Pst H1 H2) : Pst H H2 := ⟨fun c xs h => b.t c xs (a.t c xs h), fun c o u h => b.f c o u (a.f c o u h)⟩
theorem Pst.sqT {K : PySem.W.Frag} {H H' : Hp} (p : Pst H H') {a : Addr} {xs : List V} (h : SqT K H a xs) : SqT K H' a xs := by
  rcases h with (h | ⟨o, h⟩) | h
  · exact .inl (.inl (p.t _ _ h))
  · exact .inl (.inr ⟨o, p.f _ _ _ h⟩)
  · exact .inr h

section
variable (K : PySem.W.Frag) (H : Hp)
mutual
def RV : D → V → Prop
  | .non, v => v = .non
  | .bl b, v => v = .bl b
  | .int i, v => v = .int i
  | .str x, v => v = .str x
  | .tup xs, v => ∃ a vs, v = .ref a ∧ (H a = some (.tup vs) ∨ (nflat xs = true ∧ SqT K H a vs)) ∧ RVs xs vs
  | .ptr a, v => v = .ref a
  | .klst xs, v => ∃ a vs, v = .ref a ∧ (∀ H', SqL K H' a vs) ∧ RVs xs vs
def RVs : List D → List V → Prop
  | [], vs => vs = []
  | x :: xs, vs => ∃ v ws, vs = v :: ws ∧ RV x v ∧ RVs xs ws
end
end

section
variable {K : PySem.W.Frag} {H H' : Hp}
mutual
theorem RV.mono (p : Pst H H') : ∀ (d : D) (v : V), RV K H d v → RV K H' d v
  | .non, _, h => by unfold RV at h ⊢; exact h
  | .bl b, _, h => by unfold RV at h ⊢; exact h
  | .int i, _, h => by unfold RV at h ⊢; exact h
  | .str x, _, h => by unfold RV at h ⊢; exact h
  | .ptr a, _, h => by unfold RV at h ⊢; exact h
  | .tup xs, v, h => by
    unfold RV at h ⊢
    obtain ⟨a, vs, e, h1, h2⟩ := h
    exact ⟨a, vs, e, h1.elim (fun q => .inl (p.t _ _ q)) (fun q => .inr ⟨q.1, p.sqT q.2⟩), RVs.mono p xs vs h2⟩
  | .klst xs, v, h => by
    unfold RV at h ⊢
    obtain ⟨a, vs, e, h1, h2⟩ := h
    exact ⟨a, vs, e, h1, RVs.mono p xs vs h2⟩
theorem RVs.mono (p : Pst H H') : ∀ (ds : List D) (vs : List V), RVs K H ds vs → RVs K H' ds vs
  | [], _, h => by unfold RVs at h ⊢; exact h
  | x :: xs, vs, h => by
    unfold RVs at h ⊢
    obtain ⟨v, ws, e, h1, h2⟩ := h
    exact ⟨v, ws, e, RV.mono p x v h1, RVs.mono p xs ws h2⟩
end
theorem RV.non : RV K H .non .non := by unfold RV; rfl
theorem RV.bl (b : Bool) : RV K H (.bl b) (.bl b) := by unfold RV; rfl
theorem RV.int (i : Int) : RV K H (.int i) (.int i) := by unfold RV; rfl
theorem RV.str (x : Str) : RV K H (.str x) (.str x) := by unfold RV; rfl
theorem RV.ptr (a : Addr) : RV K H (.ptr a) (.ref a) := by unfold RV; rfl
theorem RV.ofNon {v : V} (h : RV K H .non v) : v = .non := by unfold RV at h; exact h
theorem RV.ofBl {b : Bool} {v : V} (h : RV K H (.bl b) v) : v = .bl b := by unfold RV at h; exact h
theorem RV.ofInt {i : Int} {v : V} (h : RV K H (.int i) v) : v = .int i := by unfold RV at h; exact h
theorem RV.ofStr {x : Str} {v : V} (h : RV K H (.str x) v) : v = .str x := by unfold RV at h; exact h
theorem RV.ofPtr {a : Addr} {v : V} (h : RV K H (.ptr a) v) : v = .ref a := by unfold RV at h; exact h
theorem RV.ofTup {xs : List D} {v : V} (h : RV K H (.tup xs) v) : ∃ a vs, v = .ref a ∧ (H a = some (.tup vs) ∨ (nflat xs = true ∧ SqT K H a vs)) ∧ RVs K H xs vs := by unfold RV at h; exact h
theorem RV.ofTupS {xs : List D} {v : V} (h : RV K H (.tup xs) v) : ∃ a vs, v = .ref a ∧ SqT K H a vs ∧ RVs K H xs vs := by
  obtain ⟨a, vs, e, h1, h2⟩ := h.ofTup
  exact ⟨a, vs, e, h1.elim SqT.of (fun q => q.2), h2⟩
theorem RV.ofKl {xs : List D} {v : V} (h : RV K H (.klst xs) v) : ∃ a vs, v = .ref a ∧ (∀ H', SqL K H' a vs) ∧ RVs K H xs vs := by unfold RV at h; exact h
theorem RV.kl {xs : List D} {a : Addr} {vs : List V} (h : ∀ H', SqL K H' a vs) (r : RVs K H xs vs) : RV K H (.klst xs) (.ref a) := by
  unfold RV
  exact ⟨a, vs, rfl, h, r⟩
theorem RV.tup {xs : List D} {a : Addr} {vs : List V} (h : H a = some (.tup vs)) (r : RVs K H xs vs) : RV K H (.tup xs) (.ref a) := by
  unfold RV
  exact ⟨a, vs, rfl, .inl h, r⟩
theorem RV.tupC {xs : List D} {a : Addr} {vs : List V} (n : nflat xs = true) (h : SqT K H a vs) (r : RVs K H xs vs) : RV K H (.tup xs) (.ref a) := by
  unfold RV
  exact ⟨a, vs, rfl, .inr ⟨n, h⟩, r⟩
theorem RVs.nil : RVs K H [] [] := by unfold RVs; rfl
theorem RVs.cons {d : D} {ds : List D} {v : V} {vs : List V} (h : RV K H d v) (t : RVs K H ds vs) : RVs K H (d :: ds) (v :: vs) := by
  unfold RVs
  exact ⟨v, vs, rfl, h, t⟩
theorem RVs.ofNil {vs : List V} (h : RVs K H [] vs) : vs = [] := by unfold RVs at h; exact h
theorem RVs.ofCons {d : D} {ds : List D} {vs : List V} (h : RVs K H (d :: ds) vs) : ∃ v ws, vs = v :: ws ∧ RV K H d v ∧ RVs K H ds ws := by unfold RVs at h; exact h
theorem RVs.length : ∀ {ds : List D} {vs : List V}, RVs K H ds vs → ds.length = vs.length
  | [], vs, h => by rw [h.ofNil]; rfl
  | d :: ds, vs, h => by
    obtain ⟨v, ws, rfl, _, t⟩ := h.ofCons
    rw [List.length_cons, List.length_cons, RVs.length t]
theorem RVs.get : ∀ {ds : List D} {vs : List V} {i : Nat} {d : D}, RVs K H ds vs → ds[i]? = some d → ∃ v, vs[i]? = some v ∧ RV K H d v
  | [], _, _, _, _, e => by simp at e
  | d :: ds, vs, 0, d', h, e => by
    obtain ⟨v, ws, rfl, r, _⟩ := h.ofCons
    simp at e
    subst e
    exact ⟨v, rfl, r⟩
  | d :: ds, vs, i + 1, d', h, e => by
    obtain ⟨v, ws, rfl, _, t⟩ := h.ofCons
    obtain ⟨u, h1, h2⟩ := RVs.get (i := i) (d := d') t (by simpa using e)
    exact ⟨u, by simpa using h1, h2⟩
theorem RVs.getV {ds : List D} {vs : List V} {i : Nat} {v : V} (h : RVs K H ds vs) (e : vs[i]? = some v) : ∃ d, ds[i]? = some d ∧ RV K H d v := by
  have hi : i < ds.length := by
    rw [h.length]
    exact (List.getElem?_eq_some_iff.mp e).1
  obtain ⟨u, h1, h2⟩ := h.get (List.getElem?_eq_getElem hi)
  rw [e] at h1
  cases h1
  exact ⟨_, List.getElem?_eq_getElem hi, h2⟩
theorem RVs.append : ∀ {ds es : List D} {vs ws : List V}, RVs K H ds vs → RVs K H es ws → RVs K H (ds ++ es) (vs ++ ws)
  | [], es, vs, ws, h, t => by rw [h.ofNil]; exact t
  | d :: ds, es, vs, ws, h, t => by
    obtain ⟨v, vr, rfl, r, q⟩ := h.ofCons
    exact .cons r (RVs.append q t)
theorem RVs.set {d : D} {v : V} (r : RV K H d v) : ∀ {ds : List D} {vs : List V} (i : Nat), RVs K H ds vs → RVs K H (ds.set i d) (vs.set i v)
  | [], vs, _, h => by rw [h.ofNil]; exact .nil
  | x :: ds, vs, 0, h => by
    obtain ⟨u, vr, rfl, _, q⟩ := h.ofCons
    exact .cons r q
  | x :: ds, vs, i + 1, h => by
    obtain ⟨u, vr, rfl, r', q⟩ := h.ofCons
    exact .cons r' (RVs.set r i q)
theorem RVs.take : ∀ {ds : List D} {vs : List V} (n : Nat), RVs K H ds vs → RVs K H (ds.take n) (vs.take n)
  | ds, vs, 0, _ => by simpa using RVs.nil
  | [], vs, n + 1, h => by rw [h.ofNil]; exact .nil
  | x :: ds, vs, n + 1, h => by
    obtain ⟨u, vr, rfl, r', q⟩ := h.ofCons
    exact .cons r' (RVs.take n q)
theorem RVs.drop : ∀ {ds : List D} {vs : List V} (n : Nat), RVs K H ds vs → RVs K H (ds.drop n) (vs.drop n)
  | ds, vs, 0, h => h
  | [], vs, n + 1, h => by rw [h.ofNil]; exact .nil
  | x :: ds, vs, n + 1, h => by
    obtain ⟨u, vr, rfl, r', q⟩ := h.ofCons
    exact RVs.drop n q
theorem RVs.rev : ∀ {ds : List D} {vs : List V}, RVs K H ds vs → RVs K H ds.reverse vs.reverse
  | [], vs, h => by rw [h.ofNil]; exact .nil
  | x :: ds, vs, h => by
    obtain ⟨u, vr, rfl, r', q⟩ := h.ofCons
    rw [List.reverse_cons, List.reverse_cons]
    exact (RVs.rev q).append (.cons r' .nil)
theorem RVs.eraseIdx : ∀ {ds : List D} {vs : List V} (i : Nat), RVs K H ds vs → RVs K H (ds.eraseIdx i) (vs.eraseIdx i)
  | [], vs, i, h => by rw [h.ofNil]; exact .nil
  | x :: ds, vs, 0, h => by
    obtain ⟨u, vr, rfl, r', q⟩ := h.ofCons
    exact q
  | x :: ds, vs, i + 1, h => by
    obtain ⟨u, vr, rfl, r', q⟩ := h.ofCons
    exact .cons r' (RVs.eraseIdx i q)
theorem RVs.rep {ds : List D} {vs : List V} (h : RVs K H ds vs) : ∀ k : Nat, RVs K H (List.replicate k ds).flatten (List.replicate k vs).flatten
  | 0 => .nil
  | k + 1 => by
    rw [List.replicate_succ, List.replicate_succ, List.flatten_cons, List.flatten_cons]
    exact h.append (RVs.rep h k)
theorem RVs.ints : ∀ {ns : List Int} {vs : List V}, RVs K H (ns.map D.int) vs → vs = ns.map V.int
  | [], vs, h => h.ofNil
  | n :: ns, vs, h => by
    obtain ⟨v, ws, rfl, r, t⟩ := RVs.ofCons (d := D.int n) (ds := ns.map D.int) h
    rw [r.ofInt, RVs.ints t]
    rfl
theorem RVs.ofInts : ∀ (ns : List Int), RVs K H (ns.map D.int) (ns.map V.int)
  | [] => .nil
  | n :: ns => .cons (.int n) (RVs.ofInts ns)
theorem RVs.bls : ∀ {ns : List Bool} {vs : List V}, RVs K H (ns.map D.bl) vs → vs = ns.map V.bl
  | [], vs, h => h.ofNil
  | n :: ns, vs, h => by
    obtain ⟨v, ws, rfl, r, t⟩ := RVs.ofCons (d := D.bl n) (ds := ns.map D.bl) h
    rw [r.ofBl, RVs.bls t]
    rfl
end

/-! ### the store -/
/-- what the store knows of an address -/
inductive Ob where
  /-- a list; a dict with int and text keys; a dict with keys that are tuples of such; a list that is only read -/
  | lst (xs : List D) | dK (kvs : List (Key × D)) | dT (kvs : List (List Key × D)) | ro (xs : List D)
  /-- the law's source of numbers, its list of the script's -/
  | rnd (l : Addr) | src
  /-- as the hand layer tells it -/
  | raw (o : HO)
abbrev Ss := Addr → Option Ob
def supd (S : Ss) (a : Addr) (o : Ob) : Ss := fun b => if b = a then some o else S b
theorem supd_same {S : Ss} {a : Addr} {o : Ob} : supd S a o a = some o := by unfold supd; rw [if_pos rfl]
theorem supd_ne {S : Ss} {a b : Addr} {o : Ob} (h : b ≠ a) : supd S a o b = S b := by unfold supd; rw [if_neg h]
theorem supd_supd {S : Ss} {a : Addr} {o u : Ob} : supd (supd S a o) a u = supd S a u := by
  funext b
  unfold supd
  split <;> rfl
theorem supd_self {S : Ss} {a : Addr} {o : Ob} (h : S a = some o) : supd S a o = S := by
  funext b
  unfold supd
  split
  · rename_i e
    rw [e, h]
  · rfl
theorem sne {S : Ss} {a b : Addr} {o : Ob} (h : S a = some o) (h' : S b = none) : a ≠ b := by
  intro e
  subst e
  rw [h] at h'
  cases h'
theorem sne' {S : Ss} {a b : Addr} {o : Ob} (h : S a = some o) (h' : S b = none) : b ≠ a := (sne h h').symm

section
variable (K : PySem.W.Frag) (H : Hp)
def RKV {κ : Type} : List (κ × D) → List (κ × V) → Prop := Paired fun p q => p.1 = q.1 ∧ RV K H p.2 q.2
def OR (a : Addr) : Ob → Prop
  | .lst xs => ∃ vs, H a = some (.lst vs) ∧ RVs K H xs vs
  | .dK kvs => ∃ ws, H a = some (.dK ws) ∧ RKV K H kvs ws
  | .dT kvs => ∃ ws, H a = some (.dT ws) ∧ RKV K H kvs ws
  | .ro xs => ∃ vs, Rd H a (.lst vs) ∧ RVs K H xs vs
  | .rnd l => ∃ pos acc seed : Int, 0 ≤ pos ∧ 0 ≤ acc ∧ 0 ≤ seed ∧ seed < 2147483647 ∧ H a = some (.lst [.ref l, .int pos, .int acc, .int seed])
  | .src => ∃ ns : List Int, H a = some (.lst (ns.map V.int))
  | .raw o => H a = some o
def RS (S : Ss) : Prop := ∀ a o, S a = some o → OR K H a o
end
section
variable {K : PySem.W.Frag} {H H' : Hp} {S : Ss}
theorem RKV.mono {κ : Type} (p : Pst H H') {kvs : List (κ × D)} {ws : List (κ × V)} (h : RKV K H kvs ws) : RKV K H' kvs ws := Paired.mapP h fun _ _ q => ⟨q.1, q.2.mono p⟩
theorem OR.mono (p : Pst H H') {a : Addr} (e : H' a = H a) : ∀ {o : Ob}, OR K H a o → OR K H' a o
  | .lst xs, h => by
    obtain ⟨vs, h1, h2⟩ := h
    exact ⟨vs, e.trans h1, h2.mono p⟩
  | .dK kvs, h => by
    obtain ⟨vs, h1, h2⟩ := h
    exact ⟨vs, e.trans h1, h2.mono p⟩
  | .dT kvs, h => by
    obtain ⟨vs, h1, h2⟩ := h
    exact ⟨vs, e.trans h1, h2.mono p⟩
  | .ro xs, h => by
    obtain ⟨vs, h1, h2⟩ := h
    refine ⟨vs, ?_, h2.mono p⟩
    rcases h1 with h1 | ⟨o, h1⟩
    · exact .inl (e.trans h1)
    · exact .inr ⟨o, e.trans h1⟩
  | .rnd l, h => by
    obtain ⟨q1, q2, q3, q4, q5, q6, q7, h1⟩ := h
    exact ⟨q1, q2, q3, q4, q5, q6, q7, e.trans h1⟩
  | .src, h => by
    obtain ⟨ns, h1⟩ := h
    exact ⟨ns, e.trans h1⟩
  | .raw o, h => e.trans h
theorem OR.there {a : Addr} : ∀ {o : Ob}, OR K H a o → H a ≠ none
  | .lst xs, h => by
    obtain ⟨vs, h1, h2⟩ := h
    rw [h1]
    exact fun z => nomatch z
  | .dK kvs, h => by
    obtain ⟨vs, h1, h2⟩ := h
    rw [h1]
    exact fun z => nomatch z
  | .dT kvs, h => by
    obtain ⟨vs, h1, h2⟩ := h
    rw [h1]
    exact fun z => nomatch z
  | .ro xs, h => by
    obtain ⟨vs, h1, h2⟩ := h
    rcases h1 with h1 | ⟨o, h1⟩
    · rw [h1]
      exact fun z => nomatch z
    · rw [h1]
      exact fun z => nomatch z
  | .rnd l, h => by
    obtain ⟨q1, q2, q3, q4, q5, q6, q7, h1⟩ := h
    rw [h1]
    exact fun z => nomatch z
  | .src, h => by
    obtain ⟨ns, h1⟩ := h
    rw [h1]
    exact fun z => nomatch z
  | .raw o, h => by
    have h1 : H a = some o := h
    rw [h1]
    exact fun z => nomatch z
theorem RS.fresh (h : RS K H S) {a : Addr} (n : H a = none) : S a = none := by
  cases q : S a with
  | none => rfl
  | some o => exact absurd n (h a o q).there
/-- what may be written over, or is new -/
structure Fre (H : Hp) (x : Addr) : Prop where
  t : ∀ xs, H x ≠ some (.tup xs)
  f : ∀ o u, H x ≠ some (.frz o u)
theorem Fre.new {x : Addr} (h : H x = none) : Fre H x := ⟨fun _ z => (by rw [h] at z; cases z), fun _ _ z => (by rw [h] at z; cases z)⟩
theorem Fre.lst {x : Addr} {xs : List V} (h : H x = some (.lst xs)) : Fre H x := ⟨fun _ z => (by rw [h] at z; cases z), fun _ _ z => (by rw [h] at z; cases z)⟩
theorem Fre.dK {x : Addr} {xs : List (Key × V)} (h : H x = some (.dK xs)) : Fre H x := ⟨fun _ z => (by rw [h] at z; cases z), fun _ _ z => (by rw [h] at z; cases z)⟩
theorem Fre.dT {x : Addr} {xs : List (List Key × V)} (h : H x = some (.dT xs)) : Fre H x := ⟨fun _ z => (by rw [h] at z; cases z), fun _ _ z => (by rw [h] at z; cases z)⟩
theorem Fre.pst {x : Addr} {o : HO} (h : Fre H x) : Pst H (upd H x o) := ⟨fun b xs e => (upd_ne (fun z => h.t xs (by rw [← z]; exact e))).trans e, fun b o u e => (upd_ne (fun z => h.f o u (by rw [← z]; exact e))).trans e⟩
theorem RS.upd (h : RS K H S) {x : Addr} {o : HO} {ob : Ob} (f : Fre H x) (new : OR K (L2.upd H x o) x ob) : RS K (L2.upd H x o) (supd S x ob) := fun a u e => by
  by_cases ha : a = x
  · subst ha
    rw [supd_same] at e
    cases e
    exact new
  · rw [supd_ne ha] at e
    exact (h a u e).mono f.pst (upd_ne ha)
theorem RS.keep (h : RS K H S) {x : Addr} {o : HO} (n : H x = none) : RS K (L2.upd H x o) S := fun a u e => by
  have ha : a ≠ x := fun z => by
    subst z
    exact (h a u e).there n
  exact (h a u e).mono (Fre.new n).pst (upd_ne ha)
theorem RS.sub (h : RS K H S) {S' : Ss} (q : ∀ a o, S' a = some o → S a = some o) : RS K H S' := fun a o e => h a o (q a o e)
theorem OR.lstUpd {x : Addr} {ds : List D} {vs : List V} (f : Fre H x) (r : RVs K H ds vs) : OR K (L2.upd H x (.lst vs)) x (.lst ds) := ⟨vs, upd_same, r.mono f.pst⟩
theorem RS.lst (h : RS K H S) {a : Addr} {xs : List D} (e : S a = some (.lst xs)) : ∃ vs, H a = some (.lst vs) ∧ RVs K H xs vs := h a _ e
end

/-! ### the slots -/
abbrev Rho := List (Option D)
section
variable (K : PySem.W.Frag) (H : Hp)
def RE : Rho → Sg → Prop
  | [], σ => σ = []
  | o :: ρ, σ => ∃ s σ', σ = s :: σ' ∧ (∀ d, o = some d → ∃ v, s = some v ∧ RV K H d v) ∧ RE ρ σ'
end
section
variable {K : PySem.W.Frag} {H H' : Hp} {S : Ss}
theorem RE.mono (p : Pst H H') : ∀ {ρ : Rho} {σ : Sg}, RE K H ρ σ → RE K H' ρ σ
  | [], σ, h => h
  | o :: ρ, σ, h => by
    obtain ⟨s, σ', e, h1, h2⟩ := h
    exact ⟨s, σ', e, fun d q => let ⟨v, a, b⟩ := h1 d q; ⟨v, a, b.mono p⟩, RE.mono p h2⟩
theorem RE.get : ∀ {ρ : Rho} {σ : Sg} {i : Nat} {d : D}, RE K H ρ σ → ρ[i]? = some (some d) → ∃ v, σ[i]? = some (some v) ∧ RV K H d v
  | [], _, _, _, _, e => by simp at e
  | o :: ρ, σ, 0, d, h, e => by
    obtain ⟨s, σ', rfl, h1, h2⟩ := h
    simp at e
    obtain ⟨v, rfl, r⟩ := h1 d e
    exact ⟨v, rfl, r⟩
  | o :: ρ, σ, i + 1, d, h, e => by
    obtain ⟨s, σ', rfl, h1, h2⟩ := h
    obtain ⟨v, a, b⟩ := RE.get (i := i) h2 (by simpa using e)
    exact ⟨v, by simpa using a, b⟩
theorem RE.set {d : D} {v : V} (r : RV K H d v) : ∀ {ρ : Rho} {σ : Sg} (i : Nat), RE K H ρ σ → RE K H (ρ.set i (some d)) (σ.set i (some v))
  | [], σ, i, h => by
    have e : σ = [] := h
    subst e
    rfl
  | o :: ρ, σ, 0, h => by
    obtain ⟨s, σ', rfl, h1, h2⟩ := h
    exact ⟨some v, σ', rfl, fun d' e => ⟨v, rfl, by cases e; exact r⟩, h2⟩
  | o :: ρ, σ, i + 1, h => by
    obtain ⟨s, σ', rfl, h1, h2⟩ := h
    exact ⟨s, σ'.set i (some v), rfl, h1, RE.set r i h2⟩
theorem RE.unset : ∀ {ρ : Rho} {σ : Sg} (i : Nat), RE K H ρ σ → RE K H (ρ.set i none) (σ.set i none)
  | [], σ, i, h => by
    have e : σ = [] := h
    subst e
    rfl
  | o :: ρ, σ, 0, h => by
    obtain ⟨s, σ', rfl, h1, h2⟩ := h
    exact ⟨none, σ', rfl, fun d' e => (nomatch e), h2⟩
  | o :: ρ, σ, i + 1, h => by
    obtain ⟨s, σ', rfl, h1, h2⟩ := h
    exact ⟨s, σ'.set i none, rfl, h1, RE.unset i h2⟩
/-- a slot forgotten on the data's side alone -/
theorem RE.forget : ∀ {ρ : Rho} {σ : Sg} (i : Nat), RE K H ρ σ → RE K H (ρ.set i none) σ
  | [], σ, i, h => h
  | o :: ρ, σ, 0, h => by
    obtain ⟨s, σ', rfl, h1, h2⟩ := h
    exact ⟨s, σ', rfl, fun d' e => (nomatch e), h2⟩
  | o :: ρ, σ, i + 1, h => by
    obtain ⟨s, σ', rfl, h1, h2⟩ := h
    exact ⟨s, σ', rfl, h1, RE.forget i h2⟩
def dwipe (ρ : Rho) : List Nat → Rho
  | [] => ρ
  | v :: vs => (dwipe ρ vs).set v none
theorem RE.wipe {ρ : Rho} {σ : Sg} (h : RE K H ρ σ) : ∀ vs : List Nat, RE K H (dwipe ρ vs) (L2.wipe σ vs)
  | [] => h
  | v :: vs => (RE.wipe h vs).unset v
def dstart (n : Nat) (ds : List D) : Rho := ds.map some ++ List.replicate (n - ds.length) none
theorem RE.nones : ∀ n : Nat, RE K H (List.replicate n none) (List.replicate n none)
  | 0 => rfl
  | n + 1 => ⟨none, List.replicate n none, rfl, fun _ e => (nomatch e), RE.nones n⟩
theorem RE.somes {ρ : Rho} {σ : Sg} (q : RE K H ρ σ) : ∀ {ds : List D} {vs : List V}, RVs K H ds vs → RE K H (ds.map some ++ ρ) (vs.map some ++ σ)
  | [], vs, h => by
    rw [h.ofNil]
    exact q
  | d :: ds, vs, h => by
    obtain ⟨v, ws, rfl, r, t⟩ := h.ofCons
    exact ⟨some v, _, rfl, fun d' e => ⟨v, rfl, by cases e; exact r⟩, RE.somes q t⟩
theorem RE.start {N : List Str} {ds : List D} {vs : List V} (h : RVs K H ds vs) : RE K H (dstart N.length ds) (L2.start N vs) := by
  unfold dstart L2.start
  rw [h.length]
  exact (RE.nones _).somes h
end

/-! ### readings over data -/
abbrev WK := D → Ss → Prop
abbrev WE := Rho → Ss → WK → Prop
abbrev WT := Rho → Ss → (Bool → Ss → Prop) → Prop
abbrev WA := Rho → Ss → (List D → Ss → Prop) → Prop
structure DEnds where
  nx : Rho → Ss → Prop
  rt : WK
  bk : Rho → Ss → Prop := fun _ _ => False
  ct : Rho → Ss → Prop := fun _ _ => False
abbrev WS := DEnds → Rho → Ss → Prop
def Kont (K : PySem.W.Frag) (H : Hp) (Q0 : WK) (Q : VK) : Prop := ∀ d S' v H', Q0 d S' → RV K H' d v → RS K H' S' → Pst H H' → Q v H'
theorem Kont.mono {K : PySem.W.Frag} {H H1 : Hp} {Q0 : WK} {Q : VK} (p : Pst H H1) (k : Kont K H Q0 Q) : Kont K H1 Q0 Q := fun d S v H' a b c q => k d S v H' a b c (p.trans q)
section
variable (K : PySem.W.Frag)
def tE (w : WE) : TE := fun σ H Q => ∃ ρ S Q0, RE K H ρ σ ∧ RS K H S ∧ w ρ S Q0 ∧ Kont K H Q0 Q
def tT (w : WT) : TT := fun σ H Q => ∃ ρ S Q0, RE K H ρ σ ∧ RS K H S ∧ w ρ S Q0 ∧ ∀ b S' H', Q0 b S' → RS K H' S' → Pst H H' → Q b H'
def tA (w : WA) : TA := fun σ H Q => ∃ ρ S Q0, RE K H ρ σ ∧ RS K H S ∧ w ρ S Q0 ∧ ∀ ds S' vs H', Q0 ds S' → RVs K H' ds vs → RS K H' S' → Pst H H' → Q vs H'
structure EndsOk (H : Hp) (D0 : DEnds) (Dn : Ends) : Prop where
  nx : ∀ ρ S σ H', D0.nx ρ S → RE K H' ρ σ → RS K H' S → Pst H H' → Dn.nx σ H'
  rt : ∀ d S v H', D0.rt d S → RV K H' d v → RS K H' S → Pst H H' → Dn.rt v H'
  bk : ∀ ρ S σ H', D0.bk ρ S → RE K H' ρ σ → RS K H' S → Pst H H' → Dn.bk σ H'
  ct : ∀ ρ S σ H', D0.ct ρ S → RE K H' ρ σ → RS K H' S → Pst H H' → Dn.ct σ H'
def tS (w : WS) : TS := fun Dn σ H => ∃ ρ S D0, RE K H ρ σ ∧ RS K H S ∧ w D0 ρ S ∧ EndsOk K H D0 Dn
end
section
variable {K : PySem.W.Frag} {H H' : Hp}
theorem EndsOk.mono (p : Pst H H') {D0 : DEnds} {Dn : Ends} (h : EndsOk K H D0 Dn) : EndsOk K H' D0 Dn :=
  ⟨fun ρ S σ H1 a b c d => h.nx ρ S σ H1 a b c (p.trans d), fun ρ S σ H1 a b c d => h.rt ρ S σ H1 a b c (p.trans d), fun ρ S σ H1 a b c d => h.bk ρ S σ H1 a b c (p.trans d), fun ρ S σ H1 a b c d => h.ct ρ S σ H1 a b c (p.trans d)⟩
end

/-! ### a reading that asks more -/
section
variable {X : Cx}
theorem imE {e : Expr} {t t' : TE} (h : PE X e t) (f : ∀ σ H Q, t' σ H Q → t σ H Q) : PE X e t' := ⟨fun pins s σ H Q I q => h.run pins s σ H Q I (f _ _ _ q)⟩
theorem imT {e : Expr} {t t' : TT} (h : PT X e t) (f : ∀ σ H Q, t' σ H Q → t σ H Q) : PT X e t' := ⟨fun pins s σ H Q I q => h.run pins s σ H Q I (f _ _ _ q)⟩
theorem imW {e : Expr} {t t' : TT} (h : PW X e t) (f : ∀ σ H Q, t' σ H Q → t σ H Q) : PW X e t' := ⟨fun wh pins s σ H Q I q => h.run wh pins s σ H Q I (f _ _ _ q)⟩
theorem imA {e : List Expr} {t t' : TA} (h : PA X e t) (f : ∀ σ H Q, t' σ H Q → t σ H Q) : PA X e t' := ⟨fun pos pins s σ H Q I q => h.run pos pins s σ H Q I (f _ _ _ q)⟩
theorem imS {e : Stmt} {t t' : TS} (h : PS X e t) (f : ∀ D σ H, t' D σ H → t D σ H) : PS X e t' := ⟨fun pins s σ H D I q => h.run pins s σ H D I (f _ _ _ q)⟩
theorem imB {e : List Stmt} {t t' : TS} (h : PSs X e t) (f : ∀ D σ H, t' D σ H → t D σ H) : PSs X e t' := ⟨fun pins s σ H D I q => h.run pins s σ H D I (f _ _ _ q)⟩
theorem imG {e : Expr} {t t' : TG} (h : PG X e t) (f : ∀ v σ H Q, t' v σ H Q → t v σ H Q) : PG X e t' := ⟨fun pins s σ H v u Q I r q => h.run pins s σ H v u Q I r (f _ _ _ _ q)⟩
theorem imI {tg e : Expr} {t t' : TI} (h : PI X tg e t) (f : ∀ σ H Q, t' σ H Q → t σ H Q) : PI X tg e t' := ⟨fun pins s σ H Q I q => h.run pins s σ H Q I (f _ _ _ q)⟩
theorem orE {e : Expr} {t t' : TE} (h : PE X e t) (h' : PE X e t') : PE X e (fun σ H Q => t σ H Q ∨ t' σ H Q) := ⟨fun pins s σ H Q I q => q.elim (h.run pins s σ H Q I) (h'.run pins s σ H Q I)⟩
theorem orI {tg e : Expr} {t t' : TI} (h : PI X tg e t) (h' : PI X tg e t') : PI X tg e (fun σ H Q => t σ H Q ∨ t' σ H Q) := ⟨fun pins s σ H Q I q => q.elim (h.run pins s σ H Q I) (h'.run pins s σ H Q I)⟩
end
end Dl

/-! Dl1: the rules over data: expressions, operators, calls. -/
namespace Dl
open PySem PySem.Spec PyProof.Rows L2

/-! ### names, constants -/
def wVar (i : Nat) : WE := fun ρ S Q => match ρ[i]? with
  | some (some d) => Q d S
  | _ => False
def wC (d : D) : WE := fun _ S Q => Q d S
section
variable {X : Cx} {pos : Pos}
theorem dVar {e : Expr} {i : Nat} (h : PE X e (tVar i)) : PE X e (tE X.K (wVar i)) := imE h fun σ H Q ⟨ρ, S, Q0, hE, hS, hw, k⟩ => by
  unfold wVar at hw
  split at hw
  · rename_i d e
    obtain ⟨v, e', r⟩ := hE.get e
    exact ⟨v, e', k _ _ _ _ hw r hS .rfl⟩
  · exact hw.elim
theorem dv (i : Nat) {x : Str} {pos : Pos} (a : X.N[i]? = some x := by rfl)
    (b : Vis X.env.scope x := by first | exact Or.inl rfl | exact Or.inr (Or.inl rfl) | exact Or.inr (Or.inr rfl))
    (c : (x == ("__debug__" : Str)) = false := by decide) (d : (x == ("__classdict__" : Str)) = false := by decide) : PE X (.Name x pos) (tE X.K (wVar i)) := dVar (pv i a b c d)
theorem dC {e : Expr} {d : D} {v : V} (h : PE X e (tC v)) (r : ∀ H, RV X.K H d v) : PE X e (tE X.K (wC d)) := imE h fun σ H Q ⟨ρ, S, Q0, hE, hS, hw, k⟩ => k _ _ _ _ hw (r H) hS .rfl
theorem dInt {i j} : PE X (.Constant (.int i) j pos) (tE X.K (wC (.int i))) := dC pe_int fun _ => .int i
theorem dBl {i j} : PE X (.Constant (.bool i) j pos) (tE X.K (wC (.bl i))) := dC pe_bl fun _ => .bl i
theorem dNon {j} : PE X (.Constant .none j pos) (tE X.K (wC .non)) := dC pe_non fun _ => .non
theorem dStr {x j} : PE X (.Constant (.str x) j pos) (tE X.K (wC (.str x))) := dC pe_str fun _ => .str x

/-! ### operators by data -/
abbrev G2 := D → D → Ss → WK → Prop
def l2 (K : PySem.W.Frag) (g : G2) : R2 := fun x y H Q => ∃ d e S Q0, RV K H d x ∧ RV K H e y ∧ RS K H S ∧ g d e S Q0 ∧ Kont K H Q0 Q
def w2 (g : G2) (wa wb : WE) : WE := fun ρ S Q => wa ρ S fun x S1 => wb ρ S1 fun y S2 => g x y S2 Q
theorem red2 {g : G2} {wa wb : WE} {σ : Sg} {H : Hp} {Q : VK} (h : tE X.K (w2 g wa wb) σ H Q) : tOp (l2 X.K g) (tE X.K wa) (tE X.K wb) σ H Q := by
  obtain ⟨ρ, S, Q0, hE, hS, hw, k⟩ := h
  exact ⟨ρ, S, _, hE, hS, hw, fun x S1 v1 H1 hw1 r1 hS1 p1 => ⟨ρ, S1, _, hE.mono p1, hS1, hw1, fun y S2 v2 H2 hw2 r2 hS2 p2 => ⟨x, y, S2, Q0, r1.mono p2, r2, hS2, hw2, k.mono (p1.trans p2)⟩⟩⟩
theorem dOp {op : Operator} {g : G2} {a b : Expr} {wa wb : WE} (ho : OpR X (binaryOp op) (l2 X.K g)) (ha : PE X a (tE X.K wa)) (hb : PE X b (tE X.K wb)) : PE X (.BinOp a op b pos) (tE X.K (w2 g wa wb)) := imE (pe_op ho ha hb) fun _ _ _ h => red2 h
theorem dCmp {op : CmpOp} {g : G2} {a b : Expr} {wa wb : WE} (ho : OpR X (compareOp op) (l2 X.K g)) (ha : PE X a (tE X.K wa)) (hb : PE X b (tE X.K wb)) (hm : behindInMarks op b = false) : PE X (.Compare a [op] [b] pos) (tE X.K (w2 g wa wb)) := imE (pe_cmpR ho ha hb hm) fun _ _ _ h => red2 h
/-- a value that is a bool, as a test -/
def wB (w : WE) : WT := fun ρ S Q => w ρ S fun d S1 => match d with
  | .bl b => Q b S1
  | _ => False
theorem redB {w : WE} {t : TE} {σ : Sg} {H : Hp} {Q : Bool → Hp → Prop} (h : tT X.K (wB w) σ H Q) (f : ∀ Q', tE X.K w σ H Q' → t σ H Q') : t σ H (fun x H1 => ∃ c, x = .bl c ∧ Q c H1) := by
  obtain ⟨ρ, S, Q0, hE, hS, hw, k⟩ := h
  refine f _ ⟨ρ, S, _, hE, hS, hw, fun d S' v H' hq r hS' p => ?_⟩
  cases d with
  | bl b => exact ⟨b, r.ofBl, k _ _ _ hq hS' p⟩
  | _ => exact hq.elim
theorem dtVal {e : Expr} {w : WE} (h : PE X e (tE X.K w)) (he : ∀ whole, isTrue e X.env whole = (do let v ← whole; standAt e.pos; holding [v] (truthy v)) := by intro _; rfl) : PT X e (tT X.K (wB w)) :=
  imT (pt_val h he) fun _ _ _ q => redB q fun _ z => z
theorem dtCmp {op : CmpOp} {g : G2} {a b : Expr} {wa wb : WE} (ho : OpR X (compareOp op) (l2 X.K g)) (ha : PE X a (tE X.K wa)) (hb : PE X b (tE X.K wb)) (hm : behindInMarks op b = false) : PT X (.Compare a [op] [b] pos) (tT X.K (wB (w2 g wa wb))) :=
  imT (pt_cmpR ho ha hb hm) fun _ _ _ q => redB q fun _ z => red2 z
theorem imO {f : Value → Value → Sem Value} {r r' : R2} (h : OpR X f r) (q : ∀ x y H Q, r' x y H Q → r x y H Q) : OpR X f r' := fun pins s σ H x y v u Q I rx ry z => h pins s σ H x y v u Q I rx ry (q _ _ _ _ z)

/-! ### ints -/
def gInt (C : Int → Int → Prop) (f : Int → Int → Int) : G2 := fun x y S Q => match x, y with
  | .int i, .int j => C i j ∧ Q (.int (f i j)) S
  | _, _ => False
def gInt0 (f : Int → Int → Int) : G2 := fun x y S Q => match x, y with
  | .int i, .int j => Q (.int (f i j)) S
  | _, _ => False
def gRel (p : Int → Int → Bool) : G2 := fun x y S Q => match x, y with
  | .int i, .int j => Q (.bl (p i j)) S
  | _, _ => False
theorem gInt_ok {f : Value → Value → Sem Value} {C : Int → Int → Prop} {g : Int → Int → Int} (h : OpR X f (rI C fun i j => .int (g i j))) : OpR X f (l2 X.K (gInt C g)) := imO h fun x y H Q ⟨d, e, S, Q0, r1, r2, hS, hg, k⟩ => by
  cases d with
  | int i =>
    cases e with
    | int j => exact ⟨i, j, r1.ofInt, r2.ofInt, hg.1, k _ _ _ _ hg.2 (.int _) hS .rfl⟩
    | _ => exact hg.elim
  | _ => exact hg.elim
theorem gInt0_ok {f : Value → Value → Sem Value} {g : Int → Int → Int} (h : OpR X f (rI0 fun i j => .int (g i j))) : OpR X f (l2 X.K (gInt0 g)) := imO h fun x y H Q ⟨d, e, S, Q0, r1, r2, hS, hg, k⟩ => by
  cases d with
  | int i =>
    cases e with
    | int j => exact ⟨i, j, r1.ofInt, r2.ofInt, k _ _ _ _ hg (.int _) hS .rfl⟩
    | _ => exact hg.elim
  | _ => exact hg.elim
theorem gRel_ok {f : Value → Value → Sem Value} {p : Int → Int → Bool} (h : OpR X f (rI0 fun i j => .bl (p i j))) : OpR X f (l2 X.K (gRel p)) := imO h fun x y H Q ⟨d, e, S, Q0, r1, r2, hS, hg, k⟩ => by
  cases d with
  | int i =>
    cases e with
    | int j => exact ⟨i, j, r1.ofInt, r2.ofInt, k _ _ _ _ hg (.bl _) hS .rfl⟩
    | _ => exact hg.elim
  | _ => exact hg.elim
theorem o_sub : OpR X (binaryOp .Sub) (l2 X.K (gInt0 fun i j => i - j)) := gInt0_ok op_sub
theorem o_mod : OpR X (binaryOp .Mod) (l2 X.K (gInt (fun _ j => 0 < j) fun i j => i % j)) := gInt_ok op_mod
theorem o_fdiv : OpR X (binaryOp .FloorDiv) (l2 X.K (gInt CDiv fun i j => i / j)) := gInt_ok op_fdiv
theorem o_pow : OpR X (binaryOp .Pow) (l2 X.K (gInt CPow fun i j => i ^ j.toNat)) := gInt_ok op_pow
theorem o_lt : OpR X (compareOp .Lt) (l2 X.K (gRel fun i j => decide (i < j))) := gRel_ok op_lt
theorem o_le : OpR X (compareOp .LtE) (l2 X.K (gRel fun i j => decide (i ≤ j))) := gRel_ok op_le
theorem o_gt : OpR X (compareOp .Gt) (l2 X.K (gRel fun i j => decide (j < i))) := gRel_ok op_gt
theorem o_ge : OpR X (compareOp .GtE) (l2 X.K (gRel fun i j => decide (j ≤ i))) := gRel_ok op_ge

/-! ### + : ints, texts, tuples, lists; * : ints, lists -/
def gAdd : G2 := fun x y S Q => match x, y with
  | .int i, .int j => Q (.int (i + j)) S
  | .str i, .str j => i.length + j.length ≤ sizeLine ∧ Q (.str (i ++ j)) S
  | .tup xs, .tup ys => xs.length + ys.length ≤ sizeLine ∧ Q (.tup (xs ++ ys)) S
  | .ptr a, .ptr b => match S a, S b with
    | some (.lst xs), some (.lst ys) => xs.length + ys.length ≤ sizeLine ∧ ∀ p, S p = none → Q (.ptr p) (supd S p (.lst (xs ++ ys)))
    | _, _ => False
  | _, _ => False
theorem o_add : OpR X (binaryOp .Add) (l2 X.K gAdd) := imO (op_add.or (op_add_str.or (op_catA.or op_cat))) fun x y H Q ⟨d, e, S, Q0, r1, r2, hS, hg, k⟩ => by
  unfold gAdd at hg
  split at hg
  · exact .inl ⟨_, _, r1.ofInt, r2.ofInt, k _ _ _ _ hg (.int _) hS .rfl⟩
  · exact .inr (.inl ⟨_, _, r1.ofStr, r2.ofStr, hg.1, k _ _ _ _ hg.2 (.str _) hS .rfl⟩)
  · rename_i xs ys
    obtain ⟨a, vs, e1, h1, q1⟩ := r1.ofTup
    obtain ⟨b, ws, e2, h2, q2⟩ := r2.ofTup
    have s1 : SqT X.K H a vs := h1.elim SqT.of fun q => q.2
    have s2 : SqT X.K H b ws := h2.elim SqT.of fun q => q.2
    have q := q1.append q2
    refine .inr (.inr (.inl ⟨a, b, vs, ws, e1, e2, s1, s2, by rw [← q1.length, ← q2.length]; exact hg.1, fun ee => ?_, fun ee => ?_, fun _ _ p hp => ?_⟩))
    · have ex : xs = [] := List.eq_nil_of_length_eq_zero (by rw [q1.length, ee]; rfl)
      subst ex
      rw [← e2]
      exact k _ _ _ _ hg.2 r2 hS .rfl
    · intro ey
      have ex : ys = [] := List.eq_nil_of_length_eq_zero (by rw [q2.length, ey]; rfl)
      subst ex
      rw [← e1]
      refine k _ _ _ _ hg.2 ?_ hS .rfl
      rw [List.append_nil]
      exact r1
    · exact k _ _ _ _ hg.2 (.tup upd_same (q.mono (Fre.new hp).pst)) (hS.keep hp) (Fre.new hp).pst
  · split at hg
    · rename_i e1 e2
      obtain ⟨vs, h1, q1⟩ := hS.lst e1
      obtain ⟨ws, h2, q2⟩ := hS.lst e2
      refine .inr (.inr (.inr ⟨_, _, vs, ws, r1.ofPtr, r2.ofPtr, h1, h2, by rw [← q1.length, ← q2.length]; exact hg.1, fun p hp => ?_⟩))
      exact k _ _ _ _ (hg.2 p (hS.fresh hp)) (.ptr p) (hS.upd (.new hp) (.lstUpd (.new hp) (q1.append q2))) (Fre.new hp).pst
    · exact hg.elim
  · exact hg.elim
end
end Dl

/-! Dl2: equality of data, displays, subscripts, dicts. -/
namespace Dl
open PySem PySem.Spec PyProof.Rows L2

/-! ### equality of data -/
mutual
/-- as plain data; lists of the store one level deep come with pyOf -/
def D.py : D → PyData
  | .non => .none
  | .bl b => .bool b
  | .int i => .int i
  | .str x => .str x
  | .tup xs => .tuple (pys xs)
  | .ptr _ => .none
  | .klst _ => .none
def pys : List D → List PyData
  | [] => []
  | x :: xs => x.py :: pys xs
end
mutual
/-- no thing of the store within, texts as they may be -/
def D.pure : D → Bool
  | .ptr _ => false
  | .klst _ => false
  | .str x => (PyData.str x).canLay0
  | .tup xs => pures xs
  | _ => true
def pures : List D → Bool
  | [] => true
  | x :: xs => x.pure && pures xs
end
def seqAt (S : Ss) (a : Addr) : Option (List D) := match S a with
  | some (.lst xs) => some xs
  | some (.ro xs) => some xs
  | _ => none
def seqOf (S : Ss) : D → Option (List D)
  | .tup xs => some xs
  | .ptr a => seqAt S a
  | .klst xs => some xs
  | _ => none
/-- what == sees -/
def pyOf (S : Ss) : D → Option PyData
  | .ptr a => match seqAt S a with
    | some xs => if pures xs = true then some (.list (pys xs)) else none
    | none => none
  | d => if d.pure = true then some d.py else none
section
variable {K : PySem.W.Frag} {H : Hp} {S : Ss}
theorem seqAt_ok (h : RS K H S) {a : Addr} {xs : List D} (e : seqAt S a = some xs) : ∃ vs, SqL K H a vs ∧ RVs K H xs vs := by
  unfold seqAt at e
  split at e
  · rename_i ys ey
    cases e
    obtain ⟨vs, h1, h2⟩ := h.lst ey
    exact ⟨vs, SqL.of h1, h2⟩
  · rename_i ys ey
    cases e
    obtain ⟨vs, h1, h2⟩ := h a _ ey
    exact ⟨vs, .inl h1, h2⟩
  · cases e
mutual
theorem RV.dp : ∀ (d : D) (v : V), RV K H d v → d.pure = true → Dp K H v d.py
  | .non, v, h, _ => by rw [h.ofNon, D.py]; exact .non
  | .bl b, v, h, _ => by rw [h.ofBl, D.py]; exact .bl b
  | .int i, v, h, _ => by rw [h.ofInt, D.py]; exact .int i
  | .str x, v, h, _ => by rw [h.ofStr, D.py]; exact .str x
  | .tup xs, v, h, p => by
    obtain ⟨a, vs, e, s, r⟩ := h.ofTupS
    rw [e, D.py]
    exact .tup s (RVs.dp xs vs r (by rw [D.pure] at p; exact p))
  | .ptr a, v, h, p => by
    rw [D.pure] at p
    cases p
  | .klst a, v, h, p => by
    rw [D.pure] at p
    cases p
theorem RVs.dp : ∀ (ds : List D) (vs : List V), RVs K H ds vs → pures ds = true → DpAll K H vs (pys ds)
  | [], vs, h, _ => by rw [h.ofNil, pys]; exact .nil
  | d :: ds, vs, h, p => by
    obtain ⟨v, ws, e, r, t⟩ := h.ofCons
    rw [pures, Bool.and_eq_true] at p
    rw [e, pys]
    exact .cons (RV.dp d v r p.1) (RVs.dp ds ws t p.2)
end
mutual
theorem lay_of : ∀ d : D, d.pure = true → d.py.canLay0 = true
  | .non, _ => by rw [D.py, PyData.canLay0]
  | .bl b, _ => by rw [D.py, PyData.canLay0]
  | .int i, _ => by rw [D.py, PyData.canLay0]
  | .str x, p => by
    rw [D.pure] at p
    rw [D.py]
    exact p
  | .tup xs, p => by
    rw [D.pure] at p
    rw [D.py, PyData.canLay0]
    exact lays_of xs p
  | .ptr a, p => by rw [D.py, PyData.canLay0]
  | .klst a, p => by rw [D.py, PyData.canLay0]
theorem lays_of : ∀ ds : List D, pures ds = true → PyData.canLayAll0 (pys ds) = true
  | [], _ => by rw [pys, PyData.canLayAll0]
  | d :: ds, p => by
    rw [pures, Bool.and_eq_true] at p
    rw [pys, PyData.canLayAll0, lay_of d p.1, lays_of ds p.2]
    rfl
end
theorem pyOf_ok (h : RS K H S) {d : D} {v : V} {y : PyData} (r : RV K H d v) (e : pyOf S d = some y) : Dp K H v y ∧ y.canLay0 = true := by
  have plain : ∀ d : D, RV K H d v → (if d.pure = true then some d.py else none) = some y → Dp K H v y ∧ y.canLay0 = true := fun d r e => by
    split at e
    · rename_i p
      cases e
      exact ⟨RV.dp d v r p, lay_of d p⟩
    · cases e
  cases d with
  | ptr a =>
    have e' : (match seqAt S a with
      | some xs => if pures xs = true then some (PyData.list (pys xs)) else none
      | none => none) = some y := e
    cases hs : seqAt S a with
    | none =>
      rw [hs] at e'
      exact nomatch e'
    | some xs =>
      rw [hs] at e'
      by_cases p : pures xs = true
      · have e2 : (if pures xs = true then some (PyData.list (pys xs)) else none) = some y := e'
        rw [if_pos p] at e2
        cases e2
        obtain ⟨vs, h1, h2⟩ := seqAt_ok h hs
        rw [r.ofPtr]
        exact ⟨.lst h1 (RVs.dp xs vs h2 p), by rw [PyData.canLay0]; exact lays_of xs p⟩
      · have e2 : (if pures xs = true then some (PyData.list (pys xs)) else none) = some y := e'
        rw [if_neg p] at e2
        exact nomatch e2
  | non => exact plain _ r e
  | bl b => exact plain _ r e
  | int i => exact plain _ r e
  | str x => exact plain _ r e
  | tup xs => exact plain _ r e
  | klst xs => exact plain _ r e
end
def gEq (neg : Bool) : G2 := fun x y S Q => ∃ a b, pyOf S x = some a ∧ pyOf S y = some b ∧ a.depth ≤ 64 ∧ b.depth ≤ 64 ∧ Q (.bl (if neg = true then !PyData.eqv a b else PyData.eqv a b)) S
section
variable {X : Cx} {pos : Pos}
theorem o_eq (hu : X.A.units + 64 < cLine) : OpR X (compareOp .Eq) (l2 X.K (gEq false)) := imO (op_eqD hu) fun x y H Q ⟨d, e, S, Q0, r1, r2, hS, ⟨a, b, ea, eb, da, db, q⟩, k⟩ => by
  obtain ⟨p1, l1⟩ := pyOf_ok hS r1 ea
  obtain ⟨p2, l2⟩ := pyOf_ok hS r2 eb
  exact ⟨a, b, p1, p2, by unfold SeqAt.shaped; rw [l1, decide_eq_true da]; rfl, by unfold SeqAt.shaped; rw [l2, decide_eq_true db]; rfl, k _ _ _ _ q (.bl _) hS .rfl⟩
theorem o_ne (hu : X.A.units + 64 < cLine) : OpR X (compareOp .NotEq) (l2 X.K (gEq true)) := imO (op_neD hu) fun x y H Q ⟨d, e, S, Q0, r1, r2, hS, ⟨a, b, ea, eb, da, db, q⟩, k⟩ => by
  obtain ⟨p1, l1⟩ := pyOf_ok hS r1 ea
  obtain ⟨p2, l2⟩ := pyOf_ok hS r2 eb
  exact ⟨a, b, p1, p2, by unfold SeqAt.shaped; rw [l1, decide_eq_true da]; rfl, by unfold SeqAt.shaped; rw [l2, decide_eq_true db]; rfl, k _ _ _ _ q (.bl _) hS .rfl⟩

/-! ### argument lists, displays -/
def wNil : WA := fun _ S Q => Q [] S
def wCons (w : WE) (r : WA) : WA := fun ρ S Q => w ρ S fun d S1 => r ρ S1 fun ds S2 => Q (d :: ds) S2
theorem daNil : PA X [] (tA X.K wNil) := imA pa_nil fun σ H Q ⟨ρ, S, Q0, hE, hS, hw, k⟩ => k _ _ _ _ hw .nil hS .rfl
theorem daCons {e : Expr} {es : List Expr} {w : WE} {r : WA} (h : PE X e (tE X.K w)) (t : PA X es (tA X.K r)) (hs : starEach (e :: es) X.env = (false, eval e X.env) :: starEach es X.env := by rfl) : PA X (e :: es) (tA X.K (wCons w r)) :=
  imA (pa_cons h t hs) fun σ H Q ⟨ρ, S, Q0, hE, hS, hw, k⟩ => ⟨ρ, S, _, hE, hS, hw, fun d S1 v H1 q1 r1 hS1 p1 =>
    ⟨ρ, S1, _, hE.mono p1, hS1, q1, fun ds S2 vs H2 q2 r2 hS2 p2 => k _ _ _ _ q2 (.cons (r1.mono p2) r2) hS2 (p1.trans p2)⟩⟩
def wTup (w : WA) : WE := fun ρ S Q => w ρ S fun ds S1 => ds.length ≤ sizeLine ∧ Q (.tup ds) S1
def wLst (w : WA) : WE := fun ρ S Q => w ρ S fun ds S1 => ds.length ≤ sizeLine ∧ ∀ p, S1 p = none → Q (.ptr p) (supd S1 p (.lst ds))
theorem dTup {es : List Expr} {w : WA} {x1} (h : PA X es (tA X.K w)) : PE X (.Tuple es x1 pos) (tE X.K (wTup w)) := imE (pe_tup h) fun σ H Q ⟨ρ, S, Q0, hE, hS, hw, k⟩ =>
  ⟨ρ, S, _, hE, hS, hw, fun ds S1 vs H1 q r hS1 p => ⟨by rw [← r.length]; exact q.1, fun a ha => k _ _ _ _ q.2 (.tup upd_same (r.mono (Fre.new ha).pst)) (hS1.keep ha) (p.trans (Fre.new ha).pst)⟩⟩
theorem dLst {es : List Expr} {w : WA} (h : PA X es (tA X.K w)) : PE X (.List es pos) (tE X.K (wLst w)) := imE (pe_lst h) fun σ H Q ⟨ρ, S, Q0, hE, hS, hw, k⟩ =>
  ⟨ρ, S, _, hE, hS, hw, fun ds S1 vs H1 q r hS1 p => ⟨by rw [← r.length]; exact q.1, fun a ha =>
    k _ _ _ _ (q.2 a (hS1.fresh ha)) (.ptr a) (hS1.upd (.new ha) (.lstUpd (.new ha) r)) (p.trans (Fre.new ha).pst)⟩⟩
def wDK : WE := fun _ S Q => ∀ p, S p = none → Q (.ptr p) (supd S p (.dK []))
def wDT : WE := fun _ S Q => ∀ p, S p = none → Q (.ptr p) (supd S p (.dT []))
theorem dDK : PE X (.Dict [] [] pos) (tE X.K wDK) := imE pe_dnewK fun σ H Q ⟨ρ, S, Q0, hE, hS, hw, k⟩ a ha =>
  k _ _ _ _ (hw a (hS.fresh ha)) (.ptr a) (hS.upd (.new ha) ⟨_, upd_same, .nil⟩) (Fre.new ha).pst
theorem dDT : PE X (.Dict [] [] pos) (tE X.K wDT) := imE pe_dnewT fun σ H Q ⟨ρ, S, Q0, hE, hS, hw, k⟩ a ha =>
  k _ _ _ _ (hw a (hS.fresh ha)) (.ptr a) (hS.upd (.new ha) ⟨_, upd_same, .nil⟩) (Fre.new ha).pst

/-! ### subscripts of sequences -/
theorem seqOf_ok {K : PySem.W.Frag} {H : Hp} {S : Ss} (h : RS K H S) {d : D} {v : V} {xs : List D} (r : RV K H d v) (e : seqOf S d = some xs) : ∃ a vs, v = .ref a ∧ (SqL K H a vs ∨ SqT K H a vs) ∧ RVs K H xs vs := by
  cases d with
  | tup ys =>
    cases e
    obtain ⟨a, vs, e1, s, q⟩ := r.ofTupS
    exact ⟨a, vs, e1, .inr s, q⟩
  | ptr a =>
    obtain ⟨vs, h1, h2⟩ := seqAt_ok h e
    exact ⟨a, vs, r.ofPtr, .inl h1, h2⟩
  | klst ys =>
    cases e
    obtain ⟨a, vs, e1, s, q⟩ := r.ofKl
    exact ⟨a, vs, e1, .inl (s H), q⟩
  | _ => cases e
theorem RVs.atI {K : PySem.W.Frag} {H : Hp} {ds : List D} {vs : List V} {i : Int} {d : D} (r : RVs K H ds vs) (h : L2.atI ds i = some d) : ∃ v, L2.atI vs i = some v ∧ RV K H d v := by
  unfold L2.atI at h ⊢
  rw [← r.length]
  obtain ⟨j, h1, h2⟩ := Option.bind_eq_some_iff.mp h
  obtain ⟨v, h3, h4⟩ := r.get h2
  exact ⟨v, Option.bind_eq_some_iff.mpr ⟨j, h1, h3⟩, h4⟩
/-- the item of a list or tuple -/
def ixAt (S : Ss) (x : D) (i : Int) : Option D := (seqOf S x).bind fun xs => L2.atI xs i
/-- x[i] of a list or tuple; of a text -/
def gIx : G2 := fun x y S Q => match x, y with
  | .str z, .int i => z.length ≤ sizeLine ∧ ifS (L2.atI z.cps.toList i) fun c => Q (.str ⟨#[c]⟩) S
  | x, .int i => ifS (ixAt S x i) fun d => Q d S
  | _, _ => False
theorem gIx_seq {X : Cx} {x : D} {i : Int} {S : Ss} {Q0 : WK} {v : V} {H : Hp} {Q : VK} {xs : List D} {d : D} (hS : RS X.K H S) (r1 : RV X.K H x v) (e1 : seqOf S x = some xs) (e2 : L2.atI xs i = some d) (q : Q0 d S) (k : Kont X.K H Q0 Q) : rIx X.K v (.int i) H Q := by
  obtain ⟨a, vs, rfl, s, rr⟩ := seqOf_ok hS r1 e1
  obtain ⟨u, h1, h2⟩ := rr.atI e2
  have fin : Q u H := k _ _ _ _ q h2 hS .rfl
  rcases s with s | s
  · exact .inl ⟨a, vs, i, u, rfl, rfl, s, h1, fin⟩
  · exact .inr (.inl ⟨a, vs, i, u, rfl, rfl, s, h1, fin⟩)
theorem dIx {a b : Expr} {wa wb : WE} (ha : PE X a (tE X.K wa)) (hb : PE X b (tE X.K wb)) (hs : PlainIx b) : PE X (.Subscript a b pos) (tE X.K (w2 gIx wa wb)) := imE (pe_ix ix_seq ha hb hs) fun σ H Q h => by
  obtain ⟨ρ, S, Q0, hE, hS, hw, k⟩ := h
  refine ⟨ρ, S, _, hE, hS, hw, fun x S1 v1 H1 hw1 r1 hS1 p1 => ⟨ρ, S1, _, hE.mono p1, hS1, hw1, fun y S2 v2 H2 hw2 r2 hS2 p2 => ?_⟩⟩
  have k' := k.mono (p1.trans p2)
  have r1' := r1.mono p2
  unfold gIx at hw2
  split at hw2
  · obtain ⟨hz, hw2⟩ := hw2
    obtain ⟨c, e, q⟩ := hw2.ex
    rw [r1'.ofStr, r2.ofInt]
    exact .inr (.inr ⟨_, _, c, rfl, rfl, hz, e, k' _ _ _ _ q (.str _) hS2 .rfl⟩)
  · obtain ⟨d, e, q⟩ := hw2.ex
    obtain ⟨xs, e1, e2⟩ := Option.bind_eq_some_iff.mp e
    rw [r2.ofInt]
    exact gIx_seq hS2 r1' e1 e2 q k'
  · exact hw2.elim

/-! ### dicts -/
def dval {κ : Type} [DecidableEq κ] (kvs : List (κ × D)) (k : κ) : Option D := (kvs.find? fun kv => decide (kv.1 = k)).map (·.2)
def dput {κ : Type} [DecidableEq κ] (kvs : List (κ × D)) (k : κ) (v : D) : List (κ × D) :=
  if (kvs.any fun kv => decide (kv.1 = k)) = true then kvs.map fun kv => if kv.1 = k then (kv.1, v) else kv else kvs ++ [(k, v)]
def ddrop {κ : Type} [DecidableEq κ] (kvs : List (κ × D)) (k : κ) : List (κ × D) := kvs.filter fun kv => decide (kv.1 ≠ k)
section
variable {K : PySem.W.Frag} {H : Hp} {κ : Type} [DecidableEq κ]
theorem RKV.length {kvs : List (κ × D)} {ws : List (κ × V)} (h : RKV K H kvs ws) : kvs.length = ws.length := Paired.length h
theorem RKV.val {kvs : List (κ × D)} {ws : List (κ × V)} (h : RKV K H kvs ws) (k : κ) : (∀ d, dval kvs k = some d → ∃ v, valV ws k = some v ∧ RV K H d v) ∧ (dval kvs k = none → valV ws k = none) := by
  induction h with
  | nil => exact ⟨fun d e => (nomatch e), fun _ => rfl⟩
  | @cons p q l₁ l₂ hpq t ih =>
    obtain ⟨e, r⟩ := hpq
    by_cases hk : p.1 = k
    · have e1 : dval (p :: l₁) k = some p.2 := by simp [dval, List.find?_cons, hk]
      have e2 : valV (q :: l₂) k = some q.2 := valV_pos (e.symm.trans hk)
      rw [e1, e2]
      exact ⟨fun d ed => ⟨q.2, rfl, by cases ed; exact r⟩, fun z => (nomatch z)⟩
    · have e1 : dval (p :: l₁) k = dval l₁ k := by simp [dval, List.find?_cons, hk]
      have e2 : valV (q :: l₂) k = valV l₂ k := valV_neg fun z => hk (e.trans z)
      rw [e1, e2]
      exact ih
theorem RKV.any {kvs : List (κ × D)} {ws : List (κ × V)} (h : RKV K H kvs ws) (k : κ) : (kvs.any fun kv => decide (kv.1 = k)) = ws.any fun kv => decide (kv.1 = k) := by
  induction h with
  | nil => rfl
  | cons hpq t ih => rw [List.any_cons, List.any_cons, ih, hpq.1]
theorem RKV.app {kvs mvs : List (κ × D)} {ws zs : List (κ × V)} (h : RKV K H kvs ws) (t : RKV K H mvs zs) : RKV K H (kvs ++ mvs) (ws ++ zs) := by
  induction h with
  | nil => exact t
  | cons hpq q ih => exact .cons hpq ih
theorem RKV.map {kvs : List (κ × D)} {ws : List (κ × V)} (h : RKV K H kvs ws) (k : κ) {d : D} {v : V} (r : RV K H d v) :
    RKV K H (kvs.map fun kv => if kv.1 = k then (kv.1, d) else kv) (ws.map fun kv => if kv.1 = k then (kv.1, v) else kv) := by
  induction h with
  | nil => exact .nil
  | @cons p q l₁ l₂ hpq t ih =>
    rw [List.map_cons, List.map_cons]
    refine .cons ?_ ih
    by_cases hk : p.1 = k
    · rw [if_pos hk, if_pos (hpq.1.symm.trans hk)]
      exact ⟨hpq.1, r⟩
    · rw [if_neg hk, if_neg fun z => hk (hpq.1.trans z)]
      exact hpq
theorem RKV.put {kvs : List (κ × D)} {ws : List (κ × V)} (h : RKV K H kvs ws) (k : κ) {d : D} {v : V} (r : RV K H d v) : RKV K H (dput kvs k d) (putK ws k v) := by
  have e := h.any k
  unfold dput putK
  by_cases q : (kvs.any fun kv => decide (kv.1 = k)) = true
  · rw [if_pos q, if_pos (by rw [← e]; exact q)]
    exact h.map k r
  · rw [if_neg q, if_neg (by rw [← e]; exact q)]
    exact h.app (.cons ⟨rfl, r⟩ .nil)
theorem RKV.drop {kvs : List (κ × D)} {ws : List (κ × V)} (h : RKV K H kvs ws) (k : κ) : RKV K H (ddrop kvs k) (dropK ws k) := by
  unfold ddrop dropK
  induction h with
  | nil => exact .nil
  | @cons p q l₁ l₂ hpq t ih =>
    rw [List.filter_cons, List.filter_cons, hpq.1]
    split
    · exact .cons hpq ih
    · exact ih
end
/-- a key -/
def D.key : D → Option Key
  | .int i => some (.inl i)
  | .str x => some (.inr x)
  | _ => none
def keysOf : List D → Option (List Key)
  | [] => some []
  | d :: ds => match d.key, keysOf ds with
    | some k, some ks => some (k :: ks)
    | _, _ => none
def kD : Key → D
  | .inl i => .int i
  | .inr x => .str x
/-- a tuple that is a key -/
def D.keys : D → Option (List Key)
  | .tup (d :: ds) => keysOf (d :: ds)
  | _ => none
section
variable {K : PySem.W.Frag} {H : Hp}
theorem key_ok {d : D} {k : Key} {v : V} (e : d.key = some k) (r : RV K H d v) : v = kV k := by
  cases d with
  | int i => cases e; exact r.ofInt
  | str x => cases e; exact r.ofStr
  | _ => cases e
theorem keysOf_ok : ∀ {ds : List D} {ks : List Key} {vs : List V}, keysOf ds = some ks → RVs K H ds vs → vs = ks.map kV ∧ (ds.any fun d => !d.flat) = false
  | [], ks, vs, e, r => by
    cases e
    exact ⟨r.ofNil, rfl⟩
  | d :: ds, ks, vs, e, r => by
    obtain ⟨v, ws, rfl, r1, r2⟩ := r.ofCons
    unfold keysOf at e
    split at e
    · rename_i k kr e1 e2
      cases e
      obtain ⟨h1, h2⟩ := keysOf_ok e2 r2
      refine ⟨by rw [key_ok e1 r1, h1]; rfl, ?_⟩
      rw [List.any_cons, h2]
      cases d with
      | int i => rfl
      | str x => rfl
      | _ => cases e1
    · cases e
theorem keys_ok {d : D} {ks : List Key} {v : V} (e : d.keys = some ks) (r : RV K H d v) : ∃ b, v = .ref b ∧ H b = some (.tup (ks.map kV)) := by
  cases d with
  | tup ds =>
    cases ds with
    | nil => cases e
    | cons d ds =>
      obtain ⟨a, vs, rfl, h, q⟩ := r.ofTup
      obtain ⟨h1, h2⟩ := keysOf_ok (show keysOf (d :: ds) = some ks from e) q
      subst h1
      rcases h with h | ⟨n, _⟩
      · exact ⟨a, rfl, h⟩
      · unfold nflat at n
        rw [h2] at n
        cases n
  | _ => cases e
end
/-- what d holds at y -/
def dgot (S : Ss) (x y : D) : Option (Option D) := match x with
  | .ptr a => match S a with
    | some (.dK kvs) => y.key.map (dval kvs)
    | some (.dT kvs) => y.keys.map (dval kvs)
    | _ => none
  | _ => none
theorem dgot_ok {K : PySem.W.Frag} {H : Hp} {S : Ss} (hS : RS K H S) {x y : D} {v u : V} {o : Option D} (r1 : RV K H x v) (r2 : RV K H y u) (e : dgot S x y = some o) :
    ∃ a q, v = .ref a ∧ DGet H a u q ∧ (∀ d, o = some d → ∃ z, q = some z ∧ RV K H d z) ∧ (o = none → q = none) := by
  unfold dgot at e
  split at e
  · rename_i a
    split at e
    · rename_i kvs es
      obtain ⟨ws, h1, h2⟩ := hS _ _ es
      obtain ⟨k, ek, eo⟩ := Option.map_eq_some_iff.mp e
      rw [key_ok ek r2]
      have q := h2.val k
      subst eo
      exact ⟨a, valV ws k, r1.ofPtr, DGet.k h1, q.1, q.2⟩
    · rename_i kvs es
      obtain ⟨ws, h1, h2⟩ := hS _ _ es
      obtain ⟨k, ek, eo⟩ := Option.map_eq_some_iff.mp e
      obtain ⟨b, eb, hb⟩ := keys_ok ek r2
      rw [eb]
      have q := h2.val k
      subst eo
      exact ⟨a, valV ws k, r1.ofPtr, DGet.t h1 hb, q.1, q.2⟩
    · cases e
  · cases e
/-- the store behind d[y] = z -/
def dset (S : Ss) (x y z : D) : Option Ss := match x with
  | .ptr a => match S a with
    | some (.dK kvs) => if kvs.length < sizeLine then y.key.map fun k => supd S a (.dK (dput kvs k z)) else none
    | some (.dT kvs) => if kvs.length < sizeLine then y.keys.map fun k => supd S a (.dT (dput kvs k z)) else none
    | _ => none
  | _ => none
theorem dset_ok {K : PySem.W.Frag} {H : Hp} {S S' : Ss} (hS : RS K H S) {x y z : D} {v u t : V} (r1 : RV K H x v) (r2 : RV K H y u) (r3 : RV K H z t) (e : dset S x y z = some S') :
    ∃ a H', v = .ref a ∧ DPut H a u t H' ∧ RS K H' S' ∧ Pst H H' := by
  unfold dset at e
  split at e
  · rename_i a
    split at e
    · rename_i kvs es
      split at e
      · rename_i hl
        obtain ⟨ws, h1, h2⟩ := hS _ _ es
        obtain ⟨k, ek, eo⟩ := Option.map_eq_some_iff.mp e
        rw [key_ok ek r2]
        subst eo
        exact ⟨a, _, r1.ofPtr, DPut.k h1 (by rw [← h2.length]; exact hl), hS.upd (.dK h1) ⟨_, upd_same, (h2.put k r3).mono (Fre.dK h1).pst⟩, (Fre.dK h1).pst⟩
      · cases e
    · rename_i kvs es
      split at e
      · rename_i hl
        obtain ⟨ws, h1, h2⟩ := hS _ _ es
        obtain ⟨k, ek, eo⟩ := Option.map_eq_some_iff.mp e
        obtain ⟨b, eb, hb⟩ := keys_ok ek r2
        rw [eb]
        subst eo
        exact ⟨a, _, r1.ofPtr, DPut.t h1 hb (by rw [← h2.length]; exact hl), hS.upd (.dT h1) ⟨_, upd_same, (h2.put k r3).mono (Fre.dT h1).pst⟩, (Fre.dT h1).pst⟩
      · cases e
    · cases e
  · cases e
/-- d[y], there -/
def gGet : G2 := fun x y S Q => ifS (dgot S x y) fun o => ifS o fun z => Q z S
theorem dGet {o i : Expr} {wo wi : WE} (hu : X.A.units + 1 < cLine) (ho : PE X o (tE X.K wo)) (hi : PE X i (tE X.K wi)) (hs : NoSl i) : PE X (.Subscript o i pos) (tE X.K (w2 gGet wo wi)) := imE (pe_dget hu ho hi hs) fun σ H Q ⟨ρ, S, Q0, hE, hS, hw, k⟩ =>
  ⟨ρ, S, _, hE, hS, hw, fun x S1 v1 H1 hw1 r1 hS1 p1 => ⟨ρ, S1, _, hE.mono p1, hS1, hw1, fun y S2 v2 H2 hw2 r2 hS2 p2 => by
    obtain ⟨oz, e, q⟩ := hw2.ex
    obtain ⟨z, ez, q⟩ := q.ex
    subst ez
    obtain ⟨a, o, ea, g, h1, _⟩ := dgot_ok hS2 (r1.mono p2) r2 e
    obtain ⟨t, et, rt⟩ := h1 z rfl
    subst et
    exact ⟨a, t, ea, g, k.mono (p1.trans p2) _ _ _ _ q rt hS2 .rfl⟩⟩⟩
/-- y in d, y not in d -/
def gInD (neg : Bool) : G2 := fun y x S Q => ifS (dgot S x y) fun o => Q (.bl (if neg = true then !o.isSome else o.isSome)) S
theorem dgot_some {K : PySem.W.Frag} {H : Hp} {o : Option D} {q : Option V} (h1 : ∀ d, o = some d → ∃ z, q = some z ∧ RV K H d z) (h2 : o = none → q = none) : q.isSome = o.isSome := by
  cases o with
  | none => rw [h2 rfl]; rfl
  | some d =>
    obtain ⟨z, e, _⟩ := h1 d rfl
    rw [e]
    rfl
theorem dInD' {o i : Expr} {wo wi : WE} (hu : X.A.units + 1 < cLine) (hi : PE X i (tE X.K wi)) (ho : PE X o (tE X.K wo)) {σ : Sg} {H : Hp} {Q : VK} (h : tE X.K (w2 (gInD false) wi wo) σ H Q) : tDIn (tE X.K wi) (tE X.K wo) σ H Q := by
  obtain ⟨ρ, S, Q0, hE, hS, hw, k⟩ := h
  refine ⟨ρ, S, _, hE, hS, hw, fun x S1 v1 H1 hw1 r1 hS1 p1 => ⟨ρ, S1, _, hE.mono p1, hS1, hw1, fun y S2 v2 H2 hw2 r2 hS2 p2 => ?_⟩⟩
  obtain ⟨o, e, q⟩ := hw2.ex
  obtain ⟨a, o', ea, g, h1, h2⟩ := dgot_ok hS2 r2 (r1.mono p2) e
  refine ⟨a, o', ea, g, ?_⟩
  rw [dgot_some h1 h2]
  exact k.mono (p1.trans p2) _ _ _ _ q (.bl _) hS2 .rfl
theorem dNotInD' {o i : Expr} {wo wi : WE} (hu : X.A.units + 1 < cLine) (hi : PE X i (tE X.K wi)) (ho : PE X o (tE X.K wo)) {σ : Sg} {H : Hp} {Q : VK} (h : tE X.K (w2 (gInD true) wi wo) σ H Q) : tDNotIn (tE X.K wi) (tE X.K wo) σ H Q := by
  obtain ⟨ρ, S, Q0, hE, hS, hw, k⟩ := h
  refine ⟨ρ, S, _, hE, hS, hw, fun x S1 v1 H1 hw1 r1 hS1 p1 => ⟨ρ, S1, _, hE.mono p1, hS1, hw1, fun y S2 v2 H2 hw2 r2 hS2 p2 => ?_⟩⟩
  obtain ⟨o, e, q⟩ := hw2.ex
  obtain ⟨a, o', ea, g, h1, h2⟩ := dgot_ok hS2 r2 (r1.mono p2) e
  refine ⟨a, o', ea, g, ?_⟩
  rw [dgot_some h1 h2]
  exact k.mono (p1.trans p2) _ _ _ _ q (.bl _) hS2 .rfl
theorem dInD {o i : Expr} {wo wi : WE} (hu : X.A.units + 1 < cLine) (hi : PE X i (tE X.K wi)) (ho : PE X o (tE X.K wo)) (hm : behindInMarks .In o = false := by rfl) : PE X (.Compare i [.In] [o] pos) (tE X.K (w2 (gInD false) wi wo)) := imE (pe_cmp (pc_din hu hi ho) hm) fun _ _ _ h => dInD' hu hi ho h
theorem dNotInD {o i : Expr} {wo wi : WE} (hu : X.A.units + 1 < cLine) (hi : PE X i (tE X.K wi)) (ho : PE X o (tE X.K wo)) (hm : behindInMarks .NotIn o = false := by rfl) : PE X (.Compare i [.NotIn] [o] pos) (tE X.K (w2 (gInD true) wi wo)) := imE (pe_cmp (pc_dnotin hu hi ho) hm) fun _ _ _ h => dNotInD' hu hi ho h
theorem dtInD {o i : Expr} {wo wi : WE} (hu : X.A.units + 1 < cLine) (hi : PE X i (tE X.K wi)) (ho : PE X o (tE X.K wo)) (hm : behindInMarks .In o = false := by rfl) : PT X (.Compare i [.In] [o] pos) (tT X.K (wB (w2 (gInD false) wi wo))) := imT (pt_cmp (pc_din hu hi ho) hm) fun _ _ _ q => redB q fun _ h => dInD' hu hi ho h
theorem dtNotInD {o i : Expr} {wo wi : WE} (hu : X.A.units + 1 < cLine) (hi : PE X i (tE X.K wi)) (ho : PE X o (tE X.K wo)) (hm : behindInMarks .NotIn o = false := by rfl) : PT X (.Compare i [.NotIn] [o] pos) (tT X.K (wB (w2 (gInD true) wi wo))) := imT (pt_cmp (pc_dnotin hu hi ho) hm) fun _ _ _ q => redB q fun _ h => dNotInD' hu hi ho h
/-- d.get(y, z) -/
def isD (S : Ss) (x : D) : Bool := match x with
  | .ptr a => match S a with
    | some (.dK _) => true
    | some (.dT _) => true
    | _ => false
  | _ => false
theorem isD_ok {S : Ss} {x : D} (h : isD S x = true) : ∃ a, x = .ptr a ∧ ((∃ kvs, S a = some (.dK kvs)) ∨ ∃ kvs, S a = some (.dT kvs)) := by
  cases x with
  | ptr a =>
    cases e : S a with
    | none => simp [isD, e] at h
    | some o =>
      cases o with
      | dK kvs => exact ⟨a, rfl, .inl ⟨kvs, e⟩⟩
      | dT kvs => exact ⟨a, rfl, .inr ⟨kvs, e⟩⟩
      | _ => simp [isD, e] at h
  | _ => simp [isD] at h
def wGet2 (wo wi wz : WE) : WE := fun ρ S Q => wo ρ S fun x S1 => isD S1 x = true ∧ wi ρ S1 fun y S2 => wz ρ S2 fun z S3 => ifS (dgot S3 x y) fun o => Q (o.getD z) S3
theorem dGet2 {o i z : Expr} {apos cpos : Pos} {wo wi wz : WE} (hu : X.A.units + 1 < cLine) (ho : PE X o (tE X.K wo)) (hi : PE X i (tE X.K wi)) (hz : PE X z (tE X.K wz)) (m : M2 X o "get" apos i z cpos) : PE X (.Call (.Attribute o "get" apos) [i, z] [] cpos) (tE X.K (wGet2 wo wi wz)) := imE (pe_dget2 hu ho hi hz m) fun σ H Q ⟨ρ, S, Q0, hE, hS, hw, k⟩ =>
  ⟨ρ, S, _, hE, hS, hw, fun x S1 v1 H1 ⟨hdd, hw1⟩ r1 hS1 p1 => by
    obtain ⟨a, ex, he⟩ := isD_ok hdd
    subst ex
    refine ⟨a, r1.ofPtr, ?_, ρ, S1, _, hE.mono p1, hS1, hw1, fun y S2 v2 H2 hw2 r2 hS2 p2 => ⟨ρ, S2, _, hE.mono (p1.trans p2), hS2, hw2, fun z S3 v3 H3 hw3 r3 hS3 p3 => ?_⟩⟩
    · rcases he with ⟨kvs, e⟩ | ⟨kvs, e⟩
      · obtain ⟨ws, h1, _⟩ := hS1 _ _ e
        exact .inl ⟨ws, .inl h1⟩
      · obtain ⟨ws, h1, _⟩ := hS1 _ _ e
        exact .inr ⟨ws, .inl h1⟩
    · obtain ⟨q, e, qq⟩ := hw3.ex
      obtain ⟨a', o', ea, g, h1, h2⟩ := dgot_ok hS3 ((r1.mono p2).mono p3) (r2.mono p3) e
      rw [r1.ofPtr] at ea
      cases ea
      refine ⟨o', g, k.mono (p1.trans (p2.trans p3)) _ _ _ _ qq ?_ hS3 .rfl⟩
      cases q with
      | none => rw [h2 rfl]; exact r3
      | some d =>
        obtain ⟨t, et, rt⟩ := h1 d rfl
        rw [et]
        exact rt⟩
end
end Dl

/-! Dl3: statements, targets, loops, comprehensions, calls of defs. -/
namespace Dl
open PySem PySem.Spec PyProof.Rows L2

/-- a store that knows less -/
def Sub (S S' : Ss) : Prop := ∀ a o, S a = some o → S' a = some o
theorem Sub.refl {S : Ss} : Sub S S := fun _ _ h => h
theorem Sub.trans {S S1 S2 : Ss} (h : Sub S S1) (h' : Sub S1 S2) : Sub S S2 := fun a o e => h' a o (h a o e)
theorem Sub.new {S : Ss} {p : Addr} {o : Ob} (h : S p = none) : Sub S (supd S p o) := fun a u e => by rw [supd_ne (sne e h)]; exact e
theorem Sub.step {S S' : Ss} {p : Addr} {o : Ob} (q : Sub S S') (h : S' p = none) : Sub S (supd S' p o) := q.trans (.new h)
theorem Sub.none {S S' : Ss} {p : Addr} (q : Sub S S') (h : S' p = none) : S p = none := by
  cases e : S p with
  | none => rfl
  | some o =>
    rw [q _ _ e] at h
    cases h
theorem Sub.supd {S S' : Ss} {p : Addr} {o : Ob} (q : Sub S S') : Sub (supd S p o) (supd S' p o) := fun a u e => by
  by_cases ha : a = p
  · subst ha
    rw [supd_same] at e ⊢
    exact e
  · rw [supd_ne ha] at e ⊢
    exact q a u e

section
variable {X : Cx} {pos : Pos}
/-- forget things of the store -/
def wDrop (w : WE) : WE := fun ρ S Q => w ρ S fun d S1 => ∃ S0, Sub S0 S1 ∧ Q d S0
theorem dDrop {e : Expr} {w : WE} (h : PE X e (tE X.K w)) : PE X e (tE X.K (wDrop w)) := imE h fun σ H Q ⟨ρ, S, Q0, hE, hS, hw, k⟩ =>
  ⟨ρ, S, _, hE, hS, hw, fun d S1 v H1 ⟨S0, q, h0⟩ r hS1 p => k _ _ _ _ h0 r (hS1.sub q) p⟩
def wTDrop (w : WT) : WT := fun ρ S Q => w ρ S fun d S1 => ∃ S0, Sub S0 S1 ∧ Q d S0
theorem dtDrop {e : Expr} {w : WT} (h : PT X e (tT X.K w)) : PT X e (tT X.K (wTDrop w)) := imT h fun σ H Q ⟨ρ, S, Q0, hE, hS, hw, k⟩ =>
  ⟨ρ, S, _, hE, hS, hw, fun d S1 H1 ⟨S0, q, h0⟩ hS1 p => k _ _ _ h0 (hS1.sub q) p⟩

/-! ### tests -/
def wTAnd (a b : WT) : WT := fun ρ S Q => a ρ S fun c S1 => if c = true then b ρ S1 Q else Q false S1
def wTOr (a b : WT) : WT := fun ρ S Q => a ρ S fun c S1 => if c = true then Q true S1 else b ρ S1 Q
def wTNot (a : WT) : WT := fun ρ S Q => a ρ S fun c S1 => Q (!c) S1
variable {a b c : Expr} {rest : List Expr} {wa wb : WT} {we wf : WE}
theorem dwAnd1 (h : PT X a (tT X.K wa)) : PW X (.BoolOp .And [a] pos) (tT X.K wa) := pw_and1 h
theorem dwOr1 (h : PT X a (tT X.K wa)) : PW X (.BoolOp .Or [a] pos) (tT X.K wa) := pw_or1 h
theorem dwAnd (h : PT X a (tT X.K wa)) (t : PW X (.BoolOp .And (b :: rest) pos) (tT X.K wb)) : PW X (.BoolOp .And (a :: b :: rest) pos) (tT X.K (wTAnd wa wb)) := imW (pw_and h t) fun σ H Q ⟨ρ, S, Q0, hE, hS, hw, k⟩ =>
  ⟨ρ, S, _, hE, hS, hw, fun d S1 H1 q hS1 p => by
    cases d with
    | true => exact iteT ⟨ρ, S1, _, hE.mono p, hS1, q, fun b S2 H2 q2 hS2 p2 => k _ _ _ q2 hS2 (p.trans p2)⟩
    | false => exact iteF (k _ _ _ q hS1 p)⟩
theorem dwOr (h : PT X a (tT X.K wa)) (t : PW X (.BoolOp .Or (b :: rest) pos) (tT X.K wb)) : PW X (.BoolOp .Or (a :: b :: rest) pos) (tT X.K (wTOr wa wb)) := imW (pw_or h t) fun σ H Q ⟨ρ, S, Q0, hE, hS, hw, k⟩ =>
  ⟨ρ, S, _, hE, hS, hw, fun d S1 H1 q hS1 p => by
    cases d with
    | false => exact iteF ⟨ρ, S1, _, hE.mono p, hS1, q, fun b S2 H2 q2 hS2 p2 => k _ _ _ q2 hS2 (p.trans p2)⟩
    | true => exact iteT (k _ _ _ q hS1 p)⟩
theorem dtOf {wt : WT} (h : PW X a (tT X.K wt)) : PT X a (tT X.K wt) := h.pt
theorem dtNot (h : PT X a (tT X.K wa)) : PT X (.UnaryOp .Not a pos) (tT X.K (wTNot wa)) := imT (pt_not h) fun σ H Q ⟨ρ, S, Q0, hE, hS, hw, k⟩ => ⟨ρ, S, _, hE, hS, hw, fun d S1 H1 q hS1 p => k _ _ _ q hS1 p⟩
/-- and, or, not as values (bools) -/
def wAnd (a b : WE) : WE := fun ρ S Q => a ρ S fun x S1 => match x with
  | .bl c => if c = true then b ρ S1 Q else Q (.bl false) S1
  | _ => False
def wOr (a b : WE) : WE := fun ρ S Q => a ρ S fun x S1 => match x with
  | .bl c => if c = true then Q (.bl true) S1 else b ρ S1 Q
  | _ => False
def wNot (a : WE) : WE := fun ρ S Q => a ρ S fun x S1 => match x with
  | .bl c => Q (.bl (!c)) S1
  | _ => False
theorem dOne {op} (h : PE X a (tE X.K we)) : PE X (.BoolOp op [a] pos) (tE X.K we) := pe_one h
theorem dAnd (h : PE X a (tE X.K we)) (t : PE X (.BoolOp .And (b :: rest) pos) (tE X.K wf)) : PE X (.BoolOp .And (a :: b :: rest) pos) (tE X.K (wAnd we wf)) := imE (pe_and h t) fun σ H Q ⟨ρ, S, Q0, hE, hS, hw, k⟩ =>
  ⟨ρ, S, _, hE, hS, hw, fun d S1 v H1 q r hS1 p => by
    cases d with
    | bl c =>
      refine ⟨c, r.ofBl, ?_⟩
      cases c with
      | true => exact iteT ⟨ρ, S1, _, hE.mono p, hS1, q, Kont.mono p k⟩
      | false => exact iteF (k _ _ _ _ q (.bl _) hS1 p)
    | _ => exact q.elim⟩
theorem dOr (h : PE X a (tE X.K we)) (t : PE X (.BoolOp .Or (b :: rest) pos) (tE X.K wf)) : PE X (.BoolOp .Or (a :: b :: rest) pos) (tE X.K (wOr we wf)) := imE (pe_or h t) fun σ H Q ⟨ρ, S, Q0, hE, hS, hw, k⟩ =>
  ⟨ρ, S, _, hE, hS, hw, fun d S1 v H1 q r hS1 p => by
    cases d with
    | bl c =>
      refine ⟨c, r.ofBl, ?_⟩
      cases c with
      | false => exact iteF ⟨ρ, S1, _, hE.mono p, hS1, q, Kont.mono p k⟩
      | true => exact iteT (k _ _ _ _ q (.bl _) hS1 p)
    | _ => exact q.elim⟩
theorem dNot (h : PE X a (tE X.K we)) : PE X (.UnaryOp .Not a pos) (tE X.K (wNot we)) := imE (pe_not h) fun σ H Q ⟨ρ, S, Q0, hE, hS, hw, k⟩ =>
  ⟨ρ, S, _, hE, hS, hw, fun d S1 v H1 q r hS1 p => by
    cases d with
    | bl c => exact ⟨c, r.ofBl, k _ _ _ _ q (.bl _) hS1 p⟩
    | _ => exact q.elim⟩
def wIfE (t : WT) (a b : WE) : WE := fun ρ S Q => t ρ S fun c S1 => if c = true then a ρ S1 Q else b ρ S1 Q
theorem dIfE (hc : PT X c (tT X.K wa)) (ha : PE X a (tE X.K we)) (hb : PE X b (tE X.K wf)) : PE X (.IfExp c a b pos) (tE X.K (wIfE wa we wf)) := imE (pe_ifExp hc ha hb) fun σ H Q ⟨ρ, S, Q0, hE, hS, hw, k⟩ =>
  ⟨ρ, S, _, hE, hS, hw, fun d S1 H1 q hS1 p => by
    cases d with
    | true => exact iteT ⟨ρ, S1, _, hE.mono p, hS1, q, Kont.mono p k⟩
    | false => exact iteF ⟨ρ, S1, _, hE.mono p, hS1, q, Kont.mono p k⟩⟩
/-- x op y op' z -/
def w3 (g g' : G2) (wa wb wc : WE) : WE := fun ρ S Q => wa ρ S fun x S1 => wb ρ S1 fun y S2 => g x y S2 fun z S3 => match z with
  | .bl k => if k = true then wc ρ S3 fun u S4 => g' y u S4 Q else Q (.bl false) S3
  | _ => False
end

/-! ### blocks -/
section
variable {X : Cx} {pos : Pos} {st : Stmt} {rest : List Stmt} {w u : WS} {e c : Expr} {we : WE} {wt : WT}
def wNext : WS := fun D ρ S => D.nx ρ S
def wSeq (w u : WS) : WS := fun D ρ S => w { D with nx := u D } ρ S
def wBreak : WS := fun D ρ S => D.bk ρ S
def wCont : WS := fun D ρ S => D.ct ρ S
theorem dsNil : PSs X [] (tS X.K wNext) := imB pss_nil fun Dn σ H ⟨ρ, S, D0, hE, hS, hw, k⟩ => k.nx _ _ _ _ hw hE hS .rfl
theorem dsCons (h : PS X st (tS X.K w)) (t : PSs X rest (tS X.K u)) : PSs X (st :: rest) (tS X.K (wSeq w u)) := imB (pss_cons h t) fun Dn σ H ⟨ρ, S, D0, hE, hS, hw, k⟩ =>
  ⟨ρ, S, { D0 with nx := u D0 }, hE, hS, hw, ⟨fun ρ1 S1 σ1 H1 q hE1 hS1 p => ⟨ρ1, S1, D0, hE1, hS1, q, k.mono p⟩, k.rt, k.bk, k.ct⟩⟩
theorem dsOne (h : PS X st (tS X.K w)) : PSs X [st] (tS X.K w) := pss_one h
theorem dPass : PS X (.Pass pos) (tS X.K wNext) := imS ps_pass fun Dn σ H ⟨ρ, S, D0, hE, hS, hw, k⟩ => k.nx _ _ _ _ hw hE hS .rfl
theorem dBreak : PS X (.Break pos) (tS X.K wBreak) := imS ps_break fun Dn σ H ⟨ρ, S, D0, hE, hS, hw, k⟩ => k.bk _ _ _ _ hw hE hS .rfl
theorem dCont : PS X (.Continue pos) (tS X.K wCont) := imS ps_continue fun Dn σ H ⟨ρ, S, D0, hE, hS, hw, k⟩ => k.ct _ _ _ _ hw hE hS .rfl
def wDo (w : WE) : WS := fun D ρ S => w ρ S fun _ S1 => D.nx ρ S1
theorem dExpr (h : PE X e (tE X.K we)) (hs : swapsWith e none pos.line X.env = pure false := by rfl) : PS X (.Expr e pos) (tS X.K (wDo we)) := imS (ps_expr h hs) fun Dn σ H ⟨ρ, S, D0, hE, hS, hw, k⟩ =>
  ⟨ρ, S, _, hE, hS, hw, fun d S1 v H1 q r hS1 p => k.nx _ _ _ _ q (hE.mono p) hS1 p⟩
def wRet (w : WE) : WS := fun D ρ S => w ρ S D.rt
theorem dRet (h : PE X e (tE X.K we)) : PS X (.Return (some e) pos) (tS X.K (wRet we)) := imS (ps_ret h) fun Dn σ H ⟨ρ, S, D0, hE, hS, hw, k⟩ => ⟨ρ, S, _, hE, hS, hw, fun d S1 v H1 q r hS1 p => k.rt _ _ _ _ q r hS1 p⟩
def wRetN : WS := fun D _ S => D.rt .non S
theorem dRetN : PS X (.Return none pos) (tS X.K wRetN) := imS ps_retN fun Dn σ H ⟨ρ, S, D0, hE, hS, hw, k⟩ => k.rt _ _ _ _ hw .non hS .rfl
def wIf (t : WT) (a b : WS) : WS := fun D ρ S => t ρ S fun c S1 => if c = true then a D ρ S1 else b D ρ S1
theorem dIf {a b : List Stmt} (hc : PT X c (tT X.K wt)) (ha : PSs X a (tS X.K w)) (hb : PSs X b (tS X.K u)) : PS X (.If c a b pos) (tS X.K (wIf wt w u)) := imS (ps_if hc ha hb) fun Dn σ H ⟨ρ, S, D0, hE, hS, hw, k⟩ =>
  ⟨ρ, S, _, hE, hS, hw, fun d S1 H1 q hS1 p => by
    cases d with
    | true => exact iteT ⟨ρ, S1, D0, hE.mono p, hS1, q, k.mono p⟩
    | false => exact iteF ⟨ρ, S1, D0, hE.mono p, hS1, q, k.mono p⟩⟩
end

/-! ### targets -/
abbrev WG := D → Rho → Ss → (Rho → Ss → Prop) → Prop
abbrev WGs := List D → Rho → Ss → (Rho → Ss → Prop) → Prop
section
variable (K : PySem.W.Frag)
/-- the slots vs alone may change -/
def tGo (vs : List Nat) (w : WG) : TG := fun v σ H Q => ∃ d ρ S Q0, RV K H d v ∧ RE K H ρ σ ∧ RS K H S ∧ w d ρ S Q0 ∧ ∀ ρ' S' σ' H', Q0 ρ' S' → RE K H' ρ' σ' → RS K H' S' → Pst H H' → L2.wipe σ' vs = L2.wipe σ vs → Q σ' H'
def tGos (vs : List Nat) (w : WGs) : TGs := fun us σ H Q => ∃ ds ρ S Q0, RVs K H ds us ∧ RE K H ρ σ ∧ RS K H S ∧ w ds ρ S Q0 ∧ ∀ ρ' S' σ' H', Q0 ρ' S' → RE K H' ρ' σ' → RS K H' S' → Pst H H' → L2.wipe σ' vs = L2.wipe σ vs → Q σ' H'
def tG (w : WG) : TG := fun v σ H Q => ∃ d ρ S Q0, RV K H d v ∧ RE K H ρ σ ∧ RS K H S ∧ w d ρ S Q0 ∧ ∀ ρ' S' σ' H', Q0 ρ' S' → RE K H' ρ' σ' → RS K H' S' → Pst H H' → Q σ' H'
end
def wgName (i : Nat) : WG := fun d ρ S Q => Q (ρ.set i (some d)) S
def wgNil : WGs := fun ds ρ S Q => match ds with
  | [] => Q ρ S
  | _ => False
def wgCons (g : WG) (r : WGs) : WGs := fun ds ρ S Q => match ds with
  | d :: ds => g d ρ S fun ρ1 S1 => r ds ρ1 S1 Q
  | [] => False
def wgTup (n : Nat) (g : WGs) : WG := fun d ρ S Q => match d with
  | .tup ds => ds.length = n ∧ g ds ρ S Q
  | _ => False
theorem wipe_get {i : Nat} : ∀ {vs : List Nat} {σ : Sg}, (L2.wipe σ vs)[i]? = if i ∈ vs ∧ i < σ.length then some none else σ[i]?
  | [], σ => by rw [if_neg (by simp)]; rfl
  | v :: vs, σ => by
    show ((L2.wipe σ vs).set v none)[i]? = _
    by_cases h : v = i
    · subst h
      by_cases hl : v < σ.length
      · rw [List.getElem?_set_self (by rw [wipe_length]; exact hl), if_pos ⟨List.mem_cons_self, hl⟩]
      · rw [List.getElem?_eq_none (by rw [List.length_set, wipe_length]; omega), if_neg fun z => hl z.2, List.getElem?_eq_none (by omega)]
    · rw [List.getElem?_set_ne h, wipe_get]
      by_cases q : i ∈ vs ∧ i < σ.length
      · rw [if_pos q, if_pos ⟨List.mem_cons_of_mem _ q.1, q.2⟩]
      · rw [if_neg q, if_neg fun z => q ⟨(List.mem_cons.mp z.1).resolve_left fun y => h y.symm, z.2⟩]
theorem wipe_set {i : Nat} {vs : List Nat} {σ : Sg} {x : Option V} (h : i ∈ vs) : L2.wipe (σ.set i x) vs = L2.wipe σ vs := by
  apply List.ext_getElem?
  intro j
  rw [wipe_get, wipe_get, List.length_set]
  by_cases q : j ∈ vs ∧ j < σ.length
  · rw [if_pos q, if_pos q]
  · rw [if_neg q, if_neg q]
    by_cases e : i = j
    · subst e
      have hl : ¬ i < σ.length := fun z => q ⟨h, z⟩
      rw [List.getElem?_eq_none (by rw [List.length_set]; omega), List.getElem?_eq_none (by omega)]
    · rw [List.getElem?_set_ne e]
section
variable {X : Cx} {pos : Pos} {vs : List Nat}
theorem dgNameO {i : Nat} {x : Str} (hN : X.N.Nodup) (hi : X.N[i]? = some x) (hx : Loc X.env.scope x) (hv : i ∈ vs) (hf : X.fn x = true ∨ X.env.scope.names.lookup x = some .local := by first | exact .inl rfl | exact .inr rfl | assumption) :
    PG X (.Name x pos) (tGo X.K vs (wgName i)) := imG (pg_name hN hi hx hf) fun v σ H Q ⟨d, ρ, S, Q0, r, hE, hS, hw, k⟩ => k _ _ _ _ hw (hE.set r i) hS .rfl (wipe_set hv)
theorem dgNil : PGs X [] (tGos X.K vs wgNil) := ⟨fun pins s σ H us vs' Q I r h => by
  obtain ⟨ds, ρ, S, Q0, rr, hE, hS, hw, k⟩ := h
  refine pgs_nil.run pins s σ H us vs' Q I r ?_
  cases ds with
  | nil => exact ⟨rr.ofNil, k _ _ _ _ hw hE hS .rfl rfl⟩
  | cons d ds => exact hw.elim⟩
theorem dgCons {e : Expr} {es : List Expr} {g : WG} {r : WGs} (h1 : PG X e (tGo X.K vs g)) (h2 : PGs X es (tGos X.K vs r))
    (hs : (assignEach (e :: es) X.env).map (·.2) = assign e X.env :: (assignEach es X.env).map (·.2) := by rfl) : PGs X (e :: es) (tGos X.K vs (wgCons g r)) := ⟨fun pins s σ H us vs' Q I rr h => by
  obtain ⟨ds, ρ, S, Q0, r1, hE, hS, hw, k⟩ := h
  refine (pgs_cons h1 h2 hs).run pins s σ H us vs' Q I rr ?_
  cases ds with
  | nil => exact hw.elim
  | cons d ds =>
    obtain ⟨v, ws, rfl, ra, rb⟩ := r1.ofCons
    exact ⟨v, ws, rfl, d, ρ, S, _, ra, hE, hS, hw, fun ρ1 S1 σ1 H1 q hE1 hS1 p1 w1 => ⟨ds, ρ1, S1, Q0, rb.mono p1, hE1, hS1, q, fun ρ2 S2 σ2 H2 q2 hE2 hS2 p2 w2 => k _ _ _ _ q2 hE2 hS2 (p1.trans p2) (w2.trans w1)⟩⟩⟩
theorem dgTupO {es : List Expr} {k : Nat} {g : WGs} {n : Nat} (hc : X.calm = true) (h : PGs X es (tGos X.K vs g)) (hn : (assignEach es X.env).length = n := by rfl) (hst : (assignEach es X.env).findIdx? (·.1) = none := by rfl) :
    PG X (.Tuple es k pos) (tGo X.K vs (wgTup n g)) := imG (pg_tup hc h hn hst) fun v σ H Q ⟨d, ρ, S, Q0, r, hE, hS, hw, k⟩ => by
  cases d with
  | tup ds =>
    obtain ⟨a, us, rfl, s, q⟩ := r.ofTupS
    exact ⟨a, us, rfl, s, by rw [← q.length]; exact hw.1, ds, ρ, S, Q0, q, hE, hS, hw.2, k⟩
  | _ => exact hw.elim
theorem dgOf {e : Expr} {g : WG} (h : PG X e (tGo X.K vs g)) : PG X e (tG X.K g) := imG h fun v σ H Q ⟨d, ρ, S, Q0, r, hE, hS, hw, k⟩ => ⟨d, ρ, S, Q0, r, hE, hS, hw, fun a b c d' e1 e2 e3 e4 _ => k a b c d' e1 e2 e3 e4⟩
theorem dgName {i : Nat} {x : Str} (hN : X.N.Nodup) (hi : X.N[i]? = some x) (hx : Loc X.env.scope x) (hf : X.fn x = true ∨ X.env.scope.names.lookup x = some .local := by first | exact .inl rfl | exact .inr rfl | assumption) :
    PG X (.Name x pos) (tG X.K (wgName i)) := dgOf (vs := [i]) (dgNameO hN hi hx (by simp) hf)

/-! ### assignments -/
variable {e : Expr} {we : WE} {g : WG} {tg : Expr}
def wAsg (w : WE) (g : WG) : WS := fun D ρ S => w ρ S fun d S1 => g d ρ S1 D.nx
def wSet (i : Nat) (w : WE) : WS := fun D ρ S => w ρ S fun d S1 => D.nx (ρ.set i (some d)) S1
theorem dAsg (he : PE X e (tE X.K we)) (hg : PG X tg (tG X.K g)) (hs : swapsWithSole [tg] e pos.line X.env = pure false := by rfl) (hw : swappedStores [tg] e X.env = pure none := by rfl)
    (h1 : (assignEach [tg] X.env).map (·.2) = [assign tg X.env] := by rfl) : PS X (.Assign [tg] e pos) (tS X.K (wAsg we g)) := imS (ps_asg he hg hs hw h1) fun Dn σ H ⟨ρ, S, D0, hE, hS, hw, k⟩ =>
  ⟨ρ, S, _, hE, hS, hw, fun d S1 v H1 q r hS1 p => ⟨d, ρ, S1, _, r, hE.mono p, hS1, q, fun ρ2 S2 σ2 H2 q2 hE2 hS2 p2 => k.nx _ _ _ _ q2 hE2 hS2 (p.trans p2)⟩⟩
theorem dSet {i : Nat} {x : Str} {pos' : Pos} (hN : X.N.Nodup) (hi : X.N[i]? = some x) (hx : Loc X.env.scope x) (he : PE X e (tE X.K we)) (hs : swapsWith e (some (.Name x pos')) pos.line X.env = pure false := by rfl) (hf : X.fn x = true ∨ X.env.scope.names.lookup x = some .local := by first | exact .inl rfl | exact .inr rfl | assumption) :
    PS X (.Assign [.Name x pos'] e pos) (tS X.K (wSet i we)) := imS (ps_set hN hi hx he hs hf) fun Dn σ H ⟨ρ, S, D0, hE, hS, hw, k⟩ =>
  ⟨ρ, S, _, hE, hS, hw, fun d S1 v H1 q r hS1 p => k.nx _ _ _ _ q ((hE.mono p).set r i) hS1 p⟩
/-- o[i] = e, a dict -/
def wDput (wo wi wv : WE) : WS := fun D ρ S => wv ρ S fun z S1 => wo ρ S1 fun x S2 => wi ρ S2 fun y S3 => ifS (dset S3 x y z) fun S4 => D.nx ρ S4
theorem dDput {o i v : Expr} {wo wi wv : WE} {pos' : Pos} (hu : X.A.units + 1 < cLine) (ho : PE X o (tE X.K wo)) (hi : PE X i (tE X.K wi)) (hv : PE X v (tE X.K wv)) (hs : swapsWith v (some (.Subscript o i pos')) pos.line X.env = pure false := by rfl) :
    PS X (.Assign [.Subscript o i pos'] v pos) (tS X.K (wDput wo wi wv)) := imS (ps_dput hu ho hi hv hs) fun Dn σ H ⟨ρ, S, D0, hE, hS, hw, k⟩ =>
  ⟨ρ, S, _, hE, hS, hw, fun z S1 v1 H1 q1 r1 hS1 p1 => ⟨ρ, S1, _, hE.mono p1, hS1, q1, fun x S2 v2 H2 q2 r2 hS2 p2 => ⟨ρ, S2, _, hE.mono (p1.trans p2), hS2, q2, fun y S3 v3 H3 q3 r3 hS3 p3 => by
    obtain ⟨S4, e, q⟩ := q3.ex
    obtain ⟨a, H4, ea, dp, hS4, p4⟩ := dset_ok hS3 (r2.mono p3) r3 ((r1.mono p2).mono p3) e
    have pp := p1.trans (p2.trans (p3.trans p4))
    exact ⟨a, H4, ea, dp, k.nx _ _ _ _ q (hE.mono pp) hS4 pp⟩⟩⟩⟩
/-- o[i] = .., a list: a target -/
def lset (S : Ss) (x y z : D) : Option Ss := match x, y with
  | .ptr a, .int k => match S a with
    | some (.lst xs) => (ixN xs.length k).map fun j => supd S a (.lst (xs.set j z))
    | _ => none
  | _, _ => none
def wgSub (wo wi : WE) : WG := fun z ρ S Q => wo ρ S fun x S1 => wi ρ S1 fun y S2 => ifS (lset S2 x y z) fun S3 => Q ρ S3
theorem dgSubO {o i : Expr} {wo wi : WE} (ho : PE X o (tE X.K wo)) (hi : PE X i (tE X.K wi)) (ha : ∀ v, assign (.Subscript o i pos) X.env v = (do
      let ov ← holding [v] (eval o X.env)
      let iv ← holding [v, ov] (eval i X.env)
      standAt pos
      holding [v, ov, iv] (setItem ov iv v)
      release [v, ov, iv] []) := by intro _; rfl) : PG X (.Subscript o i pos) (tGo X.K vs (wgSub wo wi)) := imG (pg_sub ho hi set_list ha) fun v σ H Q ⟨z, ρ, S, Q0, r0, hE, hS, hw, k⟩ =>
  ⟨ρ, S, _, hE, hS, hw, fun x S1 v1 H1 q1 r1 hS1 p1 => ⟨ρ, S1, _, hE.mono p1, hS1, q1, fun y S2 v2 H2 q2 r2 hS2 p2 => by
    obtain ⟨S3, e, q⟩ := q2.ex
    have r1' := r1.mono p2
    have r0' := r0.mono (p1.trans p2)
    unfold lset at e
    split at e
    · rename_i a n
      split at e
      · rename_i xs ex
        obtain ⟨us, h1, h2⟩ := hS2.lst ex
        obtain ⟨j, ej, es⟩ := Option.map_eq_some_iff.mp e
        refine ⟨a, us, n, j, r1'.ofPtr, r2.ofInt, h1, by rw [← h2.length]; exact ej, ?_⟩
        subst es
        have f := Fre.lst h1
        have pp := p1.trans (p2.trans (f.pst (o := .lst (us.set j v))))
        exact k _ _ _ _ q (hE.mono pp) (hS2.upd f (.lstUpd f (h2.set r0' j))) pp rfl
      · cases e
    · cases e⟩⟩
end

/-! ### what is walked -/
structure Wk where
  items : List D
  st : Ss → Prop
abbrev WI := Rho → Ss → (Wk → Ss → Prop) → Prop
def WLink (K : PySem.W.Frag) (H1 : Hp) (J : It) (W : Wk) : Prop := ∀ i H S, Pst H1 H → RS K H S → W.st S →
  (∀ d, W.items[i]? = some d → J.go i H ∧ ∀ x H', J.yld i H x H' → Pst H H' ∧ RS K H' S ∧ RV K H' d x) ∧ (W.items.length ≤ i → J.stop i H)
theorem WLink.mono {K : PySem.W.Frag} {H1 H2 : Hp} {J : It} {W : Wk} (p : Pst H1 H2) (h : WLink K H1 J W) : WLink K H2 J W := fun i H S q => h i H S (p.trans q)
def tI (K : PySem.W.Frag) (w : WI) : TI := fun σ H R => ∃ ρ S R0, RE K H ρ σ ∧ RS K H S ∧ w ρ S R0 ∧ ∀ W S' H' J, R0 W S' → RS K H' S' → Pst H H' → WLink K H' J W → R J H'
def wiSeq (w : WE) : WI := fun ρ S R => w ρ S fun d S1 => ifS (seqOf S1 d) fun xs => R ⟨xs, fun S' => seqOf S' d = some xs⟩ S1
def wiRange (lo n : Int) (R : Wk → Prop) : Prop := -(2 ^ 62) ≤ lo ∧ lo < 2 ^ 62 ∧ -(2 ^ 62) ≤ n ∧ n < 2 ^ 62 ∧ R ⟨(List.range (n - lo).toNat).map fun i => .int (lo + (i : Nat)), fun _ => True⟩
def wiRng1 (w : WE) : WI := fun ρ S R => w ρ S fun d S1 => match d with
  | .int j => wiRange 0 j fun W => R W S1
  | _ => False
def wiRng2 (w u : WE) : WI := fun ρ S R => w ρ S fun d S1 => u ρ S1 fun e S2 => match d, e with
  | .int i, .int j => wiRange i j fun W => R W S2
  | _, _ => False
section
variable {X : Cx} {tg : Expr}
theorem link_list {K : PySem.W.Frag} {H1 : Hp} {a : Addr} {xs : List D} : WLink K H1 (Itl K a) ⟨xs, fun S' => seqOf S' (.ptr a) = some xs⟩ := fun i H S p hS hst => by
  obtain ⟨vs, h1, h2⟩ := seqAt_ok hS hst
  refine ⟨fun d e => ?_, fun e => ⟨vs, h1, by rw [← h2.length]; exact e⟩⟩
  obtain ⟨v, ev, rv⟩ := h2.get e
  refine ⟨⟨vs, v, h1, ev⟩, fun x H' y => ?_⟩
  obtain ⟨eh, f⟩ := y
  have q := f vs h1
  rw [ev] at q
  cases q
  subst eh
  exact ⟨.rfl, hS, rv⟩
theorem link_kl {K : PySem.W.Frag} {H1 : Hp} {a : Addr} {xs : List D} {vs : List V} {st : Ss → Prop} (h1 : ∀ H, SqL K H a vs) (h2 : RVs K H1 xs vs) : WLink K H1 (Itl K a) ⟨xs, st⟩ := fun i H S p hS _ => by
  refine ⟨fun d e => ?_, fun e => ⟨vs, h1 H, by rw [← h2.length]; exact e⟩⟩
  obtain ⟨v, ev, rv⟩ := (h2.mono p).get e
  refine ⟨⟨vs, v, h1 H, ev⟩, fun x H' y => ?_⟩
  obtain ⟨eh, f⟩ := y
  have q := f vs (h1 H)
  rw [ev] at q
  cases q
  subst eh
  exact ⟨.rfl, hS, rv⟩
theorem link_tup {K : PySem.W.Frag} {H1 : Hp} {a : Addr} {xs : List D} {vs : List V} {st : Ss → Prop} (h1 : SqT K H1 a vs) (h2 : RVs K H1 xs vs) : WLink K H1 (Itt K a) ⟨xs, st⟩ := fun i H S p hS _ => by
  refine ⟨fun d e => ?_, fun e => ⟨vs, p.sqT h1, by rw [← h2.length]; exact e⟩⟩
  obtain ⟨v, ev, rv⟩ := (h2.mono p).get e
  refine ⟨⟨vs, v, p.sqT h1, ev⟩, fun x H' y => ?_⟩
  obtain ⟨eh, f⟩ := y
  have q := f vs (p.sqT h1)
  rw [ev] at q
  cases q
  subst eh
  exact ⟨.rfl, hS, rv⟩
theorem link_range {K : PySem.W.Frag} {H1 : Hp} {lo : Int} {n : Nat} : WLink K H1 (Itr lo n) ⟨(List.range n).map fun i => .int (lo + (i : Nat)), fun _ => True⟩ := fun i H S p hS _ => by
  refine ⟨fun d e => ?_, fun e => ?_⟩
  · rw [List.getElem?_map] at e
    obtain ⟨j, ej, ed⟩ := Option.map_eq_some_iff.mp e
    obtain ⟨hj, ej'⟩ := List.getElem?_eq_some_iff.mp ej
    rw [List.getElem_range] at ej'
    rw [List.length_range] at hj
    subst ej' ed
    refine ⟨hj, fun x H' y => ?_⟩
    obtain ⟨eh, ex⟩ := y
    subst eh ex
    exact ⟨.rfl, hS, .int _⟩
  · rw [List.length_map, List.length_range] at e
    exact e
theorem diSeq {e : Expr} {w : WE} (h : PE X e (tE X.K w)) : PI X tg e (tI X.K (wiSeq w)) := by
  refine ⟨fun pins s σ H R I hw => ?_⟩
  obtain ⟨ρ, S, R0, hE, hS, hw, k⟩ := hw
  refine thn (h.run pins s σ H (fun v H1 => ∃ a, v = .ref a ∧ ((∃ xs, SqL X.K H1 a xs) ∧ R (Itl X.K a) H1 ∨ (∃ xs, SqT X.K H1 a xs) ∧ R (Itt X.K a) H1)) I ⟨ρ, S, _, hE, hS, hw, fun d S1 v H1 q r hS1 p => ?_⟩) ?_
  · obtain ⟨ys, e, q⟩ := q.ex
    cases d with
    | tup xs =>
      cases e
      obtain ⟨a, vs, e1, h1, h2⟩ := r.ofTupS
      exact ⟨a, e1, .inr ⟨⟨vs, h1⟩, k _ _ _ _ q hS1 p (link_tup h1 h2)⟩⟩
    | ptr a =>
      obtain ⟨vs, h1, h2⟩ := seqAt_ok hS1 e
      exact ⟨a, r.ofPtr, .inl ⟨⟨vs, h1⟩, k _ _ _ _ q hS1 p link_list⟩⟩
    | klst xs =>
      cases e
      obtain ⟨a, vs, e1, h1, h2⟩ := r.ofKl
      exact ⟨a, e1, .inl ⟨⟨vs, h1 H1⟩, k _ _ _ _ q hS1 p (link_kl h1 h2)⟩⟩
    | _ => cases e
  · intro v s1 ⟨x, H1, I1, r1, q1⟩
    obtain ⟨a, rfl, q1⟩ := q1
    cases r1
    have fresh : ∀ {o : Obj}, ∀ b ∈ [s1.heap.objs.size], FpOk X pins H1 b := fun b hb => by
      have eb : b = s1.heap.objs.size := by simpa using hb
      rw [eb]
      exact I1.fpOk (Nat.le_refl _) (I1.hok.fresh (Nat.le_refl _))
    rcases q1 with ⟨⟨xs, hq⟩, q⟩ | ⟨⟨xs, hq⟩, q⟩
    · obtain ⟨its, rv, p, hz⟩ := I1.list hq
      exact wpAny_pyIter_list p.isList ⟨s1.heap.objs.size, [s1.heap.objs.size], _, _, H1, rfl, I1.kept (t' := s1.toks) fun b o e => Heap.get?_push_of_some _ e, turn_list a _, ⟨_, Heap.get?_push_size _ rfl, rfl, rfl⟩,
        fresh (o := { cls := .none, data := .dict #[] }), q⟩
    · obtain ⟨its, rv, p, hz⟩ := I1.tuple hq
      exact wpAny_pyIter_tuple (show s1.heap.IsTuple a its.toArray from p) ⟨s1.heap.objs.size, [s1.heap.objs.size], _, _, H1, rfl, I1.kept (t' := s1.toks) fun b o e => Heap.get?_push_of_some _ e, turn_tuple a _,
        ⟨_, Heap.get?_push_size _ rfl, rfl, rfl⟩, fresh (o := { cls := .none, data := .dict #[] }), q⟩
theorem diRng1 {a : Expr} {w : WE} {p pos : Pos} (hg : Gl X "range") (hm : X.mg "range" = none) (ha : PE X a (tE X.K w)) (h1 : starEach [a] X.env = (false, eval a X.env) :: starEach [] X.env := by rfl) (hs : starEach [a] X.env = [(false, eval a X.env)] := by rfl) :
    PI X tg (.Call (.Name "range" p) [a] [] pos) (tI X.K (wiRng1 w)) := imI (pi_range1 hg hm (pa_cons ha pa_nil h1) hs) fun σ H R ⟨ρ, S, R0, hE, hS, hw, k⟩ =>
  ⟨ρ, S, _, hE, hS, hw, fun d S1 v H1 q r hS1 p => by
    cases d with
    | int j =>
      obtain ⟨_, _, q1, q2, q⟩ := q
      rw [Int.sub_zero] at q
      exact ⟨j, by rw [r.ofInt], q1, q2, k _ _ _ _ q hS1 p link_range⟩
    | _ => exact q.elim⟩
theorem diRng2 {a b : Expr} {w u : WE} {p pos : Pos} (hg : Gl X "range") (hm : X.mg "range" = none) (ha : PE X a (tE X.K w)) (hb : PE X b (tE X.K u)) (h1 : starEach [a, b] X.env = (false, eval a X.env) :: starEach [b] X.env := by rfl) (h2 : starEach [b] X.env = (false, eval b X.env) :: starEach [] X.env := by rfl)
    (hs : starEach [a, b] X.env = [(false, eval a X.env), (false, eval b X.env)] := by rfl) (hs2 : starEach [b] X.env = [(false, eval b X.env)] := by rfl) :
    PI X tg (.Call (.Name "range" p) [a, b] [] pos) (tI X.K (wiRng2 w u)) := imI (pi_range2 hg hm (pa_cons ha (pa_cons hb pa_nil h2) h1) hs hs2) fun σ H R ⟨ρ, S, R0, hE, hS, hw, k⟩ =>
  ⟨ρ, S, _, hE, hS, hw, fun d S1 v H1 q r hS1 p => ⟨ρ, S1, _, hE.mono p, hS1, q, fun e S2 v2 H2 q2 r2 hS2 p2 => by
    have r' := r.mono p2
    split at q2
    · obtain ⟨q0, q1, q3, q4, q⟩ := q2
      exact ⟨_, _, by rw [r'.ofInt, r2.ofInt], ⟨q0, q1, q3, q4⟩, k _ _ _ _ q hS2 (p.trans p2) link_range⟩
    · exact q2.elim⟩⟩

/-! ### loops -/
def wFor (wi : WI) (g : WG) (b : WS) : WS := fun D ρ S => wi ρ S fun W S1 => ∃ Iv : Nat → Rho → Ss → Prop, Iv 0 ρ S1 ∧ (∀ i ρ' S', Iv i ρ' S' → W.st S') ∧
  (∀ i d ρ' S', W.items[i]? = some d → Iv i ρ' S' → g d ρ' S' fun ρ2 S2 => b { D with nx := Iv (i + 1), ct := Iv (i + 1), bk := D.nx } ρ2 S2) ∧ ∀ ρ' S', Iv W.items.length ρ' S' → D.nx ρ' S'
theorem dFor {iter : Expr} {body : List Stmt} {wi : WI} {g : WG} {b : WS} {pos : Pos} (hp : PassesOwn (model X.prog X.w) X.A X.env X.xe) (hc : X.calm = true) (hi : PI X tg iter (tI X.K wi)) (hg : PG X tg (tG X.K g)) (hb : PSs X body (tS X.K b))
    (hs : ∀ x, foldedSetIterable iter X.env x = pure x := by intro _; rfl) : PS X (.For tg iter body [] pos) (tS X.K (wFor wi g b)) := imS (ps_for hp hc hi hg hb hs) fun Dn σ H ⟨ρ, S, D0, hE, hS, hw, k⟩ => by
  refine ⟨ρ, S, _, hE, hS, hw, fun W S1 H1 J ⟨Iv, i0, ist, turn, fin⟩ hS1 p1 link => ?_⟩
  refine ⟨fun i m σ' H' => ∃ ρ' S', Iv i ρ' S' ∧ RE X.K H' ρ' σ' ∧ RS X.K H' S' ∧ Pst H1 H' ∧ i ≤ W.items.length ∧ m = W.items.length - i, ⟨_, ρ, S1, i0, hE.mono p1, hS1, .rfl, Nat.zero_le _, rfl⟩, ?_⟩
  rintro i m σ' H' ⟨ρ', S', hI, hE', hS', p', hle, rfl⟩
  obtain ⟨l1, l2⟩ := link i H' S' p' hS' (ist _ _ _ hI)
  by_cases hlt : i < W.items.length
  · obtain ⟨go, y⟩ := l1 _ (List.getElem?_eq_getElem hlt)
    refine .inr ⟨go, fun σ3 H3 => ∃ ρ3 S3, Iv (i + 1) ρ3 S3 ∧ RE X.K H3 ρ3 σ3 ∧ RS X.K H3 S3 ∧ Pst H1 H3, fun σ3 H3 ⟨ρ3, S3, a1, a2, a3, a4⟩ => ⟨_, by omega, ρ3, S3, a1, a2, a3, a4, by omega, rfl⟩, fun x H2 yl => ?_⟩
    obtain ⟨p2, hS2, rx⟩ := y x H2 yl
    refine ⟨_, ρ', S', _, rx, hE'.mono p2, hS2, turn i _ ρ' S' (List.getElem?_eq_getElem hlt) hI, fun ρ3 S3 σ3 H3 q hE3 hS3 p3 => ?_⟩
    have pa := p'.trans (p2.trans p3)
    refine ⟨ρ3, S3, _, hE3, hS3, q, ⟨fun a b c d z1 z2 z3 z4 => ⟨a, b, z1, z2, z3, pa.trans z4⟩, fun a b c d z1 z2 z3 z4 => k.rt _ _ _ _ z1 z2 z3 (p1.trans (pa.trans z4)), fun a b c d z1 z2 z3 z4 => k.nx _ _ _ _ z1 z2 z3 (p1.trans (pa.trans z4)), fun a b c d z1 z2 z3 z4 => ⟨a, b, z1, z2, z3, pa.trans z4⟩⟩⟩
  · have e : i = W.items.length := by omega
    subst e
    exact .inl ⟨l2 (Nat.le_refl _), k.nx _ _ _ _ (fin _ _ hI) hE' hS' (p1.trans p')⟩
def wWhile (t : WT) (b : WS) : WS := fun D ρ S => ∃ Iv : Nat → Rho → Ss → Prop, (∃ m, Iv m ρ S) ∧ ∀ m ρ S, Iv m ρ S → t ρ S fun c S1 =>
  if c = true then b { D with nx := fun ρ' S' => ∃ m', m' < m ∧ Iv m' ρ' S', ct := fun ρ' S' => ∃ m', m' < m ∧ Iv m' ρ' S', bk := D.nx } ρ S1 else D.nx ρ S1
theorem dWhile {c : Expr} {body : List Stmt} {t : WT} {b : WS} {pos : Pos} (hp : PassesOwn (model X.prog X.w) X.A X.env X.xe) (hc : PT X c (tT X.K t)) (hb : PSs X body (tS X.K b)) : PS X (.While c body [] pos) (tS X.K (wWhile t b)) := imS (ps_while hp hc hb) fun Dn σ H ⟨ρ, S, D0, hE, hS, ⟨Iv, ⟨m0, i0⟩, turn⟩, k⟩ => by
  refine ⟨fun m σ' H' => ∃ ρ' S', Iv m ρ' S' ∧ RE X.K H' ρ' σ' ∧ RS X.K H' S' ∧ Pst H H', ⟨m0, ρ, S, i0, hE, hS, .rfl⟩, ?_⟩
  rintro m σ' H' ⟨ρ', S', hI, hE', hS', p'⟩
  refine ⟨ρ', S', _, hE', hS', turn m ρ' S' hI, fun d S1 H1 q hS1 p1 => ?_⟩
  have pa := p'.trans p1
  cases d with
  | true =>
    refine iteT ⟨fun σ3 H3 => ∃ m', m' < m ∧ ∃ ρ3 S3, Iv m' ρ3 S3 ∧ RE X.K H3 ρ3 σ3 ∧ RS X.K H3 S3 ∧ Pst H H3, fun σ3 H3 q3 => q3, ρ', S1, _, hE'.mono p1, hS1, q, ?_⟩
    exact ⟨fun a b c d ⟨m', hm, z1⟩ z2 z3 z4 => ⟨m', hm, a, b, z1, z2, z3, pa.trans z4⟩, fun a b c d z1 z2 z3 z4 => k.rt _ _ _ _ z1 z2 z3 (pa.trans z4), fun a b c d z1 z2 z3 z4 => k.nx _ _ _ _ z1 z2 z3 (pa.trans z4), fun a b c d ⟨m', hm, z1⟩ z2 z3 z4 => ⟨m', hm, a, b, z1, z2, z3, pa.trans z4⟩⟩
  | false => exact iteF (k.nx _ _ _ _ q (hE'.mono p1) hS1 pa)

/-! ### comprehensions -/
abbrev WTs := WT
def wYes : WT := fun _ S Q => Q true S
structure DTs (X : Cx) (ifs : List Expr) (w : WT) : Prop where
  ts : PTs X ifs (tT X.K w)
theorem dtsNil : DTs X [] wYes := ⟨⟨fun pins s σ H Q I ⟨ρ, S, Q0, hE, hS, hw, k⟩ => pts_nil.run pins s σ H Q I (k _ _ _ hw hS .rfl)⟩⟩
theorem dtsOne {c : Expr} {w : WT} (h : PT X c (tT X.K w)) : DTs X [c] w := ⟨pts_one h⟩
def wLc (wi : WI) (g : WG) (t : WT) (e : WE) (vs : List Nat) : WE := fun ρ S Q => wi ρ S fun W S1 => ∀ p, S1 p = none → ∃ Iv : Nat → List D → Ss → Prop, Iv 0 [] S1 ∧ (∀ i acc S', Iv i acc S' → W.st (supd S' p (.lst acc))) ∧
  (∀ i d acc S', W.items[i]? = some d → Iv i acc S' → g d (dwipe ρ vs) (supd S' p (.lst acc)) fun ρ2 S2 => t ρ2 S2 fun b S3 =>
    if b = true then e ρ2 S3 fun y S4 => acc.length < sizeLine ∧ ∃ S5, S4 = supd S5 p (.lst acc) ∧ Iv (i + 1) (acc ++ [y]) S5 else ∃ S5, S3 = supd S5 p (.lst acc) ∧ Iv (i + 1) acc S5) ∧
  ∀ acc S', Iv W.items.length acc S' → Q (.ptr p) (supd S' p (.lst acc))
theorem redLc {wi : WI} {g : WG} {t : WT} {e : WE} {vs : List Nat} {σ : Sg} {H : Hp} {Q : VK} (h : tE X.K (wLc wi g t e vs) σ H Q) : tLc (tI X.K wi) (tGo X.K vs g) (tT X.K t) (tE X.K e) vs σ H Q := by
  obtain ⟨ρ, S, Q0, hE, hS, hw, k⟩ := h
  refine ⟨ρ, S, _, hE, hS, hw, fun W S1 H1 J q hS1 p1 link L hL => ?_⟩
  obtain ⟨Iv, i0, ist, turn, fin⟩ := q L (hS1.fresh hL)
  have pL : Pst H1 (upd H1 L (.lst [])) := (Fre.new hL).pst
  refine ⟨fun i m H' => ∃ acc S', Iv i acc S' ∧ RS X.K H' (supd S' L (.lst acc)) ∧ Pst H1 H' ∧ i ≤ W.items.length ∧ m = W.items.length - i, ⟨_, [], S1, i0, hS1.upd (.new hL) (.lstUpd (.new hL) .nil), pL, Nat.zero_le _, rfl⟩, ?_⟩
  rintro i m H' ⟨acc, S', hI, hS', p', hle, rfl⟩
  obtain ⟨l1, l2⟩ := link i H' _ p' hS' (ist _ _ _ hI)
  by_cases hlt : i < W.items.length
  · obtain ⟨go, y⟩ := l1 _ (List.getElem?_eq_getElem hlt)
    refine .inr ⟨go, fun H3 => ∃ acc3 S3, Iv (i + 1) acc3 S3 ∧ RS X.K H3 (supd S3 L (.lst acc3)) ∧ Pst H1 H3, fun H3 ⟨acc3, S3, a1, a2, a3⟩ => ⟨_, by omega, acc3, S3, a1, a2, a3, by omega, rfl⟩, fun x H2 yl => ?_⟩
    obtain ⟨p2, hS2, rx⟩ := y x H2 yl
    have q := turn i _ acc S' (List.getElem?_eq_getElem hlt) hI
    refine ⟨_, dwipe ρ vs, _, _, rx, (hE.mono (p1.trans (p'.trans p2))).wipe vs, hS2, q, fun ρ3 S3 σ3 H3 q3 hE3 hS3 p3 w3 => ⟨?_, ?_⟩⟩
    · rw [w3]
      apply List.ext_getElem?
      intro j
      rw [wipe_get, wipe_get, wipe_length]
      by_cases z : j ∈ vs ∧ j < σ.length
      · rw [if_pos z, if_pos z]
      · rw [if_neg z]
    · have pa := p'.trans (p2.trans p3)
      refine ⟨ρ3, S3, _, hE3, hS3, q3, fun b S4 H4 q4 hS4 p4 => ?_⟩
      cases b with
      | true =>
        refine iteT ⟨ρ3, S4, _, hE3.mono p4, hS4, q4, fun yd S5 v5 H5 q5 r5 hS5 p5 => ?_⟩
        obtain ⟨hz, S6, e6, hI6⟩ := q5
        subst e6
        obtain ⟨us, hu, ru⟩ := hS5.lst supd_same
        refine ⟨us, hu, by rw [← ru.length]; exact hz, acc ++ [yd], S6, hI6, ?_, pa.trans (p4.trans (p5.trans (Fre.lst hu).pst))⟩
        have z := hS5.upd (Fre.lst hu) (OR.lstUpd (Fre.lst hu) (ru.append (.cons r5 .nil)))
        rw [supd_supd] at z
        exact z
      | false =>
        obtain ⟨S6, e6, hI6⟩ := q4
        subst e6
        exact iteF ⟨acc, S6, hI6, hS4, pa.trans p4⟩
  · have e : i = W.items.length := by omega
    subst e
    exact .inl ⟨l2 (Nat.le_refl _), k _ _ _ _ (fin _ _ hI) (.ptr L) hS' (p1.trans p')⟩
end
end Dl

/-! Dl4: calls of built-ins, sorting, methods, defs. -/
namespace Dl
open PySem PySem.Spec PyProof.Rows L2

/-! ### comprehensions as expressions and stores -/
section
variable {X : Cx}
theorem dLc {elt tg iter : Expr} {ifs : List Expr} {scope : Scope} {own : List (Str × Nat)} {pos : Pos} {wi : WI} {g : WG} {t : WT} {e : WE} (hc : X.calm = true) (hN : X.N.Nodup) (hi : PI X tg iter (tI X.K wi)) (ok : blkC X.N X.env.scope scope own = true)
    (hg : ∀ (s : Shared) (H : Hp) (C : Addr) (cl : List (Str × Addr)) (fp : List Addr), PG (X.blk s H scope (compEnvC scope cl C X.env) fp) tg (tGo X.K (own.map (·.2)) g))
    (ht : ∀ (s : Shared) (H : Hp) (C : Addr) (cl : List (Str × Addr)) (fp : List Addr), DTs (X.blk s H scope (compEnvC scope cl C X.env) fp) ifs t)
    (he : ∀ (s : Shared) (H : Hp) (C : Addr) (cl : List (Str × Addr)) (fp : List Addr), PE (X.blk s H scope (compEnvC scope cl C X.env) fp) elt (tE X.K e))
    (hs : ∀ x, foldedSetIterable iter X.env x = pure x := by intro _; rfl) : PE X (.ListComp elt [⟨tg, iter, ifs, 0⟩] scope pos) (tE X.K (wLc wi g t e (own.map (·.2)))) :=
  imE (pe_lc hc hN hi (blkOk_by ok) hg (fun s H C cl fp => (ht s H C cl fp).ts) he hs) fun _ _ _ h => redLc h
theorem dSetLc {i : Nat} {y : Str} {py : Pos} {elt tg iter : Expr} {ifs : List Expr} {scope : Scope} {own : List (Str × Nat)} {pos spos : Pos} {wi : WI} {g : WG} {t : WT} {e : WE} (hc : X.calm = true) (hN : X.N.Nodup) (hy : X.N[i]? = some y) (hyl : X.env.scope.names.lookup y = some .local)
    (hsw : swapsWith (.ListComp elt [⟨tg, iter, ifs, 0⟩] scope pos) (some (.Name y py)) spos.line X.env = pure true) (hi : PI X tg iter (tI X.K wi)) (ok : blkC X.N X.env.scope scope own = true)
    (hg : ∀ (s : Shared) (H : Hp) (C : Addr) (cl : List (Str × Addr)) (fp : List Addr), PG (X.blk s H scope (compEnvC scope cl C X.env) fp) tg (tGo X.K (own.map (·.2)) g))
    (ht : ∀ (s : Shared) (H : Hp) (C : Addr) (cl : List (Str × Addr)) (fp : List Addr), DTs (X.blk s H scope (compEnvC scope cl C X.env) fp) ifs t)
    (he : ∀ (s : Shared) (H : Hp) (C : Addr) (cl : List (Str × Addr)) (fp : List Addr), PE (X.blk s H scope (compEnvC scope cl C X.env) fp) elt (tE X.K e))
    (hs : ∀ x, foldedSetIterable iter X.env x = pure x := by intro _; rfl) : PS X (.Assign [.Name y py] (.ListComp elt [⟨tg, iter, ifs, 0⟩] scope pos) spos) (tS X.K (wSet i (wLc wi g t e (own.map (·.2))))) :=
  imS (ps_setLc hc hN hy hyl hsw hi (blkOk_by ok) hg (fun s H C cl fp => (ht s H C cl fp).ts) he hs) fun Dn σ H ⟨ρ, S, D0, hE, hS, hw, k⟩ =>
    redLc ⟨ρ, S, _, hE, hS, hw, fun d S1 v H1 q r hS1 p => k.nx _ _ _ _ q ((hE.mono p).set r i) hS1 p⟩

/-! ### built-ins by values -/
abbrev GL := List D → Ss → WK → Prop
def lC (K : PySem.W.Frag) (g : GL) : List V → Hp → VK → Prop := fun vs H Q => ∃ ds S Q0, RVs K H ds vs ∧ RS K H S ∧ g ds S Q0 ∧ Kont K H Q0 Q
def wCall (g : GL) (w : WA) : WE := fun ρ S Q => w ρ S fun ds S1 => g ds S1 Q
variable {x : Str} {p pos : Pos} {e : Expr} {es : List Expr} {w : WA} {id T : String} {g : GL}
theorem redC {σ : Sg} {H : Hp} {Q : VK} (h : tE X.K (wCall g w) σ H Q) : tCB (lC X.K g) (tA X.K w) σ H Q := by
  obtain ⟨ρ, S, Q0, hE, hS, hw, k⟩ := h
  exact ⟨ρ, S, _, hE, hS, hw, fun ds S1 vs H1 q r hS1 p => ⟨ds, S1, Q0, r, hS1, q, Kont.mono p k⟩⟩
theorem dB (hc : CallR X (.builtin id) (lC X.K g)) (hg : Gl X x) (hm : X.mg x = none) (ha : PA X (e :: es) (tA X.K w)) (hv : bootBuiltins x = some (.builtin id) := by decide +kernel) (hn : x ≠ "__name__" := by decide) (hdb : (x == ("__debug__" : Str)) = false := by decide)
    (he : starEach (e :: es) X.env = (false, eval e X.env) :: starEach es X.env := by rfl) (hpl : (backTo pos (starEach es X.env)).any (·.1) = false := by rfl) : PE X (.Call (.Name x p) (e :: es) [] pos) (tE X.K (wCall g w)) :=
  imE (pe_callB hc hg hm hv ha hn hdb he hpl) fun _ _ _ h => redC h
theorem dTy (hc : CallR X (.type T) (lC X.K g)) (hg : Gl X x) (hm : X.mg x = none) (ha : PA X (e :: es) (tA X.K w)) (hv : bootBuiltins x = some (.type T) := by decide +kernel) (hn : x ≠ "__name__" := by decide) (hdb : (x == ("__debug__" : Str)) = false := by decide)
    (he : starEach (e :: es) X.env = (false, eval e X.env) :: starEach es X.env := by rfl) (hpl : (backTo pos (starEach es X.env)).any (·.1) = false := by rfl) : PE X (.Call (.Name x p) (e :: es) [] pos) (tE X.K (wCall g w)) :=
  imE (pe_callTy hc hg hm hv ha hn hdb he hpl) fun _ _ _ h => redC h
theorem imC {f : Value} {r r' : List V → Hp → VK → Prop} (h : CallR X f r) (q : ∀ xs H Q, r' xs H Q → r xs H Q) : CallR X f r' := fun pins s σ H xs us Q I rr z => h pins s σ H xs us Q I rr (q _ _ _ z)
theorem RVs.one {K : PySem.W.Frag} {H : Hp} {d : D} {vs : List V} (h : RVs K H [d] vs) : ∃ v, vs = [v] ∧ RV K H d v := by
  obtain ⟨v, ws, rfl, r, t⟩ := h.ofCons
  rw [t.ofNil]
  exact ⟨v, rfl, r⟩
theorem RVs.two {K : PySem.W.Frag} {H : Hp} {d d' : D} {vs : List V} (h : RVs K H [d, d'] vs) : ∃ v v', vs = [v, v'] ∧ RV K H d v ∧ RV K H d' v' := by
  obtain ⟨v, ws, rfl, r, t⟩ := h.ofCons
  obtain ⟨v', rfl, r'⟩ := t.one
  exact ⟨v, v', rfl, r, r'⟩
/-- one sequence -/
def gSeq (k : List D → Ss → WK → Prop) : GL := fun ds S Q => match ds with
  | [d] => ifS (seqOf S d) fun xs => k xs S Q
  | _ => False
theorem gSeq_of {K : PySem.W.Frag} {k : List D → Ss → WK → Prop} {vs : List V} {H : Hp} {Q : VK} (h : lC K (gSeq k) vs H Q) : ∃ a ws xs S Q0, vs = [.ref a] ∧ (SqL K H a ws ∨ SqT K H a ws) ∧ RVs K H xs ws ∧ RS K H S ∧ k xs S Q0 ∧ Kont K H Q0 Q := by
  obtain ⟨ds, S, Q0, r, hS, hg, kk⟩ := h
  unfold gSeq at hg
  split at hg
  · obtain ⟨v, rfl, rv⟩ := r.one
    obtain ⟨xs, e, q⟩ := hg.ex
    obtain ⟨a, ws, rfl, s, rr⟩ := seqOf_ok hS rv e
    exact ⟨a, ws, xs, S, Q0, rfl, s, rr, hS, q, kk⟩
  · exact hg.elim
def kLen : List D → Ss → WK → Prop := fun xs S Q => Q (.int xs.length) S
def kTuple : List D → Ss → WK → Prop := fun xs S Q => Q (.tup xs) S
def kList : List D → Ss → WK → Prop := fun xs S Q => ∀ p, S p = none → Q (.ptr p) (supd S p (.lst xs))
theorem c_tuple : CallR X (.type "tuple") (lC X.K (gSeq kTuple)) := imC call_tuple_of fun vs H Q ⟨ds, S, Q0, r, hS, hg, k⟩ => by
  unfold gSeq at hg
  split at hg
  · rename_i d
    obtain ⟨v, rfl, rv⟩ := r.one
    obtain ⟨xs, e, q⟩ := hg.ex
    cases d with
    | tup ys =>
      cases e
      obtain ⟨a, ws, rfl, s, rr⟩ := rv.ofTupS
      exact ⟨a, ws, rfl, .inr ⟨s, k _ _ _ _ q rv hS .rfl⟩⟩
    | ptr a =>
      obtain ⟨ws, h1, rr⟩ := seqAt_ok hS e
      exact ⟨a, ws, by rw [rv.ofPtr], .inl ⟨h1, fun l hl => k _ _ _ _ q (.tup upd_same (rr.mono (Fre.new hl).pst)) (hS.keep hl) (Fre.new hl).pst⟩⟩
    | klst ys =>
      cases e
      obtain ⟨a, ws, rfl, s, rr⟩ := rv.ofKl
      exact ⟨a, ws, rfl, .inl ⟨s H, fun l hl => k _ _ _ _ q (.tup upd_same (rr.mono (Fre.new hl).pst)) (hS.keep hl) (Fre.new hl).pst⟩⟩
    | _ => cases e
  · exact hg.elim
theorem c_list : CallR X (.type "list") (lC X.K (gSeq kList)) := imC call_list_of fun vs H Q h => by
  obtain ⟨a, ws, xs, S, Q0, rfl, s, rr, hS, q, k⟩ := gSeq_of h
  exact ⟨a, ws, rfl, s, fun l hl => k _ _ _ _ (q l (hS.fresh hl)) (.ptr l) (hS.upd (.new hl) (.lstUpd (.new hl) rr)) (Fre.new hl).pst⟩
/-- len: of sequences, texts, dicts -/
def lenOf (S : Ss) (d : D) : Option Nat := match d with
  | .ptr a => match S a with
    | some (.dK kvs) => some kvs.length
    | some (.dT kvs) => some kvs.length
    | some (.lst xs) => some xs.length
    | some (.ro xs) => some xs.length
    | _ => none
  | .tup xs => some xs.length
  | .klst xs => some xs.length
  | .str z => if z.length ≤ sizeLine then some z.length else none
  | _ => none
def gLen : GL := fun ds S Q => match ds with
  | [d] => ifS (lenOf S d) fun n => Q (.int n) S
  | _ => False
theorem call_len_dK : CallR X (.builtin "len") (fun xs H Q => ∃ (a : Addr) (kvs : List (Key × V)), xs = [.ref a] ∧ H a = some (.dK kvs) ∧ Q (.int kvs.length) H) := by
  intro pins s σ H xs us Q I r h
  obtain ⟨a, kvs, rfl, e, q⟩ := h
  obtain ⟨u, rfl, ru⟩ := vals1 r
  cases ru
  exact d_len I (.inl e) fun t s' I' => ⟨.int kvs.length, H, I', ⟨t, rfl⟩, q⟩
theorem c_len : CallR X (.builtin "len") (lC X.K gLen) := imC (call_len_seq.or (call_len_str.or (call_len_dK.or call_len_dT))) fun vs H Q ⟨ds, S, Q0, r, hS, hg, k⟩ => by
  have seq : ∀ (d : D) (v : V) (xs : List D), RV X.K H d v → seqOf S d = some xs → Q0 (.int xs.length) S → ∃ p ys, [v] = [V.ref p] ∧ (SqL X.K H p ys ∨ SqT X.K H p ys) ∧ Q (.int ys.length) H := fun d v xs rv e q => by
    obtain ⟨a, ws, rfl, s, rr⟩ := seqOf_ok hS rv e
    exact ⟨a, ws, rfl, s, by rw [← rr.length]; exact k _ _ _ _ q (.int _) hS .rfl⟩
  unfold gLen at hg
  split at hg
  · obtain ⟨v, rfl, rv⟩ := r.one
    obtain ⟨n, e, q⟩ := hg.ex
    unfold lenOf at e
    split at e
    · split at e
      · rename_i kvs es
        obtain ⟨ws, h1, h2⟩ := hS _ _ es
        cases e
        rw [rv.ofPtr]
        exact .inr (.inr (.inl ⟨_, ws, rfl, h1, by rw [← h2.length]; exact k _ _ _ _ q (.int _) hS .rfl⟩))
      · rename_i kvs es
        obtain ⟨ws, h1, h2⟩ := hS _ _ es
        cases e
        rw [rv.ofPtr]
        exact .inr (.inr (.inr ⟨_, ws, rfl, h1, by rw [← h2.length]; exact k _ _ _ _ q (.int _) hS .rfl⟩))
      · rename_i xs es
        cases e
        exact .inl (seq _ _ xs rv (by show seqAt S _ = _; unfold seqAt; rw [es]) q)
      · rename_i xs es
        cases e
        exact .inl (seq _ _ xs rv (by show seqAt S _ = _; unfold seqAt; rw [es]) q)
      · cases e
    · cases e
      exact .inl (seq _ _ _ rv rfl q)
    · cases e
      exact .inl (seq _ _ _ rv rfl q)
    · split at e
      · rename_i hz
        cases e
        rw [rv.ofStr]
        exact .inr (.inl ⟨_, rfl, hz, k _ _ _ _ q (.int _) hS .rfl⟩)
      · cases e
    · cases e
  · exact hg.elim
def gAbs : GL := fun ds S Q => match ds with
  | [.int i] => Q (.int (if i < 0 then -i else i)) S
  | _ => False
theorem c_abs : CallR X (.builtin "abs") (lC X.K gAbs) := imC call_abs fun vs H Q ⟨ds, S, Q0, r, hS, hg, k⟩ => by
  unfold gAbs at hg
  split at hg
  · obtain ⟨v, rfl, rv⟩ := r.one
    rw [rv.ofInt]
    exact ⟨_, rfl, k _ _ _ _ hg (.int _) hS .rfl⟩
  · exact hg.elim
def gIntOf : GL := fun ds S Q => match ds with
  | [.int i] => Q (.int i) S
  | _ => False
theorem c_int : CallR X (.type "int") (lC X.K gIntOf) := imC call_int1 fun vs H Q ⟨ds, S, Q0, r, hS, hg, k⟩ => by
  unfold gIntOf at hg
  split at hg
  · obtain ⟨v, rfl, rv⟩ := r.one
    rw [rv.ofInt]
    exact .inl ⟨_, rfl, k _ _ _ _ hg (.int _) hS .rfl⟩
  · exact hg.elim
/-- ints of a sequence -/
def dints : List D → Option (List Int)
  | [] => some []
  | .int i :: ds => (dints ds).map (i :: ·)
  | _ => none
theorem dints_eq : ∀ {ds : List D} {ns : List Int}, dints ds = some ns → ds = ns.map D.int
  | [], ns, e => by cases e; rfl
  | .int i :: ds, ns, e => by
    obtain ⟨ms, e1, e2⟩ := Option.map_eq_some_iff.mp (show (dints ds).map (i :: ·) = some ns from e)
    subst e2
    rw [dints_eq e1]
    rfl
theorem dints_map : ∀ ns : List Int, dints (ns.map D.int) = some ns
  | [] => rfl
  | n :: ns => by
    show (dints (ns.map D.int)).map (n :: ·) = _
    rw [dints_map ns]
    rfl
def dbls : List D → Option (List Bool)
  | [] => some []
  | .bl i :: ds => (dbls ds).map (i :: ·)
  | _ => none
theorem dbls_eq : ∀ {ds : List D} {ns : List Bool}, dbls ds = some ns → ds = ns.map D.bl
  | [], ns, e => by cases e; rfl
  | .bl i :: ds, ns, e => by
    obtain ⟨ms, e1, e2⟩ := Option.map_eq_some_iff.mp (show (dbls ds).map (i :: ·) = some ns from e)
    subst e2
    rw [dbls_eq e1]
    rfl
theorem dbls_map : ∀ ns : List Bool, dbls (ns.map D.bl) = some ns
  | [] => rfl
  | n :: ns => by
    show (dbls (ns.map D.bl)).map (n :: ·) = _
    rw [dbls_map ns]
    rfl
def lstOf (S : Ss) : D → Option (List D)
  | .ptr a => seqAt S a
  | .klst xs => some xs
  | _ => none
theorem lst_ok {S : Ss} {d : D} {v : V} {xs : List D} {H : Hp} (hS : RS X.K H S) (rv : RV X.K H d v) (e : lstOf S d = some xs) : ∃ a vs, v = .ref a ∧ SqL X.K H a vs ∧ RVs X.K H xs vs := by
  cases d with
  | ptr a =>
    obtain ⟨ws, h1, h2⟩ := seqAt_ok hS e
    exact ⟨a, ws, rv.ofPtr, h1, h2⟩
  | klst ys =>
    cases e
    obtain ⟨a, vs, e1, s, q⟩ := rv.ofKl
    exact ⟨a, vs, e1, s H, q⟩
  | _ => cases e
theorem lst_ints {S : Ss} {d : D} {v : V} {ns : List Int} {H : Hp} (hS : RS X.K H S) (rv : RV X.K H d v) (e : (lstOf S d).bind dints = some ns) : ∃ a, v = .ref a ∧ SqL X.K H a (ns.map V.int) := by
  obtain ⟨xs, e1, e2⟩ := Option.bind_eq_some_iff.mp e
  obtain ⟨a, vs, e3, s, r⟩ := lst_ok hS rv e1
  rw [dints_eq e2] at r
  rw [r.ints] at s
  exact ⟨a, e3, s⟩
theorem lst_bls {S : Ss} {d : D} {v : V} {ns : List Bool} {H : Hp} (hS : RS X.K H S) (rv : RV X.K H d v) (e : (lstOf S d).bind dbls = some ns) : ∃ a, v = .ref a ∧ SqL X.K H a (ns.map V.bl) := by
  obtain ⟨xs, e1, e2⟩ := Option.bind_eq_some_iff.mp e
  obtain ⟨a, vs, e3, s, r⟩ := lst_ok hS rv e1
  rw [dbls_eq e2] at r
  rw [r.bls] at s
  exact ⟨a, e3, s⟩
/-- least and greatest: of two, of a list -/
def gMax : GL := fun ds S Q => match ds with
  | [.int i, .int j] => Q (.int (if j > i then j else i)) S
  | [d] => ifS ((lstOf S d).bind dints) fun ns => 0 < ns.length ∧ ∀ m, m ∈ ns → (∀ y, y ∈ ns → y ≤ m) → Q (.int m) S
  | _ => False
def gMin : GL := fun ds S Q => match ds with
  | [.int i, .int j] => Q (.int (if j < i then j else i)) S
  | [d] => ifS ((lstOf S d).bind dints) fun ns => 0 < ns.length ∧ ∀ m, m ∈ ns → (∀ y, y ∈ ns → m ≤ y) → Q (.int m) S
  | _ => False
theorem c_max (hc : X.calm = true) : CallR X (.builtin "max") (lC X.K gMax) := imC ((call_max2 hc).or (cr_max hc)) fun vs H Q ⟨ds, S, Q0, r, hS, hg, k⟩ => by
  unfold gMax at hg
  split at hg
  · obtain ⟨v, v', rfl, r1, r2⟩ := r.two
    rw [r1.ofInt, r2.ofInt]
    exact .inl ⟨_, _, rfl, k _ _ _ _ hg (.int _) hS .rfl⟩
  · obtain ⟨v, rfl, rv⟩ := r.one
    obtain ⟨ns, e, h0, q⟩ := hg.ex
    obtain ⟨a, rfl, h1⟩ := lst_ints hS rv e
    exact .inr ⟨_, ns, rfl, h1, h0, fun m m1 m2 => k _ _ _ _ (q m m1 m2) (.int _) hS .rfl⟩
  · exact hg.elim
theorem c_min (hc : X.calm = true) : CallR X (.builtin "min") (lC X.K gMin) := imC ((call_min2 hc).or (cr_min hc)) fun vs H Q ⟨ds, S, Q0, r, hS, hg, k⟩ => by
  unfold gMin at hg
  split at hg
  · obtain ⟨v, v', rfl, r1, r2⟩ := r.two
    rw [r1.ofInt, r2.ofInt]
    exact .inl ⟨_, _, rfl, k _ _ _ _ hg (.int _) hS .rfl⟩
  · obtain ⟨v, rfl, rv⟩ := r.one
    obtain ⟨ns, e, h0, q⟩ := hg.ex
    obtain ⟨a, rfl, h1⟩ := lst_ints hS rv e
    exact .inr ⟨_, ns, rfl, h1, h0, fun m m1 m2 => k _ _ _ _ (q m m1 m2) (.int _) hS .rfl⟩
  · exact hg.elim
/-- sum of a list of ints; any, all of a list of bools -/
def gSum : GL := fun ds S Q => match ds with
  | [d] => ifS ((lstOf S d).bind dints) fun ns => Q (.int ns.sum) S
  | _ => False
def gAny : GL := fun ds S Q => match ds with
  | [d] => ifS ((lstOf S d).bind dbls) fun bs => Q (.bl (bs.any fun b => b)) S
  | _ => False
def gAll : GL := fun ds S Q => match ds with
  | [d] => ifS ((lstOf S d).bind dbls) fun bs => Q (.bl (bs.all fun b => b)) S
  | _ => False
theorem c_sum (hc : X.calm = true) : CallR X (.builtin "sum") (lC X.K gSum) := imC (cr_sum hc) fun vs H Q ⟨ds, S, Q0, r, hS, hg, k⟩ => by
  unfold gSum at hg
  split at hg
  · obtain ⟨v, rfl, rv⟩ := r.one
    obtain ⟨ns, e, q⟩ := hg.ex
    obtain ⟨a, rfl, h1⟩ := lst_ints hS rv e
    exact ⟨_, ns, rfl, h1, k _ _ _ _ q (.int _) hS .rfl⟩
  · exact hg.elim
theorem c_any (hc : X.calm = true) : CallR X (.builtin "any") (lC X.K gAny) := imC (cr_any hc) fun vs H Q ⟨ds, S, Q0, r, hS, hg, k⟩ => by
  unfold gAny at hg
  split at hg
  · obtain ⟨v, rfl, rv⟩ := r.one
    obtain ⟨ns, e, q⟩ := hg.ex
    obtain ⟨a, rfl, h1⟩ := lst_bls hS rv e
    exact ⟨_, ns, rfl, h1, k _ _ _ _ q (.bl _) hS .rfl⟩
  · exact hg.elim
theorem c_all (hc : X.calm = true) : CallR X (.builtin "all") (lC X.K gAll) := imC (cr_all hc) fun vs H Q ⟨ds, S, Q0, r, hS, hg, k⟩ => by
  unfold gAll at hg
  split at hg
  · obtain ⟨v, rfl, rv⟩ := r.one
    obtain ⟨ns, e, q⟩ := hg.ex
    obtain ⟨a, rfl, h1⟩ := lst_bls hS rv e
    exact ⟨_, ns, rfl, h1, k _ _ _ _ q (.bl _) hS .rfl⟩
  · exact hg.elim
end

/-! ### sorted -/
abbrev leD : D → D → Bool := PySem.W.dataLe false D.py
structure SortOk (xs : List D) : Prop where
  pure : pures xs = true
  alike : PySem.W.AllAlike (xs.map D.py)
  sort : PySem.W.Sortable (xs.map D.py)
  len : xs.length ≤ sizeLine
  dep : ∀ d ∈ xs, d.py.depth ≤ 60
theorem pures_mem {d : D} : ∀ {xs : List D}, pures xs = true → d ∈ xs → d.pure = true
  | x :: xs, h, m => by
    rw [pures, Bool.and_eq_true] at h
    rcases List.mem_cons.mp m with e | m
    · rw [e]
      exact h.1
    · exact pures_mem h.2 m
section
variable {X : Cx} {pins : List (Addr × Obj)} {σ : Sg} {H : Hp} {s : Shared}
abbrev Stands (K : PySem.W.Frag) (H : Hp) (v : Value) (d : D) : Prop := ∃ x, RelV x v ∧ RV K H d x
theorem each_of : ∀ {xs : List D} {vs : List V} {us : List Value}, RVs X.K H xs vs → Vals vs us → PySem.W.EachIs (Stands X.K H) us xs
  | [], vs, us, r, q => by
    have e := r.ofNil
    subst e
    cases q
    exact .nil
  | x :: xs, vs, us, r, q => by
    obtain ⟨v, ws, rfl, r1, r2⟩ := r.ofCons
    cases q with
    | cons q1 q2 => exact .cons ⟨v, q1, r1⟩ (each_of r2 q2)
theorem of_each : ∀ {xs : List D} {us : List Value}, PySem.W.EachIs (Stands X.K H) us xs → ∃ vs, RVs X.K H xs vs ∧ Vals vs us
  | [], us, e => by
    cases e
    exact ⟨[], .nil, .nil⟩
  | x :: xs, us, e => by
    cases e with
    | cons h t =>
      obtain ⟨v, r1, r2⟩ := h
      obtain ⟨vs, q1, q2⟩ := of_each t
      exact ⟨v :: vs, .cons r2 q1, .cons r1 q2⟩
theorem each_reads (I : Inv X pins σ H s) {xs : List D} {us : List Value} (h : PySem.W.EachIs (Stands X.K H) us xs) (p : pures xs = true) : PySem.W.EachIs (fun v b => ∃ as, Reads s.heap v (D.py b) as) us xs := by
  induction h with
  | nil => exact .nil
  | cons h t ih =>
    obtain ⟨v, r1, r2⟩ := h
    rw [pures, Bool.and_eq_true] at p
    exact .cons (Dp.reads I _ v _ (RV.dp _ v r2 p.1) r1) (ih p.2)
mutual
theorem reads_nil {h : Heap} : ∀ (d : D) (v : Value) (as : List Addr), d.pure = true → Reads h v d.py as → as = []
  | .non, v, as, _, r => by
    rw [D.py] at r
    cases r
    rfl
  | .bl b, v, as, _, r => by
    rw [D.py] at r
    cases r
    rfl
  | .int i, v, as, _, r => by
    rw [D.py] at r
    cases r
    rfl
  | .str x, v, as, _, r => by
    rw [D.py] at r
    cases r
    rfl
  | .tup xs, v, as, p, r => by
    rw [D.py] at r
    rw [D.pure] at p
    cases r with
    | tuple h1 h2 h3 h4 => exact readsAll_nil xs _ _ p h4
  | .ptr a, v, as, p, _ => by
    rw [D.pure] at p
    cases p
  | .klst a, v, as, p, _ => by
    rw [D.pure] at p
    cases p
theorem readsAll_nil {h : Heap} : ∀ (ds : List D) (vs : List Value) (as : List Addr), pures ds = true → ReadsAll h vs (pys ds) as → as = []
  | [], vs, as, _, r => by
    rw [pys] at r
    cases r
    rfl
  | d :: ds, vs, as, p, r => by
    rw [pys] at r
    rw [pures, Bool.and_eq_true] at p
    cases r with
    | cons r1 r2 => rw [reads_nil d _ _ p.1 r1, readsAll_nil ds _ _ p.2 r2]; rfl
end
def kSorted : List D → Ss → WK → Prop := fun xs S Q => SortOk xs ∧ ∀ p, S p = none → Q (.ptr p) (supd S p (.lst (xs.mergeSort leD)))
theorem each_len {xs : List D} {us : List Value} {R : Value → D → Prop} (h : PySem.W.EachIs R us xs) : us.length = xs.length := h.length
/-- sorted(l), l a list -/
theorem c_sortedL (hu : X.A.units + 64 < cLine) : CallR X (.builtin "sorted") (fun vs H Q => ∃ a ws xs S Q0, vs = [V.ref a] ∧ SqL X.K H a ws ∧ RVs X.K H xs ws ∧ RS X.K H S ∧ kSorted xs S Q0 ∧ Kont X.K H Q0 Q) := by
  intro pins s σ H vs us Q I r h
  obtain ⟨a, ws, xs, S, Q0, rfl, hl, rr, hS, ⟨ok, q⟩, k⟩ := h
  obtain ⟨its, rv, pl, _⟩ := I.list hl
  rw [Vals.ref1 r]
  have ea := each_of rr rv
  refine PySem.W.sorted_data (bs := xs) (enc := D.py) pl.isList ea (each_reads I ea ok.pure) ok.alike ok.sort ok.len (fun b hb => by have := ok.dep b hb; omega) fun out hlen he => ?_
  obtain ⟨vs', r1, r2⟩ := of_each he
  obtain ⟨ep, he'⟩ := PyProof.Rows.sortedAll_at s.heap its out.toArray
  have hp : H (s.heap.objs.size + 1) = none := I.hok.fresh (Nat.le_succ _)
  have hz : vs'.length ≤ sizeLine := by rw [← r1.length, List.length_mergeSort]; exact ok.len
  have I2 := I.laid (t' := s.toks) (o := .lst vs') (fun _ _ => PyProof.Rows.sortedAll_old (vs := its) (out := out.toArray)) (Nat.le_succ _) ⟨hz, out, ep, r2, he'⟩
  exact ⟨.ref _, _, I2, rfl, k _ _ _ _ (q _ (hS.fresh hp)) (.ptr _) (hS.upd (.new hp) (.lstUpd (.new hp) r1)) (Fre.new hp).pst⟩
/-- what a dict's keys are as data -/
def dkeys (S : Ss) (a : Addr) : Option (List D) := match S a with
  | some (.dK kvs) => some (kvs.map fun kv => kD kv.1)
  | some (.dT kvs) => some (kvs.map fun kv => .tup (kv.1.map kD))
  | _ => none
theorem rvs_kD {K : PySem.W.Frag} {H : Hp} : ∀ ks : List Key, RVs K H (ks.map kD) (ks.map kV)
  | [] => .nil
  | .inl i :: ks => .cons (.int i) (rvs_kD ks)
  | .inr x :: ks => .cons (.str x) (rvs_kD ks)
theorem rv_kD {K : PySem.W.Frag} {H : Hp} : ∀ k : Key, RV K H (kD k) (kV k)
  | .inl i => .int i
  | .inr x => .str x
/-- the keys of a dict, collected -/
theorem keys_collect {A : Around} {a : Addr} {S : Ss} {xs : List D} {R : List Value → Shared → Prop} {E : Value → Shared → Prop} (I : Inv X pins σ H s) (hh : A.handled = none) (hS : RS X.K H S) (e : dkeys S a = some xs)
    (h : ∀ (h' : Heap) (tk : Nat) (us : List Value) (vs : List V), (∀ b o, s.heap.get? b = some o → h'.get? b = some o) → RVs X.K H xs vs → Vals vs us → R us { s with heap := h', toks := tk }) :
    wpAny (model X.prog X.w) A (collect (.ref a)) R E s := by
  unfold dkeys at e
  split at e
  · rename_i kvs es
    cases e
    obtain ⟨ws, h1, h2⟩ := hS _ _ es
    obtain ⟨z, lo, vs, rel, dd⟩ := dk_rd I.hok (.inl h1)
    obtain ⟨ep, hat⟩ := dd.dictAt
    refine PySem.W.kdu_collect (PySem.W.kdl_dict (knd := mixKind X.prog X.w) (kvs := vs) (ep := ep) lo) hh hat (by rw [← rel.length]; exact z) fun h' tk acc hk hacc => ?_
    refine h h' tk acc.toList (ws.map fun kv => kV kv.1) hk ?_ ?_
    · clear h hS I rel es h1 z
      induction h2 with
      | nil => exact .nil
      | cons hpq t ih =>
        rw [List.map_cons, List.map_cons, hpq.1]
        exact .cons (rv_kD _) ih
    · refine vals_of_at ?_ fun j x u e1 e2 => ?_
      · rw [List.length_map, rel.length, Array.length_toList]
        exact hacc.1.symm
      · obtain ⟨kk, y, e3, e4⟩ := hacc.2 j u (by rw [← Array.getElem?_toList]; exact e2)
        have e5 : (vs.map (·.1))[j]? = some kk := by rw [List.getElem?_map, e3]; rfl
        rw [← rel.keys, List.getElem?_map] at e5
        rw [List.getElem?_map] at e1
        obtain ⟨pr, ep', ek⟩ := Option.map_eq_some_iff.mp e5
        rw [ep'] at e1
        have e6 : kV pr.1 = x := Option.some.inj e1
        rw [← e6, ek]
        exact keyIs_rel e4
  · rename_i kvs es
    cases e
    obtain ⟨ws, h1, h2⟩ := hS _ _ es
    obtain ⟨z, hs, ks, pr, o, oes, ep, ho, hx, hdt, he, hn⟩ := (show ObjOk X.prog X.w H s.heap a (.dT ws) from I.hok a _ h1)
    have l1 : oes.size = ks.length := size_of_entries he
    have l2 : ws.length = ks.length := Paired.length pr
    refine PySem.W.kdu_collect (kdl_raw hs hx hdt) hh ho (by omega) fun h' tk acc hk it => ?_
    refine h h' tk acc.toList (ks.map fun x => V.ref x.2.1) hk ?_ ?_
    · have q : ∀ {kvs : List (List Key × D)} {ws : List (List Key × V)} {ks : List (List Key × Addr × Value)}, RKV X.K H kvs ws → KT H ws ks → RVs X.K H (kvs.map fun kv => D.tup (kv.1.map kD)) (ks.map fun x => V.ref x.2.1) := by
        intro kvs ws ks h2
        induction h2 generalizing ks with
        | nil =>
          intro p
          cases p
          exact .nil
        | cons hpq t ih =>
          intro p
          cases p with
          | cons p1 p2 =>
            refine .cons ?_ (ih p2)
            have hb := p1.2.1
            rw [← hpq.1] at hb
            exact .tup hb (rvs_kD _)
      exact q h2 pr
    · refine vals_of_at ?_ fun j x u e1 e2 => ?_
      · have e1 : acc.toList.length = acc.size := Array.length_toList
        have e2 := it.1
        rw [List.length_map]
        omega
      · obtain ⟨en, hen, hv⟩ := it.2 j u (by rw [← Array.getElem?_toList]; exact e2)
        have qe := entry_at he j
        rw [hen] at qe
        rw [List.getElem?_map] at e1
        obtain ⟨b, hb, eb⟩ := Option.map_eq_some_iff.mp e1
        rw [hb] at qe
        have e2 : en = entryOfKey (tupleKind (mixKind X.prog X.w)) b := Option.some.inj qe
        rw [hv, e2, ← eb]
        rfl
  · cases e
/-- sorted(d), d a dict -/
theorem c_sortedD (hc : X.calm = true) (hu : X.A.units + 64 < cLine) : CallR X (.builtin "sorted") (fun vs H Q => ∃ a xs S Q0, vs = [V.ref a] ∧ RS X.K H S ∧ dkeys S a = some xs ∧ kSorted xs S Q0 ∧ Kont X.K H Q0 Q) := by
  intro pins s σ H vs us Q I r h
  obtain ⟨a, xs, S, Q0, rfl, hS, ek, ⟨ok, q⟩, k⟩ := h
  rw [Vals.ref1 r]
  refine Calls.call_function_entry PyProof.Rows.kind_sorted PyProof.Rows.plain_sorted PyProof.Rows.entry_sorted (PyProof.Rows.args_sorted1 _) ?_
  unfold Builtin.«sorted»
  refine wpAny_bind (m := checkCount "sorted" 1 1 _) (wpAny_pure (wpAny_bind (keys_collect (A := X.A.in1) I (I.ok.hd hc) hS ek fun h' tk its ws hk rr rv => ?_)))
  have I1 : Inv X pins σ H { s with heap := h', toks := tk } := I.kept hk
  have hlen : its.length = xs.length := by rw [← rv.length, rr.length]
  refine wpAny_bind (wpAny_newList ?_ (by rw [hlen]; exact ok.len))
  have hoL : (h'.push (seqObj "list" its.toArray 0)).get? h'.objs.size = some (seqObj "list" its.toArray 0) := Heap.get?_push_size _ rfl
  have I2 : Inv X pins σ H { s with heap := h'.push (seqObj "list" its.toArray 0), toks := tk } := I1.kept (t' := tk) fun b o e => Heap.get?_push_of_some _ e
  have ea := each_of (X := X) rr rv
  have er := each_reads I1 ea ok.pure
  have er2 : PySem.W.EachIs (fun v b => ∃ as, Reads (h'.push (seqObj "list" its.toArray 0)) v (D.py b) as ∧ h'.objs.size ∉ as) its xs := (PySem.W.each_mem er).mono fun v b ⟨⟨as, rd⟩, hb⟩ =>
    ⟨as, PyProof.Rows.Reads.keeps (fun _ _ z => Heap.get?_push_of_some _ z) rd, by rw [reads_nil b _ _ (pures_mem ok.pure hb) rd]; simp⟩
  show wpAny _ _ _ _ _ { s with heap := h'.push (seqObj "list" its.toArray 0), toks := tk }
  refine wpAny_bind (wpAny_holding (PySem.W.list_sort_data (bs := xs) (enc := D.py) hoL ea er2 ok.alike ok.sort ok.len (fun b hb => ?_) fun out hl he => ?_))
  · have := ok.dep b hb
    show X.A.units + 1 + 1 + _ < _
    omega
  · obtain ⟨vs', r1, r2⟩ := of_each he
    obtain ⟨e', he'⟩ := PyProof.Rows.sortedHeap_at (vs := its) (out := out.toArray) hoL
    have hz : vs'.length ≤ sizeLine := by rw [← r1.length, List.length_mergeSort]; exact ok.len
    have hp : H h'.objs.size = none := I1.hok.fresh (Nat.le_refl _)
    refine wpAny_pure ⟨_, rfl, .ref h'.objs.size, L2.upd H h'.objs.size (.lst vs'), I1.laid (t' := tk) (fun b u e => ?_) (Nat.le_refl _) (show ObjOk X.prog X.w _ _ _ (.lst vs') from ⟨hz, out, e', r2, he'⟩), rfl, ?_⟩
    · have hb : b < h'.objs.size := Heap.lt_size e
      rw [PyProof.Rows.sortedHeap_old (Nat.ne_of_lt hb) (by rw [size_push']; exact Nat.lt_succ_of_lt hb)]
      exact Heap.get?_push_of_some _ e
    · exact k _ _ _ _ (q _ (hS.fresh hp)) (.ptr _) (hS.upd (.new hp) (.lstUpd (.new hp) r1)) (Fre.new hp).pst
/-- sorted: of a list, of a dict -/
def gSorted : GL := fun ds S Q => match ds with
  | [.ptr a] => match dkeys S a with
    | some xs => kSorted xs S Q
    | none => ifS (seqAt S a) fun xs => kSorted xs S Q
  | _ => False
theorem c_sorted (hc : X.calm = true) (hu : X.A.units + 64 < cLine) : CallR X (.builtin "sorted") (lC X.K gSorted) := imC ((c_sortedL hu).or (c_sortedD hc hu)) fun vs H Q ⟨ds, S, Q0, r, hS, hg, k⟩ => by
  unfold gSorted at hg
  split at hg
  · rename_i a
    obtain ⟨v, rfl, rv⟩ := r.one
    rw [rv.ofPtr]
    split at hg
    · rename_i xs e
      exact .inr ⟨a, xs, S, Q0, rfl, hS, e, hg, k⟩
    · obtain ⟨xs, e, q⟩ := hg.ex
      obtain ⟨ws, h1, h2⟩ := seqAt_ok hS e
      exact .inl ⟨a, ws, xs, S, Q0, rfl, h1, h2, hS, q, k⟩
  · exact hg.elim
end
end Dl

/-! Dl5: methods, defs, the law's source of numbers. -/
namespace Dl
open PySem PySem.Spec PyProof.Rows L2

section
variable {X : Cx}
/-! ### methods of lists -/
abbrev GM := D → List D → Ss → WK → Prop
def lM (K : PySem.W.Frag) (g : GM) : V → List V → Hp → VK → Prop := fun x vs H Q => ∃ d ds S Q0, RV K H d x ∧ RVs K H ds vs ∧ RS K H S ∧ g d ds S Q0 ∧ Kont K H Q0 Q
def isL (S : Ss) (x : D) : Bool := match x with
  | .ptr a => (seqAt S a).isSome
  | _ => false
theorem isL_ok {S : Ss} {x : D} (h : isL S x = true) : ∃ a xs, x = .ptr a ∧ seqAt S a = some xs := by
  cases x with
  | ptr a =>
    obtain ⟨xs, e⟩ := Option.isSome_iff_exists.mp (show (seqAt S a).isSome = true from h)
    exact ⟨a, xs, rfl, e⟩
  | _ => simp [isL] at h
def wMeth (g : GM) (wo : WE) (wa : WA) : WE := fun ρ S Q => wo ρ S fun x S1 => isL S1 x = true ∧ wa ρ S1 fun ds S2 => g x ds S2 Q
theorem imM {id : String} {r r' : V → List V → Hp → VK → Prop} (h : MtR X id r) (q : ∀ x xs H Q, r' x xs H Q → r x xs H Q) : MtR X id r' := fun pins s σ H x xs v us Q I r1 r2 z => h pins s σ H x xs v us Q I r1 r2 (q _ _ _ _ z)
theorem dM {o e : Expr} {es : List Expr} {wo : WE} {wa : WA} {name : Str} {apos cpos : Pos} {id : String} {g : GM} (slot : Slot "list" name id) (hty : typeOf (.builtin id) = pure (.type "method_descriptor")) (hm : MtR X id (lM X.K g)) (ho : PE X o (tE X.K wo)) (ha : PA X (e :: es) (tA X.K wa))
    (h1 : attributeBase o name X.env (eval o X.env) = eval o X.env := by rfl)
    (h2 : ((backTo cpos (starEach (e :: es) X.env)).all (fun x => !x.1) && (backToKw cpos (keywordEach [] X.env)).all (fun x => x.1.isSome)
      && decide ((e :: es).length + ([] : List Keyword).length + (if ([] : List Keyword).isEmpty then 0 else 1) < 30)) = true := by rfl)
    (h3 : (apos.endLine == cpos.line) = true := by rfl) (h4 : starEach (e :: es) X.env = (false, eval e X.env) :: starEach es X.env := by rfl) (h5 : (backTo cpos (starEach es X.env)).any (·.1) = false := by rfl) :
    PE X (.Call (.Attribute o name apos) (e :: es) [] cpos) (tE X.K (wMeth g wo wa)) := imE (pe_bm PySem.F.plainAttrs_list slot hty hm ho ha h1 h2 h3 h4 h5) fun σ H Q ⟨ρ, S, Q0, hE, hS, hw, k⟩ =>
  ⟨ρ, S, _, hE, hS, hw, fun x S1 v H1 ⟨hl, q⟩ r hS1 p => by
    obtain ⟨a, xs, ex, ea⟩ := isL_ok hl
    subst ex
    obtain ⟨ws, s, _⟩ := seqAt_ok hS1 ea
    rw [r.ofPtr]
    refine ⟨.inl ⟨rfl, ws, s⟩, ρ, S1, _, hE.mono p, hS1, q, fun ds S2 us H2 q2 r2 hS2 p2 => ⟨_, ds, S2, Q0, .ptr a, r2, hS2, q2, Kont.mono (p.trans p2) k⟩⟩⟩
theorem dM0 {o : Expr} {wo : WE} {name : Str} {apos cpos : Pos} {id : String} {g : GM} (slot : Slot "list" name id) (hty : typeOf (.builtin id) = pure (.type "method_descriptor")) (hm : MtR X id (lM X.K g)) (ho : PE X o (tE X.K wo))
    (h1 : attributeBase o name X.env (eval o X.env) = eval o X.env := by rfl) (h3 : (apos.endLine == cpos.line) = true := by rfl) :
    PE X (.Call (.Attribute o name apos) [] [] cpos) (tE X.K (wMeth g wo wNil)) := imE (pe_bm0 PySem.F.plainAttrs_list slot hty hm ho h1 h3) fun σ H Q ⟨ρ, S, Q0, hE, hS, hw, k⟩ =>
  ⟨ρ, S, _, hE, hS, hw, fun x S1 v H1 ⟨hl, q⟩ r hS1 p => by
    obtain ⟨a, xs, ex, ea⟩ := isL_ok hl
    subst ex
    obtain ⟨ws, s, _⟩ := seqAt_ok hS1 ea
    rw [r.ofPtr]
    exact ⟨.inl ⟨rfl, ws, s⟩, _, [], S1, Q0, .ptr a, .nil, hS1, q, Kont.mono p k⟩⟩
def gAppend : GM := fun x ds S Q => match x, ds with
  | .ptr a, [y] => match S a with
    | some (.lst xs) => xs.length < sizeLine ∧ Q .non (supd S a (.lst (xs ++ [y])))
    | _ => False
  | _, _ => False
theorem m_append : MtR X "list.append" (lM X.K gAppend) := imM mt_append fun x vs H Q ⟨d, ds, S, Q0, r, rr, hS, hg, k⟩ => by
  unfold gAppend at hg
  split at hg
  · split at hg
    · rename_i xs e
      obtain ⟨y, rfl, ry⟩ := rr.one
      obtain ⟨ws, h1, h2⟩ := hS.lst e
      have f := Fre.lst h1
      exact ⟨_, ws, y, r.ofPtr, rfl, h1, by rw [← h2.length]; exact hg.1, k _ _ _ _ hg.2 .non (hS.upd f (.lstUpd f (h2.append (.cons ry .nil)))) f.pst⟩
    · exact hg.elim
  · exact hg.elim
def gExtend : GM := fun x ds S Q => match x, ds with
  | .ptr a, [.ptr b] => match S a, S b with
    | some (.lst xs), some (.lst zs) => xs.length + zs.length ≤ sizeLine ∧ Q .non (supd S a (.lst (xs ++ zs)))
    | _, _ => False
  | _, _ => False
theorem m_extend : MtR X "list.extend" (lM X.K gExtend) := imM mt_extend fun x vs H Q ⟨d, ds, S, Q0, r, rr, hS, hg, k⟩ => by
  unfold gExtend at hg
  split at hg
  · split at hg
    · rename_i xs zs e e2
      obtain ⟨y, rfl, ry⟩ := rr.one
      obtain ⟨ws, h1, h2⟩ := hS.lst e
      obtain ⟨us, h3, h4⟩ := hS.lst e2
      have f := Fre.lst h1
      rw [ry.ofPtr]
      exact ⟨_, _, ws, us, r.ofPtr, rfl, h1, h3, by rw [← h2.length, ← h4.length]; exact hg.1, k _ _ _ _ hg.2 .non (hS.upd f (.lstUpd f (h2.append h4))) f.pst⟩
    · exact hg.elim
  · exact hg.elim
def gPop : GM := fun x ds S Q => match x, ds with
  | .ptr a, [] => match S a with
    | some (.lst xs) => ifS xs[xs.length - 1]? fun y => Q y (supd S a (.lst xs.dropLast))
    | _ => False
  | _, _ => False
theorem RVs.dropLast {K : PySem.W.Frag} {H : Hp} {ds : List D} {vs : List V} (h : RVs K H ds vs) : RVs K H ds.dropLast vs.dropLast := by
  rw [List.dropLast_eq_take, List.dropLast_eq_take, h.length]
  exact h.take _
theorem m_pop : MtR X "list.pop" (lM X.K gPop) := imM mt_pop fun x vs H Q ⟨d, ds, S, Q0, r, rr, hS, hg, k⟩ => by
  unfold gPop at hg
  split at hg
  · split at hg
    · rename_i xs e
      obtain ⟨y, ey, q⟩ := hg.ex
      obtain ⟨ws, h1, h2⟩ := hS.lst e
      have f := Fre.lst h1
      obtain ⟨u, eu, ru⟩ := h2.get ey
      rw [rr.ofNil]
      exact ⟨_, ws, u, r.ofPtr, rfl, h1, by rw [← h2.length]; exact eu, k _ _ _ _ q (ru.mono f.pst) (hS.upd f (.lstUpd f h2.dropLast)) f.pst⟩
    · exact hg.elim
  · exact hg.elim
def gPopAt : GM := fun x ds S Q => match x, ds with
  | .ptr a, [.int i] => match S a with
    | some (.lst xs) => -(2 ^ 63) ≤ i ∧ i < 2 ^ 63 ∧ ifS (seqIndex? i xs.length) fun j => ifS xs[j]? fun y => Q y (supd S a (.lst (xs.eraseIdx j)))
    | _ => False
  | _, _ => False
theorem m_popAt : MtR X "list.pop" (lM X.K gPopAt) := imM mt_popAt fun x vs H Q ⟨d, ds, S, Q0, r, rr, hS, hg, k⟩ => by
  unfold gPopAt at hg
  split at hg
  · split at hg
    · rename_i xs e
      obtain ⟨b1, b2, q⟩ := hg
      obtain ⟨j, ej, q⟩ := q.ex
      obtain ⟨y, ey, q⟩ := q.ex
      obtain ⟨ws, h1, h2⟩ := hS.lst e
      have f := Fre.lst h1
      obtain ⟨u, eu, ru⟩ := h2.get ey
      obtain ⟨z, rfl, rz⟩ := rr.one
      rw [rz.ofInt]
      exact ⟨_, ws, _, j, u, r.ofPtr, rfl, h1, b1, b2, by rw [← h2.length]; exact ej, eu, k _ _ _ _ q (ru.mono f.pst) (hS.upd f (.lstUpd f (h2.eraseIdx j))) f.pst⟩
    · exact hg.elim
  · exact hg.elim
end

/-! ### defs -/
abbrev XD := Value → List (Str × D) → Ss → Prop
abbrev FSp := List D → Ss → WK → XD → Prop
def RF (K : PySem.W.Frag) (H : Hp) (fs : List (Str × D)) (ws : List (Str × V)) : Prop := Paired (fun p q => p.1 = q.1 ∧ RV K H p.2 q.2) fs ws
def XKont (K : PySem.W.Frag) (H : Hp) (X0 : XD) (E : XK) : Prop := ∀ cls fs S' dx ws H', X0 cls fs S' → RS K H' S' → Pst H H' → H' dx = some (.xd ws) → RF K H' fs ws → E cls (some dx) H'
def spOf (K : PySem.W.Frag) (F : FSp) : Sp := fun vs H Q E => ∃ ds S Q0 X0, RVs K H ds vs ∧ RS K H S ∧ F ds S Q0 X0 ∧ Kont K H Q0 Q ∧ XKont K H X0 E
def noX : XD := fun _ _ _ => False
def wUser (F : FSp) (w : WA) : WE := fun ρ S Q => w ρ S fun ds S1 => F ds S1 Q noX
/-- at a return: what stood is enough -/
def retE (Q : WK) : DEnds := ⟨fun _ S => ∃ S0, Sub S0 S ∧ Q .non S0, fun d S => ∃ S0, Sub S0 S ∧ Q d S0, fun _ _ => False, fun _ _ => False⟩
section
variable {P : Program} {w : World} {K : PySem.W.Frag} {mg : Str → Option Value} {base : Heap}
theorem dFun {x qual : Str} {st : Stmt} {f : Addr} {fd : FuncData} {N ps : List Str} {k : Nat} {F : FSp} (Fn : Fun K x qual st f fd) (Sc : FnScope N ps (defScope st)) {b : WS}
    (der : ∀ (cdv : Value) (A : Around) (outer : List Env) (s : Shared) (H : Hp) (E : XK), Room k (A.deeper (envOfC qual (defScope st) s.heap.objs.size f cdv)) → PSs (cxOf CX0 P w K mg base N qual (defScope st) f cdv A outer s H E).nox (defBody st) (tS K b))
    (len : ∀ ds S Q Z, F ds S Q Z → ds.length = ps.length) (read : ∀ ds S Q Z, F ds S Q Z → b (retE Q) (dstart N.length ds) S) : FnOk P w K mg base CX0 (k + 1) f fd ps (spOf K F) := by
  refine Fn.ok Sc (fun vs H Q E h => ?_) (fun cdv A outer s H vs Q E hr h => ?_)
  · obtain ⟨ds, S, Q0, X0, r, hS, hF, _⟩ := h
    rw [← r.length]
    exact len _ _ _ _ hF
  · obtain ⟨ds, S, Q0, X0, r, hS, hF, kk, xk⟩ := h
    refine ⟨_, der cdv A outer s H E hr, _, S, _, RE.start r, hS, read _ _ _ _ hF, ⟨fun ρ' S' σ' H' ⟨S0, q, h0⟩ hE' hS' p => kk _ _ _ _ h0 .non (hS'.sub q) p, fun d S' v H' ⟨S0, q, h0⟩ rv hS' p => kk _ _ _ _ h0 rv (hS'.sub q) p, fun _ _ _ _ z => z.elim, fun _ _ _ _ z => z.elim⟩⟩
/-- another promise -/
theorem spImp {CX : CXT} {f : Addr} {fd : FuncData} {ps : List Str} {k : Nat} {F F' : FSp} (h : FnOk P w K mg base CX k f fd ps (spOf K F)) (q : ∀ ds S Q Z, F' ds S Q Z → F ds S Q Z) : FnOk P w K mg base CX k f fd ps (spOf K F') :=
  h.imp fun vs H Q E ⟨ds, S, Q0, X0, r, hS, hF, kk⟩ => ⟨ds, S, Q0, X0, r, hS, q _ _ _ _ hF, kk⟩
variable {X : Cx}
theorem dCall {k : Nat} {f : Addr} {fd : FuncData} {ps : List Str} {F : FSp} {x : Str} {p pos : Pos} {e : Expr} {es : List Expr} {wa : WA} (G : FnOk X.prog X.w X.K X.mg X.base CX0 k f fd ps (spOf X.K F)) (hr : Room k X.A) (hg : Gl X x) (hm : X.mg x = some (.ref f)) (hk : PySem.W.keepIn X.K (.ref f) = true) (hb : Binds X.K fd ps [])
    (ha : PA X (e :: es) (tA X.K wa)) (hdb : (x == ("__debug__" : Str)) = false := by decide) (he : starEach (e :: es) X.env = (false, eval e X.env) :: starEach es X.env := by rfl) (hpl : (backTo pos (starEach es X.env)).any (·.1) = false := by rfl) :
    PE X (.Call (.Name x p) (e :: es) [] pos) (tE X.K (wUser F wa)) := imE (pe_call G hr hg hm hk hb .nil pass0 ha hdb he hpl) fun σ H Q ⟨ρ, S, Q0, hE, hS, hw, k⟩ =>
  ⟨ρ, S, _, hE, hS, hw, fun ds S1 vs H1 q r hS1 p => ⟨ds, S1, Q0, noX, by rw [List.append_nil]; exact r, hS1, q, Kont.mono p k, fun _ _ _ _ _ _ z => z.elim⟩⟩
theorem dCall0 {k : Nat} {f : Addr} {fd : FuncData} {ps : List Str} {F : FSp} {x : Str} {p pos : Pos} (G : FnOk X.prog X.w X.K X.mg X.base CX0 k f fd ps (spOf X.K F)) (hr : Room k X.A) (hg : Gl X x) (hm : X.mg x = some (.ref f)) (hk : PySem.W.keepIn X.K (.ref f) = true) (hb : Binds X.K fd ps [])
    (hdb : (x == ("__debug__" : Str)) = false := by decide) : PE X (.Call (.Name x p) [] [] pos) (tE X.K (wUser F wNil)) := imE (pe_call0 G hr hg hm hk hb .nil pass0 hdb) fun σ H Q ⟨ρ, S, Q0, hE, hS, hw, k⟩ =>
  ⟨[], S, Q0, noX, .nil, hS, hw, k, fun _ _ _ _ _ _ z => z.elim⟩
/-- no two names: two promises of one def -/
theorem FnOk_and {f : Addr} {fd : FuncData} {ps : List Str} {k : Nat} {F F' : FSp} (h : FnOk P w K mg base CX0 k f fd ps (spOf K F)) (h' : FnOk P w K mg base CX0 k f fd ps (spOf K F')) : FnOk P w K mg base CX0 k f fd ps (spOf K fun ds S Q Z => F ds S Q Z ∨ F' ds S Q Z) := by
  refine ⟨fun vs H Q E ⟨ds, S, Q0, X0, r, hS, hF, kk⟩ => ?_, fun A outer s H args us vs Q E hr he hb hv ⟨ds, S, Q0, X0, r, hS, hF, kk⟩ => ?_⟩
  · rcases hF with hF | hF
    · exact h.len vs H Q E ⟨ds, S, Q0, X0, r, hS, hF, kk⟩
    · exact h'.len vs H Q E ⟨ds, S, Q0, X0, r, hS, hF, kk⟩
  · rcases hF with hF | hF
    · exact h.run A outer s H args us vs Q E hr he hb hv ⟨ds, S, Q0, X0, r, hS, hF, kk⟩
    · exact h'.run A outer s H args us vs Q E hr he hb hv ⟨ds, S, Q0, X0, r, hS, hF, kk⟩
end
end Dl

/-! Dl6: products, the law's source of numbers, the law's start. -/
namespace Dl
open PySem PySem.Spec PyProof.Rows L2

section
variable {X : Cx}
/-- *: of ints (one factor below 2^64), of a list -/
def gMul : G2 := fun x y S Q => match x, y with
  | .int i, .int j => CMul i j ∧ Q (.int (i * j)) S
  | .ptr a, .int k => match S a with
    | some (.lst xs) => -(2 ^ 63) ≤ k ∧ k < 2 ^ 63 ∧ xs.length * k.toNat ≤ sizeLine ∧ ∀ p, S p = none → Q (.ptr p) (supd S p (.lst (List.replicate k.toNat xs).flatten))
    | _ => False
  | _, _ => False
theorem o_mul : OpR X (binaryOp .Mult) (l2 X.K gMul) := imO (op_mul.or op_rep) fun x y H Q ⟨d, e, S, Q0, r1, r2, hS, hg, k⟩ => by
  unfold gMul at hg
  split at hg
  · exact .inl ⟨_, _, r1.ofInt, r2.ofInt, hg.1, k _ _ _ _ hg.2 (.int _) hS .rfl⟩
  · split at hg
    · rename_i xs e
      obtain ⟨ws, h1, h2⟩ := hS.lst e
      obtain ⟨b1, b2, b3, q⟩ := hg
      refine .inr ⟨_, _, ws, r1.ofPtr, r2.ofInt, h1, b1, b2, by rw [← h2.length]; exact b3, fun p hp => ?_⟩
      exact k _ _ _ _ (q p (hS.fresh hp)) (.ptr p) (hS.upd (.new hp) (.lstUpd (.new hp) (h2.rep _))) (Fre.new hp).pst
    · exact hg.elim
  · exact hg.elim
end

/-! ### equality of ints, texts, data -/
theorem eq_ints {neg : Bool} {i j : Int} {S : Ss} {Q : WK} (h : Q (.bl (if neg = true then !decide (i = j) else decide (i = j))) S) : gEq neg (.int i) (.int j) S Q := by
  refine ⟨.int i, .int j, rfl, rfl, by simp [PyData.depth], by simp [PyData.depth], ?_⟩
  have e : PyData.eqv (.int i) (.int j) = decide (i = j) := by rw [PyData.eqv, Bool.beq_eq_decide_eq]
  rw [e]
  exact h
theorem eq_intF {i j : Int} {S : Ss} {Q : WK} (h : Q (.bl (decide (i = j))) S) : gEq false (.int i) (.int j) S Q := eq_ints h
theorem eq_intT {i j : Int} {S : Ss} {Q : WK} (h : Q (.bl (!decide (i = j))) S) : gEq true (.int i) (.int j) S Q := eq_ints h
theorem seqAt_lst {S : Ss} {a : Addr} {xs : List D} (h : S a = some (.lst xs)) : seqAt S a = some xs := by
  unfold seqAt
  rw [h]
theorem seqAt_same {S : Ss} {a : Addr} {xs : List D} : seqAt (supd S a (.lst xs)) a = some xs := seqAt_lst supd_same
theorem seqAt_ne {S : Ss} {a b : Addr} {o : Ob} (h : b ≠ a) : seqAt (supd S a o) b = seqAt S b := by
  unfold seqAt
  rw [supd_ne h]
theorem seqOf_ptr {S : Ss} {a : Addr} : seqOf S (.ptr a) = seqAt S a := rfl
theorem seqOf_tup {S : Ss} {xs : List D} : seqOf S (.tup xs) = some xs := rfl
theorem seqOf_kl {S : Ss} {xs : List D} : seqOf S (.klst xs) = some xs := rfl
theorem ixAt_nat {S : Ss} {x : D} {xs : List D} {i : Int} {d : D} (h : seqOf S x = some xs) (n : Nat) (hi : i = (n : Int)) (h2 : xs[n]? = some d) : ixAt S x i = some d := by
  unfold ixAt
  rw [h, hi]
  exact atI_nat h2
theorem gIx_of {S : Ss} {x : D} {i : Int} {d : D} {Q : WK} (h : ixAt S x i = some d) (q : Q d S) : gIx x (.int i) S Q := by
  cases x with
  | str z => exact nomatch (show (none : Option D) = some d from h)
  | _ => exact ifS.of (k := fun d => Q d S) h q
theorem ixN_nat {n : Nat} {i : Int} {j : Nat} (h : i = (j : Int)) (hj : j < n) : ixN n i = some j := by
  subst h
  unfold ixN
  rw [if_pos (by omega), if_pos (by omega)]
  rfl
theorem lset_ptr {a : Addr} {i : Int} {xs : List D} {S : Ss} {z : D} (h1 : S a = some (.lst xs)) (n : Nat) (hi : i = (n : Int)) (hn : n < xs.length) : lset S (.ptr a) (.int i) z = some (supd S a (.lst (xs.set n z))) := by
  show (match S a with
    | some (.lst xs) => (ixN xs.length i).map fun j => supd S a (.lst (xs.set j z))
    | _ => none) = _
  rw [h1]
  show (ixN xs.length i).map _ = _
  rw [ixN_nat hi hn]
  rfl
theorem lenOf_lst {S : Ss} {a : Addr} {xs : List D} (h : S a = some (.lst xs)) : lenOf S (.ptr a) = some xs.length := by
  show (match S a with
    | some (.dK kvs) => some kvs.length
    | some (.dT kvs) => some kvs.length
    | some (.lst xs) => some xs.length
    | some (.ro xs) => some xs.length
    | _ => none) = _
  rw [h]
theorem gEq_int {neg : Bool} {i j : Int} {S : Ss} {Q : WK} : gEq neg (.int i) (.int j) S Q = Q (.bl (if neg = true then !decide (i = j) else decide (i = j))) S := by
  apply propext
  refine ⟨fun h => ?_, eq_ints⟩
  obtain ⟨a, b, ea, eb, _, _, q⟩ := h
  cases ea
  cases eb
  have e : PyData.eqv (D.int i).py (D.int j).py = decide (i = j) := by rw [D.py, D.py, PyData.eqv, Bool.beq_eq_decide_eq]
  rw [e] at q
  exact q

local macro_rules | `(tactic| walk_at "dl") => `(tactic| simp only [wSeq, wSet, wAsg, wIf, wRet, wRetN, wDo, wNext, wBreak, wCont, w2, wVar, wC, wB, wTAnd, wTOr, wTNot, wAnd, wOr, wNot, wIfE, wTup, wLst, wCons, wNil, wCall, wMeth, wDput, wgName, wgTup, wgCons, wgNil, wgSub, wDrop, wTDrop, wYes,
  gAdd, gInt0, gInt, gRel, gMul, gAbs, gIntOf, gEq_int, gIx, gLen, gSeq, ifS_some, seqOf_ptr, seqOf_tup, seqOf_kl, kTuple, kList, retE, List.getElem?_cons_zero, List.getElem?_cons_succ, List.set_cons_zero, List.set_cons_succ, dwipe, decide_eq_true_eq, Bool.not_eq_true', decide_eq_false_iff_not, reduceIte, Bool.false_eq_true, if_true, if_false, List.length_cons, List.length_nil])
local macro_rules | `(tactic| walk_at "dl*") => `(tactic| simp only [*, wSeq, wSet, wAsg, wIf, wRet, wRetN, wDo, wNext, wBreak, wCont, w2, wVar, wC, wB, wTAnd, wTOr, wTNot, wAnd, wOr, wNot, wIfE, wTup, wLst, wCons, wNil, wCall, wMeth, wDput, wgName, wgTup, wgCons, wgNil, wgSub, wDrop, wTDrop, wYes,
  gAdd, gInt0, gInt, gRel, gMul, gAbs, gIntOf, gEq_int, gIx, gLen, gSeq, ifS_some, seqOf_ptr, seqOf_tup, seqOf_kl, kTuple, kList, retE, List.getElem?_cons_zero, List.getElem?_cons_succ, List.set_cons_zero, List.set_cons_succ, dwipe, decide_eq_true_eq, Bool.not_eq_true', decide_eq_false_iff_not, reduceIte, Bool.false_eq_true, if_true, if_false, List.length_cons, List.length_nil])
/-! ### the law's source of numbers -/
def b__law_begin : WS := (wSeq (wSet 1 (wC (.int 1)))
  (wSeq (wFor (wiSeq (wVar 0)) (wgName 2)
  (wSet 1 (w2 (gInt (fun _ j => 0 < j) fun i j => i % j) (w2 gAdd (w2 gAdd (w2 gMul (wVar 1) (wC (.int 69621))) (w2 (gInt (fun _ j => 0 < j) fun i j => i % j) (wCall gIntOf (wCons (wVar 2) wNil)) (wC (.int 2147483629)))) (wC (.int 7))) (wC (.int 2147483647)))))
  (wRet (wLst (wCons (wCall (gSeq kList) (wCons (wVar 0) wNil)) (wCons (wC (.int 0)) (wCons (wC (.int 0)) (wCons (wVar 1) wNil))))))))
def b__law_take : WS := (wSeq (wIf (wTAnd (wB (w2 (gEq false) (w2 gIx (wVar 0) (wC (.int 2))) (wC (.int 0)))) (wB (w2 (gRel fun i j => decide (i < j)) (w2 gIx (wVar 0) (wC (.int 1))) (wCall gLen (wCons (w2 gIx (wVar 0) (wC (.int 0))) wNil)))))
  (wSeq (wAsg (wCall gAbs (wCons (wCall gIntOf (wCons (w2 gIx (w2 gIx (wVar 0) (wC (.int 0))) (w2 gIx (wVar 0) (wC (.int 1)))) wNil)) wNil)) (wgSub (wVar 0) (wC (.int 2))))
  (wSeq (wAsg (w2 gAdd (w2 gIx (wVar 0) (wC (.int 1))) (wC (.int 1))) (wgSub (wVar 0) (wC (.int 1))))
  (wIf (wB (w2 (gRel fun i j => decide (i < j)) (w2 gIx (wVar 0) (wC (.int 2))) (w2 (gInt CPow fun i j => i ^ j.toNat) (wC (.int 10)) (wC (.int 18)))))
  (wSeq (wSet 2 (wCall gIntOf (wCons (w2 gIx (wVar 0) (wC (.int 2))) wNil)))
  (wSeq (wAsg (wC (.int 0)) (wgSub (wVar 0) (wC (.int 2))))
  (wRet (w2 (gInt (fun _ j => 0 < j) fun i j => i % j) (wVar 2) (wVar 1)))))
  wNext)))
  wNext)
  (wSeq (wIf (wB (w2 (gRel fun i j => decide (j < i)) (w2 gIx (wVar 0) (wC (.int 2))) (wC (.int 0))))
  (wSeq (wSet 3 (w2 (gInt (fun _ j => 0 < j) fun i j => i % j) (wCall gIntOf (wCons (w2 gIx (wVar 0) (wC (.int 2))) wNil)) (wVar 1)))
  (wSeq (wAsg (w2 (gInt CDiv fun i j => i / j) (wCall gIntOf (wCons (w2 gIx (wVar 0) (wC (.int 2))) wNil)) (wVar 1)) (wgSub (wVar 0) (wC (.int 2))))
  (wRet (wVar 3))))
  wNext)
  (wSeq (wAsg (w2 (gInt (fun _ j => 0 < j) fun i j => i % j) (wCall gIntOf (wCons (w2 gAdd (w2 gMul (w2 gIx (wVar 0) (wC (.int 3))) (wC (.int 48271))) (wC (.int 11))) wNil)) (wC (.int 2147483647))) (wgSub (wVar 0) (wC (.int 3))))
  (wRet (w2 (gInt (fun _ j => 0 < j) fun i j => i % j) (wCall gIntOf (wCons (w2 (gInt CDiv fun i j => i / j) (w2 gIx (wVar 0) (wC (.int 3))) (wC (.int 3))) wNil)) (wVar 1))))))
def T_take : FSp := fun ds S Q _ => ∃ (a l : Addr) (pos acc seed many : Int) (ns : List Int), ds = [.ptr a, .int many] ∧ S a = some (.lst [.ptr l, .int pos, .int acc, .int seed]) ∧ S l = some (.lst (ns.map .int)) ∧ a ≠ l ∧
  0 ≤ pos ∧ 0 ≤ acc ∧ 0 ≤ seed ∧ seed < 2147483647 ∧ 1 ≤ many ∧ many < 1073741824 ∧
  ∀ r pos' acc' seed' : Int, 0 ≤ r → r < many → 0 ≤ pos' → 0 ≤ acc' → 0 ≤ seed' → seed' < 2147483647 → Q (.int r) (supd S a (.lst [.ptr l, .int pos', .int acc', .int seed']))
/-- the last part: a number of its own -/
theorem take_last {a l : Addr} {pos acc seed many : Int} {o2 o3 : Option D} {S : Ss} {Q : WK} (ha : S a = some (.lst [.ptr l, .int pos, .int acc, .int seed])) (h0 : 0 ≤ seed) (h1 : seed < 2147483647) (hm : 1 ≤ many)
    (k : ∀ r seed' : Int, 0 ≤ r → r < many → 0 ≤ seed' → seed' < 2147483647 → Q (.int r) (supd S a (.lst [.ptr l, .int pos, .int acc, .int seed']))) :
    (wSeq (wAsg (w2 (gInt (fun _ j => 0 < j) fun i j => i % j) (wCall gIntOf (wCons (w2 gAdd (w2 gMul (w2 gIx (wVar 0) (wC (.int 3))) (wC (.int 48271))) (wC (.int 11))) wNil)) (wC (.int 2147483647))) (wgSub (wVar 0) (wC (.int 3))))
      (wRet (w2 (gInt (fun _ j => 0 < j) fun i j => i % j) (wCall gIntOf (wCons (w2 (gInt CDiv fun i j => i / j) (w2 gIx (wVar 0) (wC (.int 3))) (wC (.int 3))) wNil)) (wVar 1)))) (retE Q) [some (.ptr a), some (.int many), o2, o3] S := by
  have f3 : ixAt S (.ptr a) 3 = some (.int seed) := ixAt_nat (seqAt_lst ha) 3 rfl rfl
  have e0 := Int.emod_nonneg (seed * 48271 + 11) (show (2147483647 : Int) ≠ 0 by decide)
  have e1 := Int.emod_lt_of_pos (seed * 48271 + 11) (show (0 : Int) < 2147483647 by decide)
  have g3 : ∀ z : D, lset S (.ptr a) (.int 3) z = some (supd S a (.lst [.ptr l, .int pos, .int acc, z])) := fun z => lset_ptr ha 3 rfl (by show 3 < 4; decide)
  have f4 : ∀ z : D, ixAt (supd S a (.lst [.ptr l, .int pos, .int acc, z])) (.ptr a) 3 = some z := fun z => ixAt_nat seqAt_same 3 rfl rfl
  walk_at "dl"
  simp only [f3, g3, f4, ifS_some]
  exact ⟨.inr ⟨by decide, by decide⟩, by decide, ⟨by decide, by decide⟩, by omega, _, Sub.refl, k _ _ (Int.emod_nonneg _ (by omega)) (Int.emod_lt_of_pos _ (by omega)) e0 e1⟩
theorem take_rest {a l : Addr} {pos acc seed many : Int} {o2 o3 : Option D} {S : Ss} {Q : WK} (ha : S a = some (.lst [.ptr l, .int pos, .int acc, .int seed])) (p0 : 0 ≤ pos) (a0 : 0 ≤ acc) (h0 : 0 ≤ seed) (h1 : seed < 2147483647) (hm : 1 ≤ many) (hm1 : many < 1073741824)
    (k : ∀ r pos' acc' seed' : Int, 0 ≤ r → r < many → 0 ≤ pos' → 0 ≤ acc' → 0 ≤ seed' → seed' < 2147483647 → Q (.int r) (supd S a (.lst [.ptr l, .int pos', .int acc', .int seed']))) :
    (wSeq (wIf (wB (w2 (gRel fun i j => decide (j < i)) (w2 gIx (wVar 0) (wC (.int 2))) (wC (.int 0))))
  (wSeq (wSet 3 (w2 (gInt (fun _ j => 0 < j) fun i j => i % j) (wCall gIntOf (wCons (w2 gIx (wVar 0) (wC (.int 2))) wNil)) (wVar 1)))
  (wSeq (wAsg (w2 (gInt CDiv fun i j => i / j) (wCall gIntOf (wCons (w2 gIx (wVar 0) (wC (.int 2))) wNil)) (wVar 1)) (wgSub (wVar 0) (wC (.int 2))))
  (wRet (wVar 3))))
  wNext)
  (wSeq (wAsg (w2 (gInt (fun _ j => 0 < j) fun i j => i % j) (wCall gIntOf (wCons (w2 gAdd (w2 gMul (w2 gIx (wVar 0) (wC (.int 3))) (wC (.int 48271))) (wC (.int 11))) wNil)) (wC (.int 2147483647))) (wgSub (wVar 0) (wC (.int 3))))
  (wRet (w2 (gInt (fun _ j => 0 < j) fun i j => i % j) (wCall gIntOf (wCons (w2 (gInt CDiv fun i j => i / j) (w2 gIx (wVar 0) (wC (.int 3))) (wC (.int 3))) wNil)) (wVar 1))))) (retE Q) [some (.ptr a), some (.int many), o2, o3] S := by
  have last := take_last (o2 := o2) (o3 := o3) (Q := Q) ha h0 h1 hm fun r seed' r0 r1 z0 z1 => k r pos acc seed' r0 r1 p0 a0 z0 z1
  revert last
  walk_at "dl"
  intro last
  have f2 : ixAt S (.ptr a) 2 = some (.int acc) := ixAt_nat (seqAt_lst ha) 2 rfl rfl
  have g2 : ∀ z : D, lset S (.ptr a) (.int 2) z = some (supd S a (.lst [.ptr l, .int pos, z, .int seed])) := fun z => lset_ptr ha 2 rfl (by show 2 < 4; decide)
  simp only [f2, g2, ifS_some]
  exact ite2 (fun hacc => ⟨by omega, ⟨by omega, hm1⟩, _, Sub.refl, k _ _ _ _ (Int.emod_nonneg _ (by omega)) (Int.emod_lt_of_pos _ (by omega)) p0 (Int.ediv_nonneg a0 (by omega)) h0 h1⟩) fun _ => last
theorem read_take (ds : List D) (S : Ss) (Q : WK) (Z : XD) (h : T_take ds S Q Z) : b__law_take (retE Q) (dstart 4 ds) S := by
  obtain ⟨a, l, pos, acc, seed, many, ns, rfl, ha, hl, nal, p0, a0, s0, s1, m0, m1, k⟩ := h
  show b__law_take (retE Q) [some (.ptr a), some (.int many), none, none] S
  have rest := take_rest (o2 := none) (o3 := none) (Q := Q) ha p0 a0 s0 s1 m0 m1 k
  have rest2 := fun (S' : Ss) (z : Int) (hS : S' a = some (.lst [.ptr l, .int (pos + 1), .int z, .int seed])) (z0 : 0 ≤ z) => take_rest (o2 := none) (o3 := none) (Q := Q) hS (by omega) z0 s0 s1 m0 m1
  unfold b__law_take
  revert rest rest2
  walk_at "dl"
  intro rest rest2
  have f0 : ixAt S (.ptr a) 0 = some (.ptr l) := ixAt_nat (seqAt_lst ha) 0 rfl rfl
  have f1 : ixAt S (.ptr a) 1 = some (.int pos) := ixAt_nat (seqAt_lst ha) 1 rfl rfl
  have f2 : ixAt S (.ptr a) 2 = some (.int acc) := ixAt_nat (seqAt_lst ha) 2 rfl rfl
  have fl := lenOf_lst hl
  simp only [f2, ifS_some] at rest
  by_cases hacc : acc = 0
  case neg =>
    clear rest2
    walk_at "dl*"
  subst hacc
  by_cases hp : pos < ((ns.map D.int).length : Int)
  case neg =>
    clear rest2
    walk_at "dl*"
  rw [List.length_map] at hp
  have hn : pos.toNat < ns.length := by omega
  have hg : ixAt S (.ptr l) pos = some (.int ns[pos.toNat]) := ixAt_nat (seqAt_lst hl) pos.toNat (by omega) (by
    rw [List.getElem?_map, List.getElem?_eq_getElem hn]
    rfl)
  have g2 : ∀ z : D, lset S (.ptr a) (.int 2) z = some (supd S a (.lst [.ptr l, .int pos, z, .int seed])) := fun z => lset_ptr ha 2 rfl (by show 2 < 4; decide)
  have f1' : ∀ z : D, ixAt (supd S a (.lst [.ptr l, .int pos, z, .int seed])) (.ptr a) 1 = some (.int pos) := fun z => ixAt_nat seqAt_same 1 rfl rfl
  have g1 : ∀ z y : D, lset (supd S a (.lst [.ptr l, .int pos, z, .int seed])) (.ptr a) (.int 1) y = some (supd S a (.lst [.ptr l, y, z, .int seed])) := fun z y => (lset_ptr supd_same 1 rfl (by show 1 < 4; decide)).trans (by rw [supd_supd]; rfl)
  have f2' : ∀ z y : D, ixAt (supd S a (.lst [.ptr l, y, z, .int seed])) (.ptr a) 2 = some z := fun z y => ixAt_nat seqAt_same 2 rfl rfl
  have g2' : ∀ z y u : D, lset (supd S a (.lst [.ptr l, y, z, .int seed])) (.ptr a) (.int 2) u = some (supd S a (.lst [.ptr l, y, u, .int seed])) := fun z y u => (lset_ptr supd_same 2 rfl (by show 2 < 4; decide)).trans (by rw [supd_supd]; rfl)
  have hp' : pos < ((ns.map D.int).length : Int) := by rw [List.length_map]; exact hp
  walk_at "dl*"
  generalize hz : (if ns[pos.toNat] < 0 then -ns[pos.toNat] else ns[pos.toNat]) = z
  have z0 : 0 ≤ z := by
    rw [← hz]
    split <;> omega
  refine ⟨⟨by decide, by decide, by decide⟩, ite2 (fun _ => ?_) (fun _ => ?_)⟩
  · exact ⟨by omega, _, Sub.refl, k _ _ _ _ (Int.emod_nonneg _ (by omega)) (Int.emod_lt_of_pos _ (by omega)) (by omega) (by omega) s0 s1⟩
  · have r2 := rest2 _ z supd_same z0 fun r pos' acc' seed' h1 h2 h3 h4 h5 h6 => by
      rw [supd_supd]
      exact k r pos' acc' seed' h1 h2 h3 h4 h5 h6
    simp only [f2', g2', ifS_some] at r2 ⊢
    exact r2
def T_begin : FSp := fun ds S Q _ => ∃ (d : D) (ns : List Int), ds = [d] ∧ seqOf S d = some (ns.map D.int) ∧
  ∀ (l p : Addr) (seed : Int), S l = none → S p = none → p ≠ l → 0 ≤ seed → seed < 2147483647 → Q (.ptr p) (supd (supd S l (.lst (ns.map .int))) p (.lst [.ptr l, .int 0, .int 0, .int seed]))
theorem read_begin (ds : List D) (S : Ss) (Q : WK) (Z : XD) (h : T_begin ds S Q Z) : b__law_begin (retE Q) (dstart 3 ds) S := by
  obtain ⟨d, ns, rfl, hs, k⟩ := h
  show b__law_begin (retE Q) [some d, none, none] S
  refine (show wFor (wiSeq (wVar 0)) (wgName 2) _ _ [some d, some (.int 1), none] S from ?_)
  refine ifS.of hs ⟨fun i ρ S' => S' = S ∧ ∃ (seed : Int) (o : Option D), ρ = [some d, some (.int seed), o] ∧ 0 ≤ seed ∧ seed < 2147483647, ⟨rfl, 1, none, rfl, by decide, by decide⟩, ?_, ?_, ?_⟩
  · rintro i ρ' S' ⟨rfl, _⟩
    exact hs
  · rintro i x ρ' S' hx ⟨rfl, seed, o, rfl, h0, h1⟩
    rw [List.getElem?_map] at hx
    obtain ⟨n, _, rfl⟩ := Option.map_eq_some_iff.mp hx
    walk_at "dl"
    exact ⟨.inr ⟨by decide, by decide⟩, by decide, by decide, trivial, _, _, rfl, Int.emod_nonneg _ (by decide), Int.emod_lt_of_pos _ (by decide)⟩
  · rintro ρ' S' ⟨rfl, seed, o, rfl, h0, h1⟩
    walk_at "dl"
    simp only [hs, ifS_some]
    refine fun l hl => ⟨by show 4 ≤ sizeLine; decide, fun p hp => ?_⟩
    have npl : p ≠ l := fun z => by
      rw [z, supd_same] at hp
      cases hp
    rw [supd_ne npl] at hp
    exact ⟨_, Sub.refl, k l p seed hl hp npl h0 h1⟩
/-- the source as it is used: it stays, the number is any below -/
def F__law_begin : FSp := fun ds S Q _ => ∃ (d : D) (ns : List Int), ds = [d] ∧ seqOf S d = some (ns.map D.int) ∧ ∀ l p : Addr, S l = none → S p = none → p ≠ l → Q (.ptr p) (supd (supd S l .src) p (.rnd l))
def IsRnd (S : Ss) (a : Addr) : Prop := ∃ l, S a = some (.rnd l) ∧ S l = some .src
def F__law_take : FSp := fun ds S Q _ => ∃ (a : Addr) (many : Int), ds = [.ptr a, .int many] ∧ IsRnd S a ∧ 1 ≤ many ∧ many < 1073741824 ∧ ∀ r : Int, 0 ≤ r → r < many → Q (.int r) S
theorem RS.retype {K : PySem.W.Frag} {H : Hp} {S : Ss} {a : Addr} {o : Ob} (h : RS K H S) (q : OR K H a o) : RS K H (supd S a o) := fun b u e => by
  by_cases hb : b = a
  · subst hb
    rw [supd_same] at e
    cases e
    exact q
  · rw [supd_ne hb] at e
    exact h b u e
section
variable {P : Program} {w : World} {K : PySem.W.Frag} {mg : Str → Option Value} {base : Heap} {CX : CXT} {f : Addr} {fd : FuncData} {ps : List Str} {k : Nat}
theorem take_src (h : FnOk P w K mg base CX k f fd ps (spOf K T_take)) : FnOk P w K mg base CX k f fd ps (spOf K F__law_take) :=
  h.imp fun vs H Q E ⟨ds, S, Q0, X0, r, hS, ⟨a, many, eds, ⟨l, ha, hl⟩, m0, m1, q⟩, kk, xk⟩ => by
    obtain ⟨pos, acc, seed, p0, a0, s0, s1, hH⟩ := hS _ _ ha
    obtain ⟨ns, hL⟩ := hS _ _ hl
    have nal : a ≠ l := fun z => by
      rw [z, hl] at ha
      cases ha
    refine ⟨ds, supd (supd S l (.lst (ns.map .int))) a (.lst [.ptr l, .int pos, .int acc, .int seed]), fun d S' => ∃ (r pos' acc' seed' : Int), d = .int r ∧ 0 ≤ pos' ∧ 0 ≤ acc' ∧ 0 ≤ seed' ∧ seed' < 2147483647 ∧ S' = supd (supd S l (.lst (ns.map .int))) a (.lst [.ptr l, .int pos', .int acc', .int seed']) ∧ Q0 (.int r) S, X0, r, ?_, ⟨a, l, pos, acc, seed, many, ns, eds, supd_same, by rw [supd_ne nal.symm]; exact supd_same, nal, p0, a0, s0, s1, m0, m1, ?_⟩, ?_, xk⟩
    · exact (hS.retype (a := l) (o := .lst (ns.map .int)) ⟨_, hL, .ofInts ns⟩).retype ⟨_, hH, .cons (.ptr l) (.cons (.int pos) (.cons (.int acc) (.cons (.int seed) .nil)))⟩
    · intro r pos' acc' seed' r0 r1 h1 h2 h3 h4
      exact ⟨r, pos', acc', seed', rfl, h1, h2, h3, h4, supd_supd, q r r0 r1⟩
    · rintro d S' v H' ⟨r, pos', acc', seed', rfl, h1, h2, h3, h4, rfl, q0⟩ rv hS' p
      refine kk _ _ _ _ q0 rv (fun b u e => ?_) p
      by_cases hb : b = a
      · subst hb
        rw [ha] at e
        cases e
        obtain ⟨us, g1, g2⟩ := hS'.lst supd_same
        obtain ⟨v1, w1, rfl, t1, g2⟩ := g2.ofCons
        obtain ⟨v2, w2, rfl, t2, g2⟩ := g2.ofCons
        obtain ⟨v3, w3, rfl, t3, g2⟩ := g2.ofCons
        obtain ⟨v4, w4, rfl, t4, g2⟩ := g2.ofCons
        rw [t1.ofPtr, t2.ofInt, t3.ofInt, t4.ofInt, g2.ofNil] at g1
        exact ⟨pos', acc', seed', h1, h2, h3, h4, g1⟩
      · by_cases hb2 : b = l
        · subst hb2
          rw [hl] at e
          cases e
          obtain ⟨us, g1, g2⟩ := hS'.lst (show supd (supd S b (.lst (ns.map .int))) a _ b = _ by rw [supd_ne hb]; exact supd_same)
          rw [g2.ints] at g1
          exact ⟨ns, g1⟩
        · exact hS' b u (by rw [supd_ne hb, supd_ne hb2]; exact e)
theorem begin_src (h : FnOk P w K mg base CX k f fd ps (spOf K T_begin)) : FnOk P w K mg base CX k f fd ps (spOf K F__law_begin) :=
  h.imp fun vs H Q E ⟨ds, S, Q0, X0, r, hS, ⟨d, ns, eds, hs, q⟩, kk, xk⟩ => by
    refine ⟨ds, S, fun z S' => ∃ (l p : Addr) (seed : Int), z = .ptr p ∧ p ≠ l ∧ 0 ≤ seed ∧ seed < 2147483647 ∧ S' = supd (supd S l (.lst (ns.map .int))) p (.lst [.ptr l, .int 0, .int 0, .int seed]) ∧ Q0 (.ptr p) (supd (supd S l .src) p (.rnd l)), X0, r, hS, ⟨d, ns, eds, hs, ?_⟩, ?_, xk⟩
    · intro l p seed hl hp npl s0 s1
      exact ⟨l, p, seed, rfl, npl, s0, s1, rfl, q l p hl hp npl⟩
    · rintro z S' v H' ⟨l, p, seed, rfl, npl, s0, s1, rfl, q0⟩ rv hS' pp
      refine kk _ _ _ _ q0 rv (fun b u e => ?_) pp
      by_cases hb : b = p
      · subst hb
        rw [supd_same] at e
        cases e
        obtain ⟨us, g1, g2⟩ := hS'.lst supd_same
        obtain ⟨v1, w1, rfl, t1, g2⟩ := g2.ofCons
        obtain ⟨v2, w2, rfl, t2, g2⟩ := g2.ofCons
        obtain ⟨v3, w3, rfl, t3, g2⟩ := g2.ofCons
        obtain ⟨v4, w4, rfl, t4, g2⟩ := g2.ofCons
        rw [t1.ofPtr, t2.ofInt, t3.ofInt, t4.ofInt, g2.ofNil] at g1
        exact ⟨0, 0, seed, Int.le_refl _, Int.le_refl _, s0, s1, g1⟩
      · rw [supd_ne hb] at e
        by_cases hb2 : b = l
        · subst hb2
          rw [supd_same] at e
          cases e
          obtain ⟨us, g1, g2⟩ := hS'.lst (show supd (supd S b (.lst (ns.map .int))) p _ b = _ by rw [supd_ne hb]; exact supd_same)
          rw [g2.ints] at g1
          exact ⟨ns, g1⟩
        · rw [supd_ne hb2] at e
          exact hS' b u (by rw [supd_ne hb, supd_ne hb2]; exact e)
end
/-- the law is called with the script -/
theorem law_start {K : PySem.W.Frag} {F : FSp} {a : Addr} {H : Hp} {ns : List Int} {Q : VK} {E : XK} (hF : ∀ (S : Ss) (Q : WK) (d : D), seqOf S d = some (ns.map D.int) → (∀ S', Q (.bl true) S') → F [d] S Q noX)
    (hO : Only H) (hS : SqL K H a (ns.map V.int)) (hQ : ∀ H', Q (.bl true) H') : spOf K F [.ref a] H Q E := by
  rcases hS with h | h
  · refine ⟨[.ptr a], supd (fun _ => none) a (.ro (ns.map .int)), fun d _ => d = .bl true, noX, .cons (.ptr a) .nil, fun b o e => ?_, hF _ _ _ ?_ fun _ => rfl, ?_, fun _ _ _ _ _ _ z => z.elim⟩
    · by_cases hb : b = a
      · subst hb
        rw [supd_same] at e
        cases e
        exact ⟨_, h, .ofInts ns⟩
      · rw [supd_ne hb] at e
        cases e
    · show seqAt _ a = _
      unfold seqAt
      rw [supd_same]
    · rintro d S' v H' rfl r _ _
      rw [r.ofBl]
      exact hQ _
  · refine ⟨[.klst (ns.map .int)], fun b => none, fun d _ => d = .bl true, noX, .cons (.kl (fun _ => .inr h) (.ofInts ns)) .nil, fun b o e => (nomatch e), hF _ _ _ rfl fun _ => rfl, ?_, fun _ _ _ _ _ _ z => z.elim⟩
    rintro d S' v H' rfl r _ _
    rw [r.ofBl]
    exact hQ _
end Dl

/-! Dl7: loops and comprehensions as functions; dicts as lists of numbers; sorting of keys. -/
namespace Dl
open PySem PySem.Spec PyProof.Rows L2

theorem take_succ {α β : Type} {l : List α} {i : Nat} {d : α} (f : α → Option β) (h : l[i]? = some d) : (l.take (i + 1)).filterMap f = (l.take i).filterMap f ++ (f d).toList := by
  rw [List.take_add_one, h, List.filterMap_append]
  congr 1
theorem Sub.seqOf {S S' : Ss} {d : D} {xs : List D} (q : Sub S S') (h : Dl.seqOf S d = some xs) : Dl.seqOf S' d = some xs := by
  cases d with
  | ptr a =>
    have e : seqAt S a = some xs := h
    show seqAt S' a = some xs
    unfold seqAt at e ⊢
    cases z : S a with
    | none =>
      rw [z] at e
      cases e
    | some o =>
      rw [z] at e
      rw [q a o z]
      exact e
  | tup ys => exact h
  | klst ys => exact h
  | _ => cases h
/-- a comprehension whose elements are a function of the items, the store left as it is -/
theorem lc_pure {wi : WI} {g : WG} {t : WT} {e : WE} {vs : List Nat} {ρ : Rho} {S : Ss} {Q : WK} {items : List D} (f : D → Option D)
    (hi : ∀ R : Wk → Ss → Prop, (∀ st : Ss → Prop, (∀ S', Sub S S' → st S') → R ⟨items, st⟩ S) → wi ρ S R) (hl : items.length ≤ sizeLine)
    (turn : ∀ d ∈ items, ∀ S', Sub S S' → ∀ R : Option D → Ss → Prop, R (f d) S' → g d (dwipe ρ vs) S' fun ρ2 S2 => t ρ2 S2 fun b S3 => if b = true then e ρ2 S3 fun y S4 => R (some y) S4 else R none S3)
    (k : ∀ p, S p = none → Q (.ptr p) (supd S p (.lst (items.filterMap f)))) : wLc wi g t e vs ρ S Q := by
  refine hi _ fun st hst p hp => ?_
  refine ⟨fun i acc S' => S' = S ∧ acc = (items.take i).filterMap f, ⟨rfl, rfl⟩, ?_, ?_, ?_⟩
  · rintro i acc S' ⟨rfl, rfl⟩
    exact hst _ (.new hp)
  · rintro i d acc S' hd ⟨rfl, rfl⟩
    have hil : i < items.length := (List.getElem?_eq_some_iff.mp hd).1
    have hacc : ((items.take i).filterMap f).length < sizeLine := by
      have h1 := List.length_filterMap_le f (items.take i)
      have h2 : (items.take i).length ≤ i := by rw [List.length_take]; omega
      omega
    refine turn d (List.mem_of_getElem? hd) _ (.new hp) (fun o S4 => match o with
      | some y => ((items.take i).filterMap f).length < sizeLine ∧ ∃ S5, S4 = supd S5 p (.lst ((items.take i).filterMap f)) ∧ S5 = S' ∧ (items.take i).filterMap f ++ [y] = (items.take (i + 1)).filterMap f
      | none => ∃ S5, S4 = supd S5 p (.lst ((items.take i).filterMap f)) ∧ S5 = S' ∧ (items.take i).filterMap f = (items.take (i + 1)).filterMap f) ?_
    have e := take_succ f hd
    cases hf : f d with
    | none =>
      rw [hf] at e
      exact ⟨S', rfl, rfl, by rw [e]; simp⟩
    | some y =>
      rw [hf] at e
      exact ⟨hacc, S', rfl, rfl, by rw [e]; rfl⟩
  · rintro acc S' ⟨rfl, rfl⟩
    rw [List.take_length]
    exact k p hp
/-- the same where the walked thing is new -/
theorem lc_pureN {wi : WI} {g : WG} {t : WT} {e : WE} {vs : List Nat} {ρ : Rho} {S : Ss} {Q : WK} {items : List D} (f : D → Option D)
    (hi : ∀ R : Wk → Ss → Prop, (∀ (st : Ss → Prop) S1, Sub S S1 → (∀ S', Sub S1 S' → st S') → R ⟨items, st⟩ S1) → wi ρ S R) (hl : items.length ≤ sizeLine)
    (turn : ∀ d ∈ items, ∀ S', Sub S S' → ∀ R : Option D → Ss → Prop, R (f d) S' → g d (dwipe ρ vs) S' fun ρ2 S2 => t ρ2 S2 fun b S3 => if b = true then e ρ2 S3 fun y S4 => R (some y) S4 else R none S3)
    (k : ∀ p S1, Sub S S1 → S1 p = none → Q (.ptr p) (supd S1 p (.lst (items.filterMap f)))) : wLc wi g t e vs ρ S Q := by
  refine hi _ fun st S1 hS1 hst p hp => ?_
  refine ⟨fun i acc S' => S' = S1 ∧ acc = (items.take i).filterMap f, ⟨rfl, rfl⟩, ?_, ?_, ?_⟩
  · rintro i acc S' ⟨rfl, rfl⟩
    exact hst _ (.new hp)
  · rintro i d acc S' hd ⟨rfl, rfl⟩
    have hil : i < items.length := (List.getElem?_eq_some_iff.mp hd).1
    have hacc : ((items.take i).filterMap f).length < sizeLine := by
      have h1 := List.length_filterMap_le f (items.take i)
      have h2 : (items.take i).length ≤ i := by rw [List.length_take]; omega
      omega
    refine turn d (List.mem_of_getElem? hd) _ (hS1.trans (.new hp)) (fun o S4 => match o with
      | some y => ((items.take i).filterMap f).length < sizeLine ∧ ∃ S5, S4 = supd S5 p (.lst ((items.take i).filterMap f)) ∧ S5 = S' ∧ (items.take i).filterMap f ++ [y] = (items.take (i + 1)).filterMap f
      | none => ∃ S5, S4 = supd S5 p (.lst ((items.take i).filterMap f)) ∧ S5 = S' ∧ (items.take i).filterMap f = (items.take (i + 1)).filterMap f) ?_
    have e := take_succ f hd
    cases hf : f d with
    | none =>
      rw [hf] at e
      exact ⟨S', rfl, rfl, by rw [e]; simp⟩
    | some y =>
      rw [hf] at e
      exact ⟨hacc, S', rfl, rfl, by rw [e]; rfl⟩
  · rintro acc S' ⟨rfl, rfl⟩
    rw [List.take_length]
    exact k p _ hS1 hp
/-- a comprehension behind its source -/
def LcIn (g : WG) (t : WT) (e : WE) (vs : List Nat) (ρ : Rho) (Q : WK) (W : Wk) (S1 : Ss) : Prop := ∀ p, S1 p = none → ∃ Iv : Nat → List D → Ss → Prop, Iv 0 [] S1 ∧ (∀ i acc S', Iv i acc S' → W.st (supd S' p (.lst acc))) ∧
  (∀ i d acc S', W.items[i]? = some d → Iv i acc S' → g d (dwipe ρ vs) (supd S' p (.lst acc)) fun ρ2 S2 => t ρ2 S2 fun b S3 =>
    if b = true then e ρ2 S3 fun y S4 => acc.length < sizeLine ∧ ∃ S5, S4 = supd S5 p (.lst acc) ∧ Iv (i + 1) (acc ++ [y]) S5 else ∃ S5, S3 = supd S5 p (.lst acc) ∧ Iv (i + 1) acc S5) ∧
  ∀ acc S', Iv W.items.length acc S' → Q (.ptr p) (supd S' p (.lst acc))
theorem lc_in {wi : WI} {g : WG} {t : WT} {e : WE} {vs : List Nat} {ρ : Rho} {S : Ss} {Q : WK} (h : wi ρ S (LcIn g t e vs ρ Q)) : wLc wi g t e vs ρ S Q := h
/-- a comprehension whose elements are any that keep P -/
theorem lcIn_any {g : WG} {e : WE} {vs : List Nat} {ρ : Rho} {S : Ss} {Q : WK} {items : List D} {st : Ss → Prop} (P : D → Prop) (hst : ∀ S', Sub S S' → st S') (hl : items.length ≤ sizeLine)
    (turn : ∀ d ∈ items, ∀ S', Sub S S' → ∀ R : D → Ss → Prop, (∀ y, P y → R y S') → g d (dwipe ρ vs) S' fun ρ2 S2 => e ρ2 S2 R)
    (k : ∀ p ys, S p = none → ys.length = items.length → (∀ y ∈ ys, P y) → Q (.ptr p) (supd S p (.lst ys))) : LcIn g wYes e vs ρ Q ⟨items, st⟩ S := by
  intro p hp
  refine ⟨fun i acc S' => S' = S ∧ acc.length = i ∧ ∀ y ∈ acc, P y, ⟨rfl, rfl, fun y hy => (nomatch hy)⟩, ?_, ?_, ?_⟩
  · rintro i acc S' ⟨rfl, _⟩
    exact hst _ (.new hp)
  · rintro i d acc S' hd ⟨rfl, rfl, hP⟩
    have hil : acc.length < items.length := (List.getElem?_eq_some_iff.mp hd).1
    refine turn d (List.mem_of_getElem? hd) _ (.new hp) (fun y S4 => acc.length < sizeLine ∧ ∃ S5, S4 = supd S5 p (.lst acc) ∧ S5 = S' ∧ (acc ++ [y]).length = acc.length + 1 ∧ ∀ z ∈ acc ++ [y], P z) fun y hy => ?_
    refine ⟨Nat.lt_of_lt_of_le hil hl, S', rfl, rfl, by simp, fun z hz => ?_⟩
    rcases List.mem_append.mp hz with hz | hz
    · exact hP z hz
    · rw [List.mem_singleton.mp hz]
      exact hy
  · rintro acc S' ⟨rfl, h1, h2⟩
    exact k p acc hp h1 h2
/-- what is walked, by a name's value -/
theorem wi_var {i : Nat} {ρ : Rho} {S : Ss} {d : D} {xs : List D} (hd : ρ[i]? = some (some d)) (h : seqOf S d = some xs) (R : Wk → Ss → Prop) (k : ∀ st : Ss → Prop, (∀ S', Sub S S' → st S') → R ⟨xs, st⟩ S) : wiSeq (wVar i) ρ S R := by
  unfold wiSeq wVar
  rw [hd]
  exact ifS.of h (k _ fun S' q => q.seqOf h)
theorem wi_rng1 {w : WE} {ρ : Rho} {S : Ss} {n : Int} (hw : ∀ Q : WK, Q (.int n) S → w ρ S Q) (h0 : 0 ≤ n) (h1 : n < 2 ^ 62) (R : Wk → Ss → Prop) (k : ∀ st : Ss → Prop, (∀ S', Sub S S' → st S') → R ⟨(List.range n.toNat).map fun i => .int (i : Nat), st⟩ S) : wiRng1 w ρ S R := by
  refine hw _ ?_
  refine ⟨by decide, by decide, by omega, h1, ?_⟩
  have e : ((List.range (n - 0).toNat).map fun i => D.int (0 + (i : Nat))) = (List.range n.toNat).map fun i => .int (i : Nat) := by
    rw [Int.sub_zero]
    apply List.map_congr_left
    intro a _
    rw [Int.zero_add]
  rw [e]
  exact k _ fun _ _ => trivial
/-- a for loop by its invariant; the walked thing stays by what stands in S0 -/
theorem for_inv {wi : WI} {g : WG} {b : WS} {D0 : DEnds} {ρ : Rho} {S : Ss} {items : List D} (S0 : Ss) (Iv : Nat → Rho → Ss → Prop)
    (hi : ∀ R : Wk → Ss → Prop, (∀ st : Ss → Prop, (∀ S', Sub S0 S' → st S') → R ⟨items, st⟩ S) → wi ρ S R)
    (h0 : Iv 0 ρ S) (hs : ∀ i ρ' S', Iv i ρ' S' → Sub S0 S')
    (turn : ∀ i d ρ' S', items[i]? = some d → Iv i ρ' S' → g d ρ' S' fun ρ2 S2 => b { D0 with nx := Iv (i + 1), ct := Iv (i + 1), bk := D0.nx } ρ2 S2)
    (fin : ∀ ρ' S', Iv items.length ρ' S' → D0.nx ρ' S') : wFor wi g b D0 ρ S :=
  hi _ fun st hst => ⟨Iv, h0, fun i ρ' S' h => hst _ (hs i ρ' S' h), turn, fin⟩
theorem wi_var0 {i : Nat} {ρ : Rho} {S S0 : Ss} {d : D} {xs : List D} (hd : ρ[i]? = some (some d)) (h : seqOf S0 d = some xs) (q : Sub S0 S) (R : Wk → Ss → Prop) (k : ∀ st : Ss → Prop, (∀ S', Sub S0 S' → st S') → R ⟨xs, st⟩ S) : wiSeq (wVar i) ρ S R := by
  unfold wiSeq wVar
  rw [hd]
  exact ifS.of (q.seqOf h) (k _ fun S' q => q.seqOf h)

theorem IsRnd.sub {S S' : Ss} {p : Addr} (h : IsRnd S p) (q : Sub S S') : IsRnd S' p := by
  obtain ⟨l, h1, h2⟩ := h
  exact ⟨l, q _ _ h1, q _ _ h2⟩
theorem take_ok {S : Ss} {p : Addr} {n : Int} {Q : WK} {Z : XD} (h : IsRnd S p) (k : ∀ r : Int, 0 ≤ r → r < n → Q (.int r) S) (h1 : 1 ≤ n) (h2 : n < 1073741824) : F__law_take [.ptr p, .int n] S Q Z := ⟨p, n, rfl, h, h1, h2, k⟩
theorem rng_ok {r : Int} {R : Wk → Prop} (h0 : 0 ≤ r) (h1 : r < 100000) (k : ∀ items : List D, items.length = r.toNat → R ⟨items, fun _ => True⟩) : wiRange 0 r R := by
  refine ⟨by decide, by decide, by omega, by omega, k _ ?_⟩
  rw [List.length_map, List.length_range]
  omega
theorem seq_set {i : Nat} {w : WE} {u : WS} {D0 : DEnds} {ρ : Rho} {S : Ss} (h : w ρ S fun d S1 => u D0 (ρ.set i (some d)) S1) : wSeq (wSet i w) u D0 ρ S := h
theorem seq_do {w : WE} {u : WS} {D0 : DEnds} {ρ : Rho} {S : Ss} (h : w ρ S fun _ S1 => u D0 ρ S1) : wSeq (wDo w) u D0 ρ S := h
theorem seq_if {t : WT} {a b u : WS} {D0 : DEnds} {ρ : Rho} {S : Ss} (h : t ρ S fun c S1 => if c = true then a { D0 with nx := u D0 } ρ S1 else b { D0 with nx := u D0 } ρ S1) : wSeq (wIf t a b) u D0 ρ S := h
theorem ret_call {g : GL} {w : WE} {D0 : DEnds} {ρ : Rho} {S : Ss} (h : w ρ S fun d S1 => g [d] S1 D0.rt) : wRet (wCall g (wCons w wNil)) D0 ρ S := h
theorem ret_user {F : FSp} {w : WE} {D0 : DEnds} {ρ : Rho} {S : Ss} (h : w ρ S fun d S1 => F [d] S1 D0.rt noX) : wRet (wUser F (wCons w wNil)) D0 ρ S := h

theorem eq_pure {neg : Bool} {x y : D} {S : Ss} {Q : WK} (px : x.pure = true) (py : y.pure = true) (dx : x.py.depth ≤ 64) (dy : y.py.depth ≤ 64) (q : Q (.bl (if neg = true then !PyData.eqv x.py y.py else PyData.eqv x.py y.py)) S) : gEq neg x y S Q := by
  refine ⟨x.py, y.py, ?_, ?_, dx, dy, q⟩
  · cases x <;> first | exact if_pos px | (simp [pyOf, D.pure]; done) | exact absurd px (by simp [D.pure])
  · cases y <;> first | exact if_pos py | (simp [pyOf, D.pure]; done) | exact absurd py (by simp [D.pure])
mutual
theorem pyeq_refl : ∀ x : D, PyData.eqv x.py x.py = true
  | .non => by rw [D.py, PyData.eqv]
  | .bl b => by rw [D.py, PyData.eqv]; simp
  | .int i => by rw [D.py, PyData.eqv]; simp
  | .str x => by rw [D.py, PyData.eqv]; simp
  | .tup xs => by rw [D.py, PyData.eqv]; exact pyeqs_refl xs
  | .ptr a => by rw [D.py, PyData.eqv]
  | .klst a => by rw [D.py, PyData.eqv]
theorem pyeqs_refl : ∀ xs : List D, PyData.eqvAll (pys xs) (pys xs) = true
  | [] => by rw [pys, PyData.eqvAll]
  | x :: xs => by rw [pys, PyData.eqvAll, pyeq_refl x, pyeqs_refl xs]; rfl
end
theorem eq_same {neg : Bool} {x : D} {S : Ss} {Q : WK} (px : x.pure = true) (dx : x.py.depth ≤ 64) (q : Q (.bl (!neg)) S) : gEq neg x x S Q := by
  refine eq_pure px px dx dx ?_
  rw [pyeq_refl]
  cases neg <;> exact q

/-! ### facts for the walk -/
section
variable {S : Ss} {p : Addr}
theorem isD_T {kvs : List (List Key × D)} (h : S p = some (.dT kvs)) : isD S (.ptr p) = true := by
  unfold isD
  simp only [h]
theorem isD_K {kvs : List (Key × D)} (h : S p = some (.dK kvs)) : isD S (.ptr p) = true := by
  unfold isD
  simp only [h]
theorem dgot_T {kvs : List (List Key × D)} (h : S p = some (.dT kvs)) {y : D} {k : List Key} (hk : y.keys = some k) : dgot S (.ptr p) y = some (dval kvs k) := by
  unfold dgot
  simp only [h, hk]
  rfl
theorem dgot_K {kvs : List (Key × D)} (h : S p = some (.dK kvs)) {y : D} {k : Key} (hk : y.key = some k) : dgot S (.ptr p) y = some (dval kvs k) := by
  unfold dgot
  simp only [h, hk]
  rfl
theorem dset_T {kvs : List (List Key × D)} (h : S p = some (.dT kvs)) {y z : D} {k : List Key} (hk : y.keys = some k) (hl : kvs.length < sizeLine) : dset S (.ptr p) y z = some (supd S p (.dT (dput kvs k z))) := by
  unfold dset
  simp only [h, hk, if_pos hl]
  rfl
theorem dset_K {kvs : List (Key × D)} (h : S p = some (.dK kvs)) {y z : D} {k : Key} (hk : y.key = some k) (hl : kvs.length < sizeLine) : dset S (.ptr p) y z = some (supd S p (.dK (dput kvs k z))) := by
  unfold dset
  simp only [h, hk, if_pos hl]
  rfl
theorem dkeys_T {kvs : List (List Key × D)} (h : S p = some (.dT kvs)) : dkeys S p = some (kvs.map fun kv => .tup (kv.1.map kD)) := by
  unfold dkeys
  simp only [h]
theorem dkeys_K {kvs : List (Key × D)} (h : S p = some (.dK kvs)) : dkeys S p = some (kvs.map fun kv => kD kv.1) := by
  unfold dkeys
  simp only [h]
end
theorem line_le {n : Nat} (h : n ≤ 1000000) : n ≤ sizeLine := Nat.le_trans h (by rw [sizeLine_eq]; decide)
theorem line_lt {n : Nat} (h : n ≤ 1000000) : n < sizeLine := Nat.lt_of_le_of_lt h (by rw [sizeLine_eq]; decide)

/-! ### dicts of numbers -/
section
variable {κ κ' : Type} [DecidableEq κ] [DecidableEq κ']
def tval (kvs : List (κ × Int)) (k : κ) : Option Int := (kvs.find? fun kv => decide (kv.1 = k)).map (·.2)
def tput (kvs : List (κ × Int)) (k : κ) (n : Int) : List (κ × Int) :=
  if (kvs.any fun kv => decide (kv.1 = k)) = true then kvs.map fun kv => if kv.1 = k then (kv.1, n) else kv else kvs ++ [(k, n)]
def tnum (kvs : List (κ × Int)) (k : κ) : Int := (tval kvs k).getD 0
/-- the sums of numbers by keys -/
def tadd (kvs : List (κ × Int)) (k : κ) (n : Int) : List (κ × Int) := tput kvs k (tnum kvs k + n)
def tsum (xs : List (κ × Int)) : List (κ × Int) := xs.foldl (fun acc p => tadd acc p.1 p.2) []
def enc (f : κ → κ') (kvs : List (κ × Int)) : List (κ' × D) := kvs.map fun p => (f p.1, .int p.2)
theorem any_enc {f : κ → κ'} (inj : ∀ a b, f a = f b → a = b) (k : κ) : ∀ kvs : List (κ × Int), ((enc f kvs).any fun kv => decide (kv.1 = f k)) = kvs.any fun kv => decide (kv.1 = k)
  | [] => rfl
  | p :: r => by
    show (decide (f p.1 = f k) || (enc f r).any fun kv => decide (kv.1 = f k)) = _
    rw [any_enc inj k r, List.any_cons]
    congr 1
    by_cases h : p.1 = k
    · rw [h]
      simp
    · rw [decide_eq_false h, decide_eq_false fun z => h (inj _ _ z)]
theorem dput_enc {f : κ → κ'} (inj : ∀ a b, f a = f b → a = b) (k : κ) (n : Int) (kvs : List (κ × Int)) : dput (enc f kvs) (f k) (.int n) = enc f (tput kvs k n) := by
  unfold dput tput
  rw [any_enc inj]
  by_cases h : (kvs.any fun kv => decide (kv.1 = k)) = true
  · rw [if_pos h, if_pos h]
    unfold enc
    rw [List.map_map, List.map_map]
    apply List.map_congr_left
    intro p _
    show (if f p.1 = f k then (f p.1, D.int n) else (f p.1, D.int p.2)) = _
    by_cases e : p.1 = k
    · rw [if_pos (by rw [e])]
      simp [e]
    · rw [if_neg fun z => e (inj _ _ z)]
      simp [e]
  · rw [if_neg h, if_neg h]
    unfold enc
    rw [List.map_append]
    rfl
theorem dval_enc {f : κ → κ'} (inj : ∀ a b, f a = f b → a = b) (k : κ) : ∀ kvs : List (κ × Int), dval (enc f kvs) (f k) = (tval kvs k).map D.int
  | [] => rfl
  | p :: r => by
    have ih := dval_enc inj k r
    unfold dval tval at ih ⊢
    by_cases h : p.1 = k
    · simp [enc, List.find?_cons, h]
    · have h' : ¬ f p.1 = f k := fun z => h (inj _ _ z)
      simp only [enc, List.map_cons, List.find?_cons, decide_eq_false h, decide_eq_false h']
      exact ih
theorem getD_enc {f : κ → κ'} (inj : ∀ a b, f a = f b → a = b) (k : κ) (kvs : List (κ × Int)) : (dval (enc f kvs) (f k)).getD (.int 0) = .int (tnum kvs k) := by
  rw [dval_enc inj]
  unfold tnum
  cases tval kvs k <;> rfl
theorem tput_len (kvs : List (κ × Int)) (k : κ) (n : Int) : (tput kvs k n).length ≤ kvs.length + 1 := by
  unfold tput
  split
  · rw [List.length_map]
    omega
  · rw [List.length_append]
    simp
theorem tput_keys (kvs : List (κ × Int)) (k : κ) (n : Int) (h : (kvs.map (·.1)).Nodup) : ((tput kvs k n).map (·.1)).Nodup := by
  unfold tput
  split
  · rw [List.map_map]
    have e : (fun x : κ × Int => (if x.1 = k then (x.1, n) else x).1) = fun x => x.1 := by
      funext x
      split <;> rfl
    show (kvs.map fun x => (if x.1 = k then (x.1, n) else x).1).Nodup
    rw [e]
    exact h
  · rename_i hn
    rw [List.map_append]
    rw [List.nodup_append]
    refine ⟨h, by simp, fun a ha b hb => ?_⟩
    have hb : b = k := by simpa using hb
    rintro rfl
    apply hn
    obtain ⟨p, hp, e⟩ := List.mem_map.mp ha
    exact List.any_eq_true.mpr ⟨p, hp, by simp [e, hb]⟩
theorem foldl_len (xs : List (κ × Int)) : ∀ acc : List (κ × Int), (xs.foldl (fun acc p => tadd acc p.1 p.2) acc).length ≤ acc.length + xs.length := by
  induction xs with
  | nil => intro acc; simp
  | cons x r ih =>
    intro acc
    have h1 := ih (tadd acc x.1 x.2)
    have h2 := tput_len acc x.1 (tnum acc x.1 + x.2)
    rw [List.foldl_cons, List.length_cons]
    unfold tadd at h1 ⊢
    omega
theorem tsum_len (xs : List (κ × Int)) : (tsum xs).length ≤ xs.length := by
  have := foldl_len xs []
  unfold tsum
  simpa using this
theorem foldl_keys (xs : List (κ × Int)) : ∀ acc : List (κ × Int), (acc.map (·.1)).Nodup → ((xs.foldl (fun acc p => tadd acc p.1 p.2) acc).map (·.1)).Nodup := by
  induction xs with
  | nil => intro acc h; exact h
  | cons x r ih =>
    intro acc h
    exact ih _ (tput_keys _ _ _ h)
theorem tsum_keys (xs : List (κ × Int)) : ((tsum xs).map (·.1)).Nodup := foldl_keys xs [] (by simp)
theorem tsum_take {xs : List (κ × Int)} {i : Nat} {p : κ × Int} (h : xs[i]? = some p) : tsum (xs.take (i + 1)) = tadd (tsum (xs.take i)) p.1 p.2 := by
  unfold tsum
  rw [List.take_add_one, h, List.foldl_append]
  rfl
/-- what stands at a key is small -/
theorem tval_mem {kvs : List (κ × Int)} {k : κ} {n : Int} (h : tval kvs k = some n) : (k, n) ∈ kvs := by
  obtain ⟨p, hp, e⟩ := Option.map_eq_some_iff.mp h
  have h1 := List.mem_of_find?_eq_some hp
  have h2 := List.find?_some hp
  have e2 : p.1 = k := by simpa using h2
  rw [← e, ← e2]
  exact h1
theorem tput_bound {kvs : List (κ × Int)} {k : κ} {n : Int} {B C : Nat} (h : ∀ p ∈ kvs, p.2.natAbs ≤ B) (hn : n.natAbs ≤ C) (hBC : B ≤ C) : ∀ p ∈ tput kvs k n, p.2.natAbs ≤ C := by
  intro p hp
  unfold tput at hp
  split at hp
  · obtain ⟨q, hq, e⟩ := List.mem_map.mp hp
    split at e
    · rw [← e]
      exact hn
    · rw [← e]
      exact Nat.le_trans (h q hq) hBC
  · rcases List.mem_append.mp hp with hp | hp
    · exact Nat.le_trans (h p hp) hBC
    · have e : p = (k, n) := by simpa using hp
      rw [e]
      exact hn
theorem foldl_bound (B : Nat) : ∀ (xs acc : List (κ × Int)) (C : Nat), (∀ p ∈ xs, p.2.natAbs ≤ B) → (∀ p ∈ acc, p.2.natAbs ≤ C) → ∀ p ∈ xs.foldl (fun acc p => tadd acc p.1 p.2) acc, p.2.natAbs ≤ C + B * xs.length
  | [], acc, C, _, h, p, hp => by
    have := h p hp
    simpa using this
  | x :: r, acc, C, hx, h, p, hp => by
    have hb : (tnum acc x.1).natAbs ≤ C := by
      unfold tnum
      cases e : tval acc x.1 with
      | none => simp
      | some n => exact h _ (tval_mem e)
    have hx1 := hx x List.mem_cons_self
    have h2 : ∀ p ∈ tadd acc x.1 x.2, p.2.natAbs ≤ C + B := tput_bound h (by omega) (by omega)
    have h3 := foldl_bound B r _ (C + B) (fun p hp => hx p (List.mem_cons_of_mem _ hp)) h2 p hp
    rw [List.length_cons, Nat.mul_add]
    omega
theorem tsum_bound {xs : List (κ × Int)} {B : Nat} (h : ∀ p ∈ xs, p.2.natAbs ≤ B) : ∀ p ∈ tsum xs, p.2.natAbs ≤ B * xs.length := by
  intro p hp
  have := foldl_bound B xs [] 0 h (fun _ z => (nomatch z)) p hp
  omega
/-- distinct keys: the sums are the list -/
theorem foldl_distinct : ∀ (xs acc : List (κ × Int)), ((acc ++ xs).map (·.1)).Nodup → xs.foldl (fun acc p => tadd acc p.1 p.2) acc = acc ++ xs
  | [], acc, _ => by simp
  | x :: r, acc, h => by
    have hn : (acc.any fun kv => decide (kv.1 = x.1)) = false := by
      rw [List.any_eq_false]
      intro p hp hd
      have e : p.1 = x.1 := by simpa using hd
      rw [List.map_append, List.nodup_append] at h
      exact h.2.2 p.1 (List.mem_map.mpr ⟨p, hp, rfl⟩) x.1 (by simp) e
    have h0 : tnum acc x.1 = 0 := by
      unfold tnum
      cases e : tval acc x.1 with
      | none => rfl
      | some n =>
        have := tval_mem e
        rw [List.any_eq_false] at hn
        exact absurd (by simp) (hn _ this)
    have e : tadd acc x.1 x.2 = acc ++ [x] := by
      unfold tadd tput
      rw [if_neg (by rw [hn]; decide), h0, Int.zero_add]
    rw [List.foldl_cons, e, foldl_distinct r _ (by rw [List.append_assoc]; exact h), List.append_assoc]
    rfl
theorem tsum_distinct {xs : List (κ × Int)} (h : (xs.map (·.1)).Nodup) : tsum xs = xs := by
  unfold tsum
  rw [foldl_distinct xs [] (by simpa using h)]
  rfl
theorem tval_of_mem : ∀ {kvs : List (κ × Int)} {k : κ} {n : Int}, (kvs.map (·.1)).Nodup → (k, n) ∈ kvs → tval kvs k = some n
  | p :: r, k, n, h, hm => by
    rw [List.map_cons, List.nodup_cons] at h
    unfold tval
    rcases List.mem_cons.mp hm with e | hm
    · rw [← e]
      simp
    · have hk : ¬ p.1 = k := fun z => h.1 (by rw [z]; exact List.mem_map.mpr ⟨(k, n), hm, rfl⟩)
      rw [List.find?_cons, decide_eq_false hk]
      exact tval_of_mem h.2 hm
end
end Dl

/-! K67a: what the defs of law k67 hand back; their readings. -/
namespace K67
open PySem PySem.Spec PyProof.Rows L2 Dl
local macro_rules | `(tactic| walk_at "dl") => `(tactic| simp only [wSeq, wSet, wAsg, wIf, wRet, wRetN, wDo, wNext, wBreak, wCont, w2, wVar, wC, wB, wTAnd, wTOr, wTNot, wAnd, wOr, wNot, wIfE, wTup, wLst, wCons, wNil, wCall, wMeth, wDput, wGet2, wgName, wgTup, wgCons, wgNil, wgSub, wDrop, wTDrop, wYes, wUser, wiRng1, wiRng2,
  gAdd, gInt0, gInt, gRel, gMul, gAbs, gIntOf, gEq_int, gIx, gLen, gGet, gInD, gSeq, ifS_some, seqOf_ptr, seqOf_tup, seqOf_kl, kTuple, kList, retE, List.getElem?_cons_zero, List.getElem?_cons_succ, List.set_cons_zero, List.set_cons_succ, dwipe, decide_eq_true_eq, Bool.not_eq_true', decide_eq_false_iff_not, reduceIte, Bool.false_eq_true, if_true, if_false, true_and, List.length_cons, List.length_nil])
local macro_rules | `(tactic| walk_at "dl*") => `(tactic| simp only [*, wSeq, wSet, wAsg, wIf, wRet, wRetN, wDo, wNext, wBreak, wCont, w2, wVar, wC, wB, wTAnd, wTOr, wTNot, wAnd, wOr, wNot, wIfE, wTup, wLst, wCons, wNil, wCall, wMeth, wDput, wGet2, wgName, wgTup, wgCons, wgNil, wgSub, wDrop, wTDrop, wYes, wUser, wiRng1, wiRng2,
  gAdd, gInt0, gInt, gRel, gMul, gAbs, gIntOf, gEq_int, gIx, gLen, gGet, gInD, gSeq, ifS_some, seqOf_ptr, seqOf_tup, seqOf_kl, kTuple, kList, retE, List.getElem?_cons_zero, List.getElem?_cons_succ, List.set_cons_zero, List.set_cons_succ, dwipe, decide_eq_true_eq, Bool.not_eq_true', decide_eq_false_iff_not, reduceIte, Bool.false_eq_true, if_true, if_false, true_and, List.length_cons, List.length_nil])

/-! ### polynomials -/
abbrev T3 := Int × Int × Int
abbrev K2 := Int × Int
def encT (t : T3) : D := .tup [.int t.1, .int t.2.1, .int t.2.2]
def keyT (t : T3) : K2 × Int := ((t.1, t.2.1), t.2.2)
def f2 (k : K2) : List Key := [.inl k.1, .inl k.2]
def encK (k : K2) : D := .tup [.int k.1, .int k.2]
def leK (a b : K2) : Bool := leD (encK a) (encK b)
theorem f2_inj (a b : K2) (h : f2 a = f2 b) : a = b := by
  injection h with h1 h2
  injection h2 with h2 _
  injection h1 with h1
  injection h2 with h2
  exact Prod.ext h1 h2
/-- the polynomial of sums -/
def ofSums (kvs : List (K2 × Int)) : List T3 := ((kvs.map (·.1)).mergeSort leK).filterMap fun k => if tnum kvs k ≠ 0 then some (k.1, k.2, tnum kvs k) else none
def BI (xs : List T3) : List T3 := ofSums (tsum (xs.map keyT))
theorem sortOk_keys (ks : List K2) (h : ks.length ≤ 1000) : SortOk (ks.map encK) := by
  have e : (ks.map encK).map D.py = ks.map fun k => .tuple [.int k.1, .int k.2] := by
    rw [List.map_map]
    apply List.map_congr_left
    intro k _
    simp [encK, D.py, pys]
  refine ⟨?_, ?_, ?_, ?_, ?_⟩
  · induction ks with
    | nil => rfl
    | cons k r ih =>
      rw [List.map_cons, pures, ih (by rw [List.length_cons] at h; omega) (by rw [List.map_map]; apply List.map_congr_left; intro k _; simp [encK, D.py, pys])]
      simp [encK, D.pure, pures]
  · rw [e]
    exact PySem.W.AllAlike.of fun b b' => by simp [PySem.W.alike, PySem.W.alikeAll]
  · rw [e]
    exact PySem.W.Sortable.tuples fun b => ⟨_, _, rfl⟩
  · rw [List.length_map]
    exact line_le (by omega)
  · intro d hd
    obtain ⟨k, _, rfl⟩ := List.mem_map.mp hd
    simp [encK, D.py, pys, PyData.depth, PyData.depthAll]
def fSum (kvs : List (K2 × Int)) : D → Option D
  | .tup [.int a, .int b] => if tnum kvs (a, b) ≠ 0 then some (encT (a, b, tnum kvs (a, b))) else none
  | _ => none
theorem fSum_all (kvs : List (K2 × Int)) : (((kvs.map (·.1)).map encK).mergeSort leD).filterMap (fSum kvs) = (ofSums kvs).map encT := by
  rw [← PySem.W.sort_maps (r := leK) encK fun _ _ _ _ => rfl, List.filterMap_map]
  unfold ofSums
  rw [List.map_filterMap]
  congr 1
  funext k
  show fSum kvs (encK k) = _
  unfold fSum encK
  simp only
  split <;> rfl
/-- tuple([place + (sums[place],) for place in sorted(sums) if sums[place] != 0]) -/
theorem ret_bi {i j : Nat} {ρ : Rho} {S : Ss} {D0 : DEnds} {p : Addr} {kvs : List (K2 × Int)} (hρ : ρ[i]? = some (some (.ptr p))) (hij : i ≠ j) (hj : j < ρ.length) (hS : S p = some (.dT (enc f2 kvs))) (hn : (kvs.map (·.1)).Nodup) (hl : kvs.length ≤ 1000)
    (k : ∀ S', Sub S S' → D0.rt (.tup ((ofSums kvs).map encT)) S') :
    (wRet (wCall (gSeq kTuple) (wCons (wLc (wiSeq (wCall gSorted (wCons (wVar i) wNil))) (wgName j) (wB (w2 (gEq true) (w2 gGet (wVar i) (wVar j)) (wC (.int 0)))) (w2 gAdd (wVar j) (wTup (wCons (w2 gGet (wVar i) (wVar j)) wNil))) [j]) wNil))) D0 ρ S := by
  have hk : dkeys S p = some ((kvs.map (·.1)).map encK) := by
    rw [dkeys_T hS]
    unfold enc
    rw [List.map_map, List.map_map]
    rfl
  refine (show wLc _ _ _ _ [j] ρ S (fun d S1 => gSeq kTuple [d] S1 D0.rt) from ?_)
  refine lc_pureN (fSum kvs) (items := ((kvs.map (·.1)).map encK).mergeSort leD) (fun R hR => ?_) ?_ ?_ ?_
  · unfold wiSeq wCall wCons wNil wVar
    simp only [hρ]
    unfold gSorted
    simp only [hk]
    refine ⟨sortOk_keys _ (by rw [List.length_map]; exact hl), fun q hq => ?_⟩
    refine ifS.of seqAt_same (hR _ _ (.new hq) fun S' h => h.seqOf (d := .ptr q) seqAt_same)
  · rw [List.length_mergeSort, List.length_map, List.length_map]
    exact line_le (by omega)
  · intro d hd S' hS' R hR
    obtain ⟨k0, hk0, rfl⟩ := List.mem_map.mp (List.mem_mergeSort.mp hd)
    obtain ⟨pr, hpr, rfl⟩ := List.mem_map.mp hk0
    have e1 : ((dwipe ρ [j]).set j (some (encK pr.1)))[i]? = some (some (.ptr p)) := by
      show (((ρ.set j none).set j (some (encK pr.1)))[i]?) = _
      rw [List.getElem?_set_ne (Ne.symm hij), List.getElem?_set_ne (Ne.symm hij)]
      exact hρ
    have e2 : ((dwipe ρ [j]).set j (some (encK pr.1)))[j]? = some (some (encK pr.1)) := by
      show (((ρ.set j none).set j (some (encK pr.1)))[j]?) = _
      rw [List.getElem?_set_self (by rw [List.length_set]; exact hj)]
    have hv : tval kvs pr.1 = some pr.2 := tval_of_mem hn hpr
    have e3 : dgot S' (.ptr p) (encK pr.1) = some (some (.int pr.2)) := by
      rw [dgot_T (hS' _ _ hS) (k := f2 pr.1) rfl, dval_enc f2_inj, hv]
      rfl
    have e4 : tnum kvs pr.1 = pr.2 := by
      unfold tnum
      rw [hv]
      rfl
    have e5 : fSum kvs (encK pr.1) = if pr.2 ≠ 0 then some (encT (pr.1.1, pr.1.2, pr.2)) else none := by
      unfold fSum encK
      simp only [e4]
    rw [e5] at hR
    unfold wgName wB w2 wVar wC gGet wTup wCons wNil
    simp only [e1, e2, e3, ifS_some, gEq_int, reduceIte]
    by_cases h0 : pr.2 = 0
    · rw [if_neg (by simp [h0])] at hR
      simp only [h0, decide_true, Bool.not_true, Bool.false_eq_true, if_false]
      exact hR
    · rw [if_pos h0] at hR
      simp only [h0, decide_false, Bool.not_false, if_true]
      exact ⟨by show 1 ≤ sizeLine; exact line_le (by omega), by show 2 + 1 ≤ sizeLine; exact line_le (by omega), hR⟩
  · intro q S1 hS1 hq
    rw [fSum_all]
    exact ifS.of seqAt_same (k _ (hS1.step hq))
def F_bi_poly : FSp := fun ds S Q _ => ∃ (d : D) (xs : List T3), ds = [d] ∧ seqOf S d = some (xs.map encT) ∧ xs.length ≤ 1000 ∧ Q (.tup ((BI xs).map encT)) S

def mulT (t u : T3) : T3 := (t.1 + u.1, t.2.1 + u.2.1, t.2.2 * u.2.2)
def prod (a b : List T3) : List T3 := a.flatMap fun t => b.map (mulT t)
def Small (a : List T3) : Prop := ∀ t ∈ a, t.2.2.natAbs ≤ 1000000
def shT (v z n : Int) (t : T3) : T3 := (t.1 + v, t.2.1 + z, t.2.2 * n)
def miT (t : T3) : T3 := (0 - t.1, t.2.1, if t.2.1 % 2 = 0 then t.2.2 else 0 - t.2.2)
abbrev P2 := Int × Int
def encP (t : P2) : D := .tup [.int t.1, .int t.2]
def leI (a b : Int) : Bool := leD (.int a) (.int b)
def ofSum1 (kvs : List (Int × Int)) : List P2 := ((kvs.map (·.1)).mergeSort leI).filterMap fun k => if tnum kvs k ≠ 0 then some (k, tnum kvs k) else none
def SUM (xs : List P2) : List P2 := ofSum1 (tsum xs)
def jn (t : T3) : P2 := (t.2.1, t.2.2)
abbrev F__law_bi : FSp := F_bi_poly
def F_bi_add : FSp := fun ds S Q _ => ∃ a b : List T3, ds = [.tup (a.map encT), .tup (b.map encT)] ∧ a.length ≤ 100 ∧ b.length ≤ 100 ∧ Q (.tup ((BI (a ++ b)).map encT)) S
def F_bi_times : FSp := fun ds S Q _ => ∃ a b : List T3, ds = [.tup (a.map encT), .tup (b.map encT)] ∧ a.length ≤ 30 ∧ b.length ≤ 30 ∧ Small a ∧ Q (.tup ((BI (prod a b)).map encT)) S
abbrev F__law_bi_times : FSp := F_bi_times
def F_bi_shifted : FSp := fun ds S Q _ => ∃ (a : List T3) (v z n : Int), ds = [.tup (a.map encT), .int v, .int z, .int n] ∧ a.length ≤ 100 ∧ Small a ∧ Q (.tup ((if n ≠ 0 then a.map (shT v z n) else []).map encT)) S
def F_bi_mirrored : FSp := fun ds S Q _ => ∃ a : List T3, ds = [.tup (a.map encT)] ∧ a.length ≤ 100 ∧ Q (.tup ((BI (a.map miT)).map encT)) S
def F_at_v_one : FSp := fun ds S Q _ => ∃ a : List T3, ds = [.tup (a.map encT)] ∧ a.length ≤ 100 ∧ Q (.tup ((SUM (a.map jn)).map encP)) S
def F__law_sum : FSp := fun ds S Q _ => ∃ (d : D) (a : List P2), ds = [d] ∧ seqOf S d = some (a.map encP) ∧ a.length ≤ 100 ∧ Q (.tup ((SUM a).map encP)) S
/-- the least and the greatest of a row -/
def Range (ns : List Int) (lo hi : Int) : Prop := (ns = [] ∧ lo = 0 ∧ hi = 0) ∨ (lo ∈ ns ∧ hi ∈ ns ∧ (∀ y ∈ ns, lo ≤ y) ∧ ∀ y ∈ ns, y ≤ hi)
def F_v_range : FSp := fun ds S Q _ => ∃ a : List T3, ds = [.tup (a.map encT)] ∧ a.length ≤ 100 ∧ ∀ lo hi, Range (a.map (·.1)) lo hi → Q (.tup [.int lo, .int hi]) S
def F__law_bi_random : FSp := fun ds S Q _ => ∃ (p : Addr) (many : Int), ds = [.ptr p, .int many] ∧ IsRnd S p ∧ 1 ≤ many ∧ many ≤ 11 ∧ ∀ xs : List T3, xs.length ≤ 10 → (∀ t ∈ xs, t.2.2.natAbs ≤ 5) → Q (.tup ((BI xs).map encT)) S
def F_law : FSp := fun ds S Q _ => ∃ (d : D) (ns : List Int), ds = [d] ∧ seqOf S d = some (ns.map D.int) ∧ ∀ S', Q (.bl true) S'
/-- bi_poly: 0 triples, 1 sums, 2 v, 3 z, 4 number, 5 place -/
def b_bi_poly : WS := (wSeq (wSet 1 wDT)
  (wSeq (wFor (wiSeq (wVar 0)) (wgTup 3 (wgCons (wgName 2) (wgCons (wgName 3) (wgCons (wgName 4) wgNil))))
  (wDput (wVar 1) (wTup (wCons (wVar 2) (wCons (wVar 3) wNil))) (w2 gAdd (wGet2 (wVar 1) (wTup (wCons (wVar 2) (wCons (wVar 3) wNil))) (wC (.int 0))) (wVar 4))))
  (wRet (wCall (gSeq kTuple) (wCons (wLc (wiSeq (wCall gSorted (wCons (wVar 1) wNil))) (wgName 5) (wB (w2 (gEq true) (w2 gGet (wVar 1) (wVar 5)) (wC (.int 0)))) (w2 gAdd (wVar 5) (wTup (wCons (w2 gGet (wVar 1) (wVar 5)) wNil))) [5]) wNil)))))
abbrev n_bi_poly : Nat := 6
/-- bi_add: 0 a, 1 b -/
def b_bi_add : WS := (wRet (wUser F_bi_poly (wCons (w2 gAdd (wVar 0) (wVar 1)) wNil)))
abbrev n_bi_add : Nat := 2
/-- bi_times: 0 a, 1 b, 2 sums, 3 v, 4 z, 5 one, 6 w, 7 y, 8 other, 9 place -/
def b_bi_times : WS := (wSeq (wSet 2 wDT)
  (wSeq (wFor (wiSeq (wVar 0)) (wgTup 3 (wgCons (wgName 3) (wgCons (wgName 4) (wgCons (wgName 5) wgNil))))
  (wFor (wiSeq (wVar 1)) (wgTup 3 (wgCons (wgName 6) (wgCons (wgName 7) (wgCons (wgName 8) wgNil))))
  (wDput (wVar 2) (wTup (wCons (w2 gAdd (wVar 3) (wVar 6)) (wCons (w2 gAdd (wVar 4) (wVar 7)) wNil))) (w2 gAdd (wGet2 (wVar 2) (wTup (wCons (w2 gAdd (wVar 3) (wVar 6)) (wCons (w2 gAdd (wVar 4) (wVar 7)) wNil))) (wC (.int 0))) (w2 gMul (wVar 5) (wVar 8))))))
  (wRet (wCall (gSeq kTuple) (wCons (wLc (wiSeq (wCall gSorted (wCons (wVar 2) wNil))) (wgName 9) (wB (w2 (gEq true) (w2 gGet (wVar 2) (wVar 9)) (wC (.int 0)))) (w2 gAdd (wVar 9) (wTup (wCons (w2 gGet (wVar 2) (wVar 9)) wNil))) [9]) wNil)))))
abbrev n_bi_times : Nat := 10
/-- bi_shifted: 0 a, 1 v, 2 z, 3 number, 4 i, 5 j, 6 part -/
def b_bi_shifted : WS := (wRet (wCall (gSeq kTuple) (wCons (wLc (wiSeq (wVar 0)) (wgTup 3 (wgCons (wgName 4) (wgCons (wgName 5) (wgCons (wgName 6) wgNil)))) (wB (w2 (gEq true) (wVar 3) (wC (.int 0)))) (wTup (wCons (w2 gAdd (wVar 4) (wVar 1)) (wCons (w2 gAdd (wVar 5) (wVar 2)) (wCons (w2 gMul (wVar 6) (wVar 3)) wNil)))) [4, 5, 6]) wNil)))
abbrev n_bi_shifted : Nat := 7
/-- bi_mirrored: 0 a, 1 i, 2 j, 3 part -/
def b_bi_mirrored : WS := (wRet (wUser F_bi_poly (wCons (wLc (wiSeq (wVar 0)) (wgTup 3 (wgCons (wgName 1) (wgCons (wgName 2) (wgCons (wgName 3) wgNil)))) wYes (wTup (wCons (w2 (gInt0 fun i j => i - j) (wC (.int 0)) (wVar 1)) (wCons (wVar 2) (wCons (wIfE (wB (w2 (gEq false) (w2 (gInt (fun _ j => 0 < j) fun i j => i % j) (wVar 2) (wC (.int 2))) (wC (.int 0)))) (wVar 3) (w2 (gInt0 fun i j => i - j) (wC (.int 0)) (wVar 3))) wNil)))) [1, 2, 3]) wNil)))
abbrev n_bi_mirrored : Nat := 4
/-- at_v_one: 0 a, 1 sums, 2 i, 3 j, 4 part -/
def b_at_v_one : WS := (wSeq (wSet 1 wDK)
  (wSeq (wFor (wiSeq (wVar 0)) (wgTup 3 (wgCons (wgName 2) (wgCons (wgName 3) (wgCons (wgName 4) wgNil))))
  (wDput (wVar 1) (wVar 3) (w2 gAdd (wGet2 (wVar 1) (wVar 3) (wC (.int 0))) (wVar 4))))
  (wRet (wCall (gSeq kTuple) (wCons (wLc (wiSeq (wCall gSorted (wCons (wVar 1) wNil))) (wgName 3) (wB (w2 (gEq true) (w2 gGet (wVar 1) (wVar 3)) (wC (.int 0)))) (wTup (wCons (wVar 3) (wCons (w2 gGet (wVar 1) (wVar 3)) wNil))) [3]) wNil)))))
abbrev n_at_v_one : Nat := 5
/-- v_range: 0 a, 1 row, 2 i, 3 j, 4 part -/
def b_v_range : WS := (wSeq (wSet 1 (wLc (wiSeq (wVar 0)) (wgTup 3 (wgCons (wgName 2) (wgCons (wgName 3) (wgCons (wgName 4) wgNil)))) wYes (wVar 2) [2, 3, 4]))
  (wRet (wIfE (wB (w2 (gRel fun i j => decide (j < i)) (wCall gLen (wCons (wVar 1) wNil)) (wC (.int 0)))) (wTup (wCons (wCall gMin (wCons (wVar 1) wNil)) (wCons (wCall gMax (wCons (wVar 1) wNil)) wNil))) (wTup (wCons (wC (.int 0)) (wCons (wC (.int 0)) wNil))))))
abbrev n_v_range : Nat := 5
/-- _law_sum: 0 pairs, 1 sums, 2 exponent, 3 number -/
def b__law_sum : WS := (wSeq (wSet 1 wDK)
  (wSeq (wFor (wiSeq (wVar 0)) (wgTup 2 (wgCons (wgName 2) (wgCons (wgName 3) wgNil)))
  (wDput (wVar 1) (wVar 2) (w2 gAdd (wGet2 (wVar 1) (wVar 2) (wC (.int 0))) (wVar 3))))
  (wRet (wCall (gSeq kTuple) (wCons (wLc (wiSeq (wCall gSorted (wCons (wVar 1) wNil))) (wgName 2) (wB (w2 (gEq true) (w2 gGet (wVar 1) (wVar 2)) (wC (.int 0)))) (wTup (wCons (wVar 2) (wCons (w2 gGet (wVar 1) (wVar 2)) wNil))) [2]) wNil)))))
abbrev n__law_sum : Nat := 4
/-- _law_bi: 0 triples, 1 sums, 2 v, 3 z, 4 number, 5 place -/
def b__law_bi : WS := (wSeq (wSet 1 wDT)
  (wSeq (wFor (wiSeq (wVar 0)) (wgTup 3 (wgCons (wgName 2) (wgCons (wgName 3) (wgCons (wgName 4) wgNil))))
  (wDput (wVar 1) (wTup (wCons (wVar 2) (wCons (wVar 3) wNil))) (w2 gAdd (wGet2 (wVar 1) (wTup (wCons (wVar 2) (wCons (wVar 3) wNil))) (wC (.int 0))) (wVar 4))))
  (wRet (wCall (gSeq kTuple) (wCons (wLc (wiSeq (wCall gSorted (wCons (wVar 1) wNil))) (wgName 5) (wB (w2 (gEq true) (w2 gGet (wVar 1) (wVar 5)) (wC (.int 0)))) (w2 gAdd (wVar 5) (wTup (wCons (w2 gGet (wVar 1) (wVar 5)) wNil))) [5]) wNil)))))
abbrev n__law_bi : Nat := 6
/-- _law_bi_times: 0 a, 1 b, 2 rows, 3 v, 4 z, 5 number, 6 w, 7 y, 8 other -/
def b__law_bi_times : WS := (wSeq (wSet 2 (wLst wNil))
  (wSeq (wFor (wiSeq (wVar 0)) (wgTup 3 (wgCons (wgName 3) (wgCons (wgName 4) (wgCons (wgName 5) wgNil))))
  (wDo (wDrop (wMeth gExtend (wVar 2) (wCons (wLc (wiSeq (wVar 1)) (wgTup 3 (wgCons (wgName 6) (wgCons (wgName 7) (wgCons (wgName 8) wgNil)))) wYes (wTup (wCons (w2 gAdd (wVar 3) (wVar 6)) (wCons (w2 gAdd (wVar 4) (wVar 7)) (wCons (w2 gMul (wVar 5) (wVar 8)) wNil)))) [6, 7, 8]) wNil)))))
  (wRet (wUser F__law_bi (wCons (wVar 2) wNil)))))
abbrev n__law_bi_times : Nat := 9
/-- _law_bi_random: 0 d, 1 many, 2 k -/
def b__law_bi_random : WS := (wRet (wUser F__law_bi (wCons (wLc (wiRng1 (wUser F__law_take (wCons (wVar 0) (wCons (wVar 1) wNil)))) (wgName 2) wYes (wTup (wCons (w2 (gInt0 fun i j => i - j) (wUser F__law_take (wCons (wVar 0) (wCons (wC (.int 7)) wNil))) (wC (.int 3))) (wCons (w2 (gInt0 fun i j => i - j) (wUser F__law_take (wCons (wVar 0) (wCons (wC (.int 7)) wNil))) (wC (.int 3))) (wCons (w2 (gInt0 fun i j => i - j) (wUser F__law_take (wCons (wVar 0) (wCons (wC (.int 11)) wNil))) (wC (.int 5))) wNil)))) [2]) wNil)))
abbrev n__law_bi_random : Nat := 3
/-- law: 0 script, 1 d, 2 a, 3 b, 4 loose, 5 due, 6 v, 7 z, 8 number, 9 row, 10 k, 11 i, 12 j -/
def b_law : WS := (wSeq (wSet 1 (wUser F__law_begin (wCons (wVar 0) wNil)))
  (wSeq (wSet 2 (wUser F__law_bi_random (wCons (wVar 1) (wCons (wC (.int 11)) wNil))))
  (wSeq (wSet 3 (wUser F__law_bi_random (wCons (wVar 1) (wCons (wC (.int 11)) wNil))))
  (wSeq (wSet 4 (wLc (wiRng1 (wUser F__law_take (wCons (wVar 1) (wCons (wC (.int 14)) wNil)))) (wgName 10) wYes (wTup (wCons (wUser F__law_take (wCons (wVar 1) (wCons (wC (.int 3)) wNil))) (wCons (wUser F__law_take (wCons (wVar 1) (wCons (wC (.int 3)) wNil))) (wCons (w2 (gInt0 fun i j => i - j) (wUser F__law_take (wCons (wVar 1) (wCons (wC (.int 5)) wNil))) (wC (.int 2))) wNil)))) [10]))
  (wSeq (wSet 5 (wUser F__law_bi (wCons (wVar 4) wNil)))
  (wSeq (wIf (wTOr (wTDrop (wB (w2 (gEq true) (wUser F_bi_poly (wCons (wCall (gSeq kList) (wCons (wVar 4) wNil)) wNil)) (wVar 5)))) (wTOr (wB (w2 (gEq true) (wUser F_bi_poly (wCons (wCall (gSeq kTuple) (wCons (wVar 4) wNil)) wNil)) (wVar 5))) (wTOr (wB (w2 (gEq true) (wUser F_bi_add (wCons (wVar 2) (wCons (wVar 3) wNil))) (wUser F__law_bi (wCons (w2 gAdd (wVar 2) (wVar 3)) wNil)))) (wB (w2 (gEq true) (wUser F_bi_times (wCons (wVar 2) (wCons (wVar 3) wNil))) (wUser F__law_bi_times (wCons (wVar 2) (wCons (wVar 3) wNil))))))))
  (wRet (wC (.bl false)))
  wNext)
  (wSeq (wSet 6 (w2 (gInt0 fun i j => i - j) (wUser F__law_take (wCons (wVar 1) (wCons (wC (.int 9)) wNil))) (wC (.int 4))))
  (wSeq (wSet 7 (w2 (gInt0 fun i j => i - j) (wUser F__law_take (wCons (wVar 1) (wCons (wC (.int 9)) wNil))) (wC (.int 4))))
  (wSeq (wSet 8 (w2 (gInt0 fun i j => i - j) (wUser F__law_take (wCons (wVar 1) (wCons (wC (.int 5)) wNil))) (wC (.int 2))))
  (wSeq (wIf (wTDrop (wB (w2 (gEq true) (wUser F_bi_shifted (wCons (wVar 2) (wCons (wVar 6) (wCons (wVar 7) (wCons (wVar 8) wNil))))) (wUser F__law_bi_times (wCons (wVar 2) (wCons (wUser F__law_bi (wCons (wLst (wCons (wTup (wCons (wVar 6) (wCons (wVar 7) (wCons (wVar 8) wNil)))) wNil)) wNil)) wNil))))))
  (wRet (wC (.bl false)))
  wNext)
  (wSeq (wIf (wTDrop (wB (w2 (gEq true) (wUser F_bi_mirrored (wCons (wVar 2) wNil)) (wUser F__law_bi (wCons (wLc (wiSeq (wVar 2)) (wgTup 3 (wgCons (wgName 11) (wgCons (wgName 12) (wgCons (wgName 8) wgNil)))) wYes (wTup (wCons (w2 (gInt0 fun i j => i - j) (wC (.int 0)) (wVar 11)) (wCons (wVar 12) (wCons (wIfE (wB (w2 (gEq false) (w2 (gInt (fun _ j => 0 < j) fun i j => i % j) (wCall gIntOf (wCons (wVar 12) wNil)) (wC (.int 2))) (wC (.int 0)))) (wVar 8) (w2 (gInt0 fun i j => i - j) (wC (.int 0)) (wVar 8))) wNil)))) [11, 12, 8]) wNil)))))
  (wRet (wC (.bl false)))
  wNext)
  (wSeq (wSet 9 (wLc (wiSeq (wVar 2)) (wgTup 3 (wgCons (wgName 11) (wgCons (wgName 12) (wgCons (wgName 8) wgNil)))) wYes (wVar 11) [11, 12, 8]))
  (wSeq (wIf (wB (w2 (gEq true) (wUser F_v_range (wCons (wVar 2) wNil)) (wIfE (wB (w2 (gRel fun i j => decide (j < i)) (wCall gLen (wCons (wVar 9) wNil)) (wC (.int 0)))) (wTup (wCons (wCall gMin (wCons (wVar 9) wNil)) (wCons (wCall gMax (wCons (wVar 9) wNil)) wNil))) (wTup (wCons (wC (.int 0)) (wCons (wC (.int 0)) wNil))))))
  (wRet (wC (.bl false)))
  wNext)
  (wRet (w2 (gEq false) (wUser F_at_v_one (wCons (wVar 2) wNil)) (wUser F__law_sum (wCons (wLc (wiSeq (wVar 2)) (wgTup 3 (wgCons (wgName 11) (wgCons (wgName 12) (wgCons (wgName 8) wgNil)))) wYes (wTup (wCons (wVar 12) (wCons (wVar 8) wNil))) [11, 12, 8]) wNil)))))))))))))))))
abbrev n_law : Nat := 13
theorem supd_sub {S : Ss} {p : Addr} {o o' : Ob} (h : S p = none) : Sub S (supd S p o') := .new h
theorem read_bi_poly (ds : List D) (S : Ss) (Q : WK) (Z : XD) (h : F_bi_poly ds S Q Z) : b_bi_poly (retE Q) (dstart 6 ds) S := by
  obtain ⟨d, xs, rfl, hs, hl, q⟩ := h
  show b_bi_poly (retE Q) [some d, none, none, none, none, none] S
  intro p hp
  refine for_inv (items := xs.map encT) S (fun i ρ' S' => S' = supd S p (.dT (enc f2 (tsum ((xs.take i).map keyT)))) ∧ ∃ o2 o3 o4 o5, ρ' = [some d, some (.ptr p), o2, o3, o4, o5]) (wi_var0 (i := 0) (d := d) rfl hs (.new hp)) ⟨rfl, none, none, none, none, rfl⟩ ?_ ?_ ?_
  · rintro i ρ' S' ⟨rfl, _⟩
    exact .new hp
  · rintro i x ρ' S' hx ⟨rfl, o2, o3, o4, o5, rfl⟩
    rw [List.getElem?_map] at hx
    obtain ⟨t, ht, rfl⟩ := Option.map_eq_some_iff.mp hx
    have hi : i < xs.length := (List.getElem?_eq_some_iff.mp ht).1
    have hlen : (tsum ((xs.take i).map keyT)).length ≤ 1000 := by
      have h1 := tsum_len ((xs.take i).map keyT)
      rw [List.length_map, List.length_take] at h1
      omega
    have et : tsum ((xs.take (i + 1)).map keyT) = tadd (tsum ((xs.take i).map keyT)) (t.1, t.2.1) t.2.2 := by
      rw [List.map_take, List.map_take]
      exact tsum_take (p := keyT t) (by rw [List.getElem?_map, ht]; rfl)
    generalize tsum ((xs.take i).map keyT) = kvs at hlen et
    have a1 : isD (supd S p (.dT (enc f2 kvs))) (.ptr p) = true := isD_T supd_same
    have a2 : dgot (supd S p (.dT (enc f2 kvs))) (.ptr p) (.tup [.int t.1, .int t.2.1]) = some (dval (enc f2 kvs) (f2 (t.1, t.2.1))) := dgot_T supd_same rfl
    have a3 : (dval (enc f2 kvs) (f2 (t.1, t.2.1))).getD (.int 0) = .int (tnum kvs (t.1, t.2.1)) := getD_enc f2_inj _ _
    have a4 : ∀ z, dset (supd S p (.dT (enc f2 kvs))) (.ptr p) (.tup [.int t.1, .int t.2.1]) z = some (supd S p (.dT (dput (enc f2 kvs) (f2 (t.1, t.2.1)) z))) := fun z => (dset_T supd_same rfl (by unfold enc; rw [List.length_map]; exact line_lt (by omega))).trans (by rw [supd_supd]; rfl)
    have hz : (2 : Nat) ≤ sizeLine := line_le (by omega)
    unfold encT
    walk_at "dl*"
    exact ⟨by rw [dput_enc f2_inj]; rfl, _, _, _, _, rfl⟩
  · rintro ρ' S' ⟨rfl, o2, o3, o4, o5, rfl⟩
    have e0 : xs.take (xs.map encT).length = xs := by rw [List.length_map, List.take_length]
    refine ret_bi (ρ := [some d, some (.ptr p), o2, o3, o4, o5]) (D0 := retE Q) (i := 1) (j := 5) (p := p) (kvs := tsum (xs.map keyT)) rfl (by decide) (by show 5 < 6; decide) (by rw [supd_same, e0]) (tsum_keys _) ?_ fun S' hS' => ?_
    · have h1 := tsum_len (xs.map keyT)
      rw [List.length_map] at h1
      omega
    · exact ⟨S, (Sub.new hp).trans hS', q⟩

theorem read__law_bi (ds : List D) (S : Ss) (Q : WK) (Z : XD) (h : F__law_bi ds S Q Z) : b__law_bi (retE Q) (dstart 6 ds) S := read_bi_poly ds S Q Z h
theorem read_bi_add (ds : List D) (S : Ss) (Q : WK) (Z : XD) (h : F_bi_add ds S Q Z) : b_bi_add (retE Q) (dstart 2 ds) S := by
  obtain ⟨a, b, rfl, ha, hb, q⟩ := h
  refine ⟨?_, .tup ((a ++ b).map encT), a ++ b, by rw [List.map_append], rfl, by rw [List.length_append]; omega, S, .refl, q⟩
  rw [List.length_map, List.length_map]
  exact line_le (by omega)
theorem tsum_snoc (xs : List (K2 × Int)) (x : K2 × Int) : tsum (xs ++ [x]) = tadd (tsum xs) x.1 x.2 := by
  unfold tsum
  rw [List.foldl_append]
  rfl
theorem prod_take {a b : List T3} {i : Nat} {t : T3} (h : a[i]? = some t) : prod (a.take (i + 1)) b = prod (a.take i) b ++ b.map (mulT t) := by
  unfold prod
  rw [List.take_add_one, h, List.flatMap_append]
  simp
theorem prod_len (a b : List T3) : (prod a b).length = a.length * b.length := by
  unfold prod
  rw [List.length_flatMap]
  induction a with
  | nil => simp
  | cons x r ih => simp [List.length_map] at ih ⊢; rw [Nat.add_mul, ih]; omega
theorem cmul_small {i j : Int} (h : i.natAbs ≤ 1000000) : CMul i j := .inl ⟨by omega, by omega⟩
theorem two_le : (2 : Nat) ≤ sizeLine := line_le (by omega)
theorem three_le : (3 : Nat) ≤ sizeLine := line_le (by omega)
theorem read_bi_times (ds : List D) (S : Ss) (Q : WK) (Z : XD) (h : F_bi_times ds S Q Z) : b_bi_times (retE Q) (dstart 10 ds) S := by
  obtain ⟨a, b, rfl, hla, hlb, sm, q⟩ := h
  show b_bi_times (retE Q) [some (.tup (a.map encT)), some (.tup (b.map encT)), none, none, none, none, none, none, none, none] S
  intro p hp
  have big : ∀ i j, ((prod (a.take i) b) ++ (b.take j).map (mulT (0, 0, 0))).length ≤ 930 := fun i j => by
    rw [List.length_append, prod_len, List.length_map, List.length_take, List.length_take]
    have h1 : min i a.length ≤ 30 := by omega
    have h2 : min i a.length * b.length ≤ 30 * 30 := Nat.mul_le_mul h1 hlb
    omega
  have small : ∀ (i j : Nat) (t : T3), (tsum (((prod (a.take i) b) ++ (b.take j).map (mulT t)).map keyT)).length ≤ 930 := fun i j t => by
    refine Nat.le_trans (tsum_len _) ?_
    have := big i j
    rw [List.length_append, List.length_map] at this
    rw [List.length_map, List.length_append, List.length_map]
    exact this
  refine for_inv (items := a.map encT) S (fun i ρ' S' => S' = supd S p (.dT (enc f2 (tsum ((prod (a.take i) b).map keyT)))) ∧ ∃ o3 o4 o5 o6 o7 o8 o9, ρ' = [some (.tup (a.map encT)), some (.tup (b.map encT)), some (.ptr p), o3, o4, o5, o6, o7, o8, o9]) (wi_var0 (i := 0) (d := .tup (a.map encT)) rfl rfl (.new hp)) ⟨rfl, none, none, none, none, none, none, none, rfl⟩ ?_ ?_ ?_
  · rintro i ρ' S' ⟨rfl, _⟩
    exact .new hp
  · rintro i x ρ' S' hx ⟨rfl, o3, o4, o5, o6, o7, o8, o9, rfl⟩
    rw [List.getElem?_map] at hx
    obtain ⟨t, ht, rfl⟩ := Option.map_eq_some_iff.mp hx
    have hst := sm t (List.mem_of_getElem? ht)
    refine ⟨rfl, ?_⟩
    refine for_inv (items := b.map encT) S (fun j ρ' S' => S' = supd S p (.dT (enc f2 (tsum ((prod (a.take i) b ++ (b.take j).map (mulT t)).map keyT)))) ∧ ∃ o6 o7 o8, ρ' = [some (.tup (a.map encT)), some (.tup (b.map encT)), some (.ptr p), some (.int t.1), some (.int t.2.1), some (.int t.2.2), o6, o7, o8, o9]) (wi_var0 (i := 1) (d := .tup (b.map encT)) rfl rfl (.new hp)) ⟨by simp, _, _, _, rfl⟩ ?_ ?_ ?_
    · rintro j ρ' S' ⟨rfl, _⟩
      exact .new hp
    · rintro j x ρ' S' hx ⟨rfl, o6, o7, o8, rfl⟩
      rw [List.getElem?_map] at hx
      obtain ⟨u, hu, rfl⟩ := Option.map_eq_some_iff.mp hx
      have et : tsum ((prod (a.take i) b ++ (b.take (j + 1)).map (mulT t)).map keyT) = tadd (tsum ((prod (a.take i) b ++ (b.take j).map (mulT t)).map keyT)) (t.1 + u.1, t.2.1 + u.2.1) (t.2.2 * u.2.2) := by
        have e1 : prod (a.take i) b ++ (b.take (j + 1)).map (mulT t) = (prod (a.take i) b ++ (b.take j).map (mulT t)) ++ [mulT t u] := by
          rw [List.take_add_one, hu, List.map_append, List.append_assoc]
          rfl
        rw [e1, List.map_append]
        exact tsum_snoc _ (keyT (mulT t u))
      have hlen := small i j t
      generalize tsum ((prod (a.take i) b ++ (b.take j).map (mulT t)).map keyT) = kvs at hlen et
      have a1 : isD (supd S p (.dT (enc f2 kvs))) (.ptr p) = true := isD_T supd_same
      have a2 : dgot (supd S p (.dT (enc f2 kvs))) (.ptr p) (.tup [.int (t.1 + u.1), .int (t.2.1 + u.2.1)]) = some (dval (enc f2 kvs) (f2 (t.1 + u.1, t.2.1 + u.2.1))) := dgot_T supd_same rfl
      have a3 : (dval (enc f2 kvs) (f2 (t.1 + u.1, t.2.1 + u.2.1))).getD (.int 0) = .int (tnum kvs (t.1 + u.1, t.2.1 + u.2.1)) := getD_enc f2_inj _ _
      have a4 : ∀ z, dset (supd S p (.dT (enc f2 kvs))) (.ptr p) (.tup [.int (t.1 + u.1), .int (t.2.1 + u.2.1)]) z = some (supd S p (.dT (dput (enc f2 kvs) (f2 (t.1 + u.1, t.2.1 + u.2.1)) z))) := fun z => (dset_T supd_same rfl (by unfold enc; rw [List.length_map]; exact line_lt (by omega))).trans (by rw [supd_supd]; rfl)
      have hz := two_le
      have eu : encT u = .tup [.int u.1, .int u.2.1, .int u.2.2] := rfl
      clear ht hu sm big small q hx
      walk_at "dl*"
      exact ⟨cmul_small hst, by rw [dput_enc f2_inj]; rfl, _, _, _, rfl⟩
    · rintro ρ' S' ⟨rfl, o6, o7, o8, rfl⟩
      refine ⟨?_, _, _, _, _, _, _, _, rfl⟩
      rw [List.length_map, List.take_length, prod_take ht]
  · rintro ρ' S' ⟨rfl, o3, o4, o5, o6, o7, o8, o9, rfl⟩
    have e0 : a.take (a.map encT).length = a := by rw [List.length_map, List.take_length]
    refine ret_bi (ρ := [some (.tup (a.map encT)), some (.tup (b.map encT)), some (.ptr p), o3, o4, o5, o6, o7, o8, o9]) (D0 := retE Q) (i := 2) (j := 9) (p := p) (kvs := tsum ((prod a b).map keyT)) rfl (by decide) (by show 9 < 10; decide) (by rw [supd_same, e0]) (tsum_keys _) ?_ fun S' hS' => ?_
    · have h1 := small a.length 0 (0, 0, 0)
      rw [List.take_length] at h1
      simp at h1
      omega
    · exact ⟨S, (Sub.new hp).trans hS', q⟩
theorem read__law_bi_times (ds : List D) (S : Ss) (Q : WK) (Z : XD) (h : F__law_bi_times ds S Q Z) : b__law_bi_times (retE Q) (dstart 9 ds) S := by
  obtain ⟨a, b, rfl, hla, hlb, sm, q⟩ := h
  show b__law_bi_times (retE Q) [some (.tup (a.map encT)), some (.tup (b.map encT)), none, none, none, none, none, none, none] S
  refine ⟨Nat.zero_le _, fun p hp => ?_⟩
  have big : ∀ i, (prod (a.take i) b).length ≤ 900 := fun i => by
    rw [prod_len, List.length_take]
    have h1 : min i a.length ≤ 30 := by omega
    have h2 : min i a.length * b.length ≤ 30 * 30 := Nat.mul_le_mul h1 hlb
    omega
  refine for_inv (items := a.map encT) S (fun i ρ' S' => S' = supd S p (.lst ((prod (a.take i) b).map encT)) ∧ ∃ o3 o4 o5 o6 o7 o8, ρ' = [some (.tup (a.map encT)), some (.tup (b.map encT)), some (.ptr p), o3, o4, o5, o6, o7, o8]) (wi_var0 (i := 0) (d := .tup (a.map encT)) rfl rfl (.new hp)) ⟨rfl, none, none, none, none, none, none, rfl⟩ ?_ ?_ ?_
  · rintro i ρ' S' ⟨rfl, _⟩
    exact .new hp
  · rintro i x ρ' S' hx ⟨rfl, o3, o4, o5, o6, o7, o8, rfl⟩
    rw [List.getElem?_map] at hx
    obtain ⟨t, ht, rfl⟩ := Option.map_eq_some_iff.mp hx
    have hst := sm t (List.mem_of_getElem? ht)
    refine ⟨rfl, ?_⟩
    refine ⟨by show (seqAt _ p).isSome = true; rw [seqAt_same]; rfl, ?_⟩
    refine lc_pure (items := b.map encT) (fun x => match x with
      | .tup [.int w, .int y, .int o] => some (encT (mulT t (w, y, o)))
      | _ => none) (wi_var (i := 1) (d := .tup (b.map encT)) rfl rfl) (by rw [List.length_map]; exact line_le (by omega)) ?_ ?_
    · intro x hx S' hS' R hR
      obtain ⟨u, hu, rfl⟩ := List.mem_map.mp hx
      have eu : encT u = .tup [.int u.1, .int u.2.1, .int u.2.2] := rfl
      have hz := three_le
      rw [eu] at hR ⊢
      clear hx hu ht
      walk_at "dl"
      exact ⟨cmul_small hst, hz, hR⟩
    · intro q2 hq2
      have e1 : (b.map encT).filterMap (fun x => match x with
        | .tup [.int w, .int y, .int o] => some (encT (mulT t (w, y, o)))
        | _ => none) = (b.map (mulT t)).map encT := by
        rw [List.filterMap_map, List.map_map]
        show b.filterMap (fun u => some (encT (mulT t u))) = _
        rw [List.filterMap_eq_map']
        rfl
      rw [e1]
      have npq : p ≠ q2 := sne supd_same hq2
      show match supd (supd S p _) q2 _ p, supd (supd S p _) q2 _ q2 with
        | some (.lst xs), some (.lst zs) => _
        | _, _ => False
      rw [supd_ne npq, supd_same, supd_same]
      refine ⟨?_, supd S p (.lst ((prod (a.take (i + 1)) b).map encT)), ?_, rfl, _, _, _, _, _, _, rfl⟩
      · rw [List.length_map, List.length_map, List.length_map]
        have := big i
        exact line_le (by omega)
      · rw [prod_take ht, List.map_append]
        intro c o hc
        by_cases e : c = p
        · subst e
          rw [supd_same] at hc ⊢
          exact hc
        · rw [supd_ne e] at hc ⊢
          have nc : c ≠ q2 := fun z => by
            rw [← z, supd_ne e, hc] at hq2
            cases hq2
          rw [supd_ne nc, supd_ne e]
          exact hc
  · rintro ρ' S' ⟨rfl, o3, o4, o5, o6, o7, o8, rfl⟩
    have e0 : a.take (a.map encT).length = a := by rw [List.length_map, List.take_length]
    have := big a.length
    rw [List.take_length] at this
    exact ⟨.ptr p, prod a b, rfl, by rw [e0]; exact seqAt_same, by omega, S, .new hp, q⟩
theorem filt_some {α β : Type} (f : α → β) (l : List α) : l.filterMap (fun x => some (f x)) = l.map f := by
  rw [List.filterMap_eq_map']
theorem read_bi_shifted (ds : List D) (S : Ss) (Q : WK) (Z : XD) (h : F_bi_shifted ds S Q Z) : b_bi_shifted (retE Q) (dstart 7 ds) S := by
  obtain ⟨a, v, z, n, rfl, hl, sm, q⟩ := h
  show b_bi_shifted (retE Q) [some (.tup (a.map encT)), some (.int v), some (.int z), some (.int n), none, none, none] S
  refine ret_call ?_
  refine lc_pure (items := a.map encT) (fun x => if n ≠ 0 then (match x with
      | .tup [.int i, .int j, .int o] => some (encT (shT v z n (i, j, o)))
      | _ => none) else none) (wi_var (i := 0) (d := .tup (a.map encT)) rfl rfl) (by rw [List.length_map]; exact line_le (by omega)) ?_ ?_
  · intro x hx S' hS' R hR
    obtain ⟨u, hu, rfl⟩ := List.mem_map.mp hx
    have eu : encT u = .tup [.int u.1, .int u.2.1, .int u.2.2] := rfl
    have hst := sm u hu
    have hz := three_le
    rw [eu] at hR ⊢
    walk_at "dl"
    by_cases h0 : n = 0
    · subst h0
      exact hR
    · rw [if_pos h0] at hR
      simp only [h0, decide_false, Bool.not_false, if_true]
      exact ⟨cmul_small hst, hz, hR⟩
  · intro p hp
    refine ifS.of seqAt_same ⟨S, .new hp, ?_⟩
    have e : (a.map encT).filterMap (fun x => if n ≠ 0 then (match x with
      | .tup [.int i, .int j, .int o] => some (encT (shT v z n (i, j, o)))
      | _ => none) else none) = (if n ≠ 0 then a.map (shT v z n) else []).map encT := by
      by_cases h0 : n = 0
      · subst h0
        simp
      · simp only [h0, ne_eq, not_false_eq_true, if_true]
        rw [List.filterMap_map, List.map_map]
        exact filt_some (fun u => encT (shT v z n u)) a
    rw [e]
    exact q
theorem read_bi_mirrored (ds : List D) (S : Ss) (Q : WK) (Z : XD) (h : F_bi_mirrored ds S Q Z) : b_bi_mirrored (retE Q) (dstart 4 ds) S := by
  obtain ⟨a, rfl, hl, q⟩ := h
  show b_bi_mirrored (retE Q) [some (.tup (a.map encT)), none, none, none] S
  refine ret_user ?_
  refine lc_pure (items := a.map encT) (fun x => match x with
      | .tup [.int i, .int j, .int o] => some (encT (miT (i, j, o)))
      | _ => none) (wi_var (i := 0) (d := .tup (a.map encT)) rfl rfl) (by rw [List.length_map]; exact line_le (by omega)) ?_ ?_
  · intro x hx S' hS' R hR
    obtain ⟨u, hu, rfl⟩ := List.mem_map.mp hx
    have eu : encT u = .tup [.int u.1, .int u.2.1, .int u.2.2] := rfl
    have hz := three_le
    rw [eu] at hR ⊢
    walk_at "dl"
    refine ⟨by decide, ?_⟩
    have hR : R (some (.tup [.int (0 - u.1), .int u.2.1, .int (if u.2.1 % 2 = 0 then u.2.2 else 0 - u.2.2)])) S' := hR
    by_cases h0 : u.2.1 % 2 = 0
    · rw [if_pos h0] at hR
      simp only [h0, decide_true, if_true]
      exact ⟨hz, hR⟩
    · rw [if_neg h0] at hR
      simp only [h0, decide_false, Bool.false_eq_true, if_false]
      exact ⟨hz, hR⟩
  · intro p hp
    refine ⟨.ptr p, a.map miT, rfl, ?_, by rw [List.length_map]; omega, S, .new hp, q⟩
    rw [List.filterMap_map, List.map_map]
    exact seqAt_same.trans (congrArg some (filt_some (fun u => encT (miT u)) a))
/-! ### sums by one number -/
theorem inl_inj (a b : Int) (h : (Sum.inl a : Key) = Sum.inl b) : a = b := Sum.inl.inj h
theorem sortOk_ints (ks : List Int) (h : ks.length ≤ 1000) : SortOk (ks.map D.int) := by
  have e : (ks.map D.int).map D.py = ks.map fun k => .int k := by
    rw [List.map_map]
    apply List.map_congr_left
    intro k _
    simp [D.py]
  refine ⟨?_, ?_, ?_, ?_, ?_⟩
  · induction ks with
    | nil => rfl
    | cons k r ih =>
      rw [List.map_cons, pures, ih (by rw [List.length_cons] at h; omega) (by rw [List.map_map]; apply List.map_congr_left; intro k _; simp [D.py])]
      simp [D.pure]
  · rw [e]
    exact PySem.W.AllAlike.of fun b b' => by simp [PySem.W.alike]
  · rw [e]
    exact PySem.W.Sortable.others fun b => ⟨fun z => (nomatch z), fun _ z => (nomatch z)⟩
  · rw [List.length_map]
    exact line_le (by omega)
  · intro d hd
    obtain ⟨k, _, rfl⟩ := List.mem_map.mp hd
    simp [D.py, PyData.depth]
def fSum1 (kvs : List (Int × Int)) : D → Option D
  | .int a => if tnum kvs a ≠ 0 then some (encP (a, tnum kvs a)) else none
  | _ => none
theorem fSum1_all (kvs : List (Int × Int)) : (((kvs.map (·.1)).map D.int).mergeSort leD).filterMap (fSum1 kvs) = (ofSum1 kvs).map encP := by
  rw [← PySem.W.sort_maps (r := leI) D.int fun _ _ _ _ => rfl, List.filterMap_map]
  unfold ofSum1
  rw [List.map_filterMap]
  congr 1
  funext k
  show fSum1 kvs (.int k) = _
  unfold fSum1
  simp only
  split <;> rfl
theorem ret_sum {i j : Nat} {ρ : Rho} {S : Ss} {D0 : DEnds} {p : Addr} {kvs : List (Int × Int)} (hρ : ρ[i]? = some (some (.ptr p))) (hij : i ≠ j) (hj : j < ρ.length) (hS : S p = some (.dK (enc Sum.inl kvs))) (hn : (kvs.map (·.1)).Nodup) (hl : kvs.length ≤ 1000)
    (k : ∀ S', Sub S S' → D0.rt (.tup ((ofSum1 kvs).map encP)) S') :
    (wRet (wCall (gSeq kTuple) (wCons (wLc (wiSeq (wCall gSorted (wCons (wVar i) wNil))) (wgName j) (wB (w2 (gEq true) (w2 gGet (wVar i) (wVar j)) (wC (.int 0)))) (wTup (wCons (wVar j) (wCons (w2 gGet (wVar i) (wVar j)) wNil))) [j]) wNil))) D0 ρ S := by
  have hk : dkeys S p = some ((kvs.map (·.1)).map D.int) := by
    rw [dkeys_K hS]
    unfold enc
    rw [List.map_map, List.map_map]
    rfl
  refine (show wLc _ _ _ _ [j] ρ S (fun d S1 => gSeq kTuple [d] S1 D0.rt) from ?_)
  refine lc_pureN (fSum1 kvs) (items := ((kvs.map (·.1)).map D.int).mergeSort leD) (fun R hR => ?_) ?_ ?_ ?_
  · unfold wiSeq wCall wCons wNil wVar
    simp only [hρ]
    unfold gSorted
    simp only [hk]
    refine ⟨sortOk_ints _ (by rw [List.length_map]; exact hl), fun q hq => ?_⟩
    exact ifS.of seqAt_same (hR _ _ (.new hq) fun S' h => h.seqOf (d := .ptr q) seqAt_same)
  · rw [List.length_mergeSort, List.length_map, List.length_map]
    exact line_le (by omega)
  · intro d hd S' hS' R hR
    obtain ⟨k0, hk0, rfl⟩ := List.mem_map.mp (List.mem_mergeSort.mp hd)
    obtain ⟨pr, hpr, rfl⟩ := List.mem_map.mp hk0
    have e1 : ((dwipe ρ [j]).set j (some (.int pr.1)))[i]? = some (some (.ptr p)) := by
      show (((ρ.set j none).set j (some (.int pr.1)))[i]?) = _
      rw [List.getElem?_set_ne (Ne.symm hij), List.getElem?_set_ne (Ne.symm hij)]
      exact hρ
    have e2 : ((dwipe ρ [j]).set j (some (.int pr.1)))[j]? = some (some (.int pr.1)) := by
      show (((ρ.set j none).set j (some (.int pr.1)))[j]?) = _
      rw [List.getElem?_set_self (by rw [List.length_set]; exact hj)]
    have hv : tval kvs pr.1 = some pr.2 := tval_of_mem hn hpr
    have e3 : dgot S' (.ptr p) (.int pr.1) = some (some (.int pr.2)) := by
      rw [dgot_K (hS' _ _ hS) (k := .inl pr.1) rfl, dval_enc inl_inj, hv]
      rfl
    have e4 : tnum kvs pr.1 = pr.2 := by
      unfold tnum
      rw [hv]
      rfl
    have e5 : fSum1 kvs (.int pr.1) = if pr.2 ≠ 0 then some (encP (pr.1, pr.2)) else none := by
      unfold fSum1
      simp only [e4]
    rw [e5] at hR
    unfold wgName wB w2 wVar wC gGet wTup wCons wNil
    simp only [e1, e2, e3, ifS_some, gEq_int, reduceIte]
    by_cases h0 : pr.2 = 0
    · rw [if_neg (by simp [h0])] at hR
      simp only [h0, decide_true, Bool.not_true, Bool.false_eq_true, if_false]
      exact hR
    · rw [if_pos h0] at hR
      simp only [h0, decide_false, Bool.not_false, if_true]
      exact ⟨by show 2 ≤ sizeLine; exact line_le (by omega), hR⟩
  · intro q S1 hS1 hq
    rw [fSum1_all]
    exact ifS.of seqAt_same (k _ (hS1.step hq))
theorem tsum_takeI {xs : List (Int × Int)} {i : Nat} {p : Int × Int} (h : xs[i]? = some p) : tsum (xs.take (i + 1)) = tadd (tsum (xs.take i)) p.1 p.2 := tsum_take h
theorem read_at_v_one (ds : List D) (S : Ss) (Q : WK) (Z : XD) (h : F_at_v_one ds S Q Z) : b_at_v_one (retE Q) (dstart 5 ds) S := by
  obtain ⟨a, rfl, hl, q⟩ := h
  show b_at_v_one (retE Q) [some (.tup (a.map encT)), none, none, none, none] S
  intro p hp
  refine for_inv (items := a.map encT) S (fun i ρ' S' => S' = supd S p (.dK (enc Sum.inl (tsum ((a.map jn).take i)))) ∧ ∃ o2 o3 o4, ρ' = [some (.tup (a.map encT)), some (.ptr p), o2, o3, o4]) (wi_var0 (i := 0) (d := .tup (a.map encT)) rfl rfl (.new hp)) ⟨rfl, none, none, none, rfl⟩ ?_ ?_ ?_
  · rintro i ρ' S' ⟨rfl, _⟩
    exact .new hp
  · rintro i x ρ' S' hx ⟨rfl, o2, o3, o4, rfl⟩
    rw [List.getElem?_map] at hx
    obtain ⟨t, ht, rfl⟩ := Option.map_eq_some_iff.mp hx
    have et : tsum ((a.map jn).take (i + 1)) = tadd (tsum ((a.map jn).take i)) t.2.1 t.2.2 := tsum_takeI (p := jn t) (by rw [List.getElem?_map, ht]; rfl)
    have hlen : (tsum ((a.map jn).take i)).length ≤ 1000 := by
      have h1 := tsum_len ((a.map jn).take i)
      rw [List.length_take, List.length_map] at h1
      omega
    generalize tsum ((a.map jn).take i) = kvs at hlen et
    have a1 : isD (supd S p (.dK (enc Sum.inl kvs))) (.ptr p) = true := isD_K supd_same
    have a2 : dgot (supd S p (.dK (enc Sum.inl kvs))) (.ptr p) (.int t.2.1) = some (dval (enc Sum.inl kvs) (.inl t.2.1)) := dgot_K supd_same rfl
    have a3 : (dval (enc (Sum.inl : Int → Key) kvs) (.inl t.2.1)).getD (.int 0) = .int (tnum kvs t.2.1) := getD_enc inl_inj _ _
    have a4 : ∀ z, dset (supd S p (.dK (enc Sum.inl kvs))) (.ptr p) (.int t.2.1) z = some (supd S p (.dK (dput (enc Sum.inl kvs) (.inl t.2.1) z))) := fun z => (dset_K supd_same rfl (by unfold enc; rw [List.length_map]; exact line_lt (by omega))).trans (by rw [supd_supd])
    have eu : encT t = .tup [.int t.1, .int t.2.1, .int t.2.2] := rfl
    clear hx q ht
    walk_at "dl*"
    exact ⟨by rw [dput_enc (f := (Sum.inl : Int → Key)) inl_inj]; rfl, _, _, _, rfl⟩
  · rintro ρ' S' ⟨rfl, o2, o3, o4, rfl⟩
    have e0 : (a.map jn).take (a.map encT).length = a.map jn := by rw [List.length_map, ← List.length_map (f := jn), List.take_length]
    refine ret_sum (ρ := [some (.tup (a.map encT)), some (.ptr p), o2, o3, o4]) (D0 := retE Q) (i := 1) (j := 3) (p := p) (kvs := tsum (a.map jn)) rfl (by decide) (by show 3 < 5; decide) (by rw [supd_same, e0]) (tsum_keys _) ?_ fun S' hS' => ?_
    · have h1 := tsum_len (a.map jn)
      rw [List.length_map] at h1
      omega
    · exact ⟨S, (Sub.new hp).trans hS', q⟩
theorem read__law_sum (ds : List D) (S : Ss) (Q : WK) (Z : XD) (h : F__law_sum ds S Q Z) : b__law_sum (retE Q) (dstart 4 ds) S := by
  obtain ⟨d, a, rfl, hs, hl, q⟩ := h
  show b__law_sum (retE Q) [some d, none, none, none] S
  intro p hp
  refine for_inv (items := a.map encP) S (fun i ρ' S' => S' = supd S p (.dK (enc Sum.inl (tsum (a.take i)))) ∧ ∃ o2 o3, ρ' = [some d, some (.ptr p), o2, o3]) (wi_var0 (i := 0) (d := d) rfl hs (.new hp)) ⟨rfl, none, none, rfl⟩ ?_ ?_ ?_
  · rintro i ρ' S' ⟨rfl, _⟩
    exact .new hp
  · rintro i x ρ' S' hx ⟨rfl, o2, o3, rfl⟩
    rw [List.getElem?_map] at hx
    obtain ⟨t, ht, rfl⟩ := Option.map_eq_some_iff.mp hx
    have et : tsum (a.take (i + 1)) = tadd (tsum (a.take i)) t.1 t.2 := tsum_takeI ht
    have hlen : (tsum (a.take i)).length ≤ 1000 := by
      have h1 := tsum_len (a.take i)
      rw [List.length_take] at h1
      omega
    generalize tsum (a.take i) = kvs at hlen et
    have a1 : isD (supd S p (.dK (enc Sum.inl kvs))) (.ptr p) = true := isD_K supd_same
    have a2 : dgot (supd S p (.dK (enc Sum.inl kvs))) (.ptr p) (.int t.1) = some (dval (enc Sum.inl kvs) (.inl t.1)) := dgot_K supd_same rfl
    have a3 : (dval (enc (Sum.inl : Int → Key) kvs) (.inl t.1)).getD (.int 0) = .int (tnum kvs t.1) := getD_enc inl_inj _ _
    have a4 : ∀ z, dset (supd S p (.dK (enc Sum.inl kvs))) (.ptr p) (.int t.1) z = some (supd S p (.dK (dput (enc Sum.inl kvs) (.inl t.1) z))) := fun z => (dset_K supd_same rfl (by unfold enc; rw [List.length_map]; exact line_lt (by omega))).trans (by rw [supd_supd])
    have eu : encP t = .tup [.int t.1, .int t.2] := rfl
    clear hx q ht hs
    walk_at "dl*"
    exact ⟨by rw [dput_enc (f := (Sum.inl : Int → Key)) inl_inj]; rfl, _, _, rfl⟩
  · rintro ρ' S' ⟨rfl, o2, o3, rfl⟩
    have e0 : a.take (a.map encP).length = a := by rw [List.length_map, List.take_length]
    refine ret_sum (ρ := [some d, some (.ptr p), o2, o3]) (D0 := retE Q) (i := 1) (j := 2) (p := p) (kvs := tsum a) rfl (by decide) (by show 2 < 4; decide) (by rw [supd_same, e0]) (tsum_keys _) ?_ fun S' hS' => ?_
    · have h1 := tsum_len a
      omega
    · exact ⟨S, (Sub.new hp).trans hS', q⟩
theorem read_v_range (ds : List D) (S : Ss) (Q : WK) (Z : XD) (h : F_v_range ds S Q Z) : b_v_range (retE Q) (dstart 5 ds) S := by
  obtain ⟨a, rfl, hl, q⟩ := h
  show b_v_range (retE Q) [some (.tup (a.map encT)), none, none, none, none] S
  refine seq_set ?_
  refine lc_pure (items := a.map encT) (fun x => match x with
      | .tup [.int i, .int j, .int o] => some (.int i)
      | _ => none) (wi_var (i := 0) (d := .tup (a.map encT)) rfl rfl) (by rw [List.length_map]; exact line_le (by omega)) ?_ ?_
  · intro x hx S' hS' R hR
    obtain ⟨u, hu, rfl⟩ := List.mem_map.mp hx
    have eu : encT u = .tup [.int u.1, .int u.2.1, .int u.2.2] := rfl
    rw [eu] at hR ⊢
    walk_at "dl"
    exact hR
  · intro p hp
    have e : (a.map encT).filterMap (fun x => match x with
      | .tup [.int i, .int j, .int o] => some (.int i)
      | _ => none) = (a.map (·.1)).map D.int := by
      rw [List.filterMap_map, List.map_map]
      exact filt_some (fun u : T3 => D.int u.1) a
    rw [e]
    have s1 : Sub S (supd S p (.lst ((a.map (·.1)).map D.int))) := .new hp
    have e2 : ((lstOf (supd S p (.lst ((a.map (·.1)).map D.int))) (.ptr p)).bind dints) = some (a.map (·.1)) := by
      show ((seqAt _ p).bind dints) = _
      rw [seqAt_same]
      exact dints_map _
    have e3 : lenOf (supd S p (.lst ((a.map (·.1)).map D.int))) (.ptr p) = some (a.map (·.1)).length := by
      rw [lenOf_lst supd_same, List.length_map]
    generalize supd S p (.lst ((a.map (·.1)).map D.int)) = S1 at s1 e2 e3
    generalize a.map (·.1) = ns at q e2 e3
    unfold gMin gMax
    have hz := two_le
    clear e
    walk_at "dl*"
    refine ite2 (fun h0 => ?_) fun h0 => ⟨S, s1, q 0 0 (.inl ⟨List.eq_nil_of_length_eq_zero (by omega), rfl, rfl⟩)⟩
    exact ⟨by omega, fun m m1 m2 => ⟨by omega, fun n n1 n2 => ⟨S, s1, q m n (.inr ⟨m1, n1, m2, n2⟩)⟩⟩⟩
theorem range_one {ns : List Int} {a b c d : Int} (h : Range ns a b) (h' : Range ns c d) : a = c ∧ b = d := by
  rcases h with ⟨e, rfl, rfl⟩ | ⟨h1, h2, h3, h4⟩
  · rcases h' with ⟨_, rfl, rfl⟩ | ⟨h1, _⟩
    · exact ⟨rfl, rfl⟩
    · rw [e] at h1
      cases h1
  · rcases h' with ⟨e, _⟩ | ⟨g1, g2, g3, g4⟩
    · rw [e] at h1
      cases h1
    · exact ⟨Int.le_antisymm (h3 _ g1) (g3 _ h1), Int.le_antisymm (g4 _ h2) (h4 _ g2)⟩

/-! ### canonical polynomials -/
theorem leK_eq (a b : K2) : leK a b = decide (a.1 < b.1 ∨ (a.1 = b.1 ∧ a.2 ≤ b.2)) := by
  have h := congrFun (congrFun (PySem.W.dataLe_ii (β := K2) (·.1) (·.2)) a) b
  rw [← h]
  unfold leK leD
  have e : (fun b : K2 => PyData.tuple [.int b.1, .int b.2]) = fun k => (encK k).py := by
    funext k
    simp [encK, D.py, pys]
  rw [e]
  rfl
theorem leK_total : PySem.W.TotalLe leK := by
  refine ⟨fun a b c h1 h2 => ?_, fun a b => ?_⟩
  · simp only [leK_eq, decide_eq_true_eq] at h1 h2 ⊢
    omega
  · simp only [leK_eq, decide_eq_true_eq]
    omega
def key (t : T3) : K2 := (t.1, t.2.1)
structure Canon (a : List T3) : Prop where
  nd : (a.map key).Nodup
  up : (a.map key).Pairwise fun s t => leK s t = true
  nz : ∀ t ∈ a, t.2.2 ≠ 0
theorem keys_map (a : List T3) : (a.map keyT).map (·.1) = a.map key := by
  rw [List.map_map]
  rfl
theorem filt_self {α : Type} {f : α → Option α} : ∀ {l : List α}, (∀ x ∈ l, f x = some x) → l.filterMap f = l
  | [], _ => rfl
  | x :: r, h => by
    rw [List.filterMap_cons, h x List.mem_cons_self, filt_self fun y hy => h y (List.mem_cons_of_mem _ hy)]
theorem BI_of_canon {a : List T3} (h : Canon a) : BI a = a := by
  unfold BI
  rw [tsum_distinct (by rw [keys_map]; exact h.nd)]
  unfold ofSums
  rw [keys_map, ← PySem.W.sort_unique leK_total h.up fun c => rfl, List.filterMap_map]
  refine filt_self fun t ht => ?_
  have e : tnum (a.map keyT) (key t) = t.2.2 := by
    unfold tnum
    rw [tval_of_mem (by rw [keys_map]; exact h.nd) (List.mem_map.mpr ⟨t, ht, rfl⟩)]
    rfl
  show (if tnum (a.map keyT) (key t) ≠ 0 then some ((key t).1, (key t).2, tnum (a.map keyT) (key t)) else none) = some t
  rw [e, if_pos (h.nz t ht)]
  rfl
theorem ofSums_keys (kvs : List (K2 × Int)) : (ofSums kvs).map key = ((kvs.map (·.1)).mergeSort leK).filter fun k => decide (tnum kvs k ≠ 0) := by
  unfold ofSums
  rw [List.map_filterMap]
  generalize (kvs.map (·.1)).mergeSort leK = l
  induction l with
  | nil => rfl
  | cons k r ih =>
    rw [List.filterMap_cons, List.filter_cons]
    by_cases h : tnum kvs k ≠ 0
    · rw [if_pos h, if_pos (decide_eq_true h), ih]
      rfl
    · rw [if_neg h, if_neg (by simpa using h), ih]
      rfl
theorem BI_canon (xs : List T3) : Canon (BI xs) := by
  have nd : (((tsum (xs.map keyT)).map (·.1)).mergeSort leK).Nodup := (List.mergeSort_perm _ _).nodup_iff.mpr (tsum_keys _)
  refine ⟨?_, ?_, ?_⟩
  · unfold BI
    rw [ofSums_keys]
    exact nd.filter _
  · unfold BI
    rw [ofSums_keys]
    exact (PySem.W.sort_pairwise leK_total _).filter _
  · intro t ht
    unfold BI ofSums at ht
    obtain ⟨k, _, e⟩ := List.mem_filterMap.mp ht
    split at e
    · rename_i h
      cases e
      exact h
    · cases e
theorem BI_len (xs : List T3) : (BI xs).length ≤ xs.length := by
  unfold BI ofSums
  refine Nat.le_trans (List.length_filterMap_le _ _) ?_
  rw [List.length_mergeSort, List.length_map]
  have := tsum_len (xs.map keyT)
  rw [List.length_map] at this
  exact this
theorem BI_small {xs : List T3} {B : Nat} (h : ∀ t ∈ xs, t.2.2.natAbs ≤ B) : ∀ t ∈ BI xs, t.2.2.natAbs ≤ B * xs.length := by
  intro t ht
  unfold BI ofSums at ht
  obtain ⟨k, hk, e⟩ := List.mem_filterMap.mp ht
  obtain ⟨p, hp, rfl⟩ := List.mem_map.mp (List.mem_mergeSort.mp hk)
  have hb := tsum_bound (xs := xs.map keyT) (B := B) (fun q hq => by
    obtain ⟨u, hu, rfl⟩ := List.mem_map.mp hq
    exact h u hu) p hp
  rw [List.length_map] at hb
  have hv : tnum (tsum (xs.map keyT)) p.1 = p.2 := by
    unfold tnum
    rw [tval_of_mem (tsum_keys _) hp]
    rfl
  split at e
  · cases e
    show (tnum (tsum (xs.map keyT)) p.1).natAbs ≤ _
    rw [hv]
    exact hb
  · cases e
theorem shift_canon {a : List T3} {v z n : Int} (h : Canon a) (hn : n ≠ 0) : Canon (a.map (shT v z n)) := by
  have e : (a.map (shT v z n)).map key = (a.map key).map fun k => (k.1 + v, k.2 + z) := by
    rw [List.map_map, List.map_map]
    rfl
  refine ⟨?_, ?_, ?_⟩
  · rw [e]
    refine List.Pairwise.map _ (fun x y hxy e => hxy ?_) h.nd
    have e1 := congrArg Prod.fst e
    have e2 := congrArg Prod.snd e
    have e1 : x.1 + v = y.1 + v := e1
    have e2 : x.2 + z = y.2 + z := e2
    exact Prod.ext (by omega) (by omega)
  · rw [e, List.pairwise_map]
    refine h.up.imp fun {x y} hxy => ?_
    simp only [leK_eq, decide_eq_true_eq] at hxy ⊢
    omega
  · intro t ht
    obtain ⟨u, hu, rfl⟩ := List.mem_map.mp ht
    exact Int.mul_ne_zero (h.nz u hu) hn
theorem BI_one (v z n : Int) : BI [(v, z, n)] = if n ≠ 0 then [(v, z, n)] else [] := by
  by_cases h : n ≠ 0
  · rw [if_pos h]
    exact BI_of_canon ⟨by simp, by simp, fun t ht => by
      rw [List.mem_singleton.mp ht]
      exact h⟩
  · rw [if_neg h]
    have h0 : n = 0 := by simpa using h
    subst h0
    have e : tsum ([(v, z, (0 : Int))].map keyT) = [((v, z), 0)] := tsum_distinct (by simp)
    unfold BI ofSums
    rw [e]
    simp [tnum, tval]
theorem shifted (xs : List T3) (v z n : Int) : BI (prod (BI xs) (BI [(v, z, n)])) = if n ≠ 0 then (BI xs).map (shT v z n) else [] := by
  rw [BI_one]
  by_cases h : n ≠ 0
  · rw [if_pos h, if_pos h]
    have e : prod (BI xs) [(v, z, n)] = (BI xs).map (shT v z n) := by
      unfold prod
      generalize BI xs = a
      induction a with
      | nil => rfl
      | cons t r ih => rw [List.flatMap_cons, ih]; rfl
    rw [e]
    exact BI_of_canon (shift_canon (BI_canon xs) h)
  · rw [if_neg h, if_neg h]
    have e : prod (BI xs) [] = [] := by
      unfold prod
      simp
    rw [e]
    exact BI_of_canon ⟨by simp, by simp, fun t ht => (nomatch ht)⟩

/-! ### the law -/
theorem of_draws {ys : List D} {B : Nat} : (∀ y ∈ ys, ∃ t : T3, y = encT t ∧ t.2.2.natAbs ≤ B) → ∃ xs : List T3, ys = xs.map encT ∧ ∀ t ∈ xs, t.2.2.natAbs ≤ B := by
  induction ys with
  | nil => exact fun _ => ⟨[], rfl, fun _ h => (nomatch h)⟩
  | cons y r ih =>
    intro h
    obtain ⟨t, e, ht⟩ := h y List.mem_cons_self
    obtain ⟨xs, e2, h2⟩ := ih fun z hz => h z (List.mem_cons_of_mem _ hz)
    refine ⟨t :: xs, by rw [e, e2]; rfl, fun u hu => ?_⟩
    rcases List.mem_cons.mp hu with rfl | hu
    · exact ht
    · exact h2 u hu
theorem read__law_bi_random (ds : List D) (S : Ss) (Q : WK) (Z : XD) (h : F__law_bi_random ds S Q Z) : b__law_bi_random (retE Q) (dstart 3 ds) S := by
  obtain ⟨p, many, rfl, hr, h1, h2, q⟩ := h
  show b__law_bi_random (retE Q) [some (.ptr p), some (.int many), none] S
  refine ret_user (lc_in ?_)
  walk_at "dl"
  refine take_ok hr (fun r r0 r1 => ?_) h1 (by omega)
  refine rng_ok r0 (by omega) fun items hlen => ?_
  refine lcIn_any (fun y => ∃ t : T3, y = encT t ∧ t.2.2.natAbs ≤ 5) (fun _ _ => trivial) (by rw [hlen]; exact line_le (by omega)) ?_ ?_
  · intro x hx S' hS' R hR
    have hr' := hr.sub hS'
    have hz := three_le
    walk_at "dl"
    refine take_ok hr' (fun v v0 v1 => ?_) (by decide) (by decide)
    refine take_ok hr' (fun z z0 z1 => ?_) (by decide) (by decide)
    refine take_ok hr' (fun n n0 n1 => ?_) (by decide) (by decide)
    exact ⟨hz, hR _ ⟨(v - 3, z - 3, n - 5), rfl, by show (n - 5).natAbs ≤ 5; omega⟩⟩
  · intro q2 ys hq2 hl hys
    obtain ⟨xs, e, hxs⟩ := of_draws hys
    subst e
    rw [List.length_map, hlen] at hl
    exact ⟨.ptr q2, xs, rfl, seqAt_same, by omega, S, .new hq2, q xs (by omega) hxs⟩
theorem pure_T (xs : List T3) : (D.tup (xs.map encT)).pure = true := by
  rw [D.pure]
  induction xs with
  | nil => rfl
  | cons t r ih =>
    rw [List.map_cons, pures, ih]
    simp [encT, D.pure, pures]
theorem depth_T (xs : List T3) : (D.tup (xs.map encT)).py.depth ≤ 64 := by
  have h : ∀ xs : List T3, PyData.depthAll (pys (xs.map encT)) ≤ 1 := by
    intro xs
    induction xs with
    | nil => simp [pys, PyData.depthAll]
    | cons t r ih =>
      rw [List.map_cons, pys, PyData.depthAll]
      have e : (encT t).py.depth ≤ 1 := by simp [encT, D.py, pys, PyData.depth, PyData.depthAll]
      omega
  rw [D.py, PyData.depth]
  have := h xs
  omega
theorem pure_P (xs : List P2) : (D.tup (xs.map encP)).pure = true := by
  rw [D.pure]
  induction xs with
  | nil => rfl
  | cons t r ih =>
    rw [List.map_cons, pures, ih]
    simp [encP, D.pure, pures]
theorem depth_P (xs : List P2) : (D.tup (xs.map encP)).py.depth ≤ 64 := by
  have h : ∀ xs : List P2, PyData.depthAll (pys (xs.map encP)) ≤ 1 := by
    intro xs
    induction xs with
    | nil => simp [pys, PyData.depthAll]
    | cons t r ih =>
      rw [List.map_cons, pys, PyData.depthAll]
      have e : (encP t).py.depth ≤ 1 := by simp [encP, D.py, pys, PyData.depth, PyData.depthAll]
      omega
  rw [D.py, PyData.depth]
  have := h xs
  omega
theorem neT (xs : List T3) {S : Ss} {Q : WK} (q : Q (.bl false) S) : gEq true (.tup (xs.map encT)) (.tup (xs.map encT)) S Q := eq_same (pure_T xs) (depth_T xs) q
theorem read_law (ds : List D) (S : Ss) (Q : WK) (Z : XD) (h : F_law ds S Q Z) : b_law (retE Q) (dstart 13 ds) S := by
  obtain ⟨d, ns, rfl, hs, q⟩ := h
  show b_law (retE Q) [some d, none, none, none, none, none, none, none, none, none, none, none, none] S
  refine seq_set ⟨d, ns, rfl, hs, fun l p hl hp npl => ?_⟩
  have hr0 : IsRnd (supd (supd S l .src) p (.rnd l)) p := ⟨l, supd_same, by rw [supd_ne (Ne.symm npl)]; exact supd_same⟩
  generalize supd (supd S l .src) p (.rnd l) = S1 at hr0
  clear hs hl hp npl
  refine seq_set ⟨p, 11, rfl, hr0, by decide, by decide, fun xs hx1 hx2 => ?_⟩
  refine seq_set ⟨p, 11, rfl, hr0, by decide, by decide, fun ys hy1 hy2 => ?_⟩
  have la := BI_len xs
  have lb := BI_len ys
  have sa : Small (BI xs) := fun t ht => by
    have h1 := BI_small hx2 t ht
    have h2 : 5 * xs.length ≤ 50 := by omega
    omega
  refine seq_set (lc_in ?_)
  walk_at "dl"
  refine take_ok hr0 (fun r r0 r1 => ?_) (by decide) (by decide)
  refine rng_ok r0 (by omega) fun items hlen => ?_
  refine lcIn_any (fun y => ∃ t : T3, y = encT t ∧ t.2.2.natAbs ≤ 5) (fun _ _ => trivial) (by rw [hlen]; exact line_le (by omega)) ?_ ?_
  · intro x hx S' hS' R hR
    have hr' := hr0.sub hS'
    have hz := three_le
    walk_at "dl"
    refine take_ok hr' (fun v v0 v1 => ?_) (by decide) (by decide)
    refine take_ok hr' (fun z z0 z1 => ?_) (by decide) (by decide)
    refine take_ok hr' (fun n n0 n1 => ?_) (by decide) (by decide)
    exact ⟨hz, hR _ ⟨(v, z, n - 2), rfl, by show (n - 2).natAbs ≤ 5; omega⟩⟩
  · intro q2 ws hq2 hlw hws
    obtain ⟨ls, e, hls⟩ := of_draws hws
    subst e
    rw [List.length_map, hlen] at hlw
    have hL : ls.length ≤ 13 := by omega
    have e4 : seqOf (supd S1 q2 (.lst (ls.map encT))) (.ptr q2) = some (ls.map encT) := seqAt_same
    have hr : IsRnd (supd S1 q2 (.lst (ls.map encT))) p := hr0.sub (.new hq2)
    have sub1 : Sub S1 (supd S1 q2 (.lst (ls.map encT))) := .new hq2
    generalize supd S1 q2 (.lst (ls.map encT)) = S2 at e4 hr sub1
    have lsum : (BI xs).length + (BI ys).length ≤ 20 := by omega
    refine ⟨.ptr q2, ls, rfl, e4, by omega, ifS.of e4 fun p1 hp1 => ?_⟩
    refine ⟨.ptr p1, ls, rfl, seqAt_same, by omega, neT _ ⟨S2, .new hp1, iteF (ifS.of e4 ?_)⟩⟩
    refine ⟨.tup (ls.map encT), ls, rfl, rfl, by omega, neT _ (iteF ?_)⟩
    refine ⟨BI xs, BI ys, rfl, by omega, by omega, by rw [List.length_map, List.length_map]; exact line_le (by omega), ?_⟩
    refine ⟨_, BI xs ++ BI ys, rfl, by rw [List.map_append]; rfl, by rw [List.length_append]; omega, neT _ (iteF ?_)⟩
    refine ⟨BI xs, BI ys, rfl, by omega, by omega, sa, BI xs, BI ys, rfl, by omega, by omega, sa, neT _ (iteF ?_)⟩
    refine take_ok hr (fun v v0 v1 => ?_) (by decide) (by decide)
    refine take_ok hr (fun z z0 z1 => ?_) (by decide) (by decide)
    refine take_ok hr (fun n n0 n1 => ?_) (by decide) (by decide)
    have lone : (BI [(v - 4, z - 4, n - 2)]).length ≤ 1 := BI_len _
    refine ⟨BI xs, v - 4, z - 4, n - 2, rfl, by omega, sa, ⟨three_le, line_le (by omega), fun p3 hp3 => ?_⟩⟩
    refine ⟨.ptr p3, [(v - 4, z - 4, n - 2)], rfl, seqAt_same, by simp, ?_⟩
    refine ⟨BI xs, BI [(v - 4, z - 4, n - 2)], rfl, by omega, by omega, sa, ?_⟩
    rw [shifted]
    refine neT _ ⟨S2, .new hp3, iteF ?_⟩
    refine ⟨BI xs, rfl, by omega, ?_⟩
    refine lc_pure (items := (BI xs).map encT) (fun x => match x with
        | .tup [.int i, .int j, .int o] => some (encT (miT (i, j, o)))
        | _ => none) (wi_var (i := 2) (d := .tup ((BI xs).map encT)) rfl rfl) (by rw [List.length_map]; exact line_le (by omega)) ?_ ?_
    · intro x hx S' hS' R hR
      obtain ⟨u, hu, rfl⟩ := List.mem_map.mp hx
      have eu : encT u = .tup [.int u.1, .int u.2.1, .int u.2.2] := rfl
      have hz := three_le
      rw [eu] at hR ⊢
      walk_at "dl"
      refine ⟨by decide, ?_⟩
      have hR : R (some (.tup [.int (0 - u.1), .int u.2.1, .int (if u.2.1 % 2 = 0 then u.2.2 else 0 - u.2.2)])) S' := hR
      by_cases h0 : u.2.1 % 2 = 0
      · rw [if_pos h0] at hR
        simp only [h0, decide_true, if_true]
        exact ⟨hz, hR⟩
      · rw [if_neg h0] at hR
        simp only [h0, decide_false, Bool.false_eq_true, if_false]
        exact ⟨hz, hR⟩
    intro p4 hp4
    have e5 : seqOf (supd S2 p4 (.lst (((BI xs).map encT).filterMap (fun x => match x with
        | .tup [.int i, .int j, .int o] => some (encT (miT (i, j, o)))
        | _ => none)))) (.ptr p4) = some (((BI xs).map miT).map encT) := by
      rw [List.filterMap_map, List.map_map]
      exact seqAt_same.trans (congrArg some (filt_some (fun u => encT (miT u)) (BI xs)))
    refine ⟨.ptr p4, (BI xs).map miT, rfl, e5, by rw [List.length_map]; omega, neT _ ⟨S2, .new hp4, iteF ?_⟩⟩
    refine lc_pure (items := (BI xs).map encT) (fun x => match x with
        | .tup [.int i, .int j, .int o] => some (.int i)
        | _ => none) (wi_var (i := 2) (d := .tup ((BI xs).map encT)) rfl rfl) (by rw [List.length_map]; exact line_le (by omega)) ?_ ?_
    · intro x hx S' hS' R hR
      obtain ⟨u, hu, rfl⟩ := List.mem_map.mp hx
      have eu : encT u = .tup [.int u.1, .int u.2.1, .int u.2.2] := rfl
      rw [eu] at hR ⊢
      walk_at "dl"
      exact hR
    intro p5 hp5
    have e6 : ((BI xs).map encT).filterMap (fun x => match x with
        | .tup [.int i, .int j, .int o] => some (.int i)
        | _ => none) = ((BI xs).map (·.1)).map D.int := by
      rw [List.filterMap_map, List.map_map]
      exact filt_some (fun u : T3 => D.int u.1) (BI xs)
    rw [e6]
    have e7 : ((lstOf (supd S2 p5 (.lst (((BI xs).map (·.1)).map D.int))) (.ptr p5)).bind dints) = some ((BI xs).map (·.1)) := by
      show ((seqAt _ p5).bind dints) = _
      rw [seqAt_same]
      exact dints_map _
    have e8 : lenOf (supd S2 p5 (.lst (((BI xs).map (·.1)).map D.int))) (.ptr p5) = some ((BI xs).map (·.1)).length := by
      rw [lenOf_lst supd_same, List.length_map]
    have hr5 := hr.sub (S' := supd S2 p5 (.lst (((BI xs).map (·.1)).map D.int))) (.new hp5)
    generalize supd S2 p5 (.lst (((BI xs).map (·.1)).map D.int)) = S3 at e7 e8 hr5
    clear e6 e5
    have fin : ∀ lo hi : Int, Range ((BI xs).map (·.1)) lo hi → ∀ lo' hi' : Int, Range ((BI xs).map (·.1)) lo' hi' → ∀ Q' : WK, Q' (.bl false) S3 → gEq true (.tup [.int lo, .int hi]) (.tup [.int lo', .int hi']) S3 Q' := by
      intro lo hi h1 lo' hi' h2 Q' q'
      obtain ⟨rfl, rfl⟩ := range_one h1 h2
      exact eq_same (by simp [D.pure, pures]) (by simp [D.py, pys, PyData.depth, PyData.depthAll]) q'
    refine ⟨BI xs, rfl, by omega, fun lo hi hR => ?_⟩
    generalize hns : (BI xs).map (·.1) = nss at e7 e8 fin hR
    unfold gMin gMax
    have hz := two_le
    clear e4 hr hr0 sub1
    walk_at "dl*"
    have last : F_at_v_one [.tup ((BI xs).map encT)] S3 (fun x S1 =>
        wLc (wiSeq (wVar 2)) (wgTup 3 (wgCons (wgName 11) (wgCons (wgName 12) (wgCons (wgName 8) wgNil)))) wYes (wTup (wCons (wVar 12) (wCons (wVar 8) wNil))) [11, 12, 8]
          [some d, some (.ptr p), some (.tup ((BI xs).map encT)), some (.tup ((BI ys).map encT)), some (.ptr q2), some (.tup ((BI ls).map encT)), some (.int (v - 4)), some (.int (z - 4)), some (.int (n - 2)), some (.ptr p5), none, none, none]
          S1 fun d S1 => F__law_sum [d] S1 (fun y S2 => gEq false x y S2 fun d S => ∃ S0, Dl.Sub S0 S ∧ Q d S0) noX) noX := by
      refine ⟨BI xs, rfl, by omega, ?_⟩
      refine lc_pure (items := (BI xs).map encT) (fun x => match x with
          | .tup [.int i, .int j, .int o] => some (encP (j, o))
          | _ => none) (wi_var (i := 2) (d := .tup ((BI xs).map encT)) rfl rfl) (by rw [List.length_map]; exact line_le (by omega)) ?_ ?_
      · intro x hx S' hS' R hR
        obtain ⟨u, hu, rfl⟩ := List.mem_map.mp hx
        have eu : encT u = .tup [.int u.1, .int u.2.1, .int u.2.2] := rfl
        rw [eu] at hR ⊢
        walk_at "dl"
        exact ⟨two_le, hR⟩
      intro p6 hp6
      refine ⟨.ptr p6, (BI xs).map jn, rfl, ?_, by rw [List.length_map]; omega, eq_same (pure_P _) (depth_P _) ⟨_, fun _ _ h => h, q _⟩⟩
      rw [List.filterMap_map]
      refine seqAt_same.trans (congrArg some ?_)
      rw [List.map_map]
      exact filt_some (fun u => encP (jn u)) (BI xs)
    rcases Nat.eq_zero_or_pos nss.length with h0 | h0
    · have e0 : nss = [] := List.length_eq_zero_iff.mp h0
      rw [if_neg (by omega)]
      exact fin lo hi hR 0 0 (.inl ⟨e0, rfl, rfl⟩) _ last
    · rw [if_pos (by omega)]
      refine ⟨h0, fun m hm1 hm2 => ⟨h0, fun m1 hn1 hn2 => ?_⟩⟩
      refine fin lo hi hR m m1 (.inr ⟨hm1, hn1, hm2, hn2⟩) _ ?_
      exact last
theorem law_pre {ns : List Int} {S : Ss} {Q : WK} {d : D} (hd : seqOf S d = some (ns.map D.int)) (_ : ns.length ≤ 63) (hq : ∀ S', Q (.bl true) S') : F_law [d] S Q noX := ⟨d, ns, rfl, hd, hq⟩

/-! ### the text -/
def topS (i : Nat) : Stmt := PySem.Challenge.pw_knothouse_k67_polynomials_in_two_variabl.main.body.getD i (.Pass ⟨0, 0, 0, 0⟩)
abbrev s_bi_poly : Stmt := topS 1
theorem sc_bi_poly : FnScope ["triples", "sums", "v", "z", "number", "place"] ["triples"] (defScope s_bi_poly) := ⟨rfl, rfl, rfl, by decide +kernel, rfl, by decide +kernel, by decide +kernel⟩
abbrev s_bi_add : Stmt := topS 2
theorem sc_bi_add : FnScope ["a", "b"] ["a", "b"] (defScope s_bi_add) := ⟨rfl, rfl, rfl, by decide +kernel, rfl, by decide +kernel, by decide +kernel⟩
abbrev s_bi_times : Stmt := topS 3
theorem sc_bi_times : FnScope ["a", "b", "sums", "v", "z", "one", "w", "y", "other", "place"] ["a", "b"] (defScope s_bi_times) := ⟨rfl, rfl, rfl, by decide +kernel, rfl, by decide +kernel, by decide +kernel⟩
abbrev s_bi_shifted : Stmt := topS 4
theorem sc_bi_shifted : FnScope ["a", "v", "z", "number", "i", "j", "part"] ["a", "v", "z", "number"] (defScope s_bi_shifted) := ⟨rfl, rfl, rfl, by decide +kernel, rfl, by decide +kernel, by decide +kernel⟩
abbrev s_bi_mirrored : Stmt := topS 5
theorem sc_bi_mirrored : FnScope ["a", "i", "j", "part"] ["a"] (defScope s_bi_mirrored) := ⟨rfl, rfl, rfl, by decide +kernel, rfl, by decide +kernel, by decide +kernel⟩
abbrev s_at_v_one : Stmt := topS 6
theorem sc_at_v_one : FnScope ["a", "sums", "i", "j", "part"] ["a"] (defScope s_at_v_one) := ⟨rfl, rfl, rfl, by decide +kernel, rfl, by decide +kernel, by decide +kernel⟩
abbrev s_v_range : Stmt := topS 7
theorem sc_v_range : FnScope ["a", "row", "i", "j", "part"] ["a"] (defScope s_v_range) := ⟨rfl, rfl, rfl, by decide +kernel, rfl, by decide +kernel, by decide +kernel⟩
abbrev s__law_begin : Stmt := topS 9
theorem sc__law_begin : FnScope ["script", "seed", "cell"] ["script"] (defScope s__law_begin) := ⟨rfl, rfl, rfl, by decide +kernel, rfl, by decide +kernel, by decide +kernel⟩
abbrev s__law_take : Stmt := topS 10
theorem sc__law_take : FnScope ["d", "many", "small", "digit"] ["d", "many"] (defScope s__law_take) := ⟨rfl, rfl, rfl, by decide +kernel, rfl, by decide +kernel, by decide +kernel⟩
abbrev s__law_sum : Stmt := topS 11
theorem sc__law_sum : FnScope ["pairs", "sums", "exponent", "number"] ["pairs"] (defScope s__law_sum) := ⟨rfl, rfl, rfl, by decide +kernel, rfl, by decide +kernel, by decide +kernel⟩
abbrev s__law_bi : Stmt := topS 12
theorem sc__law_bi : FnScope ["triples", "sums", "v", "z", "number", "place"] ["triples"] (defScope s__law_bi) := ⟨rfl, rfl, rfl, by decide +kernel, rfl, by decide +kernel, by decide +kernel⟩
abbrev s__law_bi_times : Stmt := topS 13
theorem sc__law_bi_times : FnScope ["a", "b", "rows", "v", "z", "number", "w", "y", "other"] ["a", "b"] (defScope s__law_bi_times) := ⟨rfl, rfl, rfl, by decide +kernel, rfl, by decide +kernel, by decide +kernel⟩
abbrev s__law_bi_random : Stmt := topS 14
theorem sc__law_bi_random : FnScope ["d", "many", "k"] ["d", "many"] (defScope s__law_bi_random) := ⟨rfl, rfl, rfl, by decide +kernel, rfl, by decide +kernel, by decide +kernel⟩
abbrev s_law : Stmt := topS 15
theorem sc_law : FnScope ["script", "d", "a", "b", "loose", "due", "v", "z", "number", "row", "k", "i", "j"] ["script"] (defScope s_law) := ⟨rfl, rfl, rfl, by decide +kernel, rfl, by decide +kernel, by decide +kernel⟩
/-- what the top has left -/
structure Txt (K : PySem.W.Frag) (mg : Str → Option Value) where
  m_abs : mg "abs" = none
  m_int : mg "int" = none
  m_len : mg "len" = none
  m_list : mg "list" = none
  m_max : mg "max" = none
  m_min : mg "min" = none
  m_range : mg "range" = none
  m_sorted : mg "sorted" = none
  m_tuple : mg "tuple" = none
  a_bi_poly : Addr
  d_bi_poly : FuncData
  f_bi_poly : Fun K "bi_poly" "bi_poly" s_bi_poly a_bi_poly d_bi_poly
  g_bi_poly : mg "bi_poly" = some (.ref a_bi_poly)
  b_bi_poly : Binds K d_bi_poly ["triples"] []
  a_bi_add : Addr
  d_bi_add : FuncData
  f_bi_add : Fun K "bi_add" "bi_add" s_bi_add a_bi_add d_bi_add
  g_bi_add : mg "bi_add" = some (.ref a_bi_add)
  b_bi_add : Binds K d_bi_add ["a", "b"] []
  a_bi_times : Addr
  d_bi_times : FuncData
  f_bi_times : Fun K "bi_times" "bi_times" s_bi_times a_bi_times d_bi_times
  g_bi_times : mg "bi_times" = some (.ref a_bi_times)
  b_bi_times : Binds K d_bi_times ["a", "b"] []
  a_bi_shifted : Addr
  d_bi_shifted : FuncData
  f_bi_shifted : Fun K "bi_shifted" "bi_shifted" s_bi_shifted a_bi_shifted d_bi_shifted
  g_bi_shifted : mg "bi_shifted" = some (.ref a_bi_shifted)
  b_bi_shifted : Binds K d_bi_shifted ["a", "v", "z", "number"] []
  a_bi_mirrored : Addr
  d_bi_mirrored : FuncData
  f_bi_mirrored : Fun K "bi_mirrored" "bi_mirrored" s_bi_mirrored a_bi_mirrored d_bi_mirrored
  g_bi_mirrored : mg "bi_mirrored" = some (.ref a_bi_mirrored)
  b_bi_mirrored : Binds K d_bi_mirrored ["a"] []
  a_at_v_one : Addr
  d_at_v_one : FuncData
  f_at_v_one : Fun K "at_v_one" "at_v_one" s_at_v_one a_at_v_one d_at_v_one
  g_at_v_one : mg "at_v_one" = some (.ref a_at_v_one)
  b_at_v_one : Binds K d_at_v_one ["a"] []
  a_v_range : Addr
  d_v_range : FuncData
  f_v_range : Fun K "v_range" "v_range" s_v_range a_v_range d_v_range
  g_v_range : mg "v_range" = some (.ref a_v_range)
  b_v_range : Binds K d_v_range ["a"] []
  a__law_begin : Addr
  d__law_begin : FuncData
  f__law_begin : Fun K "_law_begin" "_law_begin" s__law_begin a__law_begin d__law_begin
  g__law_begin : mg "_law_begin" = some (.ref a__law_begin)
  b__law_begin : Binds K d__law_begin ["script"] []
  a__law_take : Addr
  d__law_take : FuncData
  f__law_take : Fun K "_law_take" "_law_take" s__law_take a__law_take d__law_take
  g__law_take : mg "_law_take" = some (.ref a__law_take)
  b__law_take : Binds K d__law_take ["d", "many"] []
  a__law_sum : Addr
  d__law_sum : FuncData
  f__law_sum : Fun K "_law_sum" "_law_sum" s__law_sum a__law_sum d__law_sum
  g__law_sum : mg "_law_sum" = some (.ref a__law_sum)
  b__law_sum : Binds K d__law_sum ["pairs"] []
  a__law_bi : Addr
  d__law_bi : FuncData
  f__law_bi : Fun K "_law_bi" "_law_bi" s__law_bi a__law_bi d__law_bi
  g__law_bi : mg "_law_bi" = some (.ref a__law_bi)
  b__law_bi : Binds K d__law_bi ["triples"] []
  a__law_bi_times : Addr
  d__law_bi_times : FuncData
  f__law_bi_times : Fun K "_law_bi_times" "_law_bi_times" s__law_bi_times a__law_bi_times d__law_bi_times
  g__law_bi_times : mg "_law_bi_times" = some (.ref a__law_bi_times)
  b__law_bi_times : Binds K d__law_bi_times ["a", "b"] []
  a__law_bi_random : Addr
  d__law_bi_random : FuncData
  f__law_bi_random : Fun K "_law_bi_random" "_law_bi_random" s__law_bi_random a__law_bi_random d__law_bi_random
  g__law_bi_random : mg "_law_bi_random" = some (.ref a__law_bi_random)
  b__law_bi_random : Binds K d__law_bi_random ["d", "many"] []
  a_law : Addr
  d_law : FuncData
  f_law : Fun K "law" "law" s_law a_law d_law
  g_law : mg "law" = some (.ref a_law)
  b_law : Binds K d_law ["script"] []

section
variable {P : Program} {w : World} {K : PySem.W.Frag} {mg : Str → Option Value} {base : Heap}
theorem ok_bi_poly (T : Txt K mg) : FnOk P w K mg base CX0 1 T.a_bi_poly T.d_bi_poly ["triples"] (spOf K F_bi_poly) := dFun (F := F_bi_poly) (k := 0) T.f_bi_poly sc_bi_poly (b := b_bi_poly) (fun cdv A outer s H E hr =>
  (dsCons (dSet (i := 1) sc_bi_poly.nd rfl (by first | exact Or.inl rfl | exact Or.inr rfl) dDT)
  (dsCons (dFor (PassesOwn.never) rfl (diSeq (dv 0)) (dgOf (vs := [2, 3, 4]) (dgTupO rfl (dgCons (dgNameO sc_bi_poly.nd rfl (by first | exact Or.inl rfl | exact Or.inr rfl) (by decide)) (dgCons (dgNameO sc_bi_poly.nd rfl (by first | exact Or.inl rfl | exact Or.inr rfl) (by decide)) (dgCons (dgNameO sc_bi_poly.nd rfl (by first | exact Or.inl rfl | exact Or.inr rfl) (by decide)) dgNil)))))
  (dsOne (dDput (hu_of hr) (dv 1) (dTup (daCons (dv 2) (daCons (dv 3) daNil))) (dOp o_add (dGet2 (hu_of hr) (dv 1) (dTup (daCons (dv 2) (daCons (dv 3) daNil))) dInt ⟨rfl, rfl, rfl, rfl⟩) (dv 4)))))
  (dsOne (dRet (dTy c_tuple (by rfl) T.m_tuple (daCons (dLc rfl sc_bi_poly.nd (own := [("place", 5)]) (diSeq (dB (c_sorted rfl hr.units) (by rfl) T.m_sorted (daCons (dv 1) daNil))) (by show blkC ["triples", "sums", "v", "z", "number", "place"] (defScope s_bi_poly) _ _ = true; decide +kernel) (fun _ _ _ _ _ => (dgNameO sc_bi_poly.nd rfl (by first | exact Or.inl rfl | exact Or.inr rfl) (by decide))) (fun _ _ _ _ _ => (dtsOne (dtCmp (o_ne hr.units) (dGet (hu_of hr) (dv 1) (dv 5) (fun _ _ => rfl)) dInt (nomark _)))) (fun _ _ _ _ _ => (dOp o_add (dv 5) (dTup (daCons (dGet (hu_of hr) (dv 1) (dv 5) (fun _ _ => rfl)) daNil))))) daNil)))))))
  (fun _ _ _ _ h => by (repeat obtain ⟨_, h⟩ := h); subst_vars; rfl) read_bi_poly
theorem ok_bi_add (T : Txt K mg) : FnOk P w K mg base CX0 2 T.a_bi_add T.d_bi_add ["a", "b"] (spOf K F_bi_add) := dFun (F := F_bi_add) (k := 1) T.f_bi_add sc_bi_add (b := b_bi_add) (fun cdv A outer s H E hr =>
  (dsOne (dRet (dCall (ok_bi_poly T) (hr.mono (by decide)) (by rfl) T.g_bi_poly T.f_bi_poly.kp T.b_bi_poly (daCons (dOp o_add (dv 0) (dv 1)) daNil)))))
  (fun _ _ _ _ h => by (repeat obtain ⟨_, h⟩ := h); subst_vars; rfl) read_bi_add
theorem ok_bi_times (T : Txt K mg) : FnOk P w K mg base CX0 1 T.a_bi_times T.d_bi_times ["a", "b"] (spOf K F_bi_times) := dFun (F := F_bi_times) (k := 0) T.f_bi_times sc_bi_times (b := b_bi_times) (fun cdv A outer s H E hr =>
  (dsCons (dSet (i := 2) sc_bi_times.nd rfl (by first | exact Or.inl rfl | exact Or.inr rfl) dDT)
  (dsCons (dFor (PassesOwn.never) rfl (diSeq (dv 0)) (dgOf (vs := [3, 4, 5]) (dgTupO rfl (dgCons (dgNameO sc_bi_times.nd rfl (by first | exact Or.inl rfl | exact Or.inr rfl) (by decide)) (dgCons (dgNameO sc_bi_times.nd rfl (by first | exact Or.inl rfl | exact Or.inr rfl) (by decide)) (dgCons (dgNameO sc_bi_times.nd rfl (by first | exact Or.inl rfl | exact Or.inr rfl) (by decide)) dgNil)))))
  (dsOne (dFor (PassesOwn.never) rfl (diSeq (dv 1)) (dgOf (vs := [6, 7, 8]) (dgTupO rfl (dgCons (dgNameO sc_bi_times.nd rfl (by first | exact Or.inl rfl | exact Or.inr rfl) (by decide)) (dgCons (dgNameO sc_bi_times.nd rfl (by first | exact Or.inl rfl | exact Or.inr rfl) (by decide)) (dgCons (dgNameO sc_bi_times.nd rfl (by first | exact Or.inl rfl | exact Or.inr rfl) (by decide)) dgNil)))))
  (dsOne (dDput (hu_of hr) (dv 2) (dTup (daCons (dOp o_add (dv 3) (dv 6)) (daCons (dOp o_add (dv 4) (dv 7)) daNil))) (dOp o_add (dGet2 (hu_of hr) (dv 2) (dTup (daCons (dOp o_add (dv 3) (dv 6)) (daCons (dOp o_add (dv 4) (dv 7)) daNil))) dInt ⟨rfl, rfl, rfl, rfl⟩) (dOp o_mul (dv 5) (dv 8))))))))
  (dsOne (dRet (dTy c_tuple (by rfl) T.m_tuple (daCons (dLc rfl sc_bi_times.nd (own := [("place", 9)]) (diSeq (dB (c_sorted rfl hr.units) (by rfl) T.m_sorted (daCons (dv 2) daNil))) (by show blkC ["a", "b", "sums", "v", "z", "one", "w", "y", "other", "place"] (defScope s_bi_times) _ _ = true; decide +kernel) (fun _ _ _ _ _ => (dgNameO sc_bi_times.nd rfl (by first | exact Or.inl rfl | exact Or.inr rfl) (by decide))) (fun _ _ _ _ _ => (dtsOne (dtCmp (o_ne hr.units) (dGet (hu_of hr) (dv 2) (dv 9) (fun _ _ => rfl)) dInt (nomark _)))) (fun _ _ _ _ _ => (dOp o_add (dv 9) (dTup (daCons (dGet (hu_of hr) (dv 2) (dv 9) (fun _ _ => rfl)) daNil))))) daNil)))))))
  (fun _ _ _ _ h => by (repeat obtain ⟨_, h⟩ := h); subst_vars; rfl) read_bi_times
theorem ok_bi_shifted (T : Txt K mg) : FnOk P w K mg base CX0 1 T.a_bi_shifted T.d_bi_shifted ["a", "v", "z", "number"] (spOf K F_bi_shifted) := dFun (F := F_bi_shifted) (k := 0) T.f_bi_shifted sc_bi_shifted (b := b_bi_shifted) (fun cdv A outer s H E hr =>
  (dsOne (dRet (dTy c_tuple (by rfl) T.m_tuple (daCons (dLc rfl sc_bi_shifted.nd (own := [("i", 4), ("j", 5), ("part", 6)]) (diSeq (dv 0)) (by show blkC ["a", "v", "z", "number", "i", "j", "part"] (defScope s_bi_shifted) _ _ = true; decide +kernel) (fun _ _ _ _ _ => (dgTupO rfl (dgCons (dgNameO sc_bi_shifted.nd rfl (by first | exact Or.inl rfl | exact Or.inr rfl) (by decide)) (dgCons (dgNameO sc_bi_shifted.nd rfl (by first | exact Or.inl rfl | exact Or.inr rfl) (by decide)) (dgCons (dgNameO sc_bi_shifted.nd rfl (by first | exact Or.inl rfl | exact Or.inr rfl) (by decide)) dgNil))))) (fun _ _ _ _ _ => (dtsOne (dtCmp (o_ne hr.units) (dv 3) dInt (nomark _)))) (fun _ _ _ _ _ => (dTup (daCons (dOp o_add (dv 4) (dv 1)) (daCons (dOp o_add (dv 5) (dv 2)) (daCons (dOp o_mul (dv 6) (dv 3)) daNil)))))) daNil)))))
  (fun _ _ _ _ h => by (repeat obtain ⟨_, h⟩ := h); subst_vars; rfl) read_bi_shifted
theorem ok_bi_mirrored (T : Txt K mg) : FnOk P w K mg base CX0 2 T.a_bi_mirrored T.d_bi_mirrored ["a"] (spOf K F_bi_mirrored) := dFun (F := F_bi_mirrored) (k := 1) T.f_bi_mirrored sc_bi_mirrored (b := b_bi_mirrored) (fun cdv A outer s H E hr =>
  (dsOne (dRet (dCall (ok_bi_poly T) (hr.mono (by decide)) (by rfl) T.g_bi_poly T.f_bi_poly.kp T.b_bi_poly (daCons (dLc rfl sc_bi_mirrored.nd (own := [("i", 1), ("j", 2), ("part", 3)]) (diSeq (dv 0)) (by show blkC ["a", "i", "j", "part"] (defScope s_bi_mirrored) _ _ = true; decide +kernel) (fun _ _ _ _ _ => (dgTupO rfl (dgCons (dgNameO sc_bi_mirrored.nd rfl (by first | exact Or.inl rfl | exact Or.inr rfl) (by decide)) (dgCons (dgNameO sc_bi_mirrored.nd rfl (by first | exact Or.inl rfl | exact Or.inr rfl) (by decide)) (dgCons (dgNameO sc_bi_mirrored.nd rfl (by first | exact Or.inl rfl | exact Or.inr rfl) (by decide)) dgNil))))) (fun _ _ _ _ _ => dtsNil) (fun _ _ _ _ _ => (dTup (daCons (dOp o_sub dInt (dv 1)) (daCons (dv 2) (daCons (dIfE (dtCmp (o_eq hr.units) (dOp o_mod (dv 2) dInt) dInt (nomark _)) (dv 3) (dOp o_sub dInt (dv 3))) daNil)))))) daNil)))))
  (fun _ _ _ _ h => by (repeat obtain ⟨_, h⟩ := h); subst_vars; rfl) read_bi_mirrored
theorem ok_at_v_one (T : Txt K mg) : FnOk P w K mg base CX0 1 T.a_at_v_one T.d_at_v_one ["a"] (spOf K F_at_v_one) := dFun (F := F_at_v_one) (k := 0) T.f_at_v_one sc_at_v_one (b := b_at_v_one) (fun cdv A outer s H E hr =>
  (dsCons (dSet (i := 1) sc_at_v_one.nd rfl (by first | exact Or.inl rfl | exact Or.inr rfl) dDK)
  (dsCons (dFor (PassesOwn.never) rfl (diSeq (dv 0)) (dgOf (vs := [2, 3, 4]) (dgTupO rfl (dgCons (dgNameO sc_at_v_one.nd rfl (by first | exact Or.inl rfl | exact Or.inr rfl) (by decide)) (dgCons (dgNameO sc_at_v_one.nd rfl (by first | exact Or.inl rfl | exact Or.inr rfl) (by decide)) (dgCons (dgNameO sc_at_v_one.nd rfl (by first | exact Or.inl rfl | exact Or.inr rfl) (by decide)) dgNil)))))
  (dsOne (dDput (hu_of hr) (dv 1) (dv 3) (dOp o_add (dGet2 (hu_of hr) (dv 1) (dv 3) dInt ⟨rfl, rfl, rfl, rfl⟩) (dv 4)))))
  (dsOne (dRet (dTy c_tuple (by rfl) T.m_tuple (daCons (dLc rfl sc_at_v_one.nd (own := [("j", 3)]) (diSeq (dB (c_sorted rfl hr.units) (by rfl) T.m_sorted (daCons (dv 1) daNil))) (by show blkC ["a", "sums", "i", "j", "part"] (defScope s_at_v_one) _ _ = true; decide +kernel) (fun _ _ _ _ _ => (dgNameO sc_at_v_one.nd rfl (by first | exact Or.inl rfl | exact Or.inr rfl) (by decide))) (fun _ _ _ _ _ => (dtsOne (dtCmp (o_ne hr.units) (dGet (hu_of hr) (dv 1) (dv 3) (fun _ _ => rfl)) dInt (nomark _)))) (fun _ _ _ _ _ => (dTup (daCons (dv 3) (daCons (dGet (hu_of hr) (dv 1) (dv 3) (fun _ _ => rfl)) daNil))))) daNil)))))))
  (fun _ _ _ _ h => by (repeat obtain ⟨_, h⟩ := h); subst_vars; rfl) read_at_v_one
theorem ok_v_range (T : Txt K mg) : FnOk P w K mg base CX0 1 T.a_v_range T.d_v_range ["a"] (spOf K F_v_range) := dFun (F := F_v_range) (k := 0) T.f_v_range sc_v_range (b := b_v_range) (fun cdv A outer s H E hr =>
  (dsCons (dSetLc (i := 1) rfl sc_v_range.nd rfl rfl (sw_true rfl rfl rfl (by decide +kernel)) (own := [("i", 2), ("j", 3), ("part", 4)]) (diSeq (dv 0)) (by show blkC ["a", "row", "i", "j", "part"] (defScope s_v_range) _ _ = true; decide +kernel) (fun _ _ _ _ _ => (dgTupO rfl (dgCons (dgNameO sc_v_range.nd rfl (by first | exact Or.inl rfl | exact Or.inr rfl) (by decide)) (dgCons (dgNameO sc_v_range.nd rfl (by first | exact Or.inl rfl | exact Or.inr rfl) (by decide)) (dgCons (dgNameO sc_v_range.nd rfl (by first | exact Or.inl rfl | exact Or.inr rfl) (by decide)) dgNil))))) (fun _ _ _ _ _ => dtsNil) (fun _ _ _ _ _ => (dv 2)))
  (dsOne (dRet (dIfE (dtCmp o_gt (dB c_len (by rfl) T.m_len (daCons (dv 1) daNil)) dInt (nomark _)) (dTup (daCons (dB (c_min rfl) (by rfl) T.m_min (daCons (dv 1) daNil)) (daCons (dB (c_max rfl) (by rfl) T.m_max (daCons (dv 1) daNil)) daNil))) (dTup (daCons dInt (daCons dInt daNil))))))))
  (fun _ _ _ _ h => by (repeat obtain ⟨_, h⟩ := h); subst_vars; rfl) read_v_range
theorem ok__law_begin (T : Txt K mg) : FnOk P w K mg base CX0 1 T.a__law_begin T.d__law_begin ["script"] (spOf K F__law_begin) := begin_src (dFun (F := T_begin) (k := 0) T.f__law_begin sc__law_begin (b := Dl.b__law_begin) (fun cdv A outer s H E hr =>
  (dsCons (dSet (i := 1) sc__law_begin.nd rfl (by first | exact Or.inl rfl | exact Or.inr rfl) dInt)
  (dsCons (dFor (PassesOwn.never) rfl (diSeq (dv 0)) (dgName sc__law_begin.nd rfl (by first | exact Or.inl rfl | exact Or.inr rfl))
  (dsOne (dSet (i := 1) sc__law_begin.nd rfl (by first | exact Or.inl rfl | exact Or.inr rfl) (dOp o_mod (dOp o_add (dOp o_add (dOp o_mul (dv 1) dInt) (dOp o_mod (dTy c_int (by rfl) T.m_int (daCons (dv 2) daNil)) dInt)) dInt) dInt))))
  (dsOne (dRet (dLst (daCons (dTy c_list (by rfl) T.m_list (daCons (dv 0) daNil)) (daCons dInt (daCons dInt (daCons (dv 1) daNil))))))))))
  (fun _ _ _ _ h => by (repeat obtain ⟨_, h⟩ := h); subst_vars; rfl) Dl.read_begin)
theorem ok__law_take (T : Txt K mg) : FnOk P w K mg base CX0 1 T.a__law_take T.d__law_take ["d", "many"] (spOf K F__law_take) := take_src (dFun (F := T_take) (k := 0) T.f__law_take sc__law_take (b := Dl.b__law_take) (fun cdv A outer s H E hr =>
  (dsCons (dIf (dtOf (dwAnd (dtCmp (o_eq hr.units) (dIx (dv 0) dInt (fun _ _ => rfl)) dInt (nomark _)) (dwAnd1 (dtCmp o_lt (dIx (dv 0) dInt (fun _ _ => rfl)) (dB c_len (by rfl) T.m_len (daCons (dIx (dv 0) dInt (fun _ _ => rfl)) daNil)) (nomark _)))))
  (dsCons (dAsg (dB c_abs (by rfl) T.m_abs (daCons (dTy c_int (by rfl) T.m_int (daCons (dIx (dIx (dv 0) dInt (fun _ _ => rfl)) (dIx (dv 0) dInt (fun _ _ => rfl)) (fun _ _ => rfl)) daNil)) daNil)) (dgOf (vs := []) (dgSubO (dv 0) dInt)))
  (dsCons (dAsg (dOp o_add (dIx (dv 0) dInt (fun _ _ => rfl)) dInt) (dgOf (vs := []) (dgSubO (dv 0) dInt)))
  (dsOne (dIf (dtCmp o_lt (dIx (dv 0) dInt (fun _ _ => rfl)) (dOp o_pow dInt dInt) (nomark _))
  (dsCons (dSet (i := 2) sc__law_take.nd rfl (by first | exact Or.inl rfl | exact Or.inr rfl) (dTy c_int (by rfl) T.m_int (daCons (dIx (dv 0) dInt (fun _ _ => rfl)) daNil)))
  (dsCons (dAsg dInt (dgOf (vs := []) (dgSubO (dv 0) dInt)))
  (dsOne (dRet (dOp o_mod (dv 2) (dv 1))))))
  dsNil))))
  dsNil)
  (dsCons (dIf (dtCmp o_gt (dIx (dv 0) dInt (fun _ _ => rfl)) dInt (nomark _))
  (dsCons (dSet (i := 3) sc__law_take.nd rfl (by first | exact Or.inl rfl | exact Or.inr rfl) (dOp o_mod (dTy c_int (by rfl) T.m_int (daCons (dIx (dv 0) dInt (fun _ _ => rfl)) daNil)) (dv 1)))
  (dsCons (dAsg (dOp o_fdiv (dTy c_int (by rfl) T.m_int (daCons (dIx (dv 0) dInt (fun _ _ => rfl)) daNil)) (dv 1)) (dgOf (vs := []) (dgSubO (dv 0) dInt)))
  (dsOne (dRet (dv 3)))))
  dsNil)
  (dsCons (dAsg (dOp o_mod (dTy c_int (by rfl) T.m_int (daCons (dOp o_add (dOp o_mul (dIx (dv 0) dInt (fun _ _ => rfl)) dInt) dInt) daNil)) dInt) (dgOf (vs := []) (dgSubO (dv 0) dInt)))
  (dsOne (dRet (dOp o_mod (dTy c_int (by rfl) T.m_int (daCons (dOp o_fdiv (dIx (dv 0) dInt (fun _ _ => rfl)) dInt) daNil)) (dv 1))))))))
  (fun _ _ _ _ h => by (repeat obtain ⟨_, h⟩ := h); subst_vars; rfl) Dl.read_take)
theorem ok__law_sum (T : Txt K mg) : FnOk P w K mg base CX0 1 T.a__law_sum T.d__law_sum ["pairs"] (spOf K F__law_sum) := dFun (F := F__law_sum) (k := 0) T.f__law_sum sc__law_sum (b := b__law_sum) (fun cdv A outer s H E hr =>
  (dsCons (dSet (i := 1) sc__law_sum.nd rfl (by first | exact Or.inl rfl | exact Or.inr rfl) dDK)
  (dsCons (dFor (PassesOwn.never) rfl (diSeq (dv 0)) (dgOf (vs := [2, 3]) (dgTupO rfl (dgCons (dgNameO sc__law_sum.nd rfl (by first | exact Or.inl rfl | exact Or.inr rfl) (by decide)) (dgCons (dgNameO sc__law_sum.nd rfl (by first | exact Or.inl rfl | exact Or.inr rfl) (by decide)) dgNil))))
  (dsOne (dDput (hu_of hr) (dv 1) (dv 2) (dOp o_add (dGet2 (hu_of hr) (dv 1) (dv 2) dInt ⟨rfl, rfl, rfl, rfl⟩) (dv 3)))))
  (dsOne (dRet (dTy c_tuple (by rfl) T.m_tuple (daCons (dLc rfl sc__law_sum.nd (own := [("exponent", 2)]) (diSeq (dB (c_sorted rfl hr.units) (by rfl) T.m_sorted (daCons (dv 1) daNil))) (by show blkC ["pairs", "sums", "exponent", "number"] (defScope s__law_sum) _ _ = true; decide +kernel) (fun _ _ _ _ _ => (dgNameO sc__law_sum.nd rfl (by first | exact Or.inl rfl | exact Or.inr rfl) (by decide))) (fun _ _ _ _ _ => (dtsOne (dtCmp (o_ne hr.units) (dGet (hu_of hr) (dv 1) (dv 2) (fun _ _ => rfl)) dInt (nomark _)))) (fun _ _ _ _ _ => (dTup (daCons (dv 2) (daCons (dGet (hu_of hr) (dv 1) (dv 2) (fun _ _ => rfl)) daNil))))) daNil)))))))
  (fun _ _ _ _ h => by (repeat obtain ⟨_, h⟩ := h); subst_vars; rfl) read__law_sum
theorem ok__law_bi (T : Txt K mg) : FnOk P w K mg base CX0 1 T.a__law_bi T.d__law_bi ["triples"] (spOf K F__law_bi) := dFun (F := F__law_bi) (k := 0) T.f__law_bi sc__law_bi (b := b__law_bi) (fun cdv A outer s H E hr =>
  (dsCons (dSet (i := 1) sc__law_bi.nd rfl (by first | exact Or.inl rfl | exact Or.inr rfl) dDT)
  (dsCons (dFor (PassesOwn.never) rfl (diSeq (dv 0)) (dgOf (vs := [2, 3, 4]) (dgTupO rfl (dgCons (dgNameO sc__law_bi.nd rfl (by first | exact Or.inl rfl | exact Or.inr rfl) (by decide)) (dgCons (dgNameO sc__law_bi.nd rfl (by first | exact Or.inl rfl | exact Or.inr rfl) (by decide)) (dgCons (dgNameO sc__law_bi.nd rfl (by first | exact Or.inl rfl | exact Or.inr rfl) (by decide)) dgNil)))))
  (dsOne (dDput (hu_of hr) (dv 1) (dTup (daCons (dv 2) (daCons (dv 3) daNil))) (dOp o_add (dGet2 (hu_of hr) (dv 1) (dTup (daCons (dv 2) (daCons (dv 3) daNil))) dInt ⟨rfl, rfl, rfl, rfl⟩) (dv 4)))))
  (dsOne (dRet (dTy c_tuple (by rfl) T.m_tuple (daCons (dLc rfl sc__law_bi.nd (own := [("place", 5)]) (diSeq (dB (c_sorted rfl hr.units) (by rfl) T.m_sorted (daCons (dv 1) daNil))) (by show blkC ["triples", "sums", "v", "z", "number", "place"] (defScope s__law_bi) _ _ = true; decide +kernel) (fun _ _ _ _ _ => (dgNameO sc__law_bi.nd rfl (by first | exact Or.inl rfl | exact Or.inr rfl) (by decide))) (fun _ _ _ _ _ => (dtsOne (dtCmp (o_ne hr.units) (dGet (hu_of hr) (dv 1) (dv 5) (fun _ _ => rfl)) dInt (nomark _)))) (fun _ _ _ _ _ => (dOp o_add (dv 5) (dTup (daCons (dGet (hu_of hr) (dv 1) (dv 5) (fun _ _ => rfl)) daNil))))) daNil)))))))
  (fun _ _ _ _ h => by (repeat obtain ⟨_, h⟩ := h); subst_vars; rfl) read__law_bi
theorem ok__law_bi_times (T : Txt K mg) : FnOk P w K mg base CX0 2 T.a__law_bi_times T.d__law_bi_times ["a", "b"] (spOf K F__law_bi_times) := dFun (F := F__law_bi_times) (k := 1) T.f__law_bi_times sc__law_bi_times (b := b__law_bi_times) (fun cdv A outer s H E hr =>
  (dsCons (dSet (i := 2) sc__law_bi_times.nd rfl (by first | exact Or.inl rfl | exact Or.inr rfl) (dLst daNil))
  (dsCons (dFor (PassesOwn.never) rfl (diSeq (dv 0)) (dgOf (vs := [3, 4, 5]) (dgTupO rfl (dgCons (dgNameO sc__law_bi_times.nd rfl (by first | exact Or.inl rfl | exact Or.inr rfl) (by decide)) (dgCons (dgNameO sc__law_bi_times.nd rfl (by first | exact Or.inl rfl | exact Or.inr rfl) (by decide)) (dgCons (dgNameO sc__law_bi_times.nd rfl (by first | exact Or.inl rfl | exact Or.inr rfl) (by decide)) dgNil)))))
  (dsOne (dExpr (dDrop (dM PySem.F.slot_list_extend PySem.F.type_list_extend m_extend (dv 2) (daCons (dLc rfl sc__law_bi_times.nd (own := [("w", 6), ("y", 7), ("other", 8)]) (diSeq (dv 1)) (by show blkC ["a", "b", "rows", "v", "z", "number", "w", "y", "other"] (defScope s__law_bi_times) _ _ = true; decide +kernel) (fun _ _ _ _ _ => (dgTupO rfl (dgCons (dgNameO sc__law_bi_times.nd rfl (by first | exact Or.inl rfl | exact Or.inr rfl) (by decide)) (dgCons (dgNameO sc__law_bi_times.nd rfl (by first | exact Or.inl rfl | exact Or.inr rfl) (by decide)) (dgCons (dgNameO sc__law_bi_times.nd rfl (by first | exact Or.inl rfl | exact Or.inr rfl) (by decide)) dgNil))))) (fun _ _ _ _ _ => dtsNil) (fun _ _ _ _ _ => (dTup (daCons (dOp o_add (dv 3) (dv 6)) (daCons (dOp o_add (dv 4) (dv 7)) (daCons (dOp o_mul (dv 5) (dv 8)) daNil)))))) daNil))))))
  (dsOne (dRet (dCall (ok__law_bi T) (hr.mono (by decide)) (by rfl) T.g__law_bi T.f__law_bi.kp T.b__law_bi (daCons (dv 2) daNil)))))))
  (fun _ _ _ _ h => by (repeat obtain ⟨_, h⟩ := h); subst_vars; rfl) read__law_bi_times
theorem ok__law_bi_random (T : Txt K mg) : FnOk P w K mg base CX0 2 T.a__law_bi_random T.d__law_bi_random ["d", "many"] (spOf K F__law_bi_random) := dFun (F := F__law_bi_random) (k := 1) T.f__law_bi_random sc__law_bi_random (b := b__law_bi_random) (fun cdv A outer s H E hr =>
  (dsOne (dRet (dCall (ok__law_bi T) (hr.mono (by decide)) (by rfl) T.g__law_bi T.f__law_bi.kp T.b__law_bi (daCons (dLc rfl sc__law_bi_random.nd (own := [("k", 2)]) (diRng1 (by rfl) T.m_range (dCall (ok__law_take T) (hr.mono (by decide)) (by rfl) T.g__law_take T.f__law_take.kp T.b__law_take (daCons (dv 0) (daCons (dv 1) daNil)))) (by show blkC ["d", "many", "k"] (defScope s__law_bi_random) _ _ = true; decide +kernel) (fun _ _ _ _ _ => (dgNameO sc__law_bi_random.nd rfl (by first | exact Or.inl rfl | exact Or.inr rfl) (by decide))) (fun _ _ _ _ _ => dtsNil) (fun _ _ _ _ _ => (dTup (daCons (dOp o_sub (dCall (ok__law_take T) (hr.mono (by decide)) (by rfl) T.g__law_take T.f__law_take.kp T.b__law_take (daCons (dv 0) (daCons dInt daNil))) dInt) (daCons (dOp o_sub (dCall (ok__law_take T) (hr.mono (by decide)) (by rfl) T.g__law_take T.f__law_take.kp T.b__law_take (daCons (dv 0) (daCons dInt daNil))) dInt) (daCons (dOp o_sub (dCall (ok__law_take T) (hr.mono (by decide)) (by rfl) T.g__law_take T.f__law_take.kp T.b__law_take (daCons (dv 0) (daCons dInt daNil))) dInt) daNil)))))) daNil)))))
  (fun _ _ _ _ h => by (repeat obtain ⟨_, h⟩ := h); subst_vars; rfl) read__law_bi_random
theorem ok_law (T : Txt K mg) : FnOk P w K mg base CX0 3 T.a_law T.d_law ["script"] (spOf K F_law) := dFun (F := F_law) (k := 2) T.f_law sc_law (b := b_law) (fun cdv A outer s H E hr =>
  (dsCons (dSet (i := 1) sc_law.nd rfl (by first | exact Or.inl rfl | exact Or.inr rfl) (dCall (ok__law_begin T) (hr.mono (by decide)) (by rfl) T.g__law_begin T.f__law_begin.kp T.b__law_begin (daCons (dv 0) daNil)))
  (dsCons (dSet (i := 2) sc_law.nd rfl (by first | exact Or.inl rfl | exact Or.inr rfl) (dCall (ok__law_bi_random T) (hr.mono (by decide)) (by rfl) T.g__law_bi_random T.f__law_bi_random.kp T.b__law_bi_random (daCons (dv 1) (daCons dInt daNil))))
  (dsCons (dSet (i := 3) sc_law.nd rfl (by first | exact Or.inl rfl | exact Or.inr rfl) (dCall (ok__law_bi_random T) (hr.mono (by decide)) (by rfl) T.g__law_bi_random T.f__law_bi_random.kp T.b__law_bi_random (daCons (dv 1) (daCons dInt daNil))))
  (dsCons (dSetLc (i := 4) rfl sc_law.nd rfl rfl (sw_true rfl rfl rfl (by decide +kernel)) (own := [("k", 10)]) (diRng1 (by rfl) T.m_range (dCall (ok__law_take T) (hr.mono (by decide)) (by rfl) T.g__law_take T.f__law_take.kp T.b__law_take (daCons (dv 1) (daCons dInt daNil)))) (by show blkC ["script", "d", "a", "b", "loose", "due", "v", "z", "number", "row", "k", "i", "j"] (defScope s_law) _ _ = true; decide +kernel) (fun _ _ _ _ _ => (dgNameO sc_law.nd rfl (by first | exact Or.inl rfl | exact Or.inr rfl) (by decide))) (fun _ _ _ _ _ => dtsNil) (fun _ _ _ _ _ => (dTup (daCons (dCall (ok__law_take T) (hr.mono (by decide)) (by rfl) T.g__law_take T.f__law_take.kp T.b__law_take (daCons (dv 1) (daCons dInt daNil))) (daCons (dCall (ok__law_take T) (hr.mono (by decide)) (by rfl) T.g__law_take T.f__law_take.kp T.b__law_take (daCons (dv 1) (daCons dInt daNil))) (daCons (dOp o_sub (dCall (ok__law_take T) (hr.mono (by decide)) (by rfl) T.g__law_take T.f__law_take.kp T.b__law_take (daCons (dv 1) (daCons dInt daNil))) dInt) daNil))))))
  (dsCons (dSet (i := 5) sc_law.nd rfl (by first | exact Or.inl rfl | exact Or.inr rfl) (dCall (ok__law_bi T) (hr.mono (by decide)) (by rfl) T.g__law_bi T.f__law_bi.kp T.b__law_bi (daCons (dv 4) daNil)))
  (dsCons (dIf (dtOf (dwOr (dtDrop (dtCmp (o_ne hr.units) (dCall (ok_bi_poly T) (hr.mono (by decide)) (by rfl) T.g_bi_poly T.f_bi_poly.kp T.b_bi_poly (daCons (dTy c_list (by rfl) T.m_list (daCons (dv 4) daNil)) daNil)) (dv 5) (nomark _))) (dwOr (dtCmp (o_ne hr.units) (dCall (ok_bi_poly T) (hr.mono (by decide)) (by rfl) T.g_bi_poly T.f_bi_poly.kp T.b_bi_poly (daCons (dTy c_tuple (by rfl) T.m_tuple (daCons (dv 4) daNil)) daNil)) (dv 5) (nomark _)) (dwOr (dtCmp (o_ne hr.units) (dCall (ok_bi_add T) (hr.mono (by decide)) (by rfl) T.g_bi_add T.f_bi_add.kp T.b_bi_add (daCons (dv 2) (daCons (dv 3) daNil))) (dCall (ok__law_bi T) (hr.mono (by decide)) (by rfl) T.g__law_bi T.f__law_bi.kp T.b__law_bi (daCons (dOp o_add (dv 2) (dv 3)) daNil)) (nomark _)) (dwOr1 (dtCmp (o_ne hr.units) (dCall (ok_bi_times T) (hr.mono (by decide)) (by rfl) T.g_bi_times T.f_bi_times.kp T.b_bi_times (daCons (dv 2) (daCons (dv 3) daNil))) (dCall (ok__law_bi_times T) (hr.mono (by decide)) (by rfl) T.g__law_bi_times T.f__law_bi_times.kp T.b__law_bi_times (daCons (dv 2) (daCons (dv 3) daNil))) (nomark _)))))))
  (dsOne (dRet dBl))
  dsNil)
  (dsCons (dSet (i := 6) sc_law.nd rfl (by first | exact Or.inl rfl | exact Or.inr rfl) (dOp o_sub (dCall (ok__law_take T) (hr.mono (by decide)) (by rfl) T.g__law_take T.f__law_take.kp T.b__law_take (daCons (dv 1) (daCons dInt daNil))) dInt))
  (dsCons (dSet (i := 7) sc_law.nd rfl (by first | exact Or.inl rfl | exact Or.inr rfl) (dOp o_sub (dCall (ok__law_take T) (hr.mono (by decide)) (by rfl) T.g__law_take T.f__law_take.kp T.b__law_take (daCons (dv 1) (daCons dInt daNil))) dInt))
  (dsCons (dSet (i := 8) sc_law.nd rfl (by first | exact Or.inl rfl | exact Or.inr rfl) (dOp o_sub (dCall (ok__law_take T) (hr.mono (by decide)) (by rfl) T.g__law_take T.f__law_take.kp T.b__law_take (daCons (dv 1) (daCons dInt daNil))) dInt))
  (dsCons (dIf (dtDrop (dtCmp (o_ne hr.units) (dCall (ok_bi_shifted T) (hr.mono (by decide)) (by rfl) T.g_bi_shifted T.f_bi_shifted.kp T.b_bi_shifted (daCons (dv 2) (daCons (dv 6) (daCons (dv 7) (daCons (dv 8) daNil))))) (dCall (ok__law_bi_times T) (hr.mono (by decide)) (by rfl) T.g__law_bi_times T.f__law_bi_times.kp T.b__law_bi_times (daCons (dv 2) (daCons (dCall (ok__law_bi T) (hr.mono (by decide)) (by rfl) T.g__law_bi T.f__law_bi.kp T.b__law_bi (daCons (dLst (daCons (dTup (daCons (dv 6) (daCons (dv 7) (daCons (dv 8) daNil)))) daNil)) daNil)) daNil))) (nomark _)))
  (dsOne (dRet dBl))
  dsNil)
  (dsCons (dIf (dtDrop (dtCmp (o_ne hr.units) (dCall (ok_bi_mirrored T) (hr.mono (by decide)) (by rfl) T.g_bi_mirrored T.f_bi_mirrored.kp T.b_bi_mirrored (daCons (dv 2) daNil)) (dCall (ok__law_bi T) (hr.mono (by decide)) (by rfl) T.g__law_bi T.f__law_bi.kp T.b__law_bi (daCons (dLc rfl sc_law.nd (own := [("i", 11), ("j", 12), ("number", 8)]) (diSeq (dv 2)) (by show blkC ["script", "d", "a", "b", "loose", "due", "v", "z", "number", "row", "k", "i", "j"] (defScope s_law) _ _ = true; decide +kernel) (fun _ _ _ _ _ => (dgTupO rfl (dgCons (dgNameO sc_law.nd rfl (by first | exact Or.inl rfl | exact Or.inr rfl) (by decide)) (dgCons (dgNameO sc_law.nd rfl (by first | exact Or.inl rfl | exact Or.inr rfl) (by decide)) (dgCons (dgNameO sc_law.nd rfl (by first | exact Or.inl rfl | exact Or.inr rfl) (by decide)) dgNil))))) (fun _ _ _ _ _ => dtsNil) (fun _ _ _ _ _ => (dTup (daCons (dOp o_sub dInt (dv 11)) (daCons (dv 12) (daCons (dIfE (dtCmp (o_eq hr.units) (dOp o_mod (dTy c_int (by rfl) T.m_int (daCons (dv 12) daNil)) dInt) dInt (nomark _)) (dv 8) (dOp o_sub dInt (dv 8))) daNil)))))) daNil)) (nomark _)))
  (dsOne (dRet dBl))
  dsNil)
  (dsCons (dSetLc (i := 9) rfl sc_law.nd rfl rfl (sw_true rfl rfl rfl (by decide +kernel)) (own := [("i", 11), ("j", 12), ("number", 8)]) (diSeq (dv 2)) (by show blkC ["script", "d", "a", "b", "loose", "due", "v", "z", "number", "row", "k", "i", "j"] (defScope s_law) _ _ = true; decide +kernel) (fun _ _ _ _ _ => (dgTupO rfl (dgCons (dgNameO sc_law.nd rfl (by first | exact Or.inl rfl | exact Or.inr rfl) (by decide)) (dgCons (dgNameO sc_law.nd rfl (by first | exact Or.inl rfl | exact Or.inr rfl) (by decide)) (dgCons (dgNameO sc_law.nd rfl (by first | exact Or.inl rfl | exact Or.inr rfl) (by decide)) dgNil))))) (fun _ _ _ _ _ => dtsNil) (fun _ _ _ _ _ => (dv 11)))
  (dsCons (dIf (dtCmp (o_ne hr.units) (dCall (ok_v_range T) (hr.mono (by decide)) (by rfl) T.g_v_range T.f_v_range.kp T.b_v_range (daCons (dv 2) daNil)) (dIfE (dtCmp o_gt (dB c_len (by rfl) T.m_len (daCons (dv 9) daNil)) dInt (nomark _)) (dTup (daCons (dB (c_min rfl) (by rfl) T.m_min (daCons (dv 9) daNil)) (daCons (dB (c_max rfl) (by rfl) T.m_max (daCons (dv 9) daNil)) daNil))) (dTup (daCons dInt (daCons dInt daNil)))) (nomark _))
  (dsOne (dRet dBl))
  dsNil)
  (dsOne (dRet (dCmp (o_eq hr.units) (dCall (ok_at_v_one T) (hr.mono (by decide)) (by rfl) T.g_at_v_one T.f_at_v_one.kp T.b_at_v_one (daCons (dv 2) daNil)) (dCall (ok__law_sum T) (hr.mono (by decide)) (by rfl) T.g__law_sum T.f__law_sum.kp T.b__law_sum (daCons (dLc rfl sc_law.nd (own := [("i", 11), ("j", 12), ("number", 8)]) (diSeq (dv 2)) (by show blkC ["script", "d", "a", "b", "loose", "due", "v", "z", "number", "row", "k", "i", "j"] (defScope s_law) _ _ = true; decide +kernel) (fun _ _ _ _ _ => (dgTupO rfl (dgCons (dgNameO sc_law.nd rfl (by first | exact Or.inl rfl | exact Or.inr rfl) (by decide)) (dgCons (dgNameO sc_law.nd rfl (by first | exact Or.inl rfl | exact Or.inr rfl) (by decide)) (dgCons (dgNameO sc_law.nd rfl (by first | exact Or.inl rfl | exact Or.inr rfl) (by decide)) dgNil))))) (fun _ _ _ _ _ => dtsNil) (fun _ _ _ _ _ => (dTup (daCons (dv 12) (daCons (dv 8) daNil))))) daNil)) (nomark _))))))))))))))))))
  (fun _ _ _ _ h => by (repeat obtain ⟨_, h⟩ := h); subst_vars; rfl) read_law
end

theorem all_mk {l : PySem.W.OpenLaw} {w : World} {K : PySem.W.Frag} {h : Heap} {mg : Str → Option Value} {fa : Addr} (X : K.In h) (G : h.Ns mainGlobals mg) (hfa : mg "law" = some (.ref fa))
    {a0 : Addr} {od0 an0 : Option Addr} {sl0 : Array (Option Value)} {oc0 kV0 dc0 pm0 cd0 ct0 : Value}
    (h0 : PySem.W.nsIn K mainGlobals "bi_poly" = some (some (.ref a0))) (l0 : K.lookup a0 = some ⟨oc0, od0, .func (PySem.W.fnOf "bi_poly" "bi_poly" (defArgs s_bi_poly) (defBody s_bi_poly) (defScope s_bi_poly) .none kV0 dc0 pm0 an0 cd0 ct0), sl0⟩) (c0 : PySem.W.codeIn K cd0 "bi_poly" = true) (k0 : PySem.W.keepIn K (.ref a0) = true)
    {a1 : Addr} {od1 an1 : Option Addr} {sl1 : Array (Option Value)} {oc1 kV1 dc1 pm1 cd1 ct1 : Value}
    (h1 : PySem.W.nsIn K mainGlobals "bi_add" = some (some (.ref a1))) (l1 : K.lookup a1 = some ⟨oc1, od1, .func (PySem.W.fnOf "bi_add" "bi_add" (defArgs s_bi_add) (defBody s_bi_add) (defScope s_bi_add) .none kV1 dc1 pm1 an1 cd1 ct1), sl1⟩) (c1 : PySem.W.codeIn K cd1 "bi_add" = true) (k1 : PySem.W.keepIn K (.ref a1) = true)
    {a2 : Addr} {od2 an2 : Option Addr} {sl2 : Array (Option Value)} {oc2 kV2 dc2 pm2 cd2 ct2 : Value}
    (h2 : PySem.W.nsIn K mainGlobals "bi_times" = some (some (.ref a2))) (l2 : K.lookup a2 = some ⟨oc2, od2, .func (PySem.W.fnOf "bi_times" "bi_times" (defArgs s_bi_times) (defBody s_bi_times) (defScope s_bi_times) .none kV2 dc2 pm2 an2 cd2 ct2), sl2⟩) (c2 : PySem.W.codeIn K cd2 "bi_times" = true) (k2 : PySem.W.keepIn K (.ref a2) = true)
    {a3 : Addr} {od3 an3 : Option Addr} {sl3 : Array (Option Value)} {oc3 kV3 dc3 pm3 cd3 ct3 : Value}
    (h3 : PySem.W.nsIn K mainGlobals "bi_shifted" = some (some (.ref a3))) (l3 : K.lookup a3 = some ⟨oc3, od3, .func (PySem.W.fnOf "bi_shifted" "bi_shifted" (defArgs s_bi_shifted) (defBody s_bi_shifted) (defScope s_bi_shifted) .none kV3 dc3 pm3 an3 cd3 ct3), sl3⟩) (c3 : PySem.W.codeIn K cd3 "bi_shifted" = true) (k3 : PySem.W.keepIn K (.ref a3) = true)
    {a4 : Addr} {od4 an4 : Option Addr} {sl4 : Array (Option Value)} {oc4 kV4 dc4 pm4 cd4 ct4 : Value}
    (h4 : PySem.W.nsIn K mainGlobals "bi_mirrored" = some (some (.ref a4))) (l4 : K.lookup a4 = some ⟨oc4, od4, .func (PySem.W.fnOf "bi_mirrored" "bi_mirrored" (defArgs s_bi_mirrored) (defBody s_bi_mirrored) (defScope s_bi_mirrored) .none kV4 dc4 pm4 an4 cd4 ct4), sl4⟩) (c4 : PySem.W.codeIn K cd4 "bi_mirrored" = true) (k4 : PySem.W.keepIn K (.ref a4) = true)
    {a5 : Addr} {od5 an5 : Option Addr} {sl5 : Array (Option Value)} {oc5 kV5 dc5 pm5 cd5 ct5 : Value}
    (h5 : PySem.W.nsIn K mainGlobals "at_v_one" = some (some (.ref a5))) (l5 : K.lookup a5 = some ⟨oc5, od5, .func (PySem.W.fnOf "at_v_one" "at_v_one" (defArgs s_at_v_one) (defBody s_at_v_one) (defScope s_at_v_one) .none kV5 dc5 pm5 an5 cd5 ct5), sl5⟩) (c5 : PySem.W.codeIn K cd5 "at_v_one" = true) (k5 : PySem.W.keepIn K (.ref a5) = true)
    {a6 : Addr} {od6 an6 : Option Addr} {sl6 : Array (Option Value)} {oc6 kV6 dc6 pm6 cd6 ct6 : Value}
    (h6 : PySem.W.nsIn K mainGlobals "v_range" = some (some (.ref a6))) (l6 : K.lookup a6 = some ⟨oc6, od6, .func (PySem.W.fnOf "v_range" "v_range" (defArgs s_v_range) (defBody s_v_range) (defScope s_v_range) .none kV6 dc6 pm6 an6 cd6 ct6), sl6⟩) (c6 : PySem.W.codeIn K cd6 "v_range" = true) (k6 : PySem.W.keepIn K (.ref a6) = true)
    {a7 : Addr} {od7 an7 : Option Addr} {sl7 : Array (Option Value)} {oc7 kV7 dc7 pm7 cd7 ct7 : Value}
    (h7 : PySem.W.nsIn K mainGlobals "_law_begin" = some (some (.ref a7))) (l7 : K.lookup a7 = some ⟨oc7, od7, .func (PySem.W.fnOf "_law_begin" "_law_begin" (defArgs s__law_begin) (defBody s__law_begin) (defScope s__law_begin) .none kV7 dc7 pm7 an7 cd7 ct7), sl7⟩) (c7 : PySem.W.codeIn K cd7 "_law_begin" = true) (k7 : PySem.W.keepIn K (.ref a7) = true)
    {a8 : Addr} {od8 an8 : Option Addr} {sl8 : Array (Option Value)} {oc8 kV8 dc8 pm8 cd8 ct8 : Value}
    (h8 : PySem.W.nsIn K mainGlobals "_law_take" = some (some (.ref a8))) (l8 : K.lookup a8 = some ⟨oc8, od8, .func (PySem.W.fnOf "_law_take" "_law_take" (defArgs s__law_take) (defBody s__law_take) (defScope s__law_take) .none kV8 dc8 pm8 an8 cd8 ct8), sl8⟩) (c8 : PySem.W.codeIn K cd8 "_law_take" = true) (k8 : PySem.W.keepIn K (.ref a8) = true)
    {a9 : Addr} {od9 an9 : Option Addr} {sl9 : Array (Option Value)} {oc9 kV9 dc9 pm9 cd9 ct9 : Value}
    (h9 : PySem.W.nsIn K mainGlobals "_law_sum" = some (some (.ref a9))) (l9 : K.lookup a9 = some ⟨oc9, od9, .func (PySem.W.fnOf "_law_sum" "_law_sum" (defArgs s__law_sum) (defBody s__law_sum) (defScope s__law_sum) .none kV9 dc9 pm9 an9 cd9 ct9), sl9⟩) (c9 : PySem.W.codeIn K cd9 "_law_sum" = true) (k9 : PySem.W.keepIn K (.ref a9) = true)
    {a10 : Addr} {od10 an10 : Option Addr} {sl10 : Array (Option Value)} {oc10 kV10 dc10 pm10 cd10 ct10 : Value}
    (h10 : PySem.W.nsIn K mainGlobals "_law_bi" = some (some (.ref a10))) (l10 : K.lookup a10 = some ⟨oc10, od10, .func (PySem.W.fnOf "_law_bi" "_law_bi" (defArgs s__law_bi) (defBody s__law_bi) (defScope s__law_bi) .none kV10 dc10 pm10 an10 cd10 ct10), sl10⟩) (c10 : PySem.W.codeIn K cd10 "_law_bi" = true) (k10 : PySem.W.keepIn K (.ref a10) = true)
    {a11 : Addr} {od11 an11 : Option Addr} {sl11 : Array (Option Value)} {oc11 kV11 dc11 pm11 cd11 ct11 : Value}
    (h11 : PySem.W.nsIn K mainGlobals "_law_bi_times" = some (some (.ref a11))) (l11 : K.lookup a11 = some ⟨oc11, od11, .func (PySem.W.fnOf "_law_bi_times" "_law_bi_times" (defArgs s__law_bi_times) (defBody s__law_bi_times) (defScope s__law_bi_times) .none kV11 dc11 pm11 an11 cd11 ct11), sl11⟩) (c11 : PySem.W.codeIn K cd11 "_law_bi_times" = true) (k11 : PySem.W.keepIn K (.ref a11) = true)
    {a12 : Addr} {od12 an12 : Option Addr} {sl12 : Array (Option Value)} {oc12 kV12 dc12 pm12 cd12 ct12 : Value}
    (h12 : PySem.W.nsIn K mainGlobals "_law_bi_random" = some (some (.ref a12))) (l12 : K.lookup a12 = some ⟨oc12, od12, .func (PySem.W.fnOf "_law_bi_random" "_law_bi_random" (defArgs s__law_bi_random) (defBody s__law_bi_random) (defScope s__law_bi_random) .none kV12 dc12 pm12 an12 cd12 ct12), sl12⟩) (c12 : PySem.W.codeIn K cd12 "_law_bi_random" = true) (k12 : PySem.W.keepIn K (.ref a12) = true)
    {a13 : Addr} {od13 an13 : Option Addr} {sl13 : Array (Option Value)} {oc13 kV13 dc13 pm13 cd13 ct13 : Value}
    (h13 : PySem.W.nsIn K mainGlobals "law" = some (some (.ref a13))) (l13 : K.lookup a13 = some ⟨oc13, od13, .func (PySem.W.fnOf "law" "law" (defArgs s_law) (defBody s_law) (defScope s_law) .none kV13 dc13 pm13 an13 cd13 ct13), sl13⟩) (c13 : PySem.W.codeIn K cd13 "law" = true) (k13 : PySem.W.keepIn K (.ref a13) = true)
    (z_abs : PySem.W.nsIn K mainGlobals "abs" = some none)
    (z_int : PySem.W.nsIn K mainGlobals "int" = some none)
    (z_len : PySem.W.nsIn K mainGlobals "len" = some none)
    (z_list : PySem.W.nsIn K mainGlobals "list" = some none)
    (z_max : PySem.W.nsIn K mainGlobals "max" = some none)
    (z_min : PySem.W.nsIn K mainGlobals "min" = some none)
    (z_range : PySem.W.nsIn K mainGlobals "range" = some none)
    (z_sorted : PySem.W.nsIn K mainGlobals "sorted" = some none)
    (z_tuple : PySem.W.nsIn K mainGlobals "tuple" = some none)
    : ∃ fd : FuncData, (∀ (s : Shared) (v : Value), BindsTo s fd ⟨[v], []⟩ [("script", v)]) ∧ ∀ base : Heap, K.In base → base.Ns mainGlobals mg → FnOk l.prog w K mg base CX0 3 fa fd ["script"] (spOf K F_law) := by
  have e := hfa.symm.trans (PySem.W.mg_of X G h13)
  cases e
  have f0 := fun_mk (st := s_bi_poly) l0 c0 k0
  have b0 := f0.binds (ps := ["triples"]) fun _ _ _ _ _ _ us hl => match us, hl with | [_], _ => rfl
  have f1 := fun_mk (st := s_bi_add) l1 c1 k1
  have b1 := f1.binds (ps := ["a", "b"]) fun _ _ _ _ _ _ us hl => match us, hl with | [_, _], _ => rfl
  have f2 := fun_mk (st := s_bi_times) l2 c2 k2
  have b2 := f2.binds (ps := ["a", "b"]) fun _ _ _ _ _ _ us hl => match us, hl with | [_, _], _ => rfl
  have f3 := fun_mk (st := s_bi_shifted) l3 c3 k3
  have b3 := f3.binds (ps := ["a", "v", "z", "number"]) fun _ _ _ _ _ _ us hl => match us, hl with | [_, _, _, _], _ => rfl
  have f4 := fun_mk (st := s_bi_mirrored) l4 c4 k4
  have b4 := f4.binds (ps := ["a"]) fun _ _ _ _ _ _ us hl => match us, hl with | [_], _ => rfl
  have f5 := fun_mk (st := s_at_v_one) l5 c5 k5
  have b5 := f5.binds (ps := ["a"]) fun _ _ _ _ _ _ us hl => match us, hl with | [_], _ => rfl
  have f6 := fun_mk (st := s_v_range) l6 c6 k6
  have b6 := f6.binds (ps := ["a"]) fun _ _ _ _ _ _ us hl => match us, hl with | [_], _ => rfl
  have f7 := fun_mk (st := s__law_begin) l7 c7 k7
  have b7 := f7.binds (ps := ["script"]) fun _ _ _ _ _ _ us hl => match us, hl with | [_], _ => rfl
  have f8 := fun_mk (st := s__law_take) l8 c8 k8
  have b8 := f8.binds (ps := ["d", "many"]) fun _ _ _ _ _ _ us hl => match us, hl with | [_, _], _ => rfl
  have f9 := fun_mk (st := s__law_sum) l9 c9 k9
  have b9 := f9.binds (ps := ["pairs"]) fun _ _ _ _ _ _ us hl => match us, hl with | [_], _ => rfl
  have f10 := fun_mk (st := s__law_bi) l10 c10 k10
  have b10 := f10.binds (ps := ["triples"]) fun _ _ _ _ _ _ us hl => match us, hl with | [_], _ => rfl
  have f11 := fun_mk (st := s__law_bi_times) l11 c11 k11
  have b11 := f11.binds (ps := ["a", "b"]) fun _ _ _ _ _ _ us hl => match us, hl with | [_, _], _ => rfl
  have f12 := fun_mk (st := s__law_bi_random) l12 c12 k12
  have b12 := f12.binds (ps := ["d", "many"]) fun _ _ _ _ _ _ us hl => match us, hl with | [_, _], _ => rfl
  have f13 := fun_mk (st := s_law) l13 c13 k13
  have b13 := f13.binds (ps := ["script"]) fun _ _ _ _ _ _ us hl => match us, hl with | [_], _ => rfl
  let T : Txt K mg := {
    m_abs := PySem.W.mg_none_of X G z_abs
    m_int := PySem.W.mg_none_of X G z_int
    m_len := PySem.W.mg_none_of X G z_len
    m_list := PySem.W.mg_none_of X G z_list
    m_max := PySem.W.mg_none_of X G z_max
    m_min := PySem.W.mg_none_of X G z_min
    m_range := PySem.W.mg_none_of X G z_range
    m_sorted := PySem.W.mg_none_of X G z_sorted
    m_tuple := PySem.W.mg_none_of X G z_tuple
    a_bi_poly := _, d_bi_poly := _, f_bi_poly := f0, g_bi_poly := PySem.W.mg_of X G h0, b_bi_poly := b0
    a_bi_add := _, d_bi_add := _, f_bi_add := f1, g_bi_add := PySem.W.mg_of X G h1, b_bi_add := b1
    a_bi_times := _, d_bi_times := _, f_bi_times := f2, g_bi_times := PySem.W.mg_of X G h2, b_bi_times := b2
    a_bi_shifted := _, d_bi_shifted := _, f_bi_shifted := f3, g_bi_shifted := PySem.W.mg_of X G h3, b_bi_shifted := b3
    a_bi_mirrored := _, d_bi_mirrored := _, f_bi_mirrored := f4, g_bi_mirrored := PySem.W.mg_of X G h4, b_bi_mirrored := b4
    a_at_v_one := _, d_at_v_one := _, f_at_v_one := f5, g_at_v_one := PySem.W.mg_of X G h5, b_at_v_one := b5
    a_v_range := _, d_v_range := _, f_v_range := f6, g_v_range := PySem.W.mg_of X G h6, b_v_range := b6
    a__law_begin := _, d__law_begin := _, f__law_begin := f7, g__law_begin := PySem.W.mg_of X G h7, b__law_begin := b7
    a__law_take := _, d__law_take := _, f__law_take := f8, g__law_take := PySem.W.mg_of X G h8, b__law_take := b8
    a__law_sum := _, d__law_sum := _, f__law_sum := f9, g__law_sum := PySem.W.mg_of X G h9, b__law_sum := b9
    a__law_bi := _, d__law_bi := _, f__law_bi := f10, g__law_bi := PySem.W.mg_of X G h10, b__law_bi := b10
    a__law_bi_times := _, d__law_bi_times := _, f__law_bi_times := f11, g__law_bi_times := PySem.W.mg_of X G h11, b__law_bi_times := b11
    a__law_bi_random := _, d__law_bi_random := _, f__law_bi_random := f12, g__law_bi_random := PySem.W.mg_of X G h12, b__law_bi_random := b12
    a_law := _, d_law := _, f_law := f13, g_law := PySem.W.mg_of X G h13, b_law := b13
  }
  exact ⟨T.d_law, fun s v => .of_eq rfl, fun base _ _ => ok_law T⟩

end K67
open PySem PySem.Spec PyProof.Rows L2 Dl
theorem PySem.Challenge.cw_knothouse_k67_polynomials_in_two_variabl_holds : PySem.Challenge.rw_knothouse_k67_polynomials_in_two_variabl.Holds := by
  w_on; o_law; k_head; (case hw => w_witness2)
  k_fill
  refine L2.walk_of (l := PySem.Challenge.rw_knothouse_k67_polynomials_in_two_variabl) (n := 63) (k := 3) (x := "script") (CX := fun _ => L2.CX0) (sp := fun w => Dl.spOf _ K67.F_law) rfl (by decide) rfl ⟨rfl, by decide, by decide⟩ (fun w h Y => PySem.W.kIn_of Y) ?F (fun _ _ a ns hl hO hS => Dl.law_start (fun S Q d hd hq => K67.law_pre hd hl hq) hO hS fun _ => rfl) (fun _ _ _ _ _ h => h)
  case F =>
    intro w mg fa h KX G hmg
    refine' K67.all_mk KX G hmg ?h0 ?l0 ?c0 ?k0 ?h1 ?l1 ?c1 ?k1 ?h2 ?l2 ?c2 ?k2 ?h3 ?l3 ?c3 ?k3 ?h4 ?l4 ?c4 ?k4 ?h5 ?l5 ?c5 ?k5 ?h6 ?l6 ?c6 ?k6 ?h7 ?l7 ?c7 ?k7 ?h8 ?l8 ?c8 ?k8 ?h9 ?l9 ?c9 ?k9 ?h10 ?l10 ?c10 ?k10 ?h11 ?l11 ?c11 ?k11 ?h12 ?l12 ?c12 ?k12 ?h13 ?l13 ?c13 ?k13 ?z_abs ?z_int ?z_len ?z_list ?z_max ?z_min ?z_range ?z_sorted ?z_tuple
    (case h0 => k_is)
    (case l0 => k_is)
    (case c0 => k_is)
    (case k0 => k_is)
    (case h1 => k_is)
    (case l1 => k_is)
    (case c1 => k_is)
    (case k1 => k_is)
    (case h2 => k_is)
    (case l2 => k_is)
    (case c2 => k_is)
    (case k2 => k_is)
    (case h3 => k_is)
    (case l3 => k_is)
    (case c3 => k_is)
    (case k3 => k_is)
    (case h4 => k_is)
    (case l4 => k_is)
    (case c4 => k_is)
    (case k4 => k_is)
    (case h5 => k_is)
    (case l5 => k_is)
    (case c5 => k_is)
    (case k5 => k_is)
    (case h6 => k_is)
    (case l6 => k_is)
    (case c6 => k_is)
    (case k6 => k_is)
    (case h7 => k_is)
    (case l7 => k_is)
    (case c7 => k_is)
    (case k7 => k_is)
    (case h8 => k_is)
    (case l8 => k_is)
    (case c8 => k_is)
    (case k8 => k_is)
    (case h9 => k_is)
    (case l9 => k_is)
    (case c9 => k_is)
    (case k9 => k_is)
    (case h10 => k_is)
    (case l10 => k_is)
    (case c10 => k_is)
    (case k10 => k_is)
    (case h11 => k_is)
    (case l11 => k_is)
    (case c11 => k_is)
    (case k11 => k_is)
    (case h12 => k_is)
    (case l12 => k_is)
    (case c12 => k_is)
    (case k12 => k_is)
    (case h13 => k_is)
    (case l13 => k_is)
    (case c13 => k_is)
    (case k13 => k_is)
    (case z_abs => k_is)
    (case z_int => k_is)
    (case z_len => k_is)
    (case z_list => k_is)
    (case z_max => k_is)
    (case z_min => k_is)
    (case z_range => k_is)
    (case z_sorted => k_is)
    (case z_tuple => k_is)
