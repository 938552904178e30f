import PyProof.Rows.All
import HandS.ForMost
import HandS.ForExc
import HandS.Walk
import HandS.Zip
import HandS.TupMul
import HandS.TupAny
import HandS.TupSets
import HandS.Flow
import HandS.Deep
import HandS.SortInts
import HandS.Conv
import HandS.TupLen
import HandS.Style
import KE.DataMinMax
import KE.SortData
import KE.KIndexOf
import PySem.Challenge.RW_jointneeds_k98_whole_rows_of_operations
set_option Elab.async false
set_option linter.all false
set_option maxRecDepth 100000
set_option maxHeartbeats 4000000
namespace Dn
open PySem PySem.Spec PyProof.Rows L2
/-! ## data by value -/
inductive D where
  | non | bl (b : Bool) | int (i : Int) | str (s : Str) | tup (xs : List D) | lst (xs : List D)
  | dT (ks : List (List Int)) (vs : List D) | dK (ks : List Key) (vs : List D) | drw | ftup (xs : List D) | opq (K : PySem.W.Frag) (ns : List Int)
mutual
/-- no list, no dict, no store of draws within -/
def imm : D → Bool
  | .tup xs => imms xs
  | .lst _ => false
  | .dT _ _ => false
  | .dK _ _ => false
  | .drw => false
  | .ftup _ => false
  | .opq _ _ => false
  | _ => true
def imms : List D → Bool
  | [] => true
  | x :: xs => imm x && imms xs
end
/-- stands in the frozen heap for a store of draws -/
def mark (c : Addr) : HO := .met c 0
abbrev NM (o : HO) : Prop := ∀ c, o ≠ mark c
mutual
def Rep (F : Hp) : D → V → Prop
  | .non, v => v = .non
  | .bl b, v => v = .bl b
  | .int i, v => v = .int i
  | .str s, v => v = .str s
  | .tup ds, v => ∃ a xs, v = .ref a ∧ F a = some (.tup xs) ∧ Reps F ds xs
  | .lst ds, v => ∃ a xs, v = .ref a ∧ F a = some (.lst xs) ∧ Reps F ds xs
  | .dT ks ds, v => ∃ a xs, v = .ref a ∧ Rd F a (.dT ((ks.map (List.map Sum.inl)).zip xs)) ∧ ks.length = ds.length ∧ Reps F ds xs
  | .dK ks ds, v => ∃ a xs, v = .ref a ∧ Rd F a (.dK (ks.zip xs)) ∧ ks.length = ds.length ∧ Reps F ds xs
  | .drw, v => ∃ a c, v = .ref a ∧ F a = some (mark c)
  | .ftup ds, v => ∃ a o xs, v = .ref a ∧ F a = some (.frz o (.tup xs)) ∧ o.dict = none ∧ Reps F ds xs
  | .opq K ns, v => ∃ a, v = .ref a ∧ SqL K F a (ns.map V.int)
def Reps (F : Hp) : List D → List V → Prop
  | [], xs => xs = []
  | d :: ds, xs => ∃ v r, xs = v :: r ∧ Rep F d v ∧ Reps F ds r
end
/-- what is known of F is known of G, locked or not -/
structure Le (F G : Hp) : Prop where
  eq : ∀ a o, F a = some o → (∀ ob, (∀ xs, o ≠ .frz ob (.dT xs)) ∧ ∀ xs, o ≠ .frz ob (.dK xs)) → (∀ xs, o ≠ .dT xs) → (∀ xs, o ≠ .dK xs) → G a = some o
  rd : ∀ a u, Rd F a u → (∀ ob v, u ≠ .frz ob v) → Rd G a u
theorem Le.refl (F : Hp) : Le F F := ⟨fun _ _ h _ _ _ => h, fun _ _ h _ => h⟩
theorem Le.trans {F G K : Hp} (a : Le F G) (b : Le G K) : Le F K := ⟨fun x o h h1 h2 h3 => b.eq x o (a.eq x o h h1 h2 h3) h1 h2 h3, fun x u h n => b.rd x u (a.rd x u h n) n⟩
theorem Le.of {F G : Hp} (h : ∀ a o, F a = some o → G a = some o) : Le F G := ⟨fun a o e _ _ _ => h a o e, fun a u r _ => by
  rcases r with r | ⟨o, r⟩
  · exact .inl (h a _ r)
  · exact .inr ⟨o, h a _ r⟩⟩
theorem Le.tup {F G : Hp} (h : Le F G) {a : Addr} {xs : List V} (e : F a = some (.tup xs)) : G a = some (.tup xs) := h.eq a _ e (fun _ => ⟨nofun, nofun⟩) (fun _ z => nomatch z) (fun _ z => nomatch z)
theorem Le.ls {F G : Hp} (h : Le F G) {a : Addr} {xs : List V} (e : F a = some (.lst xs)) : G a = some (.lst xs) := h.eq a _ e (fun _ => ⟨nofun, nofun⟩) (fun _ z => nomatch z) (fun _ z => nomatch z)
theorem Le.mrk {F G : Hp} (h : Le F G) {a c : Addr} (e : F a = some (mark c)) : G a = some (mark c) := h.eq a _ e (fun _ => ⟨nofun, nofun⟩) (fun _ z => nomatch z) (fun _ z => nomatch z)
mutual
theorem Rep.mono {F G : Hp} (le : Le F G) : ∀ (d : D) (v : V), Rep F d v → Rep G d v
  | .non, _, h => h
  | .bl _, _, h => h
  | .int _, _, h => h
  | .str _, _, h => h
  | .tup ds, v, h => by
    obtain ⟨a, xs, e, f, r⟩ := h
    exact ⟨a, xs, e, le.tup f, Reps.mono le ds xs r⟩
  | .lst ds, v, h => by
    obtain ⟨a, xs, e, f, r⟩ := h
    exact ⟨a, xs, e, le.ls f, Reps.mono le ds xs r⟩
  | .dT ks ds, v, h => by
    obtain ⟨a, xs, e, f, l, r⟩ := h
    exact ⟨a, xs, e, le.rd _ _ f (fun _ _ z => nomatch z), l, Reps.mono le ds xs r⟩
  | .dK ks ds, v, h => by
    obtain ⟨a, xs, e, f, l, r⟩ := h
    exact ⟨a, xs, e, le.rd _ _ f (fun _ _ z => nomatch z), l, Reps.mono le ds xs r⟩
  | .drw, v, h => by
    obtain ⟨a, c, e, f⟩ := h
    exact ⟨a, c, e, le.mrk f⟩
  | .ftup ds, v, h => by
    obtain ⟨a, o, xs, e, f, q, r⟩ := h
    exact ⟨a, o, xs, e, le.eq a _ f (fun _ => ⟨nofun, nofun⟩) (fun _ z => nomatch z) (fun _ z => nomatch z), q, Reps.mono le ds xs r⟩
  | .opq K ns, v, h => by
    obtain ⟨a, e, f⟩ := h
    refine ⟨a, e, ?_⟩
    rcases f with f | f
    · exact .inl (le.rd _ _ f (fun _ _ z => nomatch z))
    · exact .inr f
theorem Reps.mono {F G : Hp} (le : Le F G) : ∀ (ds : List D) (xs : List V), Reps F ds xs → Reps G ds xs
  | [], _, h => h
  | d :: ds, _, h => by
    obtain ⟨v, r, e, h1, h2⟩ := h
    exact ⟨v, r, e, Rep.mono le d v h1, Reps.mono le ds r h2⟩
end
theorem Reps.length {F : Hp} : ∀ {ds : List D} {xs : List V}, Reps F ds xs → ds.length = xs.length
  | [], xs, h => by
    have e : xs = [] := h
    rw [e] <;> rfl
  | d :: ds, xs, h => by
    obtain ⟨v, r, e, _, h2⟩ := h
    rw [e, List.length_cons, List.length_cons, Reps.length h2]
theorem Reps.get {F : Hp} : ∀ {ds : List D} {xs : List V} {i : Nat} {d : D}, Reps F ds xs → ds[i]? = some d → ∃ v, xs[i]? = some v ∧ Rep F d v
  | [], _, i, d, _, e => by simp at e
  | d :: ds, xs, 0, d', h, e => by
    obtain ⟨v, r, e1, h1, _⟩ := h
    have e2 : d = d' := Option.some.inj e
    subst e2 e1
    exact ⟨v, rfl, h1⟩
  | d :: ds, xs, i + 1, d', h, e => by
    obtain ⟨v, r, e1, _, h2⟩ := h
    subst e1
    have e' : ds[i]? = some d' := e
    obtain ⟨u, hu, ru⟩ := Reps.get (i := i) h2 e'
    exact ⟨u, hu, ru⟩
theorem Reps.get' {F : Hp} {ds : List D} {xs : List V} {i : Nat} {v : V} (h : Reps F ds xs) (e : xs[i]? = some v) : ∃ d, ds[i]? = some d ∧ Rep F d v := by
  have hl := h.length
  have hi : i < ds.length := by
    have := (List.getElem?_eq_some_iff.mp e).1
    omega
  obtain ⟨u, hu, ru⟩ := h.get (List.getElem?_eq_getElem hi)
  rw [e] at hu
  cases hu
  exact ⟨_, List.getElem?_eq_getElem hi, ru⟩
theorem Reps.append {F : Hp} : ∀ {ds es : List D} {xs ys : List V}, Reps F ds xs → Reps F es ys → Reps F (ds ++ es) (xs ++ ys)
  | [], _, xs, _, h, k => by
    have e : xs = [] := h
    subst e
    exact k
  | d :: ds, es, xs, ys, h, k => by
    obtain ⟨v, r, e, h1, h2⟩ := h
    subst e
    exact ⟨v, r ++ ys, rfl, h1, Reps.append h2 k⟩
theorem Reps.snoc {F : Hp} {ds : List D} {xs : List V} {d : D} {v : V} (h : Reps F ds xs) (k : Rep F d v) : Reps F (ds ++ [d]) (xs ++ [v]) := h.append ⟨v, [], rfl, k, rfl⟩
theorem Reps.take {F : Hp} : ∀ (n : Nat) {ds : List D} {xs : List V}, Reps F ds xs → Reps F (ds.take n) (xs.take n)
  | 0, ds, xs, _ => by rw [List.take_zero, List.take_zero] <;> rfl
  | n + 1, [], xs, h => by
    have e : xs = [] := h
    subst e
    rfl
  | n + 1, d :: ds, xs, h => by
    obtain ⟨v, r, e, h1, h2⟩ := h
    subst e
    exact ⟨v, r.take n, rfl, h1, Reps.take n h2⟩
theorem Reps.drop {F : Hp} : ∀ (n : Nat) {ds : List D} {xs : List V}, Reps F ds xs → Reps F (ds.drop n) (xs.drop n)
  | 0, ds, xs, h => h
  | n + 1, [], xs, h => by
    have e : xs = [] := h
    subst e
    rfl
  | n + 1, d :: ds, xs, h => by
    obtain ⟨v, r, e, h1, h2⟩ := h
    subst e
    exact Reps.drop n h2
theorem Reps.set {F : Hp} : ∀ (n : Nat) {ds : List D} {xs : List V} {d : D} {v : V}, Reps F ds xs → Rep F d v → Reps F (ds.set n d) (xs.set n v)
  | _, [], xs, d, v, h, _ => by
    have e : xs = [] := h
    subst e
    rfl
  | 0, d :: ds, xs, d', v', h, k => by
    obtain ⟨v, r, e, h1, h2⟩ := h
    subst e
    exact ⟨v', r, rfl, k, h2⟩
  | n + 1, d :: ds, xs, d', v', h, k => by
    obtain ⟨v, r, e, h1, h2⟩ := h
    subst e
    exact ⟨v, r.set n v', rfl, h1, Reps.set n h2 k⟩
theorem Reps.reverse {F : Hp} : ∀ {ds : List D} {xs : List V}, Reps F ds xs → Reps F ds.reverse xs.reverse
  | [], xs, h => by
    have e : xs = [] := h
    subst e
    rfl
  | d :: ds, xs, h => by
    obtain ⟨v, r, e, h1, h2⟩ := h
    subst e
    rw [List.reverse_cons, List.reverse_cons]
    exact (Reps.reverse h2).snoc h1
mutual
/-- of data without lists only tuples are asked -/
theorem Rep.imm {F G : Hp} (k : ∀ a xs, F a = some (.tup xs) → G a = some (.tup xs)) : ∀ (d : D) (v : V), imm d = true → Rep F d v → Rep G d v
  | .non, _, _, h => h
  | .bl _, _, _, h => h
  | .int _, _, _, h => h
  | .str _, _, _, h => h
  | .tup ds, v, i, h => by
    obtain ⟨a, xs, e, f, r⟩ := h
    exact ⟨a, xs, e, k _ _ f, Reps.imm k ds xs i r⟩
  | .lst ds, v, i, h => by cases i
  | .dT ks ds, v, i, h => by cases i
  | .dK ks ds, v, i, h => by cases i
  | .drw, v, i, h => by cases i
  | .ftup _, v, i, h => by cases i
  | .opq _ _, v, i, h => by cases i
theorem Reps.imm {F G : Hp} (k : ∀ a xs, F a = some (.tup xs) → G a = some (.tup xs)) : ∀ (ds : List D) (xs : List V), imms ds = true → Reps F ds xs → Reps G ds xs
  | [], _, _, h => h
  | d :: ds, _, i, h => by
    obtain ⟨v, r, e, h1, h2⟩ := h
    have i' : (Dn.imm d && imms ds) = true := i
    rw [Bool.and_eq_true] at i'
    exact ⟨v, r, e, Rep.imm k d v i'.1 h1, Reps.imm k ds r i'.2 h2⟩
end
theorem Reps.ints {F : Hp} : ∀ (ns : List Int), Reps F (ns.map D.int) (ns.map V.int)
  | [] => rfl
  | n :: ns => ⟨.int n, ns.map V.int, rfl, rfl, Reps.ints ns⟩
theorem Reps.ints' {F : Hp} : ∀ {ns : List Int} {xs : List V}, Reps F (ns.map D.int) xs → xs = ns.map V.int
  | [], xs, h => h
  | n :: ns, xs, h => by
    obtain ⟨v, r, e, h1, h2⟩ := h
    have h1 : v = .int n := h1
    rw [e, h1, Reps.ints' h2] <;> rfl
theorem Reps.bls' {F : Hp} : ∀ {ns : List Bool} {xs : List V}, Reps F (ns.map D.bl) xs → xs = ns.map V.bl
  | [], xs, h => h
  | n :: ns, xs, h => by
    obtain ⟨v, r, e, h1, h2⟩ := h
    have h1 : v = .bl n := h1
    rw [e, h1, Reps.bls' h2] <;> rfl
/-! ## results: draws, errors -/
structure XD where
  cls : Nat
  field : D
inductive Dr (α : Type) : Type where
  | ret (a : α)
  | fail
  | exc (x : XD)
  | draw (b : Int) (k : Int → Dr α)
def Dr.bind {α β : Type} : Dr α → (α → Dr β) → Dr β
  | .ret a, f => f a
  | .fail, _ => .fail
  | .exc x, _ => .exc x
  | .draw b k, f => .draw b fun r => (k r).bind f
instance : Monad Dr where
  pure := Dr.ret
  bind := Dr.bind
theorem Dr.bind_ret {α β : Type} (a : α) (f : α → Dr β) : (Dr.ret a).bind f = f a := rfl
theorem Dr.bind_fail {α β : Type} (f : α → Dr β) : (Dr.fail : Dr α).bind f = .fail := rfl
theorem Dr.bind_exc {α β : Type} (x : XD) (f : α → Dr β) : (Dr.exc x : Dr α).bind f = .exc x := rfl
theorem Dr.bind_draw {α β : Type} (b : Int) (k : Int → Dr α) (f : α → Dr β) : (Dr.draw b k).bind f = .draw b fun r => (k r).bind f := rfl
theorem Dr.bind_assoc {α β γ : Type} (f : α → Dr β) (g : β → Dr γ) : ∀ t : Dr α, (t.bind f).bind g = t.bind fun a => (f a).bind g
  | .ret a => rfl
  | .fail => rfl
  | .exc x => rfl
  | .draw b k => by
    show Dr.draw b _ = Dr.draw b _
    congr 1
    funext r
    exact Dr.bind_assoc f g (k r)
theorem Dr.bind_pure {α : Type} : ∀ t : Dr α, t.bind Dr.ret = t
  | .ret a => rfl
  | .fail => rfl
  | .exc x => rfl
  | .draw b k => by
    show Dr.draw b _ = Dr.draw b _
    congr 1
    funext r
    exact Dr.bind_pure (k r)
/-- on every way: with room for n draws -/
def AllN {α : Type} (EX : Nat → XD → Prop) : Nat → Dr α → (Nat → α → Prop) → Prop
  | n, .ret a, Q => Q n a
  | _, .fail, _ => False
  | n, .exc x, _ => EX n x
  | n, .draw b k, Q => 0 < b ∧ b < 1073741824 ∧ (0 < n ∧ n ≤ 1152921504606846976) ∧ ∀ r, 0 ≤ r → r < b → AllN EX (n - 1) (k r) Q
theorem AllN.bind {α β : Type} {EX : Nat → XD → Prop} {f : α → Dr β} {Q : Nat → β → Prop} : ∀ {t : Dr α} {n : Nat}, AllN EX n (t.bind f) Q → AllN EX n t (fun n' a => AllN EX n' (f a) Q)
  | .ret a, n, h => h
  | .fail, n, h => h
  | .exc x, n, h => h
  | .draw b k, n, h => by
    obtain ⟨h1, h2, h3, h4⟩ := h
    exact ⟨h1, h2, h3, fun r a b => AllN.bind (h4 r a b)⟩
theorem AllN.bind' {α β : Type} {EX : Nat → XD → Prop} {f : α → Dr β} {Q : Nat → β → Prop} : ∀ {t : Dr α} {n : Nat}, AllN EX n t (fun n' a => AllN EX n' (f a) Q) → AllN EX n (t.bind f) Q
  | .ret a, n, h => h
  | .fail, n, h => h
  | .exc x, n, h => h
  | .draw b k, n, h => by
    obtain ⟨h1, h2, h3, h4⟩ := h
    exact ⟨h1, h2, h3, fun r a b => AllN.bind' (h4 r a b)⟩
theorem AllN.mono {α : Type} {EX EX' : Nat → XD → Prop} {Q Q' : Nat → α → Prop} (hE : ∀ n x, EX n x → EX' n x) (hQ : ∀ n a, Q n a → Q' n a) : ∀ {t : Dr α} {n : Nat}, AllN EX n t Q → AllN EX' n t Q'
  | .ret a, n, h => hQ n a h
  | .fail, n, h => h
  | .exc x, n, h => hE n x h
  | .draw b k, n, h => by
    obtain ⟨h1, h2, h3, h4⟩ := h
    exact ⟨h1, h2, h3, fun r a b => AllN.mono hE hQ (h4 r a b)⟩
/-! ## the frozen part of a heap -/
def kLeft : Key := .inr (Str.ofString "left")
def kSeed : Key := .inr (Str.ofString "seed")
def kCells : Key := .inr (Str.ofString "cells")
def kSpot : Key := .inr (Str.ofString "spot")
/-- at a stands a store of draws with room for n more, its cells at c -/
def DrwOk (n : Nat) (F H : Hp) (a c : Addr) : Prop := ∃ (left seed spot : Int) (cells : List Int),
  H a = some (.dK [(kLeft, .int left), (kSeed, .int seed), (kCells, .ref c), (kSpot, .int spot)]) ∧ F c = some (.lst (cells.map V.int)) ∧ cells ≠ [] ∧ 0 ≤ seed ∧ seed < 2147483648 ∧ 0 ≤ spot ∧ spot + n ≤ 1152921504606846976
/-- F is what stands still of H -/
structure Sb (n : Nat) (F H : Hp) : Prop where
  eq : ∀ a o, F a = some o → NM o → H a = some o
  mr : ∀ a c, F a = some (mark c) → DrwOk n F H a c
structure Ext (G H G' H' : Hp) : Prop where
  gg : ∀ a o, G a = some o → G' a = some o
  fr : ∀ a o, G' a = some o → G a = none → H a = none ∨ ∃ xs, o = .tup xs
  hh : ∀ a o, H a = some o → (∀ c, G a ≠ some (mark c)) → H' a = some o
  dm : ∀ a, H' a = none → H a = none
theorem Ext.refl (G H : Hp) : Ext G H G H := ⟨fun _ _ h => h, fun a o h n => (by rw [n] at h; cases h), fun _ _ h _ => h, fun _ h => h⟩
theorem Ext.trans {G0 H0 G1 H1 G2 H2 : Hp} (x : Ext G0 H0 G1 H1) (y : Ext G1 H1 G2 H2) : Ext G0 H0 G2 H2 where
  gg := fun a o h => y.gg a o (x.gg a o h)
  fr := fun a o h n => by
    cases e : G1 a with
    | none =>
      rcases y.fr a o h e with z | z
      · exact .inl (x.dm a z)
      · exact .inr z
    | some u =>
      have e2 := y.gg a u e
      rw [h] at e2
      cases e2
      exact x.fr a o e n
  hh := fun a o h n => y.hh a o (x.hh a o h n) (fun c z => by
    cases e : G0 a with
    | some u =>
      have e1 := x.gg a u e
      rw [z] at e1
      cases e1
      exact n c e
    | none =>
      rcases x.fr a _ z e with q | ⟨xs, q⟩
      · rw [h] at q
        cases q
      · cases q)
  dm := fun a h => x.dm a (y.dm a h)
theorem Ext.le {G H G' H' : Hp} (x : Ext G H G' H') : Le G G' := Le.of x.gg
theorem DrwOk.mono {n : Nat} {F F' H : Hp} {a c : Addr} (k : ∀ a o, F a = some o → F' a = some o) (h : DrwOk n F H a c) : DrwOk n F' H a c := by
  obtain ⟨l, s, p, cs, h1, h2, r⟩ := h
  exact ⟨l, s, p, cs, h1, k _ _ h2, r⟩
theorem DrwOk.less {n m : Nat} {F H : Hp} {a c : Addr} (k : m ≤ n) (h : DrwOk n F H a c) : DrwOk m F H a c := by
  obtain ⟨l, s, p, cs, h1, h2, h3, h4, h5, h6, h7⟩ := h
  exact ⟨l, s, p, cs, h1, h2, h3, h4, h5, h6, by omega⟩
theorem Sb.tup {n : Nat} {F H : Hp} (s : Sb n F H) {a : Addr} {xs : List V} (h : F a = some (.tup xs)) : H a = some (.tup xs) := s.eq a _ h (fun _ z => nomatch z)
theorem Sb.lst {n : Nat} {F H : Hp} (s : Sb n F H) {a : Addr} {xs : List V} (h : F a = some (.lst xs)) : H a = some (.lst xs) := s.eq a _ h (fun _ z => nomatch z)
theorem Sb.rd {n : Nat} {F H : Hp} (s : Sb n F H) {a : Addr} {u : HO} (h : Rd F a u) (hu : NM u) : Rd H a u := by
  rcases h with h | ⟨o, h⟩
  · exact .inl (s.eq a _ h hu)
  · exact .inr ⟨o, s.eq a _ h (fun _ z => nomatch z)⟩
theorem Sb.sql {n : Nat} {F H : Hp} (s : Sb n F H) {K : PySem.W.Frag} {a : Addr} {xs : List V} (h : F a = some (.lst xs)) : SqL K H a xs := .of (s.lst h)
theorem Sb.sqt {n : Nat} {F H : Hp} (s : Sb n F H) {K : PySem.W.Frag} {a : Addr} {xs : List V} (h : F a = some (.tup xs)) : SqT K H a xs := .of (s.tup h)
theorem Sb.no {n : Nat} {F H : Hp} (s : Sb n F H) {a : Addr} (h : H a = none) : F a = none := by
  cases e : F a with
  | none => rfl
  | some o =>
    by_cases m : ∃ c, o = mark c
    · obtain ⟨c, rfl⟩ := m
      obtain ⟨l, sd, p, cs, h1, _⟩ := s.mr a c e
      rw [h] at h1
      cases h1
    · rw [s.eq a o e fun c z => m ⟨c, z⟩] at h
      cases h
/-- a new object, frozen at once -/
theorem Sb.new {n : Nat} {F H : Hp} (s : Sb n F H) {p : Addr} {o : HO} (hp : H p = none) (ho : NM o) : Sb n (upd F p o) (upd H p o) where
  eq := fun a u h m => by
    by_cases e : a = p
    · subst e
      rw [upd_same] at h ⊢
      exact h
    · rw [upd_ne e] at h ⊢
      exact s.eq a u h m
  mr := fun a c h => by
    by_cases e : a = p
    · subst e
      rw [upd_same] at h
      exact absurd (Option.some.inj h) (ho c)
    · rw [upd_ne e] at h
      obtain ⟨l, sd, q, cs, h1, h2, r⟩ := s.mr a c h
      refine ⟨l, sd, q, cs, ?_, ?_, r⟩
      · rw [upd_ne e]
        exact h1
      · rw [upd_ne (ne_of_none h2 (s.no hp))]
        exact h2
/-- .. not frozen -/
theorem Sb.newO {n : Nat} {F H : Hp} (s : Sb n F H) {p : Addr} {o : HO} (hp : F p = none) : Sb n F (upd H p o) where
  eq := fun a u h m => by
    have q := s.eq a u h m
    rw [upd_ne (ne_of_none h hp)]
    exact q
  mr := fun a c h => by
    obtain ⟨l, sd, q, cs, h1, h2, r⟩ := s.mr a c h
    refine ⟨l, sd, q, cs, ?_, h2, r⟩
    rw [upd_ne (ne_of_none h hp)]
    exact h1
theorem Ext.new {F H : Hp} {p : Addr} {o : HO} (hp : H p = none) (hf : F p = none) : Ext F H (upd F p o) (upd H p o) where
  gg := fun a u h => by
    rw [upd_ne (ne_of_none h hf)]
    exact h
  fr := fun a u h n => by
    by_cases e : a = p
    · subst e
      exact .inl hp
    · rw [upd_ne e, n] at h
      cases h
  hh := fun a u h _ => by
    rw [upd_ne (ne_of_none h hp)]
    exact h
  dm := fun a h => by
    by_cases e : a = p
    · rw [e]
      exact hp
    · rw [upd_ne e] at h
      exact h
theorem Ext.newO {F H : Hp} {p : Addr} {o : HO} (hp : H p = none) : Ext F H F (upd H p o) where
  gg := fun a u h => h
  fr := fun a u h n => by
    rw [n] at h
    cases h
  hh := fun a u h _ => by
    rw [upd_ne (ne_of_none h hp)]
    exact h
  dm := fun a h => by
    by_cases e : a = p
    · rw [e]
      exact hp
    · rw [upd_ne e] at h
      exact h
/-! ## what a reading denotes -/
abbrev Ev := List (Option D)
/-- what an error's leaving tells: its class, its dict, the heap -/
structure Wd where
  E : XK
  XR : XD → PySem.Value → Option Addr → Hp → Prop
def EXof (W : Wd) (F0 H0 : Hp) : Nat → XD → Prop := fun n x => ∀ c d F H, Ext F0 H0 F H → Sb n F H → W.XR x c d H → W.E c d H
structure RE (G : Hp) (ρ : Ev) (σ : L2.St) : Prop where
  len : σ.length = ρ.length
  get : ∀ (i : Nat) (d : D), ρ[i]? = some (some d) → ∃ v, σ[i]? = some (some v) ∧ Rep G d v
theorem RE.mono {G G' : Hp} {ρ : Ev} {σ : L2.St} (le : Le G G') (h : RE G ρ σ) : RE G' ρ σ := ⟨h.len, fun i d e => by
  obtain ⟨v, h1, h2⟩ := h.get i d e
  exact ⟨v, h1, h2.mono le⟩⟩
theorem RE.set {G : Hp} {ρ : Ev} {σ : L2.St} (h : RE G ρ σ) {i : Nat} {d : D} {v : V} (r : Rep G d v) : RE G (ρ.set i (some d)) (σ.set i (some v)) := ⟨by rw [List.length_set, List.length_set, h.len], fun j e q => by
  by_cases c : i = j
  · subst c
    have hl : i < ρ.length := by
      have := (List.getElem?_eq_some_iff.mp q).1
      rwa [List.length_set] at this
    rw [List.getElem?_set_self hl] at q
    cases q
    exact ⟨v, List.getElem?_set_self (by rw [h.len]; exact hl), r⟩
  · rw [List.getElem?_set_ne c] at q ⊢
    exact h.get j e q⟩
/-- the slots of a block's own names forgotten -/
def wipeE (ρ : Ev) : List Nat → Ev
  | [] => ρ
  | v :: vs => (wipeE ρ vs).set v none
theorem RE.wipe {G : Hp} {ρ : Ev} {σ : L2.St} (h : RE G ρ σ) : ∀ vs : List Nat, RE G (wipeE ρ vs) (L2.wipe σ vs)
  | [] => h
  | v :: vs => by
    have ih := RE.wipe h vs
    refine ⟨?_, fun j e q => ?_⟩
    · unfold wipeE L2.wipe
      rw [List.length_set, List.length_set, ih.len]
    · unfold wipeE at q
      unfold L2.wipe
      by_cases c : v = j
      · subst c
        have hl : v < (wipeE ρ vs).length := by
          have := (List.getElem?_eq_some_iff.mp q).1
          rwa [List.length_set] at this
        rw [List.getElem?_set_self hl] at q
        cases q
      · rw [List.getElem?_set_ne c] at q ⊢
        exact ih.get j e q
def Post (G H : Hp) (Q : VK) : Nat → D → Prop := fun n d => ∀ v G' H', Ext G H G' H' → Sb n G' H' → Rep G' d v → Q v H'
theorem Post.ext {G H G1 H1 : Hp} {Q : VK} {n : Nat} {d : D} (x : Ext G H G1 H1) (h : Post G H Q n d) : Post G1 H1 Q n d := fun v G' H' y s r => h v G' H' (x.trans y) s r
/-- a new list or dict, not yet frozen -/
def HoRep (G : Hp) : D → HO → Prop
  | .lst ds, o => ∃ xs, o = .lst xs ∧ Reps G ds xs
  | .dT ks ds, o => ∃ xs, o = .dT ((ks.map (List.map Sum.inl)).zip xs) ∧ ks.length = ds.length ∧ Reps G ds xs
  | .dK ks ds, o => ∃ xs, o = .dK (ks.zip xs) ∧ ks.length = ds.length ∧ Reps G ds xs
  | _, _ => False
theorem HoRep.mono {G G' : Hp} (le : Le G G') : ∀ {d : D} {o : HO}, HoRep G d o → HoRep G' d o
  | .lst ds, o, h => by
    obtain ⟨xs, e, r⟩ := h
    exact ⟨xs, e, r.mono le⟩
  | .dT ks ds, o, h => by
    obtain ⟨xs, e, l, r⟩ := h
    exact ⟨xs, e, l, r.mono le⟩
  | .dK ks ds, o, h => by
    obtain ⟨xs, e, l, r⟩ := h
    exact ⟨xs, e, l, r.mono le⟩
  | .non, _, h => h.elim
  | .bl _, _, h => h.elim
  | .int _, _, h => h.elim
  | .str _, _, h => h.elim
  | .tup _, _, h => h.elim
  | .drw, _, h => h.elim
  | .ftup _, _, h => h.elim
  | .opq _ _, _, h => h.elim
theorem HoRep.unmark {G : Hp} : ∀ {d : D} {o : HO}, HoRep G d o → NM o
  | .lst ds, o, h, _, z => by
    obtain ⟨xs, e, r⟩ := h
    subst z
    cases e
  | .dT ks ds, o, h, _, z => by
    obtain ⟨xs, e, l, r⟩ := h
    subst z
    cases e
  | .dK ks ds, o, h, _, z => by
    obtain ⟨xs, e, l, r⟩ := h
    subst z
    cases e
  | .non, _, h, _, _ => h.elim
  | .bl _, _, h, _, _ => h.elim
  | .int _, _, h, _, _ => h.elim
  | .str _, _, h, _, _ => h.elim
  | .tup _, _, h, _, _ => h.elim
  | .drw, _, h, _, _ => h.elim
  | .ftup _, _, h, _, _ => h.elim
  | .opq _ _, _, h, _, _ => h.elim
theorem HoRep.untup {G : Hp} : ∀ {d : D} {o : HO}, HoRep G d o → ∀ xs, o ≠ .tup xs
  | .lst ds, o, h, ys, z => by
    obtain ⟨xs, e, r⟩ := h
    subst z
    cases e
  | .dT ks ds, o, h, ys, z => by
    obtain ⟨xs, e, l, r⟩ := h
    subst z
    cases e
  | .dK ks ds, o, h, ys, z => by
    obtain ⟨xs, e, l, r⟩ := h
    subst z
    cases e
  | .non, _, h, _, _ => h.elim
  | .bl _, _, h, _, _ => h.elim
  | .int _, _, h, _, _ => h.elim
  | .str _, _, h, _, _ => h.elim
  | .tup _, _, h, _, _ => h.elim
  | .drw, _, h, _, _ => h.elim
  | .ftup _, _, h, _, _ => h.elim
  | .opq _ _, _, h, _, _ => h.elim
/-- .. frozen -/
theorem HoRep.rep {G : Hp} {a : Addr} : ∀ {d : D} {o : HO}, HoRep G d o → G a = some o → Rep G d (.ref a)
  | .lst ds, o, h, g => by
    obtain ⟨xs, e, r⟩ := h
    subst e
    exact ⟨a, xs, rfl, g, r⟩
  | .dT ks ds, o, h, g => by
    obtain ⟨xs, e, l, r⟩ := h
    subst e
    exact ⟨a, xs, rfl, .inl g, l, r⟩
  | .dK ks ds, o, h, g => by
    obtain ⟨xs, e, l, r⟩ := h
    subst e
    exact ⟨a, xs, rfl, .inl g, l, r⟩
  | .non, _, h, _ => h.elim
  | .bl _, _, h, _ => h.elim
  | .int _, _, h, _ => h.elim
  | .str _, _, h, _ => h.elim
  | .tup _, _, h, _ => h.elim
  | .drw, _, h, _ => h.elim
  | .ftup _, _, h, _ => h.elim
  | .opq _ _, _, h, _ => h.elim
def PostN (G H : Hp) (Q : VK) : Nat → D → Prop := fun n d => ∀ a o G' H', Ext G H G' H' → Sb n G' H' → G' a = none → H a = none → H' a = some o → HoRep G' d o → Q (.ref a) H'
theorem PostN.ext {G H G1 H1 : Hp} {Q : VK} {n : Nat} {d : D} (x : Ext G H G1 H1) (h : PostN G H Q n d) : PostN G1 H1 Q n d := fun a o G' H' y s n0 n1 e r => h a o G' H' (x.trans y) s n0 (x.dm a n1) e r
/-- an expression; one whose value is a new list or dict; a test; arguments -/
def DenE (W : Wd) (t : TE) (f : Ev → Dr D) : Prop := ∀ n F0 H0 G H ρ σ Q, Ext F0 H0 G H → RE G ρ σ → Sb n G H → AllN (EXof W F0 H0) n (f ρ) (Post G H Q) → t σ H Q
def DenN (W : Wd) (t : TE) (f : Ev → Dr D) : Prop := ∀ n F0 H0 G H ρ σ Q, Ext F0 H0 G H → RE G ρ σ → Sb n G H → AllN (EXof W F0 H0) n (f ρ) (PostN G H Q) → t σ H Q
def DenT (W : Wd) (t : TT) (f : Ev → Dr Bool) : Prop := ∀ n F0 H0 G H ρ σ (Q : Bool → Hp → Prop), Ext F0 H0 G H → RE G ρ σ → Sb n G H → AllN (EXof W F0 H0) n (f ρ) (fun n' b => ∀ G' H', Ext G H G' H' → Sb n' G' H' → Q b H') → t σ H Q
def DenA (W : Wd) (t : TA) (f : Ev → Dr (List D)) : Prop := ∀ n F0 H0 G H ρ σ (Q : List V → Hp → Prop), Ext F0 H0 G H → RE G ρ σ → Sb n G H → AllN (EXof W F0 H0) n (f ρ) (fun n' ds => ∀ vs G' H', Ext G H G' H' → Sb n' G' H' → Reps G' ds vs → Q vs H') → t σ H Q
/-- an operator, a call, by values -/
def DenR (W : Wd) (r : R2) (f : D → D → Dr D) : Prop := ∀ n F0 H0 G H x y d e (Q : VK), Ext F0 H0 G H → Sb n G H → Rep G d x → Rep G e y → AllN (EXof W F0 H0) n (f d e) (Post G H Q) → r x y H Q
def DenRN (W : Wd) (r : R2) (f : D → D → Dr D) : Prop := ∀ n F0 H0 G H x y d e (Q : VK), Ext F0 H0 G H → Sb n G H → Rep G d x → Rep G e y → AllN (EXof W F0 H0) n (f d e) (PostN G H Q) → r x y H Q
def DenC (W : Wd) (r : List V → Hp → VK → Prop) (f : List D → Dr D) : Prop := ∀ n F0 H0 G H xs ds (Q : VK), Ext F0 H0 G H → Sb n G H → Reps G ds xs → AllN (EXof W F0 H0) n (f ds) (Post G H Q) → r xs H Q
def DenCN (W : Wd) (r : List V → Hp → VK → Prop) (f : List D → Dr D) : Prop := ∀ n F0 H0 G H xs ds (Q : VK), Ext F0 H0 G H → Sb n G H → Reps G ds xs → AllN (EXof W F0 H0) n (f ds) (PostN G H Q) → r xs H Q
def DenU (W : Wd) (r : V → Hp → VK → Prop) (f : D → Dr D) : Prop := ∀ n F0 H0 G H x d (Q : VK), Ext F0 H0 G H → Sb n G H → Rep G d x → AllN (EXof W F0 H0) n (f d) (Post G H Q) → r x H Q
section
variable {W : Wd} {ta tb tc te : TE} {fa fb fc fe : Ev → Dr D} {tt tu : TT} {ft fu : Ev → Dr Bool}
theorem EXof.same {F0 H0 G H : Hp} {n : Nat} {x : XD} (e : Ext F0 H0 G H) (h : EXof W F0 H0 n x) : EXof W G H n x := fun c d F H y s r => h c d F H (e.trans y) s r
/-- a new object is frozen -/
theorem DenN.e (h : DenN W te fe) : DenE W te fe := fun n F0 H0 G H ρ σ Q x re sb al => by
  refine h n F0 H0 G H ρ σ Q x re sb (AllN.mono (fun _ _ z => z) (fun m d p => ?_) al)
  intro a o G' H' y s g0 h0 e r
  have y2 : Ext G H (upd G' a o) H' := ⟨fun b u q => by
      rw [upd_ne (ne_of_none (y.gg b u q) g0)]
      exact y.gg b u q, fun b u q q0 => by
      by_cases z : b = a
      · subst z
        exact .inl h0
      · rw [upd_ne z] at q
        exact y.fr b u q q0, y.hh, y.dm⟩
  have le : Le G' (upd G' a o) := Le.of fun b u q => by
    rw [upd_ne (ne_of_none q g0)]
    exact q
  refine p (.ref a) (upd G' a o) H' y2 ⟨fun b u q m => ?_, fun b c q => ?_⟩ ((r.mono le).rep upd_same)
  · by_cases z : b = a
    · subst z
      rw [upd_same] at q
      cases q
      exact e
    · rw [upd_ne z] at q
      exact s.eq b u q m
  · by_cases z : b = a
    · subst z
      rw [upd_same] at q
      exact absurd (Option.some.inj q) (r.unmark c)
    · rw [upd_ne z] at q
      exact (s.mr b c q).mono fun c u k => by
        rw [upd_ne (ne_of_none k g0)]
        exact k
/-! ### names, constants -/
def gV (i : Nat) : Ev → Dr D := fun ρ => match ρ[i]? with
  | some (some d) => .ret d
  | _ => .fail
theorem den_var (i : Nat) : DenE W (tVar i) (gV i) := fun n F0 H0 G H ρ σ Q x re sb al => by
  unfold gV at al
  split at al
  · rename_i d e
    obtain ⟨v, h1, h2⟩ := re.get i d e
    exact ⟨v, h1, al v G H (Ext.refl G H) sb h2⟩
  · exact al.elim
def gC (d : D) : Ev → Dr D := fun _ => .ret d
theorem den_int (i : Int) : DenE W (tC (.int i)) (gC (.int i)) := fun n F0 H0 G H ρ σ Q x re sb al => al _ G H (Ext.refl G H) sb rfl
theorem den_bl (b : Bool) : DenE W (tC (.bl b)) (gC (.bl b)) := fun n F0 H0 G H ρ σ Q x re sb al => al _ G H (Ext.refl G H) sb rfl
theorem den_str (s : Str) : DenE W (tC (.str s)) (gC (.str s)) := fun n F0 H0 G H ρ σ Q x re sb al => al _ G H (Ext.refl G H) sb rfl
theorem den_non : DenE W (tC .non) (gC .non) := fun n F0 H0 G H ρ σ Q x re sb al => al _ G H (Ext.refl G H) sb rfl
/-! ### two operands, one, calls -/
def g2 (f : D → D → Dr D) (a b : Ev → Dr D) : Ev → Dr D := fun ρ => (a ρ).bind fun x => (b ρ).bind fun y => f x y
theorem den_op {r : R2} {f : D → D → Dr D} (hr : DenR W r f) (ha : DenE W ta fa) (hb : DenE W tb fb) : DenE W (tOp r ta tb) (g2 f fa fb) := fun n F0 H0 G H ρ σ Q x re sb al => by
  refine ha n F0 H0 G H ρ σ _ x re sb (AllN.mono (fun _ _ z => z) (fun m d p => ?_) (AllN.bind al))
  intro v G1 H1 x1 s1 r1
  refine hb m F0 H0 G1 H1 ρ σ _ (x.trans x1) (re.mono x1.le) s1 (AllN.mono (fun _ _ z => z) (fun m2 e p2 => ?_) (AllN.bind p))
  intro w G2 H2 x2 s2 r2
  exact hr m2 F0 H0 G2 H2 v w d e Q ((x.trans x1).trans x2) s2 (r1.mono x2.le) r2 (AllN.mono (fun _ _ z => z) (fun m3 d3 p3 => p3.ext (x1.trans x2)) p2)
theorem den_opN {r : R2} {f : D → D → Dr D} (hr : DenRN W r f) (ha : DenE W ta fa) (hb : DenE W tb fb) : DenN W (tOp r ta tb) (g2 f fa fb) := fun n F0 H0 G H ρ σ Q x re sb al => by
  refine ha n F0 H0 G H ρ σ _ x re sb (AllN.mono (fun _ _ z => z) (fun m d p => ?_) (AllN.bind al))
  intro v G1 H1 x1 s1 r1
  refine hb m F0 H0 G1 H1 ρ σ _ (x.trans x1) (re.mono x1.le) s1 (AllN.mono (fun _ _ z => z) (fun m2 e p2 => ?_) (AllN.bind p))
  intro w G2 H2 x2 s2 r2
  exact hr m2 F0 H0 G2 H2 v w d e Q ((x.trans x1).trans x2) s2 (r1.mono x2.le) r2 (AllN.mono (fun _ _ z => z) (fun m3 d3 p3 => p3.ext (x1.trans x2)) p2)
def g1 (f : D → Dr D) (a : Ev → Dr D) : Ev → Dr D := fun ρ => (a ρ).bind f
theorem den_un {r : V → Hp → VK → Prop} {f : D → Dr D} (hr : DenU W r f) (ha : DenE W ta fa) : DenE W (tUn r ta) (g1 f fa) := fun n F0 H0 G H ρ σ Q x re sb al => by
  refine ha n F0 H0 G H ρ σ _ x re sb (AllN.mono (fun _ _ z => z) (fun m d p => ?_) (AllN.bind al))
  intro v G1 H1 x1 s1 r1
  exact hr m F0 H0 G1 H1 v d Q (x.trans x1) s1 r1 (AllN.mono (fun _ _ z => z) (fun m3 d3 p3 => p3.ext x1) p)
end
end Dn
namespace Dn
open PySem PySem.Spec PyProof.Rows L2
theorem line_of {n : Nat} (h : n ≤ 1000000) : n ≤ sizeLine := Nat.le_trans h (by rw [sizeLine_eq]; decide)
theorem line_lt {n : Nat} (h : n < 1000000) : n < sizeLine := Nat.lt_of_lt_of_le h (by rw [sizeLine_eq]; decide)
theorem AllN.q {α : Type} {EX : Nat → XD → Prop} {Q Q' : Nat → α → Prop} {t : Dr α} {n : Nat} (h : AllN EX n t Q) (hQ : ∀ n a, Q n a → Q' n a) : AllN EX n t Q' := AllN.mono (fun _ _ z => z) hQ h
theorem AllN.ite {α : Type} {EX : Nat → XD → Prop} {Q : Nat → α → Prop} {c : Prop} [Decidable c] {t : Dr α} {n : Nat} (h : AllN EX n (if c then t else .fail) Q) : c ∧ AllN EX n t Q := by
  by_cases k : c
  · rw [if_pos k] at h
    exact ⟨k, h⟩
  · rw [if_neg k] at h
    exact h.elim
section
variable {W : Wd} {ta tb tc te : TE} {fa fb fc fe : Ev → Dr D} {tt tu : TT} {ft fu : Ev → Dr Bool} {tA : TA} {fA : Ev → Dr (List D)}
/-! ### arguments, displays -/
def gNil : Ev → Dr (List D) := fun _ => .ret []
def gCons (f : Ev → Dr D) (g : Ev → Dr (List D)) : Ev → Dr (List D) := fun ρ => (f ρ).bind fun d => (g ρ).bind fun ds => .ret (d :: ds)
theorem den_nil : DenA W tNil gNil := fun n F0 H0 G H ρ σ Q x re sb al => al [] G H (Ext.refl G H) sb rfl
theorem den_cons (h1 : DenE W te fe) (h2 : DenA W tA fA) : DenA W (tCons te tA) (gCons fe fA) := fun n F0 H0 G H ρ σ Q x re sb al => by
  refine h1 n F0 H0 G H ρ σ _ x re sb ((AllN.bind al).q fun m d p => ?_)
  intro v G1 H1 x1 s1 r1
  refine h2 m F0 H0 G1 H1 ρ σ _ (x.trans x1) (re.mono x1.le) s1 ((AllN.bind p).q fun m2 ds p2 => ?_)
  intro vs G2 H2 x2 s2 r2
  exact p2 (v :: vs) G2 H2 (x1.trans x2) s2 ⟨v, vs, rfl, r1.mono x2.le, r2⟩
def gTup (f : Ev → Dr (List D)) : Ev → Dr D := fun ρ => (f ρ).bind fun ds => if ds.length ≤ 1000000 then .ret (.tup ds) else .fail
def gLst (f : Ev → Dr (List D)) : Ev → Dr D := fun ρ => (f ρ).bind fun ds => if ds.length ≤ 1000000 then .ret (.lst ds) else .fail
/-- a new tuple -/
theorem post_tup {G H G1 H1 : Hp} {Q : VK} {n : Nat} {ds : List D} {vs : List V} (p : Post G H Q n (.tup ds)) (x1 : Ext G H G1 H1) (s1 : Sb n G1 H1) (r1 : Reps G1 ds vs) {q : Addr} (hq : H1 q = none) : Q (.ref q) (upd H1 q (.tup vs)) := by
  have e := Ext.new (o := .tup vs) hq (s1.no hq)
  exact p (.ref q) (upd G1 q (.tup vs)) _ (x1.trans e) (s1.new hq (fun _ z => nomatch z)) ⟨q, vs, rfl, upd_same, r1.mono e.le⟩
theorem post_lst {G H G1 H1 : Hp} {Q : VK} {n : Nat} {ds : List D} {vs : List V} (p : PostN G H Q n (.lst ds)) (x1 : Ext G H G1 H1) (s1 : Sb n G1 H1) (r1 : Reps G1 ds vs) {q : Addr} (hq : H1 q = none) : Q (.ref q) (upd H1 q (.lst vs)) :=
  p q (.lst vs) G1 _ (x1.trans (Ext.newO hq)) (s1.newO (s1.no hq)) (s1.no hq) (x1.dm q hq) upd_same ⟨vs, rfl, r1⟩
theorem post_lstF {G H G1 H1 : Hp} {Q : VK} {n : Nat} {ds : List D} {vs : List V} (p : Post G H Q n (.lst ds)) (x1 : Ext G H G1 H1) (s1 : Sb n G1 H1) (r1 : Reps G1 ds vs) {q : Addr} (hq : H1 q = none) : Q (.ref q) (upd H1 q (.lst vs)) := by
  have e := Ext.new (o := .lst vs) hq (s1.no hq)
  exact p (.ref q) (upd G1 q (.lst vs)) _ (x1.trans e) (s1.new hq (fun _ z => nomatch z)) ⟨q, vs, rfl, upd_same, r1.mono e.le⟩
theorem den_tup (h : DenA W tA fA) : DenE W (tTup tA) (gTup fA) := fun n F0 H0 G H ρ σ Q x re sb al => by
  refine h n F0 H0 G H ρ σ _ x re sb ((AllN.bind al).q fun m ds p => ?_)
  intro vs G1 H1 x1 s1 r1
  obtain ⟨hl, p⟩ := p.ite
  exact ⟨by rw [← r1.length]; exact line_of hl, fun q hq => post_tup p x1 s1 r1 hq⟩
theorem den_lst (h : DenA W tA fA) : DenN W (tLst tA) (gLst fA) := fun n F0 H0 G H ρ σ Q x re sb al => by
  refine h n F0 H0 G H ρ σ _ x re sb ((AllN.bind al).q fun m ds p => ?_)
  intro vs G1 H1 x1 s1 r1
  obtain ⟨hl, p⟩ := p.ite
  exact ⟨by rw [← r1.length]; exact line_of hl, fun q hq => post_lst p x1 s1 r1 hq⟩
/-! ### calls -/
def gCall (m : List D → Dr D) (f : Ev → Dr (List D)) : Ev → Dr D := fun ρ => (f ρ).bind m
theorem den_cb {r : List V → Hp → VK → Prop} {m : List D → Dr D} (hr : DenC W r m) (h : DenA W tA fA) : DenE W (tCB r tA) (gCall m fA) := fun n F0 H0 G H ρ σ Q x re sb al => by
  refine h n F0 H0 G H ρ σ _ x re sb ((AllN.bind al).q fun m ds p => ?_)
  intro vs G1 H1 x1 s1 r1
  exact hr m F0 H0 G1 H1 vs ds Q (x.trans x1) s1 r1 (p.q fun m2 d q => q.ext x1)
theorem den_cbN {r : List V → Hp → VK → Prop} {m : List D → Dr D} (hr : DenCN W r m) (h : DenA W tA fA) : DenN W (tCB r tA) (gCall m fA) := fun n F0 H0 G H ρ σ Q x re sb al => by
  refine h n F0 H0 G H ρ σ _ x re sb ((AllN.bind al).q fun m ds p => ?_)
  intro vs G1 H1 x1 s1 r1
  exact hr m F0 H0 G1 H1 vs ds Q (x.trans x1) s1 r1 (p.q fun m2 d q => q.ext x1)
/-- the promise of a def whose answer is m of its arguments; of one whose answer is a new list or dict -/
def spD (XR : XD → PySem.Value → Option Addr → Hp → Prop) (k : Nat) (m : List D → Dr D) : Sp := fun vs H Q E => vs.length = k ∧ ∃ n G ds, Sb n G H ∧ Reps G ds vs ∧ AllN (EXof ⟨E, XR⟩ G H) n (m ds) (Post G H Q)
def spN (XR : XD → PySem.Value → Option Addr → Hp → Prop) (k : Nat) (m : List D → Dr D) : Sp := fun vs H Q E => vs.length = k ∧ ∃ n G ds, Sb n G H ∧ Reps G ds vs ∧ AllN (EXof ⟨E, XR⟩ G H) n (m ds) (PostN G H Q)
def gCallK (k : Nat) (m : List D → Dr D) (f : Ev → Dr (List D)) : Ev → Dr D := fun ρ => (f ρ).bind fun ds => if ds.length = k then m ds else .fail
theorem den_call {k : Nat} {m : List D → Dr D} (h : DenA W tA fA) : DenE W (tCall (spD W.XR k m) [] W.E tA) (gCallK k m fA) := fun n F0 H0 G H ρ σ Q x re sb al => by
  refine h n F0 H0 G H ρ σ _ x re sb ((AllN.bind al).q fun n1 ds p => ?_)
  intro vs G1 H1 x1 s1 r1
  obtain ⟨hl, p⟩ := p.ite
  refine ⟨by rw [List.append_nil, ← r1.length]; exact hl, n1, G1, ds, s1, by rw [List.append_nil]; exact r1, AllN.mono (fun j y z => ?_) (fun m2 d q => q.ext x1) p⟩
  exact EXof.same (x.trans x1) z
theorem den_callN {k : Nat} {m : List D → Dr D} (h : DenA W tA fA) : DenN W (tCall (spN W.XR k m) [] W.E tA) (gCallK k m fA) := fun n F0 H0 G H ρ σ Q x re sb al => by
  refine h n F0 H0 G H ρ σ _ x re sb ((AllN.bind al).q fun n1 ds p => ?_)
  intro vs G1 H1 x1 s1 r1
  obtain ⟨hl, p⟩ := p.ite
  refine ⟨by rw [List.append_nil, ← r1.length]; exact hl, n1, G1, ds, s1, by rw [List.append_nil]; exact r1, AllN.mono (fun j y z => ?_) (fun m2 d q => q.ext x1) p⟩
  exact EXof.same (x.trans x1) z
/-! ### tests -/
def toBl : D → Dr Bool
  | .bl b => .ret b
  | _ => .fail
def gB (f : Ev → Dr D) : Ev → Dr Bool := fun ρ => (f ρ).bind toBl
theorem toBl_ok {EX : Nat → XD → Prop} {n : Nat} {d : D} {Q : Nat → Bool → Prop} (h : AllN EX n (toBl d) Q) : ∃ b, d = .bl b ∧ Q n b := by
  cases d <;> first | exact ⟨_, rfl, h⟩ | exact h.elim
theorem den_test (h : DenE W te fe) : DenT W (tTest te) (gB fe) := fun n F0 H0 G H ρ σ Q x re sb al => by
  refine h n F0 H0 G H ρ σ _ x re sb ((AllN.bind al).q fun n1 d p => ?_)
  intro v G1 H1 x1 s1 r1
  obtain ⟨b, rfl, p⟩ := toBl_ok p
  exact ⟨b, r1, p G1 H1 x1 s1⟩
theorem den_tB (h : DenE W te fe) : DenT W (tB te) (gB fe) := den_test h
def gNot (f : Ev → Dr Bool) : Ev → Dr Bool := fun ρ => (f ρ).bind fun b => .ret (!b)
def gAnd (f g : Ev → Dr Bool) : Ev → Dr Bool := fun ρ => (f ρ).bind fun b => if b = true then g ρ else .ret false
def gOr (f g : Ev → Dr Bool) : Ev → Dr Bool := fun ρ => (f ρ).bind fun b => if b = true then .ret true else g ρ
theorem den_not (h : DenT W tt ft) : DenT W (tNot tt) (gNot ft) := fun n F0 H0 G H ρ σ Q x re sb al => by
  refine h n F0 H0 G H ρ σ _ x re sb ((AllN.bind al).q fun n1 d p => ?_)
  intro G1 H1 x1 s1
  exact p G1 H1 x1 s1
theorem den_and (h : DenT W tt ft) (k : DenT W tu fu) : DenT W (tAnd tt tu) (gAnd ft fu) := fun n F0 H0 G H ρ σ Q x re sb al => by
  refine h n F0 H0 G H ρ σ _ x re sb ((AllN.bind al).q fun n1 b p => ?_)
  intro G1 H1 x1 s1
  cases b with
  | true =>
    rw [if_pos rfl] at p ⊢
    exact k n1 F0 H0 G1 H1 ρ σ Q (x.trans x1) (re.mono x1.le) s1 (p.q fun m c q G2 H2 x2 s2 => q G2 H2 (x1.trans x2) s2)
  | false =>
    rw [if_neg Bool.false_ne_true] at p ⊢
    exact p G1 H1 x1 s1
theorem den_or (h : DenT W tt ft) (k : DenT W tu fu) : DenT W (tOr tt tu) (gOr ft fu) := fun n F0 H0 G H ρ σ Q x re sb al => by
  refine h n F0 H0 G H ρ σ _ x re sb ((AllN.bind al).q fun n1 b p => ?_)
  intro G1 H1 x1 s1
  cases b with
  | false =>
    rw [if_neg Bool.false_ne_true] at p ⊢
    exact k n1 F0 H0 G1 H1 ρ σ Q (x.trans x1) (re.mono x1.le) s1 (p.q fun m c q G2 H2 x2 s2 => q G2 H2 (x1.trans x2) s2)
  | true =>
    rw [if_pos rfl] at p ⊢
    exact p G1 H1 x1 s1
def gYes : Ev → Dr Bool := fun _ => .ret true
theorem den_yes : DenT W tYes gYes := fun n F0 H0 G H ρ σ Q x re sb al => al G H (Ext.refl G H) sb
def gIf (f : Ev → Dr Bool) (a b : Ev → Dr D) : Ev → Dr D := fun ρ => (f ρ).bind fun c => if c = true then a ρ else b ρ
theorem den_if (h : DenT W tt ft) (ha : DenE W ta fa) (hb : DenE W tb fb) : DenE W (tIf tt ta tb) (gIf ft fa fb) := fun n F0 H0 G H ρ σ Q x re sb al => by
  refine h n F0 H0 G H ρ σ _ x re sb ((AllN.bind al).q fun n1 b p => ?_)
  intro G1 H1 x1 s1
  cases b with
  | true =>
    rw [if_pos rfl] at p ⊢
    exact ha n1 F0 H0 G1 H1 ρ σ Q (x.trans x1) (re.mono x1.le) s1 (p.q fun m c q => q.ext x1)
  | false =>
    rw [if_neg Bool.false_ne_true] at p ⊢
    exact hb n1 F0 H0 G1 H1 ρ σ Q (x.trans x1) (re.mono x1.le) s1 (p.q fun m c q => q.ext x1)
/-- .. of bools as values -/
def gAndV (f g : Ev → Dr D) : Ev → Dr D := fun ρ => (f ρ).bind fun d => (toBl d).bind fun b => if b = true then g ρ else .ret (.bl false)
def gOrV (f g : Ev → Dr D) : Ev → Dr D := fun ρ => (f ρ).bind fun d => (toBl d).bind fun b => if b = true then .ret (.bl true) else g ρ
def gNotV (f : Ev → Dr D) : Ev → Dr D := fun ρ => (f ρ).bind fun d => (toBl d).bind fun b => .ret (.bl (!b))
theorem den_andV (h : DenE W ta fa) (k : DenE W tb fb) : DenE W (tAndV ta tb) (gAndV fa fb) := fun n F0 H0 G H ρ σ Q x re sb al => by
  refine h n F0 H0 G H ρ σ _ x re sb ((AllN.bind al).q fun n1 d p => ?_)
  intro v G1 H1 x1 s1 r1
  obtain ⟨b, rfl, p2⟩ := toBl_ok (AllN.bind p)
  refine ⟨b, r1, ?_⟩
  cases b with
  | true =>
    rw [if_pos rfl] at p2 ⊢
    exact k n1 F0 H0 G1 H1 ρ σ Q (x.trans x1) (re.mono x1.le) s1 (p2.q fun m c q => q.ext x1)
  | false =>
    rw [if_neg Bool.false_ne_true] at p2 ⊢
    exact p2 _ G1 H1 x1 s1 rfl
theorem den_orV (h : DenE W ta fa) (k : DenE W tb fb) : DenE W (tOrV ta tb) (gOrV fa fb) := fun n F0 H0 G H ρ σ Q x re sb al => by
  refine h n F0 H0 G H ρ σ _ x re sb ((AllN.bind al).q fun n1 d p => ?_)
  intro v G1 H1 x1 s1 r1
  obtain ⟨b, rfl, p2⟩ := toBl_ok (AllN.bind p)
  refine ⟨b, r1, ?_⟩
  cases b with
  | false =>
    rw [if_neg Bool.false_ne_true] at p2 ⊢
    exact k n1 F0 H0 G1 H1 ρ σ Q (x.trans x1) (re.mono x1.le) s1 (p2.q fun m c q => q.ext x1)
  | true =>
    rw [if_pos rfl] at p2 ⊢
    exact p2 _ G1 H1 x1 s1 rfl
theorem den_notV (h : DenE W ta fa) : DenE W (tNotV ta) (gNotV fa) := fun n F0 H0 G H ρ σ Q x re sb al => by
  refine h n F0 H0 G H ρ σ _ x re sb ((AllN.bind al).q fun n1 d p => ?_)
  intro v G1 H1 x1 s1 r1
  obtain ⟨b, rfl, p⟩ := toBl_ok (AllN.bind p)
  exact ⟨b, r1, p _ G1 H1 x1 s1 rfl⟩
/-! ### targets -/
abbrev Tg := D → Ev → Option Ev
def DenG (g : TG) (t : Tg) (ts : List Nat) : Prop := ∀ n G H ρ σ x d ρ' (Q : L2.St → Hp → Prop), RE G ρ σ → Sb n G H → Rep G d x → t d ρ = some ρ' → (∀ σ', RE G ρ' σ' → (∀ vs, (∀ i, i ∈ ts → i ∈ vs) → L2.wipe σ' vs = L2.wipe σ vs) → Q σ' H) → g x σ H Q
def tgName (i : Nat) : Tg := fun d ρ => some (ρ.set i (some d))
theorem set_comm' {α : Type} (l : List α) (i j : Nat) (a b : α) (h : i ≠ j) : (l.set i a).set j b = (l.set j b).set i a := List.set_comm a b h
theorem wipe_set {σ : L2.St} {i : Nat} {v : Option V} : ∀ {vs : List Nat}, i ∈ vs → L2.wipe (σ.set i v) vs = L2.wipe σ vs
  | [], h => by cases h
  | w :: vs, h => by
    show (L2.wipe (σ.set i v) vs).set w none = (L2.wipe σ vs).set w none
    by_cases k : i ∈ vs
    · rw [wipe_set k]
    · have e : i = w := by
        rcases List.mem_cons.mp h with z | z
        · exact z
        · exact absurd z k
      subst e
      have out : ∀ {us : List Nat}, i ∉ us → L2.wipe (σ.set i v) us = (L2.wipe σ us).set i v := by
        intro us
        induction us with
        | nil => intro _; rfl
        | cons u us ih =>
          intro q
          have q1 : i ≠ u := fun z => q (by rw [z]; exact List.mem_cons_self)
          have q2 : i ∉ us := fun z => q (List.mem_cons_of_mem _ z)
          show (L2.wipe (σ.set i v) us).set u none = ((L2.wipe σ us).set u none).set i v
          rw [ih q2, set_comm' _ _ _ _ _ q1]
      rw [out k, List.set_set]
theorem den_gname (i : Nat) : DenG (gName i) (tgName i) [i] := fun n G H ρ σ x d ρ' Q re sb r e k => by
  cases e
  exact k _ (re.set r) fun vs h => wipe_set (h i List.mem_cons_self)
/-- several names -/
def tgNames : List Nat → List D → Ev → Option Ev
  | [], [], ρ => some ρ
  | i :: is, d :: ds, ρ => tgNames is ds (ρ.set i (some d))
  | _, _, _ => none
def tgTup (is : List Nat) : Tg := fun d ρ => match d with
  | .tup ds => tgNames is ds ρ
  | _ => none
def gNames : List Nat → TGs
  | [] => gNil'
  | i :: is => L2.gCons (gName i) (gNames is)
where gNil' : TGs := L2.gNil
theorem tgNames_len : ∀ {is : List Nat} {ds : List D} {ρ ρ' : Ev}, tgNames is ds ρ = some ρ' → ds.length = is.length
  | [], [], _, _, _ => rfl
  | [], _ :: _, _, _, h => by cases h
  | _ :: _, [], _, _, h => by cases h
  | i :: is, d :: ds, ρ, ρ', h => by
    rw [List.length_cons, List.length_cons, tgNames_len (is := is) (ds := ds) h]
theorem den_gnames : ∀ (is : List Nat) {n G H ρ σ xs ds ρ'} (Q : L2.St → Hp → Prop), RE G ρ σ → Sb n G H → Reps G ds xs → tgNames is ds ρ = some ρ' → (∀ σ', RE G ρ' σ' → (∀ vs, (∀ i, i ∈ is → i ∈ vs) → L2.wipe σ' vs = L2.wipe σ vs) → Q σ' H) → gNames is xs σ H Q
  | [], n, G, H, ρ, σ, xs, ds, ρ', Q, re, sb, r, e, k => by
    cases ds with
    | nil =>
      cases e
      have r' : xs = [] := r
      exact ⟨r', k σ re fun vs _ => rfl⟩
    | cons d ds => cases e
  | i :: is, n, G, H, ρ, σ, xs, ds, ρ', Q, re, sb, r, e, k => by
    cases ds with
    | nil => cases e
    | cons d ds =>
      obtain ⟨v, rs, rfl, r1, r2⟩ := r
      refine ⟨v, rs, rfl, ?_⟩
      show gNames is rs (σ.set i (some v)) H Q
      refine den_gnames is Q (re.set r1) sb r2 e fun σ' re' hw => k σ' re' fun vs hv => ?_
      rw [hw vs fun j hj => hv j (List.mem_cons_of_mem _ hj)]
      exact wipe_set (hv i List.mem_cons_self)
theorem den_gtup {K : PySem.W.Frag} (is : List Nat) {l : Nat} (hl : l = is.length := by rfl) : DenG (L2.gTup K l (gNames is)) (tgTup is) is := fun n G H ρ σ x d ρ' Q re sb r e k => by
  cases d with
  | tup ds =>
    obtain ⟨a, xs, rfl, f, rs⟩ := r
    have e' : tgNames is ds ρ = some ρ' := e
    exact ⟨a, xs, rfl, sb.sqt f, by rw [← rs.length, tgNames_len e', hl], den_gnames is Q re sb rs e' k⟩
  | _ => cases e
end
end Dn
namespace Dn
open PySem PySem.Spec PyProof.Rows L2
/-! ## what is walked -/
/-- J gives the ds, one after another, while G stands still -/
structure WD (J : It) (G : Hp) (ds : List D) : Prop where
  go : ∀ i n G2 H2, i < ds.length → (∀ a o, G a = some o → G2 a = some o) → Sb n G2 H2 → J.go i H2
  stop : ∀ n G2 H2, (∀ a o, G a = some o → G2 a = some o) → Sb n G2 H2 → J.stop ds.length H2
  yld : ∀ i n G2 H2 x H3 d, ds[i]? = some d → (∀ a o, G a = some o → G2 a = some o) → Sb n G2 H2 → J.yld i H2 x H3 → ∃ G3, Ext G2 H2 G3 H3 ∧ Sb n G3 H3 ∧ Rep G3 d x
def DenI (W : Wd) (wi : TI) (f : Ev → Dr (List D)) : Prop := ∀ n F0 H0 G H ρ σ (R : It → Hp → Prop), Ext F0 H0 G H → RE G ρ σ → Sb n G H →
  AllN (EXof W F0 H0) n (f ρ) (fun n' ds => ∀ J G' H', Ext G H G' H' → Sb n' G' H' → WD J G' ds → R J H') → wi σ H R
section
variable {W : Wd} {K : PySem.W.Frag} {ta tb tc te : TE} {fa fb fc fe : Ev → Dr D} {tt tu : TT} {ft fu : Ev → Dr Bool} {tA : TA} {fA : Ev → Dr (List D)}
theorem wd_list {a : Addr} {G : Hp} {xs : List V} {ds : List D} (g : G a = some (.lst xs)) (r : Reps G ds xs) : WD (Itl K a) G ds where
  go := fun i n G2 H2 hi k sb => ⟨xs, xs[i]'(by rw [← r.length]; exact hi), sb.sql (k _ _ g), by simp⟩
  stop := fun n G2 H2 k sb => ⟨xs, sb.sql (k _ _ g), by rw [r.length]; exact Nat.le_refl _⟩
  yld := fun i n G2 H2 x H3 d e k sb y => by
    obtain ⟨rfl, y⟩ := y
    have e2 := y xs (sb.sql (k _ _ g))
    obtain ⟨v, h1, h2⟩ := r.get e
    rw [e2] at h1
    cases h1
    exact ⟨G2, Ext.refl _ _, sb, h2.mono (Le.of k)⟩
theorem Sb.sqtF {n : Nat} {F H : Hp} (s : Sb n F H) {K : PySem.W.Frag} {a : Addr} {o : Obj} {xs : List V} (h : F a = some (.frz o (.tup xs))) : SqT K H a xs := .inl (.inr ⟨o, s.eq a _ h (fun _ z => nomatch z)⟩)
theorem wd_ftup {a : Addr} {o : Obj} {G : Hp} {xs : List V} {ds : List D} (g : G a = some (.frz o (.tup xs))) (r : Reps G ds xs) : WD (Itt K a) G ds where
  go := fun i n G2 H2 hi k sb => ⟨xs, xs[i]'(by rw [← r.length]; exact hi), sb.sqtF (k _ _ g), by simp⟩
  stop := fun n G2 H2 k sb => ⟨xs, sb.sqtF (k _ _ g), by rw [r.length]; exact Nat.le_refl _⟩
  yld := fun i n G2 H2 x H3 d e k sb y => by
    obtain ⟨rfl, y⟩ := y
    have e2 := y xs (sb.sqtF (k _ _ g))
    obtain ⟨v, h1, h2⟩ := r.get e
    rw [e2] at h1
    cases h1
    exact ⟨G2, Ext.refl _ _, sb, h2.mono (Le.of k)⟩
theorem wd_tup {a : Addr} {G : Hp} {xs : List V} {ds : List D} (g : G a = some (.tup xs)) (r : Reps G ds xs) : WD (Itt K a) G ds where
  go := fun i n G2 H2 hi k sb => ⟨xs, xs[i]'(by rw [← r.length]; exact hi), sb.sqt (k _ _ g), by simp⟩
  stop := fun n G2 H2 k sb => ⟨xs, sb.sqt (k _ _ g), by rw [r.length]; exact Nat.le_refl _⟩
  yld := fun i n G2 H2 x H3 d e k sb y => by
    obtain ⟨rfl, y⟩ := y
    have e2 := y xs (sb.sqt (k _ _ g))
    obtain ⟨v, h1, h2⟩ := r.get e
    rw [e2] at h1
    cases h1
    exact ⟨G2, Ext.refl _ _, sb, h2.mono (Le.of k)⟩
def rangeD (lo : Int) (n : Nat) : List D := (List.range n).map fun i : Nat => D.int (lo + (i : Int))
theorem wd_range {lo : Int} {m : Nat} {G : Hp} : WD (Itr lo m) G (rangeD lo m) where
  go := fun i n G2 H2 hi k sb => by
    have e : (rangeD lo m).length = m := by simp [rangeD]
    rw [e] at hi
    exact hi
  stop := fun n G2 H2 k sb => by
    have e : (rangeD lo m).length = m := by simp [rangeD]
    show m ≤ (rangeD lo m).length
    rw [e]
    exact Nat.le_refl _
  yld := fun i n G2 H2 x H3 d e k sb y => by
    obtain ⟨rfl, y⟩ := y
    subst y
    refine ⟨G2, Ext.refl _ _, sb, ?_⟩
    have hi : i < m := by
      have := (List.getElem?_eq_some_iff.mp e).1
      simpa [rangeD] using this
    have e2 : (rangeD lo m)[i]? = some (.int (lo + (i : Int))) := by simp [rangeD, hi]
    rw [e2] at e
    cases e
    rfl
/-- pairs -/
def zipD : List D → List D → List D
  | x :: xs, y :: ys => .tup [x, y] :: zipD xs ys
  | _, _ => []
theorem zipD_get : ∀ {xs ys : List D} {i : Nat} {d : D}, (zipD xs ys)[i]? = some d → ∃ x y, xs[i]? = some x ∧ ys[i]? = some y ∧ d = .tup [x, y]
  | [], _, i, d, h => by simp [zipD] at h
  | _ :: _, [], i, d, h => by simp [zipD] at h
  | x :: xs, y :: ys, 0, d, h => ⟨x, y, rfl, rfl, (Option.some.inj h).symm⟩
  | x :: xs, y :: ys, i + 1, d, h => by
    have h' : (zipD xs ys)[i]? = some d := h
    obtain ⟨a, b, h1, h2, h3⟩ := zipD_get h'
    exact ⟨a, b, h1, h2, h3⟩
theorem zipD_len : ∀ (xs ys : List D), (zipD xs ys).length = min xs.length ys.length
  | [], ys => by simp [zipD]
  | _ :: _, [] => by simp [zipD]
  | x :: xs, y :: ys => by
    show (zipD xs ys).length + 1 = min (xs.length + 1) (ys.length + 1)
    rw [zipD_len xs ys]
    omega
theorem new_pair {n : Nat} {G2 H2 : Hp} (sb : Sb n G2 H2) {T : Addr} {x y : V} {d e : D} (hT : H2 T = none) (r1 : Rep G2 d x) (r2 : Rep G2 e y) : ∃ G3, Ext G2 H2 G3 (upd H2 T (.tup [x, y])) ∧ Sb n G3 (upd H2 T (.tup [x, y])) ∧ Rep G3 (.tup [d, e]) (.ref T) := by
  have ex := Ext.new (o := .tup [x, y]) hT (sb.no hT)
  exact ⟨upd G2 T (.tup [x, y]), ex, sb.new hT (fun _ z => nomatch z), T, [x, y], rfl, upd_same, x, [y], rfl, r1.mono ex.le, y, [], rfl, r2.mono ex.le, rfl⟩
theorem wd_zip {a b : Addr} {G : Hp} {xs ys : List V} {ds es : List D} (g : G a = some (.lst xs)) (r : Reps G ds xs) (g2 : G b = some (.lst ys)) (r2 : Reps G es ys) : WD (Itz K a b) G (zipD ds es) where
  go := fun i n G2 H2 hi k sb => by
    rw [zipD_len] at hi
    exact ⟨xs, ys, xs[i]'(by rw [← r.length]; omega), ys[i]'(by rw [← r2.length]; omega), sb.sql (k _ _ g), sb.sql (k _ _ g2), by simp, by simp⟩
  stop := fun n G2 H2 k sb => ⟨xs, ys, sb.sql (k _ _ g), sb.sql (k _ _ g2), by rw [zipD_len, r.length, r2.length]; omega⟩
  yld := fun i n G2 H2 x H3 d e k sb y => by
    obtain ⟨T, u, v, rfl, hT, rfl, h1, h2⟩ := y
    obtain ⟨d1, d2, e1, e2, rfl⟩ := zipD_get e
    obtain ⟨u', q1, q2⟩ := r.get e1
    obtain ⟨v', q3, q4⟩ := r2.get e2
    have z1 := h1 xs (sb.sql (k _ _ g))
    have z2 := h2 ys (sb.sql (k _ _ g2))
    rw [z1] at q1
    rw [z2] at q3
    cases q1
    cases q3
    exact new_pair sb hT (q2.mono (Le.of k)) (q4.mono (Le.of k))
theorem wd_zipT {a b : Addr} {G : Hp} {xs ys : List V} {ds es : List D} (g : G a = some (.tup xs)) (r : Reps G ds xs) (g2 : G b = some (.tup ys)) (r2 : Reps G es ys) : WD (RZ.ItzT K a b) G (zipD ds es) where
  go := fun i n G2 H2 hi k sb => by
    rw [zipD_len] at hi
    exact ⟨xs, ys, xs[i]'(by rw [← r.length]; omega), ys[i]'(by rw [← r2.length]; omega), sb.sqt (k _ _ g), sb.sqt (k _ _ g2), by simp, by simp⟩
  stop := fun n G2 H2 k sb => ⟨xs, ys, sb.sqt (k _ _ g), sb.sqt (k _ _ g2), by rw [zipD_len, r.length, r2.length]; omega⟩
  yld := fun i n G2 H2 x H3 d e k sb y => by
    obtain ⟨T, u, v, rfl, hT, rfl, h1, h2⟩ := y
    obtain ⟨d1, d2, e1, e2, rfl⟩ := zipD_get e
    obtain ⟨u', q1, q2⟩ := r.get e1
    obtain ⟨v', q3, q4⟩ := r2.get e2
    have z1 := h1 xs (sb.sqt (k _ _ g))
    have z2 := h2 ys (sb.sqt (k _ _ g2))
    rw [z1] at q1
    rw [z2] at q3
    cases q1
    cases q3
    exact new_pair sb hT (q2.mono (Le.of k)) (q4.mono (Le.of k))
def enumD (ds : List D) : List D := zipD (rangeD 0 ds.length) ds
theorem wd_enum {a : Addr} {G : Hp} {xs : List V} {ds : List D} (g : G a = some (.lst xs)) (r : Reps G ds xs) : WD (Ite K a) G (enumD ds) where
  go := fun i n G2 H2 hi k sb => by
    unfold enumD at hi
    rw [zipD_len] at hi
    exact ⟨xs, xs[i]'(by rw [← r.length]; omega), sb.sql (k _ _ g), by simp⟩
  stop := fun n G2 H2 k sb => ⟨xs, sb.sql (k _ _ g), by unfold enumD; rw [zipD_len, ← r.length]; simp [rangeD]⟩
  yld := fun i n G2 H2 x H3 d e k sb y => by
    obtain ⟨T, v, rfl, hT, rfl, h1⟩ := y
    unfold enumD at e
    obtain ⟨d1, d2, e1, e2, rfl⟩ := zipD_get e
    obtain ⟨v', q1, q2⟩ := r.get e2
    have z1 := h1 xs (sb.sql (k _ _ g))
    rw [z1] at q1
    cases q1
    have hi : i < ds.length := (List.getElem?_eq_some_iff.mp e2).1
    have e3 : (rangeD 0 ds.length)[i]? = some (.int (i : Int)) := by simp [rangeD, hi]
    rw [e3] at e1
    cases e1
    exact new_pair sb hT rfl (q2.mono (Le.of k))
/-! ### iterables -/
def itemsD : D → Dr (List D)
  | .lst ds => .ret ds
  | .tup ds => .ret ds
  | .ftup ds => .ret ds
  | _ => .fail
def gItems (f : Ev → Dr D) : Ev → Dr (List D) := fun ρ => (f ρ).bind itemsD
/-- a list or a tuple -/
def iSeq (K : PySem.W.Frag) (tl : TE) : TI := fun σ H R => tl σ H fun x H1 => ∃ a, x = .ref a ∧ (((∃ xs, SqL K H1 a xs) ∧ R (Itl K a) H1) ∨ ((∃ xs, SqT K H1 a xs) ∧ R (Itt K a) H1))
theorem pi_seq {X : Cx} {tg l : Expr} {tl : TE} (hl : PE X l tl) : PI X tg l (iSeq X.K tl) := by
  refine ⟨fun pins s σ H R I h => ?_⟩
  refine thn (hl.run pins s σ H _ I h) fun v s1 ⟨x, H1, I1, r1, q1⟩ => ?_
  obtain ⟨a, e, q1⟩ := q1
  subst e
  cases r1
  rcases q1 with ⟨⟨xs, hq⟩, q⟩ | ⟨⟨xs, hq⟩, q⟩
  · obtain ⟨its, rv, p, hz⟩ := I1.list hq
    refine wpAny_pyIter_list p.isList ?_
    refine ⟨s1.heap.objs.size, [s1.heap.objs.size], _, _, H1, rfl, I1.kept (t' := s1.toks) fun b o e => Heap.get?_push_of_some _ e, turn_list a _, ⟨_, Heap.get?_push_size _ rfl, rfl, rfl⟩, fun b hb => ?_, q⟩
    have e : b = s1.heap.objs.size := by simpa using hb
    subst e
    exact I1.fpOk (Nat.le_refl _) (I1.hok.fresh (Nat.le_refl _))
  · obtain ⟨its, rv, p, hz⟩ := I1.tuple hq
    refine wpAny_pyIter_tuple (show s1.heap.IsTuple a its.toArray from p) ?_
    refine ⟨s1.heap.objs.size, [s1.heap.objs.size], _, _, H1, rfl, I1.kept (t' := s1.toks) fun b o e => Heap.get?_push_of_some _ e, turn_tuple a _, ⟨_, Heap.get?_push_size _ rfl, rfl, rfl⟩, fun b hb => ?_, q⟩
    have e : b = s1.heap.objs.size := by simpa using hb
    subst e
    exact I1.fpOk (Nat.le_refl _) (I1.hok.fresh (Nat.le_refl _))
theorem den_iseq (h : DenE W te fe) : DenI W (iSeq K te) (gItems fe) := fun n F0 H0 G H ρ σ R x re sb al => by
  refine h n F0 H0 G H ρ σ _ x re sb ((AllN.bind al).q fun n1 d p => ?_)
  intro v G1 H1 x1 s1 r1
  cases d with
  | lst ds =>
    obtain ⟨a, xs, rfl, g, r⟩ := r1
    exact ⟨a, rfl, .inl ⟨⟨xs, s1.sql g⟩, p (Itl K a) G1 H1 x1 s1 (wd_list g r)⟩⟩
  | tup ds =>
    obtain ⟨a, xs, rfl, g, r⟩ := r1
    exact ⟨a, rfl, .inr ⟨⟨xs, s1.sqt g⟩, p (Itt K a) G1 H1 x1 s1 (wd_tup g r)⟩⟩
  | ftup ds =>
    obtain ⟨a, o, xs, rfl, g, q, r⟩ := r1
    exact ⟨a, rfl, .inr ⟨⟨xs, s1.sqtF g⟩, p (Itt K a) G1 H1 x1 s1 (wd_ftup g r)⟩⟩
  | _ => exact p.elim
def gRng1 (f : Ev → Dr (List D)) : Ev → Dr (List D) := fun ρ => (f ρ).bind fun ds => match ds with
  | [.int j] => if -1000000 ≤ j ∧ j ≤ 1000000 then .ret (rangeD 0 j.toNat) else .fail
  | _ => .fail
def gRng2 (f : Ev → Dr (List D)) : Ev → Dr (List D) := fun ρ => (f ρ).bind fun ds => match ds with
  | [.int i, .int j] => if (-1000000 ≤ i ∧ i ≤ 1000000) ∧ -1000000 ≤ j ∧ j ≤ 1000000 then .ret (rangeD i (j - i).toNat) else .fail
  | _ => .fail
theorem den_rng1 (h : DenA W tA fA) : DenI W (iRng1 tA) (gRng1 fA) := fun n F0 H0 G H ρ σ R x re sb al => by
  refine h n F0 H0 G H ρ σ _ x re sb ((AllN.bind al).q fun n1 ds p => ?_)
  intro vs G1 H1 x1 s1 r1
  split at p
  · rename_i j
    obtain ⟨v, r, rfl, h1, h2⟩ := r1
    have h1 : v = .int j := h1
    have h2 : r = [] := h2
    subst h1 h2
    obtain ⟨c, p⟩ := p.ite
    exact ⟨j, rfl, by omega, by omega, p _ G1 H1 x1 s1 wd_range⟩
  · exact p.elim
theorem den_rng2 (h : DenA W tA fA) : DenI W (iRng2 tA) (gRng2 fA) := fun n F0 H0 G H ρ σ R x re sb al => by
  refine h n F0 H0 G H ρ σ _ x re sb ((AllN.bind al).q fun n1 ds p => ?_)
  intro vs G1 H1 x1 s1 r1
  split at p
  · rename_i i j
    obtain ⟨v, r, rfl, h1, u, r', rfl, h2, h3⟩ := r1
    have h1 : v = .int i := h1
    have h2 : u = .int j := h2
    have h3 : r' = [] := h3
    subst h1 h2 h3
    obtain ⟨c, p⟩ := p.ite
    exact ⟨i, j, rfl, by omega, p _ G1 H1 x1 s1 wd_range⟩
  · exact p.elim
def gZip (f : Ev → Dr (List D)) : Ev → Dr (List D) := fun ρ => (f ρ).bind fun ds => match ds with
  | [.lst xs, .lst ys] => .ret (zipD xs ys)
  | [.tup xs, .tup ys] => .ret (zipD xs ys)
  | _ => .fail
theorem den_zip (h : DenA W tA fA) : DenI W (RZ.iZipA K tA) (gZip fA) := fun n F0 H0 G H ρ σ R x re sb al => by
  refine h n F0 H0 G H ρ σ _ x re sb ((AllN.bind al).q fun n1 ds p => ?_)
  intro vs G1 H1 x1 s1 r1
  split at p
  · obtain ⟨v, r, rfl, ⟨a, xs, rfl, g1, q1⟩, u, r', rfl, ⟨b, ys, rfl, g2, q2⟩, h3⟩ := r1
    have h3 : r' = [] := h3
    subst h3
    exact ⟨a, b, xs, ys, rfl, .inl ⟨s1.sql g1, s1.sql g2, p _ G1 H1 x1 s1 (wd_zip g1 q1 g2 q2)⟩⟩
  · obtain ⟨v, r, rfl, ⟨a, xs, rfl, g1, q1⟩, u, r', rfl, ⟨b, ys, rfl, g2, q2⟩, h3⟩ := r1
    have h3 : r' = [] := h3
    subst h3
    exact ⟨a, b, xs, ys, rfl, .inr ⟨s1.sqt g1, s1.sqt g2, p _ G1 H1 x1 s1 (wd_zipT g1 q1 g2 q2)⟩⟩
  · exact p.elim
/-! ### comprehensions -/
def lcGo (tg : Tg) (ft : Ev → Dr Bool) (fe : Ev → Dr D) (ρ0 : Ev) : List D → Dr (List D)
  | [] => .ret []
  | d :: ds => match tg d ρ0 with
    | none => .fail
    | some ρ => (ft ρ).bind fun b => if b = true then (fe ρ).bind fun y => (lcGo tg ft fe ρ0 ds).bind fun ys => .ret (y :: ys) else lcGo tg ft fe ρ0 ds
def gLc (fi : Ev → Dr (List D)) (tg : Tg) (ft : Ev → Dr Bool) (fe : Ev → Dr D) (vs : List Nat) : Ev → Dr D := fun ρ => (fi ρ).bind fun ds => if ds.length ≤ 1000000 then (lcGo tg ft fe (wipeE ρ vs) ds).bind fun ys => .ret (.lst ys) else .fail
theorem wipe_twice (σ : L2.St) (vs : List Nat) : L2.wipe (L2.wipe σ vs) vs = L2.wipe σ vs := by
  have key : ∀ us, (∀ i, i ∈ us → i ∈ vs) → L2.wipe (L2.wipe σ us) vs = L2.wipe σ vs := by
    intro us
    induction us with
    | nil => intro _; rfl
    | cons u us ih =>
      intro h
      show L2.wipe ((L2.wipe σ us).set u none) vs = _
      rw [wipe_set (h u List.mem_cons_self)]
      exact ih fun i hi => h i (List.mem_cons_of_mem _ hi)
  exact key vs fun _ h => h
theorem AllN.weak {α β : Type} {EX : Nat → XD → Prop} {t : Dr α} {f : α → β} {n : Nat} {Q : Nat → β → Prop} (h : AllN EX n (t.bind fun a => .ret (f a)) Q) : AllN EX n t (fun m a => Q m (f a)) := AllN.bind h
theorem drop_cons_of {α : Type} {l : List α} {i : Nat} (h : i < l.length) : l.drop i = l[i] :: l.drop (i + 1) := List.drop_eq_getElem_cons h
theorem den_lc {wi : TI} {fi : Ev → Dr (List D)} {g : TG} {tg : Tg} {ts vs : List Nat} (hi : DenI W wi fi) (hg : DenG g tg ts) (hts : ts.all (fun i => vs.contains i) = true) (ht : DenT W tt ft) (he : DenE W te fe) : DenN W (tLc wi g tt te vs) (gLc fi tg ft fe vs) := fun n F0 H0 G H ρ σ Q x re sb al => by
  have hts' : ∀ i, i ∈ ts → i ∈ vs := fun i h => by simpa using List.all_eq_true.mp hts i h
  refine hi n F0 H0 G H ρ σ _ x re sb ((AllN.bind al).q fun n1 ds p => ?_)
  intro J G1 H1 x1 s1 wd L hL
  obtain ⟨hlen, p⟩ := p.ite
  have re1 : RE G1 (wipeE ρ vs) (L2.wipe σ vs) := (re.mono x1.le).wipe vs
  refine ⟨fun i m H2 => m = ds.length - i ∧ i ≤ ds.length ∧ ∃ n2 G2 acc xs, Ext G1 H1 G2 H2 ∧ Sb n2 G2 H2 ∧ G2 L = none ∧ H2 L = some (.lst xs) ∧ Reps G2 acc xs ∧ acc.length ≤ i ∧
      AllN (EXof W F0 H0) n2 (lcGo tg ft fe (wipeE ρ vs) (ds.drop i)) (fun n' ys => PostN G H Q n' (.lst (acc ++ ys))),
    ⟨ds.length, by simp, Nat.zero_le _, n1, G1, [], [], Ext.newO hL, s1.newO (s1.no hL), s1.no hL, upd_same, rfl, Nat.le_refl _, (AllN.bind p).q fun m ys q => q⟩, ?_⟩
  rintro i m H2 ⟨rfl, hile, n2, G2, acc, xs, x2, s2, gl, hl, ra, la, al2⟩
  by_cases hlt : i < ds.length
  · refine .inr ⟨wd.go i n2 G2 H2 hlt x2.gg s2, fun H' => i + 1 ≤ ds.length ∧ ∃ n2 G2 acc xs, Ext G1 H1 G2 H' ∧ Sb n2 G2 H' ∧ G2 L = none ∧ H' L = some (.lst xs) ∧ Reps G2 acc xs ∧ acc.length ≤ i + 1 ∧
      AllN (EXof W F0 H0) n2 (lcGo tg ft fe (wipeE ρ vs) (ds.drop (i + 1))) (fun n' ys => PostN G H Q n' (.lst (acc ++ ys))), fun H' h => ⟨ds.length - (i + 1), by omega, rfl, h.1, h.2⟩, fun v H3 y => ?_⟩
    rw [drop_cons_of hlt] at al2
    have al2 : AllN (EXof W F0 H0) n2 (match tg ds[i] (wipeE ρ vs) with
      | none => .fail
      | some ρ' => (ft ρ').bind fun b => if b = true then (fe ρ').bind fun y => (lcGo tg ft fe (wipeE ρ vs) (ds.drop (i + 1))).bind fun ys => .ret (y :: ys) else lcGo tg ft fe (wipeE ρ vs) (ds.drop (i + 1))) (fun n' ys => PostN G H Q n' (.lst (acc ++ ys))) := al2
    obtain ⟨G3, x3, s3, r3⟩ := wd.yld i n2 G2 H2 v H3 ds[i] (List.getElem?_eq_getElem hlt) x2.gg s2 y
    have gl3 : G3 L = none := by
      cases e : G3 L with
      | none => rfl
      | some o =>
        rcases x3.fr L o e gl with z | ⟨z, q⟩
        · rw [hl] at z
          cases z
        · subst q
          have := s3.tup e
          rw [x3.hh L _ hl (fun c => by rw [gl]; exact nofun)] at this
          cases this
    have hl3 : H3 L = some (.lst xs) := x3.hh L _ hl (fun c => by rw [gl]; exact nofun)
    split at al2
    · exact al2.elim
    · rename_i ρ' eρ
      refine hg n2 G3 H3 (wipeE ρ vs) (L2.wipe σ vs) v ds[i] ρ' _ (re1.mono (x2.trans x3).le) s3 r3 eρ fun σ' re' hw => ?_
      refine ⟨by rw [hw vs hts', wipe_twice], ?_⟩
      refine ht n2 F0 H0 G3 H3 ρ' σ' _ (((x.trans x1).trans x2).trans x3) re' s3 ((AllN.bind al2).q fun n4 b p4 => ?_)
      intro G4 H4 x4 s4
      have stay : ∀ {G4 H4 : Hp} {n4 : Nat}, Ext G3 H3 G4 H4 → Sb n4 G4 H4 → G4 L = none ∧ H4 L = some (.lst xs) := fun {G4 H4 n4} x4 s4 => by
        have h4 : H4 L = some (.lst xs) := x4.hh L _ hl3 (fun c => by rw [gl3]; exact nofun)
        refine ⟨?_, h4⟩
        cases e : G4 L with
        | none => rfl
        | some o =>
          rcases x4.fr L o e gl3 with z | ⟨z, q⟩
          · rw [hl3] at z
            cases z
          · subst q
            have := s4.tup e
            rw [h4] at this
            cases this
      cases b with
      | false =>
        rw [if_neg Bool.false_ne_true] at p4 ⊢
        obtain ⟨g4, h4⟩ := stay x4 s4
        exact ⟨hlt, n4, G4, acc, xs, (x2.trans x3).trans x4, s4, g4, h4, ra.mono (x3.trans x4).le, by omega, p4⟩
      | true =>
        rw [if_pos rfl] at p4 ⊢
        refine he n4 F0 H0 G4 H4 ρ' σ' _ ((((x.trans x1).trans x2).trans x3).trans x4) (re'.mono x4.le) s4 ((AllN.bind p4).q fun n5 d5 p5 => ?_)
        intro w G5 H5 x5 s5 r5
        obtain ⟨g5, h5⟩ := stay (x4.trans x5) s5
        have x15 := (x2.trans x3).trans (x4.trans x5)
        refine ⟨xs, h5, by rw [← ra.length]; exact line_lt (by omega), hlt, n5, G5, acc ++ [d5], xs ++ [w], ?_, ?_, g5, upd_same, (ra.mono (x3.trans (x4.trans x5)).le).snoc r5, by rw [List.length_append]; simpa using la, ?_⟩
        · refine ⟨x15.gg, fun a o e1 e2 => x15.fr a o e1 e2, fun a o e1 e2 => ?_, fun a e1 => ?_⟩
          · rw [upd_ne (ne_of_none e1 hL)]
            exact x15.hh a o e1 e2
          · by_cases c : a = L
            · rw [c]
              exact hL
            · rw [upd_ne c] at e1
              exact x15.dm a e1
        · refine ⟨fun a o e1 e2 => ?_, fun a c e1 => ?_⟩
          · rw [upd_ne (ne_of_none e1 g5)]
            exact s5.eq a o e1 e2
          · obtain ⟨l, sd, q, cs, q1, q2, q3⟩ := s5.mr a c e1
            refine ⟨l, sd, q, cs, ?_, q2, q3⟩
            rw [upd_ne (ne_of_none e1 g5)]
            exact q1
        · refine (AllN.bind p5).q fun n6 ys p6 => ?_
          have p6 : PostN G H Q n6 (.lst (acc ++ d5 :: ys)) := p6
          rw [List.append_assoc]
          exact p6
  · have e : i = ds.length := by omega
    subst e
    refine .inl ⟨wd.stop n2 G2 H2 x2.gg s2, ?_⟩
    rw [List.drop_length] at al2
    have al2 : PostN G H Q n2 (.lst (acc ++ [])) := al2
    rw [List.append_nil] at al2
    exact al2 L (.lst xs) G2 H2 (x1.trans x2) s2 gl (x1.dm L hL) hl ⟨xs, rfl, ra⟩
end
end Dn
namespace L2
open PySem PySem.Spec PyProof.Rows
theorem tuple_mulOne (l : Addr) (items : Array Value) (n : Nat) (dd : Option Addr) (sl : Array (Option Value)) (x : Int) (u : Tok) (c0 : (decide (x < -(2 ^ 63)) || decide (x ≥ 2 ^ 63)) = false) (c1 : (items.isEmpty || x == 1) = true) :
    Meets (Builtin.«tuple.__mul__» ⟨[.ref l, .int x u], []⟩) (fun _ R s => s.heap.get? l = some { cls := .type "tuple", dict := dd, data := .seq items n, slots := sl } ∧
      R (.ok (.ret (Value.ref l))) s) :=
  .of_wp fun prog w A R s h => by
    obtain ⟨hp, g, d, tk, os⟩ := s
    obtain ⟨hl, h⟩ := h
    have f1 := AutoSeq1.idx_int
    wp_walk using wpAny_loadPart' hl
    repeat (first
      | (refine wpAny_ite_false (decide_eq_false (by rw [c0]; exact Bool.false_ne_true)) ?_; wp_walk using wpAny_loadPart' hl)
      | (refine wpAny_ite_true (decide_eq_true c1) ?_; wp_walk using wpAny_loadPart' hl)
      | (refine wpAny_ite_true rfl ?_; wp_walk using wpAny_loadPart' hl))
    exact ⟨_, rfl, h⟩
def rRepT1 (K : PySem.W.Frag) : R2 := fun x y H Q => ∃ l xs, x = .ref l ∧ y = .int 1 ∧ SqT K H l xs ∧ Q (.ref l) H
theorem op_repT1 {X : Cx} : OpR X (binaryOp .Mult) (rRepT1 X.K) := by
  intro pins s σ H x y v u Q I rx ry h
  obtain ⟨l, xs, rfl, rfl, hT, q⟩ := h
  cases rx
  obtain ⟨t, rfl⟩ := ry
  obtain ⟨its, r, ⟨⟨cls, dd, data, sl⟩, ho, hc, n, hd⟩, hs⟩ := I.tuple hT
  simp only at hc hd
  subst hc hd
  refine wpAny_binaryOp_repeat_ref (T := "tuple") (U := "int") (by decide) ⟨_, ho, rfl⟩ (fun s' => typeIs_int s' 1 t) noFill_tuple_mul F.fills_int_mul F.slot_int_rmul repeat_tuple F.slot_int_index.lookup
    (call_meets F.slot_int_rmul (typeIs_int s 1 t) F.entry_int_rmul (F.args_int_rmul_2 _ _) (int_rmul_tuple 1 t l its.toArray n dd sl)
      ⟨ho, rfl, ⟨_, ho, rfl⟩, call_meets F.slot_tuple_mul ⟨_, ho, rfl⟩ F.entry_tuple_mul (F.args_tuple_mul_2 _ _) (tuple_mulOne l its.toArray n dd sl 1 t (by decide) (by simp)) ⟨ho, ?_⟩⟩)
  exact ⟨.ref l, H, I, rfl, q⟩
end L2
namespace Dn
open PySem PySem.Spec PyProof.Rows L2
section
variable {W : Wd} {K : PySem.W.Frag} {ta tb tc te : TE} {fa fb fc fe : Ev → Dr D} {tt tu : TT} {ft fu : Ev → Dr Bool} {tA : TA} {fA : Ev → Dr (List D)}
theorem Post.here {G H : Hp} {Q : VK} {n : Nat} {d : D} {v : V} (p : Post G H Q n d) (sb : Sb n G H) (r : Rep G d v) : Q v H := p v G H (Ext.refl G H) sb r
theorem Post.tup {G H : Hp} {Q : VK} {n : Nat} {ds : List D} {vs : List V} (p : Post G H Q n (.tup ds)) (sb : Sb n G H) (r : Reps G ds vs) {q : Addr} (hq : H q = none) : Q (.ref q) (upd H q (.tup vs)) := post_tup p (Ext.refl G H) sb r hq
theorem Post.lst {G H : Hp} {Q : VK} {n : Nat} {ds : List D} {vs : List V} (p : Post G H Q n (.lst ds)) (sb : Sb n G H) (r : Reps G ds vs) {q : Addr} (hq : H q = none) : Q (.ref q) (upd H q (.lst vs)) := post_lstF p (Ext.refl G H) sb r hq
theorem PostN.lst {G H : Hp} {Q : VK} {n : Nat} {ds : List D} {vs : List V} (p : PostN G H Q n (.lst ds)) (sb : Sb n G H) (r : Reps G ds vs) {q : Addr} (hq : H q = none) : Q (.ref q) (upd H q (.lst vs)) := post_lst p (Ext.refl G H) sb r hq
theorem Reps.nil_iff {F : Hp} {ds : List D} {xs : List V} (r : Reps F ds xs) : xs = [] ↔ ds = [] := by
  have := r.length
  constructor
  · intro e
    rw [e] at this
    exact List.eq_nil_of_length_eq_zero this
  · intro e
    rw [e] at this
    exact List.eq_nil_of_length_eq_zero this.symm
/-! ### + -/
def dAdd : D → D → Dr D
  | .int i, .int j => .ret (.int (i + j))
  | .tup xs, .tup ys => if xs.length + ys.length ≤ 1000000 then .ret (.tup (xs ++ ys)) else .fail
  | .lst xs, .lst ys => if xs.length + ys.length ≤ 1000000 then .ret (.lst (xs ++ ys)) else .fail
  | _, _ => .fail
def rAddU (K : PySem.W.Frag) : R2 := fun x y H Q => rI0 (fun i j => .int (i + j)) x y H Q ∨ (rCatA K x y H Q ∨ rCat x y H Q)
theorem op_addU {X : Cx} : OpR X (binaryOp .Add) (rAddU X.K) := op_add.or (op_catA.or op_cat)
theorem den_addU : DenR W (rAddU K) dAdd := fun n F0 H0 G H x y d e Q ex sb r1 r2 al => by
  unfold dAdd at al
  split at al
  · have r1 : x = .int _ := r1
    have r2 : y = .int _ := r2
    subst r1 r2
    exact .inl ⟨_, _, rfl, rfl, Post.here al sb rfl⟩
  · obtain ⟨a, xs, rfl, g1, q1⟩ := r1
    obtain ⟨b, ys, rfl, g2, q2⟩ := r2
    obtain ⟨hl, p⟩ := al.ite
    have p : Post G H Q n (.tup _) := p
    refine .inr (.inl ⟨a, b, xs, ys, rfl, rfl, sb.sqt g1, sb.sqt g2, by rw [← q1.length, ← q2.length]; exact line_of hl, fun e => ?_, fun e1 e => ?_, fun e1 e2 q hq => ?_⟩)
    · have e' := q1.nil_iff.mp e
      subst e'
      exact p.here sb ⟨b, ys, rfl, g2, q2⟩
    · have e' := q2.nil_iff.mp e
      subst e'
      rw [List.append_nil] at p
      exact p.here sb ⟨a, xs, rfl, g1, q1⟩
    · exact p.tup sb (q1.append q2) hq
  · obtain ⟨a, xs, rfl, g1, q1⟩ := r1
    obtain ⟨b, ys, rfl, g2, q2⟩ := r2
    obtain ⟨hl, p⟩ := al.ite
    have p : Post G H Q n (.lst _) := p
    exact .inr (.inr ⟨a, b, xs, ys, rfl, rfl, sb.lst g1, sb.lst g2, by rw [← q1.length, ← q2.length]; exact line_of hl, fun q hq => p.lst sb (q1.append q2) hq⟩)
  · exact al.elim
def dCat : D → D → Dr D
  | .lst xs, .lst ys => if xs.length + ys.length ≤ 1000000 then .ret (.lst (xs ++ ys)) else .fail
  | _, _ => .fail
theorem den_catN : DenRN W rCat dCat := fun n F0 H0 G H x y d e Q ex sb r1 r2 al => by
  unfold dCat at al
  split at al
  · obtain ⟨a, xs, rfl, g1, q1⟩ := r1
    obtain ⟨b, ys, rfl, g2, q2⟩ := r2
    obtain ⟨hl, p⟩ := al.ite
    have p : PostN G H Q n (.lst _) := p
    exact ⟨a, b, xs, ys, rfl, rfl, sb.lst g1, sb.lst g2, by rw [← q1.length, ← q2.length]; exact line_of hl, fun q hq => p.lst sb (q1.append q2) hq⟩
  · exact al.elim
/-! ### - * // % and their like -/
def dI2 (f : Int → Int → Dr D) : D → D → Dr D
  | .int i, .int j => f i j
  | _, _ => .fail
theorem den_I0 {g : Int → Int → V} {gd : Int → Int → D} (h : ∀ i j G, Rep G (gd i j) (g i j)) : DenR W (rI0 g) (dI2 fun i j => .ret (gd i j)) := fun n F0 H0 G H x y d e Q ex sb r1 r2 al => by
  unfold dI2 at al
  split at al
  · have r1 : x = .int _ := r1
    have r2 : y = .int _ := r2
    subst r1 r2
    exact ⟨_, _, rfl, rfl, Post.here al sb (h _ _ G)⟩
  · exact al.elim
theorem den_I {C : Int → Int → Prop} [∀ i j, Decidable (C i j)] {g : Int → Int → V} {gd : Int → Int → D} (h : ∀ i j G, Rep G (gd i j) (g i j)) : DenR W (rI C g) (dI2 fun i j => if C i j then .ret (gd i j) else .fail) := fun n F0 H0 G H x y d e Q ex sb r1 r2 al => by
  unfold dI2 at al
  split at al
  · have r1 : x = .int _ := r1
    have r2 : y = .int _ := r2
    subst r1 r2
    obtain ⟨c, p⟩ := al.ite
    exact ⟨_, _, rfl, rfl, c, Post.here p sb (h _ _ G)⟩
  · exact al.elim
def dSub : D → D → Dr D := dI2 fun i j => .ret (.int (i - j))
theorem den_sub : DenR W (rI0 fun i j => .int (i - j)) dSub := den_I0 fun _ _ _ => rfl
instance : ∀ i j, Decidable (CMul i j) := fun i j => by unfold CMul; infer_instance
instance : ∀ i j, Decidable (CDiv i j) := fun i j => by unfold CDiv; infer_instance
instance : ∀ i j, Decidable (CDivN i j) := fun i j => by unfold CDivN; infer_instance
def dFdiv : D → D → Dr D := dI2 fun i j => if CDiv i j then .ret (.int (i / j)) else .fail
theorem den_fdiv : DenR W (rI CDiv fun i j => .int (i / j)) dFdiv := den_I fun _ _ _ => rfl
def dFdivN : D → D → Dr D := dI2 fun i j => if CDivN i j then .ret (.int (i.fdiv j)) else .fail
theorem den_fdivN : DenR W (rI CDivN fun i j => .int (i.fdiv j)) dFdivN := den_I fun _ _ _ => rfl
def dMod : D → D → Dr D := dI2 fun i j => if 0 < j then .ret (.int (i % j)) else .fail
theorem den_mod : DenR W (rI (fun _ j => 0 < j) fun i j => .int (i % j)) dMod := den_I (C := fun _ j => 0 < j) fun _ _ _ => rfl
def dMul : D → D → Dr D
  | .int i, .int j => if CMul i j then .ret (.int (i * j)) else .fail
  | .tup xs, .int k => if xs ≠ [] ∧ (1 ≤ k ∧ k ≤ 1000) ∧ xs.length ≤ 1000 then .ret (.tup (List.replicate k.toNat xs).flatten) else .fail
  | _, _ => .fail
def rMulU (K : PySem.W.Frag) : R2 := fun x y H Q => rI CMul (fun i j => .int (i * j)) x y H Q ∨ (rRepT K x y H Q ∨ rRepT1 K x y H Q)
theorem op_mulU {X : Cx} : OpR X (binaryOp .Mult) (rMulU X.K) := op_mul.or (op_repT.or op_repT1)
theorem Reps.rep {F : Hp} {ds : List D} {xs : List V} (r : Reps F ds xs) : ∀ k, Reps F (List.replicate k ds).flatten (List.replicate k xs).flatten
  | 0 => rfl
  | k + 1 => by
    rw [List.replicate_succ, List.replicate_succ, List.flatten_cons, List.flatten_cons]
    exact r.append (Reps.rep r k)
theorem den_mulU : DenR W (rMulU K) dMul := fun n F0 H0 G H x y d e Q ex sb r1 r2 al => by
  unfold dMul at al
  split at al
  · have r1 : x = .int _ := r1
    have r2 : y = .int _ := r2
    subst r1 r2
    obtain ⟨c, p⟩ := al.ite
    exact .inl ⟨_, _, rfl, rfl, c, Post.here p sb rfl⟩
  · rename_i ds k
    have r2 : y = .int _ := r2
    subst r2
    obtain ⟨a, xs, rfl, g1, q1⟩ := r1
    obtain ⟨⟨hne, hk, hz⟩, p⟩ := al.ite
    have p : Post G H Q n (.tup _) := p
    by_cases k1 : k = 1
    · subst k1
      have e1 : (List.replicate (Int.toNat 1) ds).flatten = ds := by
        show (List.replicate 1 ds).flatten = ds
        simp
      rw [e1] at p
      exact .inr (.inr ⟨a, xs, rfl, rfl, sb.sqt g1, p.here sb ⟨a, xs, rfl, g1, q1⟩⟩)
    · exact .inr (.inl ⟨a, k, xs, rfl, rfl, sb.sqt g1, fun e => hne (q1.nil_iff.mp e), by omega, hk.2, by rw [← q1.length]; exact hz, fun q hq => p.tup sb (q1.rep _) hq⟩)
  · exact al.elim
def dNeg : D → Dr D
  | .int i => .ret (.int (-i))
  | _ => .fail
theorem den_neg : DenU W (rU fun i => .int (-i)) dNeg := fun n F0 H0 G H x d Q ex sb r1 al => by
  cases d with
  | int i =>
    have r1 : x = .int _ := r1
    subst r1
    exact ⟨_, rfl, Post.here al sb rfl⟩
  | _ => exact al.elim
/-! ### comparisons -/
def dLt : D → D → Dr D := dI2 fun i j => .ret (.bl (decide (i < j)))
def dLe : D → D → Dr D := dI2 fun i j => .ret (.bl (decide (i ≤ j)))
def dGt : D → D → Dr D := dI2 fun i j => .ret (.bl (decide (j < i)))
def dGe : D → D → Dr D := dI2 fun i j => .ret (.bl (decide (j ≤ i)))
theorem den_lt : DenR W (rI0 fun i j => .bl (decide (i < j))) dLt := den_I0 fun _ _ _ => rfl
theorem den_le : DenR W (rI0 fun i j => .bl (decide (i ≤ j))) dLe := den_I0 fun _ _ _ => rfl
theorem den_gt : DenR W (rI0 fun i j => .bl (decide (j < i))) dGt := den_I0 fun _ _ _ => rfl
theorem den_ge : DenR W (rI0 fun i j => .bl (decide (j ≤ i))) dGe := den_I0 fun _ _ _ => rfl
mutual
def toPy : D → Option PyData
  | .non => some .none
  | .bl b => some (.bool b)
  | .int i => some (.int i)
  | .str s => some (.str s)
  | .tup ds => (toPys ds).map PyData.tuple
  | .lst ds => (toPys ds).map PyData.list
  | _ => none
def toPys : List D → Option (List PyData)
  | [] => some []
  | d :: ds => match toPy d, toPys ds with
    | some p, some ps => some (p :: ps)
    | _, _ => none
end
mutual
theorem Rep.dp {n : Nat} {G H : Hp} (sb : Sb n G H) : ∀ (d : D) (v : V) (p : PyData), toPy d = some p → Rep G d v → Dp K H v p
  | .non, v, p, e, r => by
    cases e
    have r : v = .non := r
    rw [r]
    exact .non
  | .bl b, v, p, e, r => by
    cases e
    have r : v = .bl b := r
    rw [r]
    exact .bl b
  | .int i, v, p, e, r => by
    cases e
    have r : v = .int i := r
    rw [r]
    exact .int i
  | .str s, v, p, e, r => by
    cases e
    have r : v = .str s := r
    rw [r]
    exact .str s
  | .tup ds, v, p, e, r => by
    obtain ⟨a, xs, rfl, g, q⟩ := r
    have e' : (toPys ds).map PyData.tuple = some p := e
    obtain ⟨ps, e1, rfl⟩ := Option.map_eq_some_iff.mp e'
    exact .tup (sb.sqt g) (Reps.dp sb ds xs ps e1 q)
  | .lst ds, v, p, e, r => by
    obtain ⟨a, xs, rfl, g, q⟩ := r
    have e' : (toPys ds).map PyData.list = some p := e
    obtain ⟨ps, e1, rfl⟩ := Option.map_eq_some_iff.mp e'
    exact .lst (sb.sql g) (Reps.dp sb ds xs ps e1 q)
  | .dT _ _, v, p, e, r => by cases e
  | .dK _ _, v, p, e, r => by cases e
  | .drw, v, p, e, r => by cases e
  | .ftup _, v, p, e, r => by cases e
  | .opq _ _, v, p, e, r => by cases e
theorem Reps.dp {n : Nat} {G H : Hp} (sb : Sb n G H) : ∀ (ds : List D) (xs : List V) (ps : List PyData), toPys ds = some ps → Reps G ds xs → DpAll K H xs ps
  | [], xs, ps, e, r => by
    cases e
    have r : xs = [] := r
    rw [r]
    exact .nil
  | d :: ds, xs, ps, e, r => by
    obtain ⟨v, rs, rfl, r1, r2⟩ := r
    have e' : (match toPy d, toPys ds with
      | some p, some ps => some (p :: ps)
      | _, _ => none) = some ps := e
    cases e1 : toPy d with
    | none =>
      rw [e1] at e'
      cases e'
    | some p =>
      cases e2 : toPys ds with
      | none =>
        rw [e1, e2] at e'
        cases e'
      | some qs =>
        rw [e1, e2] at e'
        cases e'
        exact .cons (Rep.dp sb d v p e1 r1) (Reps.dp sb ds rs qs e2 r2)
end
def dEqv (d e : D) : Dr Bool := match toPy d, toPy e with
  | some p, some q => if SeqAt.shaped p = true ∧ SeqAt.shaped q = true then .ret (PyData.eqv p q) else .fail
  | _, _ => .fail
def dEq (d e : D) : Dr D := (dEqv d e).bind fun b => .ret (.bl b)
def dNe (d e : D) : Dr D := (dEqv d e).bind fun b => .ret (.bl (!b))
theorem dEqv_ok {EX : Nat → XD → Prop} {n : Nat} {d e : D} {Q : Nat → Bool → Prop} (h : AllN EX n (dEqv d e) Q) : ∃ p q, toPy d = some p ∧ toPy e = some q ∧ SeqAt.shaped p = true ∧ SeqAt.shaped q = true ∧ Q n (PyData.eqv p q) := by
  unfold dEqv at h
  split at h
  · rename_i p q e1 e2
    obtain ⟨c, h⟩ := h.ite
    exact ⟨p, q, e1, e2, c.1, c.2, h⟩
  · exact h.elim
theorem den_eq : DenR W (rEqD K) dEq := fun n F0 H0 G H x y d e Q ex sb r1 r2 al => by
  obtain ⟨p, q, e1, e2, s1, s2, h⟩ := dEqv_ok (AllN.bind al)
  exact ⟨p, q, r1.dp sb _ _ _ e1, r2.dp sb _ _ _ e2, s1, s2, Post.here h sb rfl⟩
theorem den_ne : DenR W (rNeD K) dNe := fun n F0 H0 G H x y d e Q ex sb r1 r2 al => by
  obtain ⟨p, q, e1, e2, s1, s2, h⟩ := dEqv_ok (AllN.bind al)
  exact ⟨p, q, r1.dp sb _ _ _ e1, r2.dp sb _ _ _ e2, s1, s2, Post.here h sb rfl⟩
/-- in, not in: a list -/
def dInL (d e : D) : Dr Bool := match toPy d, e with
  | some p, .lst es => match toPys es with
    | some qs => if SeqAt.shaped p = true ∧ SeqAt.shaped (.list qs) = true then .ret (qs.any fun z => PyData.eqv z p) else .fail
    | none => .fail
  | _, _ => .fail
theorem dInL_ok {EX : Nat → XD → Prop} {n : Nat} {d e : D} {Q : Nat → Bool → Prop} (h : AllN EX n (dInL d e) Q) : ∃ p qs, toPy d = some p ∧ toPy e = some (.list qs) ∧ SeqAt.shaped p = true ∧ SeqAt.shaped (.list qs) = true ∧ Q n (qs.any fun z => PyData.eqv z p) := by
  unfold dInL at h
  split at h
  · rename_i p es e1
    split at h
    · rename_i qs e2
      obtain ⟨c, h⟩ := h.ite
      exact ⟨p, qs, e1, by show (toPys es).map PyData.list = _; rw [e2] <;> rfl, c.1, c.2, h⟩
    · exact h.elim
  · exact h.elim
def dIn (d e : D) : Dr D := (dInL d e).bind fun b => .ret (.bl b)
def dNotIn (d e : D) : Dr D := (dInL d e).bind fun b => .ret (.bl (!b))
theorem den_in : DenR W (rInD K) dIn := fun n F0 H0 G H x y d e Q ex sb r1 r2 al => by
  obtain ⟨p, q, e1, e2, s1, s2, h⟩ := dInL_ok (AllN.bind al)
  exact ⟨p, q, r1.dp sb _ _ _ e1, r2.dp sb _ _ _ e2, s1, s2, Post.here h sb rfl⟩
theorem den_notIn : DenR W (rNotInD K) dNotIn := fun n F0 H0 G H x y d e Q ex sb r1 r2 al => by
  obtain ⟨p, q, e1, e2, s1, s2, h⟩ := dInL_ok (AllN.bind al)
  exact ⟨p, q, r1.dp sb _ _ _ e1, r2.dp sb _ _ _ e2, s1, s2, Post.here h sb rfl⟩
/-- is None -/
def dIsN (d : D) : Bool := match d with
  | .non => true
  | _ => false
theorem Rep.non_iff {G : Hp} : ∀ {d : D} {v : V}, Rep G d v → decide (v = .non) = dIsN d
  | .non, v, r => by
    have r : v = .non := r
    subst r
    rfl
  | .bl _, v, r => by
    have r : v = .bl _ := r
    subst r
    rfl
  | .int _, v, r => by
    have r : v = .int _ := r
    subst r
    rfl
  | .str _, v, r => by
    have r : v = .str _ := r
    subst r
    rfl
  | .tup _, v, r => by
    obtain ⟨a, xs, rfl, _⟩ := r
    rfl
  | .lst _, v, r => by
    obtain ⟨a, xs, rfl, _⟩ := r
    rfl
  | .dT _ _, v, r => by
    obtain ⟨a, xs, rfl, _⟩ := r
    rfl
  | .dK _ _, v, r => by
    obtain ⟨a, xs, rfl, _⟩ := r
    rfl
  | .drw, v, r => by
    obtain ⟨a, c, rfl, _⟩ := r
    rfl
  | .ftup _, v, r => by
    obtain ⟨a, c, xs, rfl, _⟩ := r
    rfl
  | .opq _ _, v, r => by
    obtain ⟨a, rfl, _⟩ := r
    rfl
def gIsN (f : Ev → Dr D) : Ev → Dr D := fun ρ => (f ρ).bind fun d => .ret (.bl (dIsN d))
def gNotN (f : Ev → Dr D) : Ev → Dr D := fun ρ => (f ρ).bind fun d => .ret (.bl (!dIsN d))
theorem den_isN (h : DenE W te fe) : DenE W (tIsN te) (gIsN fe) := fun n F0 H0 G H ρ σ Q x re sb al => by
  refine h n F0 H0 G H ρ σ _ x re sb ((AllN.bind al).q fun m d p => ?_)
  intro v G1 H1 x1 s1 r1
  rw [r1.non_iff]
  exact p _ G1 H1 x1 s1 rfl
theorem den_notN (h : DenE W te fe) : DenE W (tNotN te) (gNotN fe) := fun n F0 H0 G H ρ σ Q x re sb al => by
  refine h n F0 H0 G H ρ σ _ x re sb ((AllN.bind al).q fun m d p => ?_)
  intro v G1 H1 x1 s1 r1
  rw [r1.non_iff]
  exact p _ G1 H1 x1 s1 rfl
/-- a chain of two comparisons -/
def gChain (f g : D → D → Dr D) (a b c : Ev → Dr D) : Ev → Dr D := fun ρ => (a ρ).bind fun x => (b ρ).bind fun y => (f x y).bind fun z => (toBl z).bind fun k => if k = true then (c ρ).bind fun w => g y w else .ret (.bl false)
theorem den_chain {r r' : R2} {f g : D → D → Dr D} (hr : DenR W r f) (hr' : DenR W r' g) (ha : DenE W ta fa) (hb : DenE W tb fb) (hc : DenE W tc fc) : DenE W (tChain r r' ta tb tc) (gChain f g fa fb fc) := fun n F0 H0 G H ρ σ Q x re sb al => by
  refine ha n F0 H0 G H ρ σ _ x re sb ((AllN.bind al).q fun m d p => ?_)
  intro v G1 H1 x1 s1 r1
  refine hb m F0 H0 G1 H1 ρ σ _ (x.trans x1) (re.mono x1.le) s1 ((AllN.bind p).q fun m2 e p2 => ?_)
  intro w G2 H2 x2 s2 r2
  refine hr m2 F0 H0 G2 H2 v w d e _ ((x.trans x1).trans x2) s2 (r1.mono x2.le) r2 ((AllN.bind p2).q fun m3 z p3 => ?_)
  intro u G3 H3 x3 s3 r3
  obtain ⟨b, rfl, p4⟩ := toBl_ok (AllN.bind p3)
  refine ⟨b, r3, ?_⟩
  have x13 := (x1.trans x2).trans x3
  cases b with
  | true =>
    rw [if_pos rfl] at p4 ⊢
    refine hc m3 F0 H0 G3 H3 ρ σ _ (x.trans x13) (re.mono x13.le) s3 ((AllN.bind p4).q fun m4 e4 p5 => ?_)
    intro w4 G4 H4 x4 s4 r4
    exact hr' m4 F0 H0 G4 H4 w w4 e e4 Q ((x.trans x13).trans x4) s4 (r2.mono (x3.trans x4).le) r4 (p5.q fun _ _ q => q.ext (x13.trans x4))
  | false =>
    rw [if_neg Bool.false_ne_true] at p4 ⊢
    exact p4 _ G3 H3 x13 s3 rfl
end
end Dn
namespace L2
open PySem PySem.Spec PyProof.Rows
/-! ### sums, greatest, least: of a list or a tuple of ints -/
section
variable {X : Cx}
def SqI (K : PySem.W.Frag) (H : Hp) (a : Addr) (xs : List V) : Prop := SqL K H a xs ∨ SqT K H a xs
theorem reads_ints {h : Heap} : ∀ {us : List Value} {ns : List Int}, IntsAre us ns → ∃ as, ReadsAll h us (ns.map PyData.int) as
  | _, _, .nil => ⟨_, .nil⟩
  | _, _, .cons n t r => by
    obtain ⟨as, q⟩ := reads_ints (h := h) r
    exact ⟨_, .cons (.int n t) q⟩
theorem alike_intsA (ns : List Int) : PySem.W.AlikeAll (ns.map PyData.int) := by
  refine ⟨fun x hx y hy => ?_, fun x hx => ?_⟩
  · obtain ⟨a, _, rfl⟩ := List.mem_map.mp hx
    obtain ⟨b, _, rfl⟩ := List.mem_map.mp hy
    simp [PySem.W.alike]
  · obtain ⟨a, _, rfl⟩ := List.mem_map.mp hx
    exact nofun
theorem reads_int {h : Heap} {v : Value} {i : Int} {as : List Addr} (r : Reads h v (.int i) as) : ∃ t, v = .int i t := by
  cases r
  exact ⟨_, rfl⟩
def rMaxI (K : PySem.W.Frag) : List V → Hp → VK → Prop := fun vs H Q => ∃ (a : Addr) (m : Int) (ns : List Int), vs = [V.ref a] ∧ SqI K H a ((m :: ns).map V.int) ∧ Q (.int (ns.foldl max m)) H
def rMinI (K : PySem.W.Frag) : List V → Hp → VK → Prop := fun vs H Q => ∃ (a : Addr) (m : Int) (ns : List Int), vs = [V.ref a] ∧ SqI K H a ((m :: ns).map V.int) ∧ Q (.int (ns.foldl min m)) H
theorem cr_maxI (hc : X.calm = true) (hu : X.A.units + 64 < cLine) : CallR X (.builtin "max") (rMaxI X.K) := by
  intro pins s σ H vs us Q I r h
  obtain ⟨a, m, ns, rfl, hs, q⟩ := h
  rw [Vals.ref1 r]
  have hd : X.A.units + 1 + PyData.depthAll (PyData.int m :: ns.map PyData.int) < cLine := by
    have := PySem.W.depth_ints (m :: ns)
    rw [List.map_cons] at this
    rw [this]
    omega
  rcases hs with hs | hs
  · obtain ⟨its, rv, hl, _⟩ := I.list hs
    obtain ⟨as, hr⟩ := reads_ints (h := s.heap) rv.ints
    refine PySem.W.max_list_data (I.ok.hd hc) hl.isList (vs := its.toArray) (x := .int m) (xs := ns.map PyData.int) (as := as) (by simpa using hr) (by simpa using alike_intsA (m :: ns)) hd fun i v h' tk bs hv rd hk => ?_
    rw [PySem.W.maxD_ints] at rd
    obtain ⟨t, rfl⟩ := reads_int rd
    exact ⟨.int _, H, I.kept hk, ⟨_, rfl⟩, q⟩
  · obtain ⟨its, rv, hl, _⟩ := I.tuple hs
    obtain ⟨as, hr⟩ := reads_ints (h := s.heap) rv.ints
    refine PySem.W.max_tuple_data (I.ok.hd hc) (show s.heap.IsTuple a its.toArray from hl) (x := .int m) (xs := ns.map PyData.int) (as := as) (by simpa using hr) (by simpa using alike_intsA (m :: ns)) hd fun i v h' tk bs hv rd hk => ?_
    rw [PySem.W.maxD_ints] at rd
    obtain ⟨t, rfl⟩ := reads_int rd
    exact ⟨.int _, H, I.kept hk, ⟨_, rfl⟩, q⟩
theorem cr_minI (hc : X.calm = true) (hu : X.A.units + 64 < cLine) : CallR X (.builtin "min") (rMinI X.K) := by
  intro pins s σ H vs us Q I r h
  obtain ⟨a, m, ns, rfl, hs, q⟩ := h
  rw [Vals.ref1 r]
  have hd : X.A.units + 1 + PyData.depthAll (PyData.int m :: ns.map PyData.int) < cLine := by
    have := PySem.W.depth_ints (m :: ns)
    rw [List.map_cons] at this
    rw [this]
    omega
  rcases hs with hs | hs
  · obtain ⟨its, rv, hl, _⟩ := I.list hs
    obtain ⟨as, hr⟩ := reads_ints (h := s.heap) rv.ints
    refine PySem.W.min_list_data (I.ok.hd hc) hl.isList (vs := its.toArray) (x := .int m) (xs := ns.map PyData.int) (as := as) (by simpa using hr) (by simpa using alike_intsA (m :: ns)) hd fun i v h' tk bs hv rd hk => ?_
    rw [PySem.W.minD_ints] at rd
    obtain ⟨t, rfl⟩ := reads_int rd
    exact ⟨.int _, H, I.kept hk, ⟨_, rfl⟩, q⟩
  · obtain ⟨its, rv, hl, _⟩ := I.tuple hs
    obtain ⟨as, hr⟩ := reads_ints (h := s.heap) rv.ints
    refine PySem.W.min_tuple_data (I.ok.hd hc) (show s.heap.IsTuple a its.toArray from hl) (x := .int m) (xs := ns.map PyData.int) (as := as) (by simpa using hr) (by simpa using alike_intsA (m :: ns)) hd fun i v h' tk bs hv rd hk => ?_
    rw [PySem.W.minD_ints] at rd
    obtain ⟨t, rfl⟩ := reads_int rd
    exact ⟨.int _, H, I.kept hk, ⟨_, rfl⟩, q⟩
theorem iter_tupP {prog : Program} {w : World} {A : Around} {E : Value → Shared → Prop} {s : Shared} {l : Addr} {items : Array Value} {Q : Value → Shared → Prop} (hl : s.heap.IsTuple l items)
    (h : ∀ s₂ : Shared, s₂ = { s with heap := s.heap.push { cls := .type "tuple_iterator", data := .fields #[.ref l, .int 0 0] } } →
      (s₂.heap.IsTupleIter s.heap.objs.size l 0 ∧ s₂.heap.IsTuple l items) → l ≠ s.heap.objs.size → l < s.heap.objs.size → Q (.ref s.heap.objs.size) s₂) : wpAny (model prog w) A (pyIter (.ref l)) Q E s := by
  have hlt : l < s.heap.objs.size := by obtain ⟨_, e, _⟩ := hl; exact Heap.lt_size e
  exact wpAny_pyIter_tuple hl (h _ rfl ⟨⟨_, Heap.get?_push_size _ rfl, rfl, rfl⟩, hl.push _⟩ (Nat.ne_of_lt hlt) hlt)
def rSumI (K : PySem.W.Frag) : List V → Hp → VK → Prop := fun vs H Q => ∃ (a : Addr) (ns : List Int), vs = [V.ref a] ∧ SqI K H a (ns.map V.int) ∧ Q (.int ns.sum) H
theorem preSum_ints (ns : List Int) : ∀ k, k ≤ ns.length → preSum (fun i => ns.getD i 0) k = (ns.take k).sum
  | 0, _ => by simp [preSum]
  | k + 1, h => by
    have ih := preSum_ints ns k (by omega)
    have hk : ns[k]? = some ns[k] := List.getElem?_eq_getElem h
    rw [sum_take hk, ← ih]
    show preSum (fun i => ns.getD i 0) k + ns.getD k 0 = _
    rw [List.getD_eq_getElem?_getD, hk] <;> rfl
theorem cr_sumI (hc : X.calm = true) : CallR X (.builtin "sum") (rSumI X.K) := by
  intro pins s σ H vs us Q I r h
  obtain ⟨a, ns, rfl, hs, q⟩ := h
  rcases hs with hs | hs
  · exact cr_sum hc pins s σ H _ us Q I r ⟨a, ns, rfl, hs, q⟩
  · rw [Vals.ref1 r]
    obtain ⟨its, rv, hl, _⟩ := I.tuple hs
    have hl : s.heap.IsTuple a its.toArray := hl
    refine call_sum_walkG (iter_tupP hl fun s₂ e2 st hne hlt => ?_)
    subst e2
    refine ⟨_, _, _, _, _, _, fun i => ns.getD i 0, rfl, Walks.tuple (A := X.A.in1) (I.ok.hd hc) _ a hne its.toArray, st, fun b hb => ?_, fun i v hv => ?_, fun h' tk t' hk => ?_⟩
    · show b < (s.heap.push _).objs.size
      rw [Heap.size_push]
      rcases List.mem_cons.mp hb with e | hb
      · rw [e]
        exact Nat.lt_succ_self _
      · rcases List.mem_cons.mp hb with e | hb
        · rw [e]
          exact Nat.lt_succ_of_lt hlt
        · cases hb
    · have hv' : its[i]? = some v := by simpa using hv
      have hn : its.length = ns.length := by rw [← rv.length, List.length_map]
      have hi : i < ns.length := by
        have := (List.getElem?_eq_some_iff.mp hv').1
        omega
      have hx : (ns.map V.int)[i]? = some (.int ns[i]) := by
        rw [List.getElem?_map, List.getElem?_eq_getElem hi]
        rfl
      obtain ⟨u, h1, h2⟩ := rv.get hx
      rw [hv'] at h1
      cases h1
      obtain ⟨t, rfl⟩ := h2
      refine ⟨t, ?_⟩
      show Value.int ns[i] t = Value.int (ns.getD i 0) t
      rw [List.getD_eq_getElem?_getD, List.getElem?_eq_getElem hi] <;> rfl
    · refine ⟨.int _, H, I.kept fun b o eo => hk b o (fun hmem => ?_) (Heap.get?_push_of_some _ eo), ⟨_, rfl⟩, ?_⟩
      · rcases List.mem_cons.mp hmem with e1 | hmem
        · exact absurd (e1 ▸ Heap.lt_size eo) (Nat.lt_irrefl _)
        · cases hmem
      · have hn : its.toArray.size = ns.length := by rw [List.size_toArray, ← rv.length, List.length_map]
        rw [hn, preSum_ints ns _ (Nat.le_refl _), List.take_length]
        exact q
/-! ### sorted of a list of data -/
theorem dps_each {pins : List (Addr × Obj)} {s : Shared} {σ : L2.St} {H : Hp} (I : Inv X pins σ H s) : ∀ {xs : List V} {us : List Value} {ps : List PyData}, Vals xs us → DpAll X.K H xs ps →
    PySem.W.EachIs (fun v (b : V × PyData) => RelV b.1 v) us (xs.zip ps) ∧ PySem.W.EachIs (fun v (b : V × PyData) => ∃ as, Reads s.heap v b.2 as) us (xs.zip ps)
  | _, _, _, .nil, .nil => ⟨.nil, .nil⟩
  | _, _, _, .cons r1 r2, .cons d1 d2 => by
    obtain ⟨h1, h2⟩ := dps_each I r2 d2
    obtain ⟨as, q⟩ := Dp.reads I _ _ _ d1 r1
    exact ⟨.cons r1 h1, .cons ⟨as, q⟩ h2⟩
theorem each_vals : ∀ {out : List Value} {bs : List (V × PyData)}, PySem.W.EachIs (fun v (b : V × PyData) => RelV b.1 v) out bs → Vals (bs.map Prod.fst) out
  | _, _, .nil => .nil
  | _, _, .cons h t => .cons h (each_vals t)
/-- all comparable, and of one of the kinds that the sort takes -/
def SortOk (ps : List PyData) : Prop := PySem.W.AllAlike ps ∧ PySem.W.Sortable ps ∧ ∀ p ∈ ps, p.depth ≤ 32
def rSortedD (K : PySem.W.Frag) : List V → Hp → VK → Prop := fun vs H Q => ∃ (a : Addr) (xs : List V) (ps : List PyData), vs = [V.ref a] ∧ SqL K H a xs ∧ DpAll K H xs ps ∧ xs.length = ps.length ∧ SortOk ps ∧
  ∀ p, H p = none → Q (.ref p) (upd H p (.lst (((xs.zip ps).mergeSort (PySem.W.dataLe false Prod.snd)).map Prod.fst)))
theorem cr_sortedD (hu : X.A.units + 64 < cLine) : CallR X (.builtin "sorted") (rSortedD X.K) := by
  intro pins s σ H vs us Q I r h
  obtain ⟨a, xs, ps, rfl, hs, dp, hlen, ⟨h1, h2, h3⟩, q⟩ := h
  obtain ⟨its, rv, hl, hz⟩ := I.list hs
  rw [Vals.ref1 r]
  obtain ⟨e1, e2⟩ := dps_each I rv dp
  have em : (xs.zip ps).map Prod.snd = ps := by rw [List.map_snd_zip (Nat.le_of_eq hlen.symm)]
  have zl : (xs.zip ps).length = xs.length := by rw [List.length_zip, ← hlen, Nat.min_self]
  refine PySem.W.sorted_data (enc := Prod.snd) hl.isList e1 e2 (by rw [em]; exact h1) (by rw [em]; exact h2) (by rw [zl]; exact hz) (fun b hb => ?_) fun out ho eo => ?_
  · have hb2 : b.2 ∈ ps := by
      rw [← em]
      exact List.mem_map_of_mem hb
    have := h3 _ hb2
    omega
  · obtain ⟨ep, he'⟩ := PyProof.Rows.sortedAll_at s.heap its out.toArray
    have rv2 := each_vals eo
    have hlen2 : (((xs.zip ps).mergeSort (PySem.W.dataLe false Prod.snd)).map Prod.fst).length ≤ sizeLine := by
      rw [List.length_map, List.length_mergeSort, zl]
      exact hz
    exact ⟨.ref _, upd H (s.heap.objs.size + 1) (.lst _), I.laid (t' := s.toks) (fun _ _ => PyProof.Rows.sortedAll_old) (Nat.le_succ _) ⟨hlen2, out, ep, rv2, he'⟩, rfl, q _ (I.hok.fresh (Nat.le_succ _))⟩
end
end L2
namespace Dn
open PySem PySem.Spec PyProof.Rows L2
section
variable {W : Wd} {K : PySem.W.Frag} {ta tb tc te : TE} {fa fb fc fe : Ev → Dr D} {tt tu : TT} {ft fu : Ev → Dr Bool} {tA : TA} {fA : Ev → Dr (List D)}
/-! ### items -/
theorem atI_rep {G : Hp} {ds : List D} {xs : List V} {i : Int} {d : D} (r : Reps G ds xs) (h : atI ds i = some d) : ∃ v, atI xs i = some v ∧ Rep G d v := by
  unfold atI at h ⊢
  rw [r.length] at h
  cases e : ixN xs.length i with
  | none =>
    rw [e] at h
    cases h
  | some j =>
    rw [e] at h
    exact r.get (i := j) h
def dIx : D → D → Dr D
  | .lst ds, .int i => match atI ds i with
    | some d => .ret d
    | none => .fail
  | .tup ds, .int i => match atI ds i with
    | some d => .ret d
    | none => .fail
  | _, _ => .fail
theorem den_ix : DenR W (rIx K) dIx := fun n F0 H0 G H x y d e Q ex sb r1 r2 al => by
  unfold dIx at al
  split at al
  · rename_i ds i
    have r2 : y = .int _ := r2
    subst r2
    obtain ⟨a, xs, rfl, g, r⟩ := r1
    split at al
    · rename_i d h
      obtain ⟨v, h1, h2⟩ := atI_rep r h
      exact .inl ⟨a, xs, i, v, rfl, rfl, sb.sql g, h1, Post.here al sb h2⟩
    · exact al.elim
  · rename_i ds i
    have r2 : y = .int _ := r2
    subst r2
    obtain ⟨a, xs, rfl, g, r⟩ := r1
    split at al
    · rename_i d h
      obtain ⟨v, h1, h2⟩ := atI_rep r h
      exact .inr (.inl ⟨a, xs, i, v, rfl, rfl, sb.sqt g, h1, Post.here al sb h2⟩)
    · exact al.elim
  · exact al.elim
/-! ### slices -/
def DenO (W : Wd) (t : TO) (f : Ev → Dr (Option Int)) : Prop := ∀ n F0 H0 G H ρ σ (Q : Option Int → Hp → Prop), Ext F0 H0 G H → RE G ρ σ → Sb n G H → AllN (EXof W F0 H0) n (f ρ) (fun n' o => ∀ G' H', Ext G H G' H' → Sb n' G' H' → Q o H') → t σ H Q
def gNoPart : Ev → Dr (Option Int) := fun _ => .ret none
def toInt : D → Dr Int
  | .int i => .ret i
  | _ => .fail
theorem toInt_ok {EX : Nat → XD → Prop} {n : Nat} {d : D} {Q : Nat → Int → Prop} (h : AllN EX n (toInt d) Q) : ∃ b, d = .int b ∧ Q n b := by
  cases d <;> first | exact ⟨_, rfl, h⟩ | exact h.elim
def gPart (f : Ev → Dr D) : Ev → Dr (Option Int) := fun ρ => (f ρ).bind fun d => (toInt d).bind fun i => .ret (some i)
theorem den_noPart : DenO W tNoPart gNoPart := fun n F0 H0 G H ρ σ Q x re sb al => al G H (Ext.refl G H) sb
theorem den_part (h : DenE W te fe) : DenO W (tPart te) (gPart fe) := fun n F0 H0 G H ρ σ Q x re sb al => by
  refine h n F0 H0 G H ρ σ _ x re sb ((AllN.bind al).q fun m d p => ?_)
  intro v G1 H1 x1 s1 r1
  obtain ⟨i, rfl, p⟩ := toInt_ok (AllN.bind p)
  exact ⟨i, r1, p G1 H1 x1 s1⟩
def cutD (ds : List D) (lo hi : Option Int) : List D := (ds.drop (HT.sIx ds.length 0 lo)).take (HT.sIx ds.length ds.length hi - HT.sIx ds.length 0 lo)
def dSl (d : D) (lo hi : Option Int) : Dr D := match d with
  | .tup ds => .ret (.tup (cutD ds lo hi))
  | .lst ds => .ret (.lst (cutD ds lo hi))
  | _ => .fail
def gSl (f : Ev → Dr D) (l h : Ev → Dr (Option Int)) : Ev → Dr D := fun ρ => (f ρ).bind fun d => (l ρ).bind fun lo => (h ρ).bind fun hi => dSl d lo hi
def rSlU (K : PySem.W.Frag) : V → Option Int → Option Int → Hp → VK → Prop := fun x lo hi H Q => rSlA K x lo hi H Q ∨ rSlL K x lo hi H Q
theorem sl_U {X : Cx} : SlR X (rSlU X.K) := sl_tupA.or sl_list
theorem cut_rep {G : Hp} {ds : List D} {xs : List V} (r : Reps G ds xs) (lo hi : Option Int) : Reps G (cutD ds lo hi) (cutV xs lo hi) := by
  unfold cutD cutV
  rw [r.length]
  exact (r.drop _).take _
theorem cut_whole {ds : List D} {lo hi : Option Int} (h : HT.sIx ds.length 0 lo = 0 ∧ HT.sIx ds.length ds.length hi = ds.length) : cutD ds lo hi = ds := by
  unfold cutD
  rw [h.1, h.2]
  simp
theorem den_sl {tl th : TO} {fl fh : Ev → Dr (Option Int)} (h : DenE W te fe) (hl : DenO W tl fl) (hh : DenO W th fh) : DenE W (tSl (rSlU K) te tl th) (gSl fe fl fh) := fun n F0 H0 G H ρ σ Q x re sb al => by
  refine h n F0 H0 G H ρ σ _ x re sb ((AllN.bind al).q fun m d p => ?_)
  intro v G1 H1 x1 s1 r1
  refine hl m F0 H0 G1 H1 ρ σ _ (x.trans x1) (re.mono x1.le) s1 ((AllN.bind p).q fun m2 lo p2 => ?_)
  intro G2 H2 x2 s2
  refine hh m2 F0 H0 G2 H2 ρ σ _ ((x.trans x1).trans x2) (re.mono (x1.trans x2).le) s2 ((AllN.bind p2).q fun m3 hi p3 => ?_)
  intro G3 H3 x3 s3
  have x13 := (x1.trans x2).trans x3
  have r3 := r1.mono (x2.trans x3).le
  unfold dSl at p3
  split at p3
  · have p3 : Post G H Q m3 (.tup _) := p3
    obtain ⟨a, xs, rfl, g, r⟩ := r3
    refine .inl ⟨a, xs, rfl, s3.sqt g, fun e => ?_, fun e q hq => ?_⟩
    · rw [← r.length] at e
      rw [cut_whole e] at p3
      exact p3 _ G3 H3 x13 s3 ⟨a, xs, rfl, g, r⟩
    · exact post_tup p3 x13 s3 (cut_rep r lo hi) hq
  · have p3 : Post G H Q m3 (.lst _) := p3
    obtain ⟨a, xs, rfl, g, r⟩ := r3
    exact .inr ⟨a, xs, rfl, s3.sql g, fun q hq => post_lstF p3 x13 s3 (cut_rep r lo hi) hq⟩
  · exact p3.elim
def gSlN (f : Ev → Dr D) (l h : Ev → Dr (Option Int)) : Ev → Dr D := fun ρ => (f ρ).bind fun d => (l ρ).bind fun lo => (h ρ).bind fun hi => match d with
  | .lst ds => .ret (.lst (cutD ds lo hi))
  | _ => .fail
theorem den_slN {tl th : TO} {fl fh : Ev → Dr (Option Int)} (h : DenE W te fe) (hl : DenO W tl fl) (hh : DenO W th fh) : DenN W (tSl (rSlL K) te tl th) (gSlN fe fl fh) := fun n F0 H0 G H ρ σ Q x re sb al => by
  refine h n F0 H0 G H ρ σ _ x re sb ((AllN.bind al).q fun m d p => ?_)
  intro v G1 H1 x1 s1 r1
  refine hl m F0 H0 G1 H1 ρ σ _ (x.trans x1) (re.mono x1.le) s1 ((AllN.bind p).q fun m2 lo p2 => ?_)
  intro G2 H2 x2 s2
  refine hh m2 F0 H0 G2 H2 ρ σ _ ((x.trans x1).trans x2) (re.mono (x1.trans x2).le) s2 ((AllN.bind p2).q fun m3 hi p3 => ?_)
  intro G3 H3 x3 s3
  have x13 := (x1.trans x2).trans x3
  have r3 := r1.mono (x2.trans x3).le
  split at p3
  · have p3 : PostN G H Q m3 (.lst _) := p3
    obtain ⟨a, xs, rfl, g, r⟩ := r3
    exact ⟨a, xs, rfl, s3.sql g, fun q hq => post_lst p3 x13 s3 (cut_rep r lo hi) hq⟩
  · exact p3.elim
def gRevL (f : Ev → Dr D) : Ev → Dr D := fun ρ => (f ρ).bind fun d => match d with
  | .lst ds => .ret (.lst ds.reverse)
  | _ => .fail
theorem den_revL (h : DenE W te fe) : DenN W (tRevL K te) (gRevL fe) := fun n F0 H0 G H ρ σ Q x re sb al => by
  refine h n F0 H0 G H ρ σ _ x re sb ((AllN.bind al).q fun m d p => ?_)
  intro v G1 H1 x1 s1 r1
  split at p
  · have p : PostN G H Q m (.lst _) := p
    obtain ⟨a, xs, rfl, g, r⟩ := r1
    exact ⟨a, xs, rfl, s1.sql g, fun q hq => post_lst p x1 s1 r.reverse hq⟩
  · exact p.elim
/-! ### built-in calls -/
theorem Reps.one {G : Hp} {d : D} {xs : List V} (r : Reps G [d] xs) : ∃ v, xs = [v] ∧ Rep G d v := by
  obtain ⟨v, r', rfl, h1, h2⟩ := r
  have h2 : r' = [] := h2
  subst h2
  exact ⟨v, rfl, h1⟩
theorem Reps.two {G : Hp} {d e : D} {xs : List V} (r : Reps G [d, e] xs) : ∃ v u, xs = [v, u] ∧ Rep G d v ∧ Rep G e u := by
  obtain ⟨v, r', rfl, h1, h2⟩ := r
  obtain ⟨u, rfl, h3⟩ := Reps.one h2
  exact ⟨v, u, rfl, h1, h3⟩
def dLen : List D → Dr D
  | [.lst ds] => .ret (.int ds.length)
  | [.tup ds] => .ret (.int ds.length)
  | _ => .fail
def rLenQ (K : PySem.W.Frag) : List V → Hp → VK → Prop := fun xs H Q => ∃ p ys, xs = [.ref p] ∧ (SqL K H p ys ∨ SqT K H p ys) ∧ Q (.int ys.length) H
theorem den_len : DenC W (rLenQ K) dLen := fun n F0 H0 G H xs ds Q ex sb r al => by
  unfold dLen at al
  split at al
  · obtain ⟨v, rfl, h⟩ := r.one
    obtain ⟨a, xs, rfl, g, r⟩ := h
    exact ⟨a, xs, rfl, .inl (sb.sql g), Post.here al sb (by rw [← r.length] <;> rfl)⟩
  · obtain ⟨v, rfl, h⟩ := r.one
    obtain ⟨a, xs, rfl, g, r⟩ := h
    exact ⟨a, xs, rfl, .inr (sb.sqt g), Post.here al sb (by rw [← r.length] <;> rfl)⟩
  · exact al.elim
def dTupleOf : List D → Dr D
  | [.lst ds] => .ret (.tup ds)
  | [.tup ds] => .ret (.tup ds)
  | _ => .fail
def rTupleOf (K : PySem.W.Frag) : List V → Hp → VK → Prop := fun xs H Q => ∃ p ys, xs = [.ref p] ∧ ((SqL K H p ys ∧ ∀ l, H l = none → Q (.ref l) (upd H l (.tup ys))) ∨ (SqT K H p ys ∧ Q (.ref p) H))
theorem den_tupleOf : DenC W (rTupleOf K) dTupleOf := fun n F0 H0 G H xs ds Q ex sb r al => by
  unfold dTupleOf at al
  split at al
  · obtain ⟨v, rfl, h⟩ := r.one
    obtain ⟨a, xs, rfl, g, r⟩ := h
    have al : Post G H Q n (.tup _) := al
    exact ⟨a, xs, rfl, .inl ⟨sb.sql g, fun l hl => al.tup sb r hl⟩⟩
  · obtain ⟨v, rfl, h⟩ := r.one
    obtain ⟨a, xs, rfl, g, r⟩ := h
    exact ⟨a, xs, rfl, .inr ⟨sb.sqt g, Post.here al sb ⟨a, xs, rfl, g, r⟩⟩⟩
  · exact al.elim
def dListOf : List D → Dr D
  | [.lst ds] => .ret (.lst ds)
  | [.tup ds] => .ret (.lst ds)
  | _ => .fail
def rListOf (K : PySem.W.Frag) : List V → Hp → VK → Prop := fun xs H Q => ∃ p ys, xs = [.ref p] ∧ (SqL K H p ys ∨ SqT K H p ys) ∧ ∀ l, H l = none → Q (.ref l) (upd H l (.lst ys))
theorem den_listOf : DenCN W (rListOf K) dListOf := fun n F0 H0 G H xs ds Q ex sb r al => by
  unfold dListOf at al
  split at al
  · obtain ⟨v, rfl, h⟩ := r.one
    obtain ⟨a, xs, rfl, g, r⟩ := h
    have al : PostN G H Q n (.lst _) := al
    exact ⟨a, xs, rfl, .inl (sb.sql g), fun l hl => al.lst sb r hl⟩
  · obtain ⟨v, rfl, h⟩ := r.one
    obtain ⟨a, xs, rfl, g, r⟩ := h
    have al : PostN G H Q n (.lst _) := al
    exact ⟨a, xs, rfl, .inr (sb.sqt g), fun l hl => al.lst sb r hl⟩
  · exact al.elim
def dMax2 : List D → Dr D
  | [.int i, .int j] => .ret (.int (if j > i then j else i))
  | _ => .fail
def dMin2 : List D → Dr D
  | [.int i, .int j] => .ret (.int (if j < i then j else i))
  | _ => .fail
theorem den_max2 : DenC W (fun xs H Q => ∃ i j, xs = [.int i, .int j] ∧ Q (.int (if j > i then j else i)) H) dMax2 := fun n F0 H0 G H xs ds Q ex sb r al => by
  unfold dMax2 at al
  split at al
  · obtain ⟨v, u, rfl, h1, h2⟩ := r.two
    have h1 : v = .int _ := h1
    have h2 : u = .int _ := h2
    subst h1 h2
    exact ⟨_, _, rfl, Post.here al sb rfl⟩
  · exact al.elim
theorem den_min2 : DenC W (fun xs H Q => ∃ i j, xs = [.int i, .int j] ∧ Q (.int (if j < i then j else i)) H) dMin2 := fun n F0 H0 G H xs ds Q ex sb r al => by
  unfold dMin2 at al
  split at al
  · obtain ⟨v, u, rfl, h1, h2⟩ := r.two
    have h1 : v = .int _ := h1
    have h2 : u = .int _ := h2
    subst h1 h2
    exact ⟨_, _, rfl, Post.here al sb rfl⟩
  · exact al.elim
/-- the ints of data -/
def intsD : List D → Option (List Int)
  | [] => some []
  | .int i :: ds => match intsD ds with
    | some is => some (i :: is)
    | none => none
  | _ :: _ => none
theorem intsD_eq : ∀ {ds : List D} {is : List Int}, intsD ds = some is → ds = is.map D.int
  | [], is, h => by
    cases h
    rfl
  | d :: ds, is, h => by
    cases d with
    | int i =>
      have h' : (match intsD ds with
        | some is => some (i :: is)
        | none => none) = some is := h
      cases e : intsD ds with
      | none =>
        rw [e] at h'
        cases h'
      | some js =>
        rw [e] at h'
        cases h'
        rw [intsD_eq e] <;> rfl
    | _ => cases h
theorem intsD_map : ∀ is : List Int, intsD (is.map D.int) = some is
  | [] => rfl
  | i :: is => by
    show (match intsD (is.map D.int) with
      | some is => some (i :: is)
      | none => none) = _
    rw [intsD_map is]
def seqInts : D → Option (List Int)
  | .lst ds => intsD ds
  | .tup ds => intsD ds
  | _ => none
theorem seqInts_rep {n : Nat} {G H : Hp} (sb : Sb n G H) {d : D} {v : V} {is : List Int} (r : Rep G d v) (h : seqInts d = some is) : ∃ a, v = .ref a ∧ SqI K H a (is.map V.int) := by
  cases d with
  | lst ds =>
    obtain ⟨a, xs, rfl, g, r⟩ := r
    have e := intsD_eq (show intsD ds = some is from h)
    subst e
    have e2 := r.ints'
    subst e2
    exact ⟨a, rfl, .inl (sb.sql g)⟩
  | tup ds =>
    obtain ⟨a, xs, rfl, g, r⟩ := r
    have e := intsD_eq (show intsD ds = some is from h)
    subst e
    have e2 := r.ints'
    subst e2
    exact ⟨a, rfl, .inr (sb.sqt g)⟩
  | _ => cases h
def dSum : List D → Dr D
  | [d] => match seqInts d with
    | some is => .ret (.int is.sum)
    | none => .fail
  | _ => .fail
theorem den_sum : DenC W (rSumI K) dSum := fun n F0 H0 G H xs ds Q ex sb r al => by
  unfold dSum at al
  split at al
  · rename_i d
    obtain ⟨v, rfl, h⟩ := r.one
    split at al
    · rename_i is e
      obtain ⟨a, rfl, hs⟩ := seqInts_rep (K := K) sb h e
      exact ⟨a, is, rfl, hs, Post.here al sb rfl⟩
    · exact al.elim
  · exact al.elim
def dMax1 : List D → Dr D
  | [d] => match seqInts d with
    | some (m :: is) => .ret (.int (is.foldl max m))
    | _ => .fail
  | _ => .fail
def dMin1 : List D → Dr D
  | [d] => match seqInts d with
    | some (m :: is) => .ret (.int (is.foldl min m))
    | _ => .fail
  | _ => .fail
theorem den_max1 : DenC W (rMaxI K) dMax1 := fun n F0 H0 G H xs ds Q ex sb r al => by
  unfold dMax1 at al
  split at al
  · rename_i d
    obtain ⟨v, rfl, h⟩ := r.one
    split at al
    · rename_i m is e
      obtain ⟨a, rfl, hs⟩ := seqInts_rep (K := K) sb h e
      exact ⟨a, m, is, rfl, hs, Post.here al sb rfl⟩
    · exact al.elim
  · exact al.elim
theorem den_min1 : DenC W (rMinI K) dMin1 := fun n F0 H0 G H xs ds Q ex sb r al => by
  unfold dMin1 at al
  split at al
  · rename_i d
    obtain ⟨v, rfl, h⟩ := r.one
    split at al
    · rename_i m is e
      obtain ⟨a, rfl, hs⟩ := seqInts_rep (K := K) sb h e
      exact ⟨a, m, is, rfl, hs, Post.here al sb rfl⟩
    · exact al.elim
  · exact al.elim
def blsD : List D → Option (List Bool)
  | [] => some []
  | .bl i :: ds => match blsD ds with
    | some is => some (i :: is)
    | none => none
  | _ :: _ => none
theorem blsD_eq : ∀ {ds : List D} {is : List Bool}, blsD ds = some is → ds = is.map D.bl
  | [], is, h => by
    cases h
    rfl
  | d :: ds, is, h => by
    cases d with
    | bl i =>
      have h' : (match blsD ds with
        | some is => some (i :: is)
        | none => none) = some is := h
      cases e : blsD ds with
      | none =>
        rw [e] at h'
        cases h'
      | some js =>
        rw [e] at h'
        cases h'
        rw [blsD_eq e] <;> rfl
    | _ => cases h
theorem blsD_map : ∀ is : List Bool, blsD (is.map D.bl) = some is
  | [] => rfl
  | i :: is => by
    show (match blsD (is.map D.bl) with
      | some is => some (i :: is)
      | none => none) = _
    rw [blsD_map is]
def dAny : List D → Dr D
  | [.lst ds] => match blsD ds with
    | some bs => .ret (.bl (bs.any id))
    | none => .fail
  | _ => .fail
def dAll : List D → Dr D
  | [.lst ds] => match blsD ds with
    | some bs => .ret (.bl (bs.all id))
    | none => .fail
  | _ => .fail
theorem den_any : DenC W (rAny K) dAny := fun n F0 H0 G H xs ds Q ex sb r al => by
  unfold dAny at al
  split at al
  · rename_i d
    obtain ⟨v, rfl, h⟩ := r.one
    obtain ⟨a, xs, rfl, g, r⟩ := h
    split at al
    · rename_i bs e
      have e := blsD_eq e
      subst e
      have e2 := r.bls'
      subst e2
      exact ⟨a, bs, rfl, sb.sql g, Post.here al sb rfl⟩
    · exact al.elim
  · exact al.elim
theorem den_all : DenC W (rAll K) dAll := fun n F0 H0 G H xs ds Q ex sb r al => by
  unfold dAll at al
  split at al
  · rename_i d
    obtain ⟨v, rfl, h⟩ := r.one
    obtain ⟨a, xs, rfl, g, r⟩ := h
    split at al
    · rename_i bs e
      have e := blsD_eq e
      subst e
      have e2 := r.bls'
      subst e2
      exact ⟨a, bs, rfl, sb.sql g, Post.here al sb rfl⟩
    · exact al.elim
  · exact al.elim
def dInt1 : List D → Dr D
  | [.int i] => .ret (.int i)
  | [.bl b] => .ret (.int (if b then 1 else 0))
  | _ => .fail
theorem den_int1 : DenC W (fun xs H Q => (∃ i, xs = [.int i] ∧ Q (.int i) H) ∨ ∃ k, xs = [.bl k] ∧ Q (.int (if k then 1 else 0)) H) dInt1 := fun n F0 H0 G H xs ds Q ex sb r al => by
  unfold dInt1 at al
  split at al
  · obtain ⟨v, rfl, h⟩ := r.one
    have h : v = .int _ := h
    subst h
    exact .inl ⟨_, rfl, Post.here al sb rfl⟩
  · obtain ⟨v, rfl, h⟩ := r.one
    have h : v = .bl _ := h
    subst h
    exact .inr ⟨_, rfl, Post.here al sb rfl⟩
  · exact al.elim
end
end Dn
namespace Dn
open PySem PySem.Spec PyProof.Rows L2
/-! ## statements -/
inductive SV where
  | no
  | fr (d : D)
  | own (d : D)
abbrev SEnv := List SV
structure RS (H0 F H : Hp) (ρ : SEnv) (σ : L2.St) : Prop where
  len : σ.length = ρ.length
  frz : ∀ (i : Nat) (d : D), ρ[i]? = some (.fr d) → ∃ v, σ[i]? = some (some v) ∧ Rep F d v
  own : ∀ (i : Nat) (d : D), ρ[i]? = some (.own d) → ∃ o ho, σ[i]? = some (some (V.ref o)) ∧ F o = none ∧ H0 o = none ∧ H o = some ho ∧ HoRep F d ho
  inj : ∀ (i j : Nat) (d e : D) (o : Addr), ρ[i]? = some (.own d) → ρ[j]? = some (.own e) → σ[i]? = some (some (V.ref o)) → σ[j]? = some (some (V.ref o)) → i = j
inductive Out where
  | nx (ρ : SEnv)
  | ret (d : D)
  | rown (d : D)
  | bk (ρ : SEnv)
  | ct (ρ : SEnv)
abbrev Inc (F G : Hp) : Prop := ∀ a o, F a = some o → G a = some o
def OutP (Fc F0 H0 : Hp) (Dn : Ends) : Nat → Out → Prop
  | n, .nx ρ => ∀ F H σ, Inc Fc F → Ext F0 H0 F H → Sb n F H → RS H0 F H ρ σ → Dn.nx σ H
  | n, .ret d => ∀ v F H, Inc Fc F → Ext F0 H0 F H → Sb n F H → Rep F d v → Dn.rt v H
  | n, .rown d => ∀ o ho F H, Inc Fc F → Ext F0 H0 F H → Sb n F H → F o = none → H0 o = none → H o = some ho → HoRep F d ho → Dn.rt (.ref o) H
  | n, .bk ρ => ∀ F H σ, Inc Fc F → Ext F0 H0 F H → Sb n F H → RS H0 F H ρ σ → Dn.bk σ H
  | n, .ct ρ => ∀ F H σ, Inc Fc F → Ext F0 H0 F H → Sb n F H → RS H0 F H ρ σ → Dn.ct σ H
theorem OutP.inc {Fc Fc' F0 H0 : Hp} {Dn : Ends} (i : Inc Fc Fc') : ∀ {n : Nat} {o : Out}, OutP Fc F0 H0 Dn n o → OutP Fc' F0 H0 Dn n o
  | n, .nx ρ, h => fun F H σ j => h F H σ fun a o e => j a o (i a o e)
  | n, .ret d, h => fun v F H j => h v F H fun a o e => j a o (i a o e)
  | n, .rown d, h => fun v ho F H j => h v ho F H fun a o e => j a o (i a o e)
  | n, .bk ρ, h => fun F H σ j => h F H σ fun a o e => j a o (i a o e)
  | n, .ct ρ, h => fun F H σ j => h F H σ fun a o e => j a o (i a o e)
def DenS (W : Wd) (t : TS) (g : SEnv → Dr Out) : Prop := ∀ n F0 H0 F H ρ σ Dn, Ext F0 H0 F H → Sb n F H → RS H0 F H ρ σ → AllN (EXof W F0 H0) n (g ρ) (OutP F F0 H0 Dn) → t Dn σ H
/-! ### lending the def's own lists and dicts to an expression -/
def lend1 (ls : List Nat) (i : Nat) : SV → Option D
  | .no => none
  | .fr d => some d
  | .own d => if ls.contains i then some d else none
def frz1 (ls : List Nat) (i : Nat) : SV → SV
  | .own d => if ls.contains i then .fr d else .own d
  | s => s
def lendGo (ls : List Nat) : Nat → SEnv → Ev
  | _, [] => []
  | i, s :: ρ => lend1 ls i s :: lendGo ls (i + 1) ρ
def frzGo (ls : List Nat) : Nat → SEnv → SEnv
  | _, [] => []
  | i, s :: ρ => frz1 ls i s :: frzGo ls (i + 1) ρ
def lend (ls : List Nat) (ρ : SEnv) : Ev := lendGo ls 0 ρ
def freeze (ls : List Nat) (ρ : SEnv) : SEnv := frzGo ls 0 ρ
theorem lendGo_len (ls : List Nat) : ∀ (k : Nat) (ρ : SEnv), (lendGo ls k ρ).length = ρ.length
  | _, [] => rfl
  | k, s :: ρ => by
    show (lendGo ls (k + 1) ρ).length + 1 = ρ.length + 1
    rw [lendGo_len ls (k + 1) ρ]
theorem lendGo_get (ls : List Nat) : ∀ (k i : Nat) (ρ : SEnv), (lendGo ls k ρ)[i]? = ρ[i]?.map (lend1 ls (k + i))
  | _, _, [] => by simp [lendGo]
  | k, 0, s :: ρ => rfl
  | k, i + 1, s :: ρ => by
    show (lendGo ls (k + 1) ρ)[i]? = (ρ[i]?).map _
    rw [lendGo_get ls (k + 1) i ρ, show k + 1 + i = k + (i + 1) by omega]
theorem frzGo_len (ls : List Nat) : ∀ (k : Nat) (ρ : SEnv), (frzGo ls k ρ).length = ρ.length
  | _, [] => rfl
  | k, s :: ρ => by
    show (frzGo ls (k + 1) ρ).length + 1 = ρ.length + 1
    rw [frzGo_len ls (k + 1) ρ]
theorem frzGo_get (ls : List Nat) : ∀ (k i : Nat) (ρ : SEnv), (frzGo ls k ρ)[i]? = ρ[i]?.map (frz1 ls (k + i))
  | _, _, [] => by simp [frzGo]
  | k, 0, s :: ρ => rfl
  | k, i + 1, s :: ρ => by
    show (frzGo ls (k + 1) ρ)[i]? = (ρ[i]?).map _
    rw [frzGo_get ls (k + 1) i ρ, show k + 1 + i = k + (i + 1) by omega]
theorem lend_get (ls : List Nat) (ρ : SEnv) (i : Nat) : (lend ls ρ)[i]? = ρ[i]?.map (lend1 ls i) := by
  unfold lend
  rw [lendGo_get, Nat.zero_add]
theorem freeze_get (ls : List Nat) (ρ : SEnv) (i : Nat) : (freeze ls ρ)[i]? = ρ[i]?.map (frz1 ls i) := by
  unfold freeze
  rw [frzGo_get, Nat.zero_add]
/-- o is the object of a slot that is lent -/
def Lent (ls : List Nat) (ρ : SEnv) (σ : L2.St) (o : Addr) : Prop := ∃ i d, i ∈ ls ∧ ρ[i]? = some (SV.own d) ∧ σ[i]? = some (some (V.ref o))
open Classical in
noncomputable def lentF (ls : List Nat) (ρ : SEnv) (σ : L2.St) (F H : Hp) : Hp := fun a => if Lent ls ρ σ a then H a else F a
section
variable {n : Nat} {F0 H0 F H : Hp} {ρ : SEnv} {σ : L2.St} {ls : List Nat}
theorem lentF_y {a : Addr} (h : Lent ls ρ σ a) : lentF ls ρ σ F H a = H a := if_pos h
theorem lentF_n {a : Addr} (h : ¬ Lent ls ρ σ a) : lentF ls ρ σ F H a = F a := if_neg h
theorem RS.lent (r : RS H0 F H ρ σ) {a : Addr} (h : Lent ls ρ σ a) : ∃ i d ho, i ∈ ls ∧ ρ[i]? = some (SV.own d) ∧ σ[i]? = some (some (V.ref a)) ∧ F a = none ∧ H0 a = none ∧ H a = some ho ∧ HoRep F d ho := by
  obtain ⟨i, d, h1, h2, h3⟩ := h
  obtain ⟨o, ho, q1, q2, q3, q4, q5⟩ := r.own i d h2
  rw [h3] at q1
  have e : a = o := by
    have := Option.some.inj (Option.some.inj q1)
    injection this
  subst e
  exact ⟨i, d, ho, h1, h2, h3, q2, q3, q4, q5⟩
theorem lentF_gg (r : RS H0 F H ρ σ) : ∀ a o, F a = some o → lentF ls ρ σ F H a = some o := fun a o e => by
  by_cases l : Lent ls ρ σ a
  · obtain ⟨_, _, _, _, _, _, q, _⟩ := r.lent l
    rw [q] at e
    cases e
  · rw [lentF_n l]
    exact e
theorem lentF_sb (r : RS H0 F H ρ σ) (sb : Sb n F H) : Sb n (lentF ls ρ σ F H) H where
  eq := fun a o e m => by
    by_cases l : Lent ls ρ σ a
    · rw [lentF_y l] at e
      exact e
    · rw [lentF_n l] at e
      exact sb.eq a o e m
  mr := fun a c e => by
    by_cases l : Lent ls ρ σ a
    · obtain ⟨_, _, ho, _, _, _, _, _, q, q2⟩ := r.lent l
      rw [lentF_y l, q] at e
      exact absurd (Option.some.inj e) (q2.unmark c)
    · rw [lentF_n l] at e
      exact (sb.mr a c e).mono (lentF_gg r)
theorem lentF_ext (r : RS H0 F H ρ σ) (x : Ext F0 H0 F H) : Ext F0 H0 (lentF ls ρ σ F H) H where
  gg := fun a o e => lentF_gg r a o (x.gg a o e)
  fr := fun a o e e0 => by
    by_cases l : Lent ls ρ σ a
    · obtain ⟨_, _, ho, _, _, _, _, q, _⟩ := r.lent l
      exact .inl q
    · rw [lentF_n l] at e
      exact x.fr a o e e0
  hh := x.hh
  dm := x.dm
theorem lentF_re (r : RS H0 F H ρ σ) : RE (lentF ls ρ σ F H) (lend ls ρ) σ where
  len := by
    unfold lend
    rw [lendGo_len]
    exact r.len
  get := fun i d e => by
    rw [lend_get] at e
    obtain ⟨s, e1, e2⟩ := Option.map_eq_some_iff.mp e
    cases s with
    | no => cases e2
    | fr d' =>
      cases e2
      obtain ⟨v, h1, h2⟩ := r.frz i d e1
      exact ⟨v, h1, h2.mono (Le.of (lentF_gg r))⟩
    | own d' =>
      have e2 : (if ls.contains i then some d' else none) = some d := e2
      by_cases c : ls.contains i = true
      · rw [if_pos c] at e2
        cases e2
        obtain ⟨o, ho, h1, h2, h3, h4, h5⟩ := r.own i d e1
        have l : Lent ls ρ σ o := ⟨i, d, by simpa using c, e1, h1⟩
        exact ⟨.ref o, h1, (h5.mono (Le.of (lentF_gg r))).rep (by rw [lentF_y l]; exact h4)⟩
      · rw [if_neg c] at e2
        cases e2
/-- an own object stays out of what is frozen while the heap grows -/
theorem Ext.out {G H G' H' : Hp} (x : Ext G H G' H') {m : Nat} (sb : Sb m G' H') {o : Addr} {d : D} {ho : HO} {F : Hp} (g : G o = none) (h : H o = some ho) (r : HoRep F d ho) : G' o = none ∧ H' o = some ho := by
  have h2 : H' o = some ho := x.hh o ho h (fun c => by rw [g]; exact nofun)
  refine ⟨?_, h2⟩
  cases e : G' o with
  | none => rfl
  | some u =>
    rcases x.fr o u e g with z | ⟨xs, z⟩
    · rw [h] at z
      cases z
    · subst z
      have q := sb.tup e
      rw [h2] at q
      exact absurd (Option.some.inj q) (r.untup xs)
theorem RS.ext (r : RS H0 F H ρ σ) {F' H' : Hp} {m : Nat} (x : Ext F H F' H') (sb : Sb m F' H') : RS H0 F' H' ρ σ where
  len := r.len
  frz := fun i d e => by
    obtain ⟨v, h1, h2⟩ := r.frz i d e
    exact ⟨v, h1, h2.mono x.le⟩
  own := fun i d e => by
    obtain ⟨o, ho, h1, h2, h3, h4, h5⟩ := r.own i d e
    obtain ⟨q1, q2⟩ := x.out sb h2 h4 h5
    exact ⟨o, ho, h1, q1, h3, q2, h5.mono x.le⟩
  inj := r.inj
/-- (B) behind an expression: what was lent is frozen -/
theorem RS.froz (r : RS H0 F H ρ σ) {G' H' : Hp} {m : Nat} (x : Ext (lentF ls ρ σ F H) H G' H') (sb : Sb m G' H') : RS H0 G' H' (freeze ls ρ) σ where
  len := by
    unfold freeze
    rw [frzGo_len]
    exact r.len
  frz := fun i d e => by
    rw [freeze_get] at e
    obtain ⟨s, e1, e2⟩ := Option.map_eq_some_iff.mp e
    cases s with
    | no => cases e2
    | fr d' =>
      cases e2
      obtain ⟨v, h1, h2⟩ := r.frz i d e1
      exact ⟨v, h1, (h2.mono (Le.of (lentF_gg r))).mono x.le⟩
    | own d' =>
      have e2 : (if ls.contains i then SV.fr d' else .own d') = .fr d := e2
      by_cases c : ls.contains i = true
      · rw [if_pos c] at e2
        cases e2
        obtain ⟨o, ho, h1, h2, h3, h4, h5⟩ := r.own i d e1
        have l : Lent ls ρ σ o := ⟨i, d, by simpa using c, e1, h1⟩
        exact ⟨.ref o, h1, ((h5.mono (Le.of (lentF_gg r))).rep (by rw [lentF_y l]; exact h4)).mono x.le⟩
      · rw [if_neg c] at e2
        cases e2
  own := fun i d e => by
    rw [freeze_get] at e
    obtain ⟨s, e1, e2⟩ := Option.map_eq_some_iff.mp e
    cases s with
    | no => cases e2
    | fr d' => cases e2
    | own d' =>
      have e2 : (if ls.contains i then SV.fr d' else .own d') = .own d := e2
      by_cases c : ls.contains i = true
      · rw [if_pos c] at e2
        cases e2
      · rw [if_neg c] at e2
        cases e2
        obtain ⟨o, ho, h1, h2, h3, h4, h5⟩ := r.own i d e1
        have nl : ¬ Lent ls ρ σ o := fun ⟨j, d2, q1, q2, q3⟩ => by
          have := r.inj i j d d2 o e1 q2 h1 q3
          subst this
          exact c (by simpa using q1)
        obtain ⟨q1, q2⟩ := x.out sb (by rw [lentF_n nl]; exact h2) h4 h5
        exact ⟨o, ho, h1, q1, h3, q2, (h5.mono (Le.of (lentF_gg r))).mono x.le⟩
  inj := fun i j d e o h1 h2 h3 h4 => by
    have key : ∀ (i : Nat) (d : D), (freeze ls ρ)[i]? = some (SV.own d) → ρ[i]? = some (SV.own d) := fun i d e => by
      rw [freeze_get] at e
      obtain ⟨s, e1, e2⟩ := Option.map_eq_some_iff.mp e
      cases s with
      | no => cases e2
      | fr d' => cases e2
      | own d' =>
        have e2 : (if ls.contains i then SV.fr d' else .own d') = .own d := e2
        by_cases c : ls.contains i = true
        · rw [if_pos c] at e2
          cases e2
        · rw [if_neg c] at e2
          cases e2
          exact e1
    exact r.inj i j d e o (key i d h1) (key j e h2) h3 h4
/-- (A) behind an expression: what was lent is the def's own again -/
theorem RS.back (r : RS H0 F H ρ σ) (x0 : Ext F0 H0 F H) (sb0 : Sb n F H) {G' H' : Hp} {m : Nat} (x : Ext (lentF ls ρ σ F H) H G' H') (sb : Sb m G' H') :
    ∃ F', Ext F0 H0 F' H' ∧ Sb m F' H' ∧ RS H0 F' H' ρ σ ∧ (∀ a xs, G' a = some (.tup xs) → F' a = some (.tup xs)) ∧ (∀ a, G' a = none → F' a = none) ∧ Inc F F' := by
  classical
  refine ⟨fun a => match F a with
    | some o => some o
    | none => if Lent ls ρ σ a then none else (match G' a with
      | some o => if ∃ c, o = mark c then none else some o
      | none => none), ?_⟩
  generalize hF' : (fun a => match F a with
    | some o => some o
    | none => if Lent ls ρ σ a then none else (match G' a with
      | some o => if ∃ c, o = mark c then none else some o
      | none => none)) = F'
  have fF : ∀ a o, F a = some o → F' a = some o := fun a o e => by
    rw [← hF']
    show (match F a with
      | some o => some o
      | none => _) = _
    rw [e]
  have fL : ∀ a, F a = none → Lent ls ρ σ a → F' a = none := fun a e l => by
    rw [← hF']
    show (match F a with
      | some o => some o
      | none => if Lent ls ρ σ a then none else _) = _
    rw [e]
    exact if_pos l
  have fG : ∀ a, F a = none → ¬ Lent ls ρ σ a → F' a = (match G' a with
      | some o => if ∃ c, o = mark c then none else some o
      | none => none) := fun a e l => by
    rw [← hF']
    show (match F a with
      | some o => some o
      | none => if Lent ls ρ σ a then none else _) = _
    rw [e]
    exact if_neg l
  have fO : ∀ a o, F' a = some o → (F a = some o) ∨ (F a = none ∧ ¬ Lent ls ρ σ a ∧ G' a = some o ∧ NM o) := fun a o e => by
    cases q : F a with
    | some u =>
      rw [fF a u q] at e
      cases e
      exact .inl rfl
    | none =>
      by_cases l : Lent ls ρ σ a
      · rw [fL a q l] at e
        cases e
      · rw [fG a q l] at e
        cases g : G' a with
        | none =>
          rw [g] at e
          cases e
        | some u =>
          rw [g] at e
          have e : (if ∃ c, u = mark c then none else some u) = some o := e
          by_cases m : ∃ c, u = mark c
          · rw [if_pos m] at e
            cases e
          · rw [if_neg m] at e
            cases e
            exact .inr ⟨rfl, l, rfl, fun c z => m ⟨c, z⟩⟩
  have gF : ∀ a o, F a = some o → G' a = some o := fun a o e => x.gg a o (lentF_gg r a o e)
  have up : ∀ a o, F' a = some o → G' a = some o := fun a o e => by
    rcases fO a o e with h | h
    · exact gF a o h
    · exact h.2.2.1
  have ownOut : ∀ (i : Nat) (d : D) o ho, ρ[i]? = some (SV.own d) → σ[i]? = some (some (V.ref o)) → F o = none → H o = some ho → HoRep F d ho → F' o = none ∧ H' o = some ho := fun i d o ho e1 e2 e3 e4 e5 => by
    by_cases l : Lent ls ρ σ o
    · refine ⟨fL o e3 l, x.hh o ho e4 fun c => ?_⟩
      rw [lentF_y l, e4]
      exact fun z => e5.unmark c (Option.some.inj z)
    · obtain ⟨q1, q2⟩ := x.out sb (by rw [lentF_n l]; exact e3) e4 e5
      refine ⟨?_, q2⟩
      rw [fG o e3 l, q1]
  refine ⟨⟨fun a o e => fF a o (x0.gg a o e), fun a o e e0 => ?_, fun a o e nm => ?_, fun a e => x0.dm a (x.dm a e)⟩, ⟨fun a o e m => sb.eq a o (up a o e) m, fun a c e => ?_⟩, ⟨r.len, fun i d e => ?_, fun i d e => ?_, r.inj⟩, fun a xs e => ?_, fun a e => ?_, fF⟩
  · rcases fO a o e with h | ⟨h1, h2, h3, h4⟩
    · exact x0.fr a o h e0
    · rcases x.fr a o h3 (by rw [lentF_n h2]; exact h1) with z | z
      · exact .inl (x0.dm a z)
      · exact .inr z
  · have h1 := x0.hh a o e nm
    refine x.hh a o h1 fun c z => ?_
    by_cases l : Lent ls ρ σ a
    · obtain ⟨_, _, ho, _, _, _, _, q, _⟩ := r.lent l
      rw [e] at q
      cases q
    · rw [lentF_n l] at z
      cases q : F0 a with
      | some u =>
        have := x0.gg a u q
        rw [z] at this
        cases this
        exact nm c q
      | none =>
        rcases x0.fr a _ z q with w | ⟨xs, w⟩
        · rw [e] at w
          cases w
        · cases w
  · rcases fO a _ e with h | ⟨_, _, _, h4⟩
    · obtain ⟨l1, s1, p1, cs1, a1, a2, _⟩ := sb0.mr a c h
      obtain ⟨l2, s2, p2, cs2, b1, b2, b3⟩ := sb.mr a c (gF a _ h)
      refine ⟨l2, s2, p2, cs2, b1, ?_, b3⟩
      have := gF c _ a2
      rw [b2] at this
      exact fF c _ (a2.trans this.symm)
    · exact absurd rfl (h4 c)
  · obtain ⟨v, h1, h2⟩ := r.frz i d e
    exact ⟨v, h1, h2.mono (Le.of fF)⟩
  · obtain ⟨o, ho, h1, h2, h3, h4, h5⟩ := r.own i d e
    obtain ⟨q1, q2⟩ := ownOut i d o ho e h1 h2 h4 h5
    exact ⟨o, ho, h1, q1, h3, q2, h5.mono (Le.of fF)⟩
  · cases q : F a with
    | some u =>
      have := gF a u q
      rw [e] at this
      cases this
      exact fF a _ q
    | none =>
      by_cases l : Lent ls ρ σ a
      · obtain ⟨_, d, ho, _, _, _, _, _, k1, k2⟩ := r.lent l
        have := x.gg a ho (by rw [lentF_y l]; exact k1)
        rw [e] at this
        cases this
        exact absurd rfl (k2.untup xs)
      · rw [fG a q l, e]
        show (if ∃ c, HO.tup xs = mark c then none else some (HO.tup xs)) = _
        rw [if_neg (fun ⟨c, z⟩ => nomatch z)]
  · cases q : F' a with
    | none => rfl
    | some u =>
      rw [up a u q] at e
      cases e
end
/-! ### stores into slots -/
section
variable {n : Nat} {F0 H0 F H : Hp} {ρ : SEnv} {σ : L2.St} {ls : List Nat}
theorem RS.setF (r : RS H0 F H ρ σ) {i : Nat} {d : D} {v : V} (q : Rep F d v) : RS H0 F H (ρ.set i (.fr d)) (σ.set i (some v)) := by
  have key : ∀ {j : Nat} {s : SV}, (ρ.set i (.fr d))[j]? = some s → (j = i ∧ s = .fr d ∧ i < ρ.length) ∨ (j ≠ i ∧ ρ[j]? = some s) := fun {j s} e => by
    by_cases c : i = j
    · subst c
      have hl : i < ρ.length := by
        have := (List.getElem?_eq_some_iff.mp e).1
        rwa [List.length_set] at this
      rw [List.getElem?_set_self hl] at e
      exact .inl ⟨rfl, (Option.some.inj e).symm, hl⟩
    · rw [List.getElem?_set_ne c] at e
      exact .inr ⟨fun z => c z.symm, e⟩
  refine ⟨by rw [List.length_set, List.length_set, r.len], fun j e h => ?_, fun j e h => ?_, fun j k e e' o h1 h2 h3 h4 => ?_⟩
  · rcases key h with ⟨rfl, e1, hl⟩ | ⟨hn, e1⟩
    · cases e1
      exact ⟨v, List.getElem?_set_self (by rw [r.len]; exact hl), q⟩
    · rw [List.getElem?_set_ne (fun z => hn z.symm)]
      exact r.frz j e e1
  · rcases key h with ⟨rfl, e1, hl⟩ | ⟨hn, e1⟩
    · cases e1
    · rw [List.getElem?_set_ne (fun z => hn z.symm)]
      exact r.own j e e1
  · rcases key h1 with ⟨rfl, e1, hl⟩ | ⟨hn1, e1⟩
    · cases e1
    · rcases key h2 with ⟨rfl, e2, hl⟩ | ⟨hn2, e2⟩
      · cases e2
      · rw [List.getElem?_set_ne (fun z => hn1 z.symm)] at h3
        rw [List.getElem?_set_ne (fun z => hn2 z.symm)] at h4
        exact r.inj j k e e' o e1 e2 h3 h4
theorem RS.setO (r : RS H0 F H ρ σ) {i : Nat} {d : D} {o : Addr} {ho : HO} (h1 : F o = none) (h2 : H0 o = none) (h3 : H o = some ho) (h4 : HoRep F d ho) (new : ∀ (j : Nat) (e : D), ρ[j]? = some (SV.own e) → σ[j]? ≠ some (some (V.ref o))) :
    RS H0 F H (ρ.set i (.own d)) (σ.set i (some (V.ref o))) := by
  have key : ∀ {j : Nat} {s : SV}, (ρ.set i (.own d))[j]? = some s → (j = i ∧ s = .own d ∧ i < ρ.length) ∨ (j ≠ i ∧ ρ[j]? = some s) := fun {j s} e => by
    by_cases c : i = j
    · subst c
      have hl : i < ρ.length := by
        have := (List.getElem?_eq_some_iff.mp e).1
        rwa [List.length_set] at this
      rw [List.getElem?_set_self hl] at e
      exact .inl ⟨rfl, (Option.some.inj e).symm, hl⟩
    · rw [List.getElem?_set_ne c] at e
      exact .inr ⟨fun z => c z.symm, e⟩
  refine ⟨by rw [List.length_set, List.length_set, r.len], fun j e h => ?_, fun j e h => ?_, fun j k e e' o' q1 q2 q3 q4 => ?_⟩
  · rcases key h with ⟨rfl, e1, hl⟩ | ⟨hn, e1⟩
    · cases e1
    · rw [List.getElem?_set_ne (fun z => hn z.symm)]
      exact r.frz j e e1
  · rcases key h with ⟨rfl, e1, hl⟩ | ⟨hn, e1⟩
    · cases e1
      exact ⟨o, ho, List.getElem?_set_self (by rw [r.len]; exact hl), h1, h2, h3, h4⟩
    · rw [List.getElem?_set_ne (fun z => hn z.symm)]
      exact r.own j e e1
  · rcases key q1 with ⟨rfl, e1, hl⟩ | ⟨hn1, e1⟩
    · rcases key q2 with ⟨rfl, e2, _⟩ | ⟨hn2, e2⟩
      · rfl
      · rw [List.getElem?_set_self (by rw [r.len]; exact hl)] at q3
        rw [List.getElem?_set_ne (fun z => hn2 z.symm)] at q4
        cases q3
        exact absurd q4 (new k e' e2)
    · rcases key q2 with ⟨rfl, e2, hl⟩ | ⟨hn2, e2⟩
      · rw [List.getElem?_set_self (by rw [r.len]; exact hl)] at q4
        rw [List.getElem?_set_ne (fun z => hn1 z.symm)] at q3
        cases q4
        exact absurd q3 (new j e e1)
      · rw [List.getElem?_set_ne (fun z => hn1 z.symm)] at q3
        rw [List.getElem?_set_ne (fun z => hn2 z.symm)] at q4
        exact r.inj j k e e' o' e1 e2 q3 q4
/-- an own object is changed in place -/
theorem RS.upO (r : RS H0 F H ρ σ) {i : Nat} {d d' : D} {o : Addr} {ho : HO} (e : ρ[i]? = some (.own d)) (eσ : σ[i]? = some (some (V.ref o))) (h : HoRep F d' ho) : RS H0 F (upd H o ho) (ρ.set i (.own d')) σ := by
  have hl : i < ρ.length := (List.getElem?_eq_some_iff.mp e).1
  have key : ∀ {j : Nat} {s : SV}, (ρ.set i (.own d'))[j]? = some s → (j = i ∧ s = .own d') ∨ (j ≠ i ∧ ρ[j]? = some s) := fun {j s} e => by
    by_cases c : i = j
    · subst c
      rw [List.getElem?_set_self hl] at e
      exact .inl ⟨rfl, (Option.some.inj e).symm⟩
    · rw [List.getElem?_set_ne c] at e
      exact .inr ⟨fun z => c z.symm, e⟩
  refine ⟨by rw [List.length_set, r.len], fun j e1 h1 => ?_, fun j e1 h1 => ?_, fun j k e1 e2 o' q1 q2 q3 q4 => ?_⟩
  · rcases key h1 with ⟨rfl, z⟩ | ⟨hn, z⟩
    · cases z
    · exact r.frz j e1 z
  · rcases key h1 with ⟨rfl, z⟩ | ⟨hn, z⟩
    · cases z
      obtain ⟨o2, ho2, q1, q2, q3, q4, q5⟩ := r.own j d e
      rw [eσ] at q1
      cases q1
      exact ⟨o, ho, eσ, q2, q3, upd_same, h⟩
    · obtain ⟨o2, ho2, q1, q2, q3, q4, q5⟩ := r.own j e1 z
      refine ⟨o2, ho2, q1, q2, q3, ?_, q5⟩
      rw [upd_ne]
      · exact q4
      · intro c
        subst c
        exact hn (r.inj j i e1 d o2 z e q1 eσ)
  · have w : ∀ {j : Nat} {e1 : D}, (ρ.set i (.own d'))[j]? = some (.own e1) → ∃ e2, ρ[j]? = some (.own e2) := fun {j e1} q => by
      rcases key q with ⟨rfl, z⟩ | ⟨hn, z⟩
      · exact ⟨d, e⟩
      · exact ⟨e1, z⟩
    obtain ⟨a1, b1⟩ := w q1
    obtain ⟨a2, b2⟩ := w q2
    exact r.inj j k a1 a2 o' b1 b2 q3 q4
theorem Ext.up (x : Ext F0 H0 F H) {o : Addr} {ho : HO} (h0 : H0 o = none) : Ext F0 H0 F (upd H o ho) where
  gg := x.gg
  fr := x.fr
  hh := fun a u e nm => by
    rw [upd_ne (ne_of_none e h0)]
    exact x.hh a u e nm
  dm := fun a e => by
    by_cases c : a = o
    · rw [c]
      exact h0
    · rw [upd_ne c] at e
      exact x.dm a e
theorem Sb.up (s : Sb n F H) {o : Addr} {ho : HO} (h0 : F o = none) : Sb n F (upd H o ho) := s.newO h0
end
end Dn
namespace Dn
open PySem PySem.Spec PyProof.Rows L2
/-! ## the statements' denotations -/
section
variable {W : Wd} {K : PySem.W.Frag} {ta tb tc te : TE} {fa fb fc fe : Ev → Dr D} {tt tu : TT} {ft fu : Ev → Dr Bool} {tA : TA} {fA : Ev → Dr (List D)} {t u : TS} {g h : SEnv → Dr Out}
/-- from a statement into an expression -/
theorem Ext.base {F0 H0 F H G' H' : Hp} {ρ : SEnv} {σ : L2.St} {ls : List Nat} (r : RS H0 F H ρ σ) (x : Ext F0 H0 F H) (x1 : Ext (lentF ls ρ σ F H) H G' H') : Ext F0 H0 G' H' := (lentF_ext r x).trans x1
def gSkip : SEnv → Dr Out := fun ρ => .ret (.nx ρ)
theorem dens_skip : DenS W tNext gSkip := fun n F0 H0 F H ρ σ Dn x sb r al => al F H σ (fun _ _ h => h) x sb r
def gBreak : SEnv → Dr Out := fun ρ => .ret (.bk ρ)
def gCont : SEnv → Dr Out := fun ρ => .ret (.ct ρ)
theorem dens_break : DenS W tBreak gBreak := fun n F0 H0 F H ρ σ Dn x sb r al => al F H σ (fun _ _ h => h) x sb r
theorem dens_cont : DenS W tCont gCont := fun n F0 H0 F H ρ σ Dn x sb r al => al F H σ (fun _ _ h => h) x sb r
def gNever : SEnv → Dr Out := fun _ => .fail
theorem dens_never : DenS W tNever gNever := fun n F0 H0 F H ρ σ Dn x sb r al => al.elim
def seqOut (h : SEnv → Dr Out) : Out → Dr Out
  | .nx ρ => h ρ
  | o => .ret o
def gSeq (g h : SEnv → Dr Out) : SEnv → Dr Out := fun ρ => (g ρ).bind (seqOut h)
theorem dens_seq (h1 : DenS W t g) (h2 : DenS W u h) : DenS W (tSeq t u) (gSeq g h) := fun n F0 H0 F H ρ σ Dn x sb r al => by
  refine h1 n F0 H0 F H ρ σ _ x sb r ((AllN.bind al).q fun m o p => ?_)
  cases o with
  | nx ρ' => exact fun F' H' σ' i' x' sb' r' => h2 m F0 H0 F' H' ρ' σ' Dn x' sb' r' (p.q fun _ _ q => q.inc i')
  | ret d => exact p
  | rown d => exact p
  | bk ρ' => exact p
  | ct ρ' => exact p
def gIfS (ls : List Nat) (f : Ev → Dr Bool) (g h : SEnv → Dr Out) : SEnv → Dr Out := fun ρ => (f (lend ls ρ)).bind fun b => if b = true then g ρ else h ρ
theorem dens_if (ls : List Nat) (hc : DenT W tt ft) (h1 : DenS W t g) (h2 : DenS W u h) : DenS W (tIfS tt t u) (gIfS ls ft g h) := fun n F0 H0 F H ρ σ Dn x sb r al => by
  refine hc n F0 H0 (lentF ls ρ σ F H) H (lend ls ρ) σ _ (lentF_ext r x) (lentF_re r) (lentF_sb r sb) ((AllN.bind al).q fun m b p => ?_)
  intro G1 H1 x1 s1
  obtain ⟨F', y1, y2, y3, y4, y5, y6⟩ := r.back x sb x1 s1
  cases b with
  | true =>
    rw [if_pos rfl] at p ⊢
    exact h1 m F0 H0 F' H1 ρ σ Dn y1 y2 y3 (p.q fun _ _ q => q.inc y6)
  | false =>
    rw [if_neg Bool.false_ne_true] at p ⊢
    exact h2 m F0 H0 F' H1 ρ σ Dn y1 y2 y3 (p.q fun _ _ q => q.inc y6)
/-- an expression whose value is dropped -/
def gDrop (ls : List Nat) (f : Ev → Dr D) : SEnv → Dr Out := fun ρ => (f (lend ls ρ)).bind fun _ => .ret (.nx ρ)
theorem dens_drop (ls : List Nat) (he : DenE W te fe) : DenS W (tDrop te) (gDrop ls fe) := fun n F0 H0 F H ρ σ Dn x sb r al => by
  refine he n F0 H0 (lentF ls ρ σ F H) H (lend ls ρ) σ _ (lentF_ext r x) (lentF_re r) (lentF_sb r sb) ((AllN.bind al).q fun m d p => ?_)
  intro v G1 H1 x1 s1 r1
  obtain ⟨F', y1, y2, y3, y4, y5, y6⟩ := r.back x sb x1 s1
  exact p F' H1 σ y6 y1 y2 y3
/-- x = e -/
def gSet (i : Nat) (ls : List Nat) (f : Ev → Dr D) : SEnv → Dr Out := fun ρ => (f (lend ls ρ)).bind fun d => .ret (.nx ((if imm d = true then ρ else freeze ls ρ).set i (.fr d)))
theorem dens_set (i : Nat) (ls : List Nat) (he : DenE W te fe) : DenS W (tAsg te (gName i)) (gSet i ls fe) := fun n F0 H0 F H ρ σ Dn x sb r al => by
  refine he n F0 H0 (lentF ls ρ σ F H) H (lend ls ρ) σ _ (lentF_ext r x) (lentF_re r) (lentF_sb r sb) ((AllN.bind al).q fun m d p => ?_)
  intro v G1 H1 x1 s1 r1
  by_cases c : imm d = true
  · rw [if_pos c] at p
    obtain ⟨F', y1, y2, y3, y4, y5, y6⟩ := r.back x sb x1 s1
    exact p F' H1 _ y6 y1 y2 (y3.setF (Rep.imm y4 d v c r1))
  · rw [if_neg c] at p
    exact p G1 H1 _ (fun a o e => x1.gg a o (lentF_gg r a o e)) (Ext.base r x x1) s1 ((r.froz x1 s1).setF r1)
def immHo : D → Bool
  | .lst ds => imms ds
  | .dT _ ds => imms ds
  | .dK _ ds => imms ds
  | _ => false
theorem HoRep.imm {F G : Hp} (k : ∀ a xs, F a = some (.tup xs) → G a = some (.tup xs)) : ∀ {d : D} {o : HO}, immHo d = true → HoRep F d o → HoRep G d o
  | .lst ds, o, i, h => by
    obtain ⟨xs, e, r⟩ := h
    exact ⟨xs, e, Reps.imm k ds xs i r⟩
  | .dT ks ds, o, i, h => by
    obtain ⟨xs, e, l, r⟩ := h
    exact ⟨xs, e, l, Reps.imm k ds xs i r⟩
  | .dK ks ds, o, i, h => by
    obtain ⟨xs, e, l, r⟩ := h
    exact ⟨xs, e, l, Reps.imm k ds xs i r⟩
  | .non, _, _, h => h.elim
  | .bl _, _, _, h => h.elim
  | .int _, _, _, h => h.elim
  | .str _, _, _, h => h.elim
  | .tup _, _, _, h => h.elim
  | .drw, _, _, h => h.elim
  | .ftup _, _, _, h => h.elim
  | .opq _ _, _, _, h => h.elim
/-- x = a new list or dict -/
def gSetN (i : Nat) (ls : List Nat) (f : Ev → Dr D) : SEnv → Dr Out := fun ρ => (f (lend ls ρ)).bind fun d => .ret (.nx ((if immHo d = true then ρ else freeze ls ρ).set i (.own d)))
theorem RS.no {H0 F H : Hp} {ρ : SEnv} {σ : L2.St} (r : RS H0 F H ρ σ) {o : Addr} (h : H o = none) : ∀ (j : Nat) (e : D), ρ[j]? = some (SV.own e) → σ[j]? ≠ some (some (V.ref o)) := fun j e q z => by
  obtain ⟨o2, ho, h1, h2, h3, h4, h5⟩ := r.own j e q
  rw [z] at h1
  cases h1
  rw [h] at h4
  cases h4
theorem frz_own {ls : List Nat} {ρ : SEnv} {j : Nat} {e : D} (h : (freeze ls ρ)[j]? = some (.own e)) : ρ[j]? = some (.own e) := by
  rw [freeze_get] at h
  obtain ⟨s, e1, e2⟩ := Option.map_eq_some_iff.mp h
  cases s with
  | no => cases e2
  | fr d' => cases e2
  | own d' =>
    have e2 : (if ls.contains j then SV.fr d' else .own d') = .own e := e2
    by_cases c : ls.contains j = true
    · rw [if_pos c] at e2
      cases e2
    · rw [if_neg c] at e2
      cases e2
      exact e1
theorem dens_setN (i : Nat) (ls : List Nat) (he : DenN W te fe) : DenS W (tAsg te (gName i)) (gSetN i ls fe) := fun n F0 H0 F H ρ σ Dn x sb r al => by
  refine he n F0 H0 (lentF ls ρ σ F H) H (lend ls ρ) σ _ (lentF_ext r x) (lentF_re r) (lentF_sb r sb) ((AllN.bind al).q fun m d p => ?_)
  intro o ho G1 H1 x1 s1 g0 h0 e r1
  have h00 : H0 o = none := x.dm o h0
  by_cases c : immHo d = true
  · rw [if_pos c] at p
    obtain ⟨F', y1, y2, y3, y4, y5, y6⟩ := r.back x sb x1 s1
    exact p F' H1 _ y6 y1 y2 (y3.setO (y5 o g0) h00 e (r1.imm y4 c) (r.no h0))
  · rw [if_neg c] at p
    exact p G1 H1 _ (fun a o e => x1.gg a o (lentF_gg r a o e)) (Ext.base r x x1) s1 ((r.froz x1 s1).setO g0 h00 e r1 fun j e2 q => r.no h0 j e2 (frz_own q))
/-- a, b = a tuple -/
def setNames : List Nat → List D → SEnv → Option SEnv
  | [], [], ρ => some ρ
  | i :: is, d :: ds, ρ => setNames is ds (ρ.set i (.fr d))
  | _, _, _ => none
def gUnp (is : List Nat) (ls : List Nat) (f : Ev → Dr D) : SEnv → Dr Out := fun ρ => (f (lend ls ρ)).bind fun d => match d with
  | .tup ds => match setNames is ds (if imms ds = true then ρ else freeze ls ρ) with
    | some ρ' => .ret (.nx ρ')
    | none => .fail
  | _ => .fail
theorem setNames_len : ∀ {is : List Nat} {ds : List D} {ρ ρ' : SEnv}, setNames is ds ρ = some ρ' → ds.length = is.length
  | [], [], _, _, _ => rfl
  | [], _ :: _, _, _, h => by cases h
  | _ :: _, [], _, _, h => by cases h
  | i :: is, d :: ds, ρ, ρ', h => by
    rw [List.length_cons, List.length_cons, setNames_len (is := is) (ds := ds) h]
theorem names_ok : ∀ (is : List Nat) {H0 F H : Hp} {ρ ρ' : SEnv} {σ : L2.St} {ds : List D} {xs : List V} {Q : L2.St → Hp → Prop}, RS H0 F H ρ σ → Reps F ds xs → setNames is ds ρ = some ρ' → (∀ σ', RS H0 F H ρ' σ' → Q σ' H) → gNames is xs σ H Q
  | [], H0, F, H, ρ, ρ', σ, ds, xs, Q, r, q, e, k => by
    cases ds with
    | nil =>
      cases e
      have q' : xs = [] := q
      exact ⟨q', k σ r⟩
    | cons d ds => cases e
  | i :: is, H0, F, H, ρ, ρ', σ, ds, xs, Q, r, q, e, k => by
    cases ds with
    | nil => cases e
    | cons d ds =>
      obtain ⟨v, rs, rfl, r1, r2⟩ := q
      refine ⟨v, rs, rfl, ?_⟩
      exact names_ok is (r.setF r1) r2 e k
theorem dens_unp (is : List Nat) (ls : List Nat) {l : Nat} (hl : l = is.length := by rfl) (he : DenE W te fe) : DenS W (tAsg te (L2.gTup K l (gNames is))) (gUnp is ls fe) := fun n F0 H0 F H ρ σ Dn x sb r al => by
  refine he n F0 H0 (lentF ls ρ σ F H) H (lend ls ρ) σ _ (lentF_ext r x) (lentF_re r) (lentF_sb r sb) ((AllN.bind al).q fun m d p => ?_)
  intro v G1 H1 x1 s1 r1
  cases d with
  | tup ds =>
    have p : AllN (EXof W F0 H0) m (match setNames is ds (if imms ds = true then ρ else freeze ls ρ) with
      | some ρ' => .ret (.nx ρ')
      | none => .fail) (OutP F F0 H0 Dn) := p
    obtain ⟨a, xs, rfl, g, q⟩ := r1
    split at p
    · rename_i ρ' e
      refine ⟨a, xs, rfl, s1.sqt g, by rw [← q.length, setNames_len e, hl], ?_⟩
      by_cases c : imms ds = true
      · rw [if_pos c] at e
        obtain ⟨F', y1, y2, y3, y4, y5, y6⟩ := r.back x sb x1 s1
        exact names_ok is y3 (Reps.imm y4 ds xs c q) e fun σ' r' => p F' H1 σ' y6 y1 y2 r'
      · rw [if_neg c] at e
        exact names_ok is (r.froz x1 s1) q e fun σ' r' => p G1 H1 σ' (fun a o e => x1.gg a o (lentF_gg r a o e)) (Ext.base r x x1) s1 r'
    · exact p.elim
  | _ => exact p.elim
/-- a, b = e1, e2, both frozen -/
def gPar (i j : Nat) (ls : List Nat) (f : Ev → Dr (List D)) : SEnv → Dr Out := fun ρ => (f (lend ls ρ)).bind fun ds => match ds with
  | [d, e] => .ret (.nx (((if imms [d, e] = true then ρ else freeze ls ρ).set i (.fr d)).set j (.fr e)))
  | _ => .fail
theorem dens_par (i j : Nat) (ls : List Nat) (he : DenA W tA fA) : DenS W (tPar i j tA) (gPar i j ls fA) := fun n F0 H0 F H ρ σ Dn x sb r al => by
  refine he n F0 H0 (lentF ls ρ σ F H) H (lend ls ρ) σ _ (lentF_ext r x) (lentF_re r) (lentF_sb r sb) ((AllN.bind al).q fun m ds p => ?_)
  intro vs G1 H1 x1 s1 r1
  split at p
  · rename_i d e
    obtain ⟨v, w, rfl, q1, q2⟩ := r1.two
    refine ⟨v, w, rfl, ?_⟩
    by_cases c : imms [d, e] = true
    · rw [if_pos c] at p
      obtain ⟨F', y1, y2, y3, y4, y5, y6⟩ := r.back x sb x1 s1
      have c' : (imm d && (imm e && true)) = true := c
      rw [Bool.and_eq_true, Bool.and_eq_true] at c'
      exact p F' H1 _ y6 y1 y2 ((y3.setF (Rep.imm y4 d v c'.1 q1)).setF (Rep.imm y4 e w c'.2.1 q2))
    · rw [if_neg c] at p
      exact p G1 H1 _ (fun a o e => x1.gg a o (lentF_gg r a o e)) (Ext.base r x x1) s1 (((r.froz x1 s1).setF q1).setF q2)
  · exact p.elim
/-- .. the second one a new list or dict -/
def gParN (i j : Nat) (ls : List Nat) (f g : Ev → Dr D) : SEnv → Dr Out := fun ρ => (f (lend ls ρ)).bind fun d => (g (lend ls ρ)).bind fun e =>
  .ret (.nx (((if imm d = true ∧ immHo e = true then ρ else freeze ls ρ).set i (.fr d)).set j (.own e)))
theorem dens_parN (i j : Nat) (ls : List Nat) (ha : DenE W ta fa) (hb : DenN W tb fb) : DenS W (tPar i j (tCons ta (tCons tb tNil))) (gParN i j ls fa fb) := fun n F0 H0 F H ρ σ Dn x sb r al => by
  refine ha n F0 H0 (lentF ls ρ σ F H) H (lend ls ρ) σ _ (lentF_ext r x) (lentF_re r) (lentF_sb r sb) ((AllN.bind al).q fun m d p => ?_)
  intro v G1 H1 x1 s1 r1
  refine hb m F0 H0 G1 H1 (lend ls ρ) σ _ (Ext.base r x x1) ((lentF_re r).mono x1.le) s1 ((AllN.bind p).q fun m2 e p2 => ?_)
  intro o ho G2 H2 x2 s2 g0 h0 eo r2
  have h00 : H o = none := x1.dm o h0
  have h000 : H0 o = none := x.dm o h00
  refine ⟨v, .ref o, rfl, ?_⟩
  by_cases c : imm d = true ∧ immHo e = true
  · rw [if_pos c] at p2
    obtain ⟨F', y1, y2, y3, y4, y5, y6⟩ := r.back x sb (x1.trans x2) s2
    refine p2 F' H2 _ y6 y1 y2 ((y3.setF (Rep.imm y4 d v c.1 (r1.mono x2.le))).setO (y5 o g0) h000 eo (r2.imm y4 c.2) fun k e2 q => ?_)
    by_cases ki : i = k
    · subst ki
      have hl : i < ρ.length := by
        have := (List.getElem?_eq_some_iff.mp q).1
        rwa [List.length_set] at this
      rw [List.getElem?_set_self hl] at q
      cases q
    · rw [List.getElem?_set_ne ki] at q ⊢
      exact r.no h00 k e2 q
  · rw [if_neg c] at p2
    refine p2 G2 H2 _ (fun a o e => (x1.trans x2).gg a o (lentF_gg r a o e)) (Ext.base r x (x1.trans x2)) s2 (((r.froz (x1.trans x2) s2).setF (r1.mono x2.le)).setO g0 h000 eo r2 fun k e2 q => ?_)
    by_cases ki : i = k
    · subst ki
      have hl : i < (freeze ls ρ).length := by
        have := (List.getElem?_eq_some_iff.mp q).1
        rwa [List.length_set] at this
      rw [List.getElem?_set_self hl] at q
      cases q
    · rw [List.getElem?_set_ne ki] at q ⊢
      exact r.no h00 k e2 (frz_own q)
/-! ### return -/
def gRet (ls : List Nat) (f : Ev → Dr D) : SEnv → Dr Out := fun ρ => (f (lend ls ρ)).bind fun d => .ret (.ret d)
theorem dens_ret (ls : List Nat) (he : DenE W te fe) : DenS W (tRet te) (gRet ls fe) := fun n F0 H0 F H ρ σ Dn x sb r al => by
  refine he n F0 H0 (lentF ls ρ σ F H) H (lend ls ρ) σ _ (lentF_ext r x) (lentF_re r) (lentF_sb r sb) ((AllN.bind al).q fun m d p => ?_)
  intro v G1 H1 x1 s1 r1
  exact p v G1 H1 (fun a o e => x1.gg a o (lentF_gg r a o e)) (Ext.base r x x1) s1 r1
def gRetN (ls : List Nat) (f : Ev → Dr D) : SEnv → Dr Out := fun ρ => (f (lend ls ρ)).bind fun d => .ret (.rown d)
theorem dens_retN' (ls : List Nat) (he : DenN W te fe) : DenS W (tRet te) (gRetN ls fe) := fun n F0 H0 F H ρ σ Dn x sb r al => by
  refine he n F0 H0 (lentF ls ρ σ F H) H (lend ls ρ) σ _ (lentF_ext r x) (lentF_re r) (lentF_sb r sb) ((AllN.bind al).q fun m d p => ?_)
  intro o ho G1 H1 x1 s1 g0 h0 e r1
  exact p o ho G1 H1 (fun a o e => x1.gg a o (lentF_gg r a o e)) (Ext.base r x x1) s1 g0 (x.dm o h0) e r1
/-- return x, x a name: its own list or dict is handed over -/
def gRetV (i : Nat) : SEnv → Dr Out := fun ρ => match ρ[i]? with
  | some (.fr d) => .ret (.ret d)
  | some (.own d) => .ret (.rown d)
  | _ => .fail
theorem dens_retV (i : Nat) : DenS W (tRet (tVar i)) (gRetV i) := fun n F0 H0 F H ρ σ Dn x sb r al => by
  unfold gRetV at al
  split at al
  · rename_i d e
    obtain ⟨v, h1, h2⟩ := r.frz i d e
    exact ⟨v, h1, al v F H (fun _ _ h => h) x sb h2⟩
  · rename_i d e
    obtain ⟨o, ho, h1, h2, h3, h4, h5⟩ := r.own i d e
    exact ⟨.ref o, h1, al o ho F H (fun _ _ h => h) x sb h2 h3 h4 h5⟩
  · exact al.elim
def gRetNone : SEnv → Dr Out := fun _ => .ret (.ret .non)
theorem dens_retNone : DenS W tRetN gRetNone := fun n F0 H0 F H ρ σ Dn x sb r al => al .non F H (fun _ _ h => h) x sb rfl
/-! ### x += e -/
def DenIp (W : Wd) (r : TIp) (f : D → D → Dr D) : Prop := DenR W r f
def gAug (i : Nat) (ls : List Nat) (op : D → D → Dr D) (f : Ev → Dr D) : SEnv → Dr Out := fun ρ => match ρ[i]? with
  | some (.fr a) => (f (lend ls ρ)).bind fun b => (op a b).bind fun d => .ret (.nx ((if imm d = true then ρ else freeze ls ρ).set i (.fr d)))
  | _ => .fail
theorem dens_aug (i : Nat) (ls : List Nat) {r : TIp} {op : D → D → Dr D} (hop : DenR W r op) (he : DenE W te fe) : DenS W (tAug i te r) (gAug i ls op fe) := fun n F0 H0 F H ρ σ Dn x sb rs al => by
  unfold gAug at al
  split at al
  · rename_i a ea
    obtain ⟨v, h1, h2⟩ := rs.frz i a ea
    refine ⟨v, h1, ?_⟩
    refine he n F0 H0 (lentF ls ρ σ F H) H (lend ls ρ) σ _ (lentF_ext rs x) (lentF_re rs) (lentF_sb rs sb) ((AllN.bind al).q fun m b p => ?_)
    intro w G1 H1 x1 s1 r1
    refine hop m F0 H0 G1 H1 v w a b _ (Ext.base rs x x1) s1 ((h2.mono (Le.of (lentF_gg rs))).mono x1.le) r1 ((AllN.bind p).q fun m2 d p2 => ?_)
    intro z G2 H2 x2 s2 r2
    by_cases c : imm d = true
    · rw [if_pos c] at p2
      obtain ⟨F', y1, y2, y3, y4, y5, y6⟩ := rs.back x sb (x1.trans x2) s2
      exact p2 F' H2 _ y6 y1 y2 (y3.setF (Rep.imm y4 d z c r2))
    · rw [if_neg c] at p2
      exact p2 G2 H2 _ (fun a o e => (x1.trans x2).gg a o (lentF_gg rs a o e)) (Ext.base rs x (x1.trans x2)) s2 ((rs.froz (x1.trans x2) s2).setF r2)
  · exact al.elim
theorem den_ipI {f : Int → Int → Int} : DenR W (ipI f) (dI2 fun i j => .ret (.int (f i j))) := den_I0 fun _ _ _ => rfl
/-! ### methods of the def's own lists -/
/-- a list method: o.m(args) on the slot i -/
def gMeth (i : Nat) (ls : List Nat) (f : Ev → Dr (List D)) (m : List D → List D → Option (List D × Bool)) : SEnv → Dr Out := fun ρ => match ρ[i]? with
  | some (.own (.lst d)) => if ls.contains i = true then .fail else (f (lend ls ρ)).bind fun ds => match m d ds with
    | some z => .ret (.nx ((if z.2 = true then ρ else freeze ls ρ).set i (.own (.lst z.1))))
    | none => .fail
  | _ => .fail
/-- what the method makes of the object: the bool: what is new in it is free of lists -/
def DenM (r : V → List V → Hp → VK → Prop) (m : List D → List D → Option (List D × Bool)) : Prop := ∀ n G H o ys d ds xs z (Q : VK), Sb n G H → H o = some (.lst ys) → Reps G d ys → Reps G ds xs → m d ds = some z →
  (∀ v ys', Reps G z.1 ys' → (∀ F', z.2 = true → (∀ a xs, G a = some (.tup xs) → F' a = some (.tup xs)) → Reps F' d ys → Reps F' z.1 ys') → Q v (upd H o (.lst ys'))) → r (.ref o) xs H Q
theorem dens_meth (i : Nat) (ls : List Nat) {r : V → List V → Hp → VK → Prop} {m : List D → List D → Option (List D × Bool)} (hm : DenM r m) (ha : DenA W tA fA) : DenS W (tDrop (tBM K "list" r (tVar i) tA)) (gMeth i ls fA m) := fun n F0 H0 F H ρ σ Dn x sb rs al => by
  unfold gMeth at al
  split at al
  · rename_i d ed
    obtain ⟨o, ho, h1, h2, h3, h4, ys, rfl, h5⟩ := rs.own i _ ed
    refine ⟨.ref o, h1, .inl ⟨rfl, _, .inl (.inl h4)⟩, ?_⟩
    by_cases c : ls.contains i = true
    · rw [if_pos c] at al
      exact al.elim
    · rw [if_neg c] at al
      refine ha n F0 H0 (lentF ls ρ σ F H) H (lend ls ρ) σ _ (lentF_ext rs x) (lentF_re rs) (lentF_sb rs sb) ((AllN.bind al).q fun m1 ds p => ?_)
      intro vs G1 H1 x1 s1 r1
      have nl : ¬ Lent ls ρ σ o := fun ⟨j, d2, q1, q2, q3⟩ => by
        have := rs.inj i j _ d2 o ed q2 h1 q3
        subst this
        exact c (by simpa using q1)
      have hr : HoRep (lentF ls ρ σ F H) (.lst d) (.lst ys) := ⟨ys, rfl, h5.mono (Le.of (lentF_gg rs))⟩
      obtain ⟨g1, e1⟩ := x1.out s1 (by rw [lentF_n nl]; exact h2) h4 hr
      split at p
      · rename_i z ez
        refine hm m1 G1 H1 o ys d ds vs z _ s1 e1 ((h5.mono (Le.of (lentF_gg rs))).mono x1.le) r1 ez ?_
        intro v ho' k1 k2
        by_cases c2 : z.2 = true
        · rw [if_pos c2] at p
          obtain ⟨F', y1, y2, y3, y4, y5, y6⟩ := rs.back x sb x1 s1
          obtain ⟨o2, ho2, z1, z2, z3, z4, zs, ezs, z5⟩ := y3.own i _ ed
          rw [h1] at z1
          cases z1
          rw [e1] at z4
          cases z4
          cases ezs
          exact p F' (upd H1 o (.lst ho')) σ y6 (y1.up h3) (y2.up z2) (y3.upO ed h1 ⟨_, rfl, k2 F' c2 y4 z5⟩)
        · rw [if_neg c2] at p
          have ry := rs.froz x1 s1
          have ed' : (freeze ls ρ)[i]? = some (.own (.lst d)) := by
            rw [freeze_get, ed]
            show some (if ls.contains i then SV.fr (.lst d) else .own (.lst d)) = _
            rw [if_neg c]
          exact p G1 (upd H1 o (.lst ho')) σ (fun a o e => x1.gg a o (lentF_gg rs a o e)) ((Ext.base rs x x1).up h3) (s1.up g1) (ry.upO ed' h1 ⟨_, rfl, k1⟩)
      · exact p.elim
  · exact al.elim
def mAppend (ds : List D) : List D → Option (List D × Bool)
  | [d] => if ds.length < 1000000 then some (ds ++ [d], imm d) else none
  | _ => none
theorem opt_ite {α : Type} {c : Prop} [Decidable c] {x : Option α} {z : α} (h : (if c then x else none) = some z) : c ∧ x = some z := by
  by_cases k : c
  · rw [if_pos k] at h
    exact ⟨k, h⟩
  · rw [if_neg k] at h
    cases h
theorem denm_append : DenM rAppend mAppend := fun n G H o ys d ds xs z Q sb h r rs e al => by
  unfold mAppend at e
  split at e
  · rename_i d1
    obtain ⟨hl, e⟩ := opt_ite e
    cases e
    obtain ⟨v, rfl, q2⟩ := rs.one
    refine ⟨o, ys, v, rfl, rfl, h, by rw [← r.length]; exact line_lt hl, ?_⟩
    exact al .non (ys ++ [v]) (r.snoc q2) fun F' c k rr => rr.snoc (Rep.imm k d1 v c q2)
  · cases e
def mExtend (ds : List D) : List D → Option (List D × Bool)
  | [.lst es] => if ds.length + es.length ≤ 1000000 then some (ds ++ es, imms es) else none
  | _ => none
theorem denm_extend : DenM rExtend mExtend := fun n G H o ys d ds xs z Q sb h r rs e al => by
  unfold mExtend at e
  split at e
  · rename_i es
    obtain ⟨hl, e⟩ := opt_ite e
    cases e
    obtain ⟨v, rfl, b, zs, rfl, gb, q2⟩ := rs.one
    refine ⟨o, b, ys, zs, rfl, rfl, h, sb.lst gb, by rw [← r.length, ← q2.length]; exact line_of hl, ?_⟩
    exact al .non (ys ++ zs) (r.append q2) fun F' c k rr => rr.append (Reps.imm k es zs c q2)
  · cases e
/-! ### xs[k] = e -/
def gPut (i : Nat) (ls : List Nat) (f fk : Ev → Dr D) : SEnv → Dr Out := fun ρ => match ρ[i]? with
  | some (.own (.lst ds)) => if ls.contains i = true then .fail else (f (lend ls ρ)).bind fun d => (fk (lend ls ρ)).bind fun k => (toInt k).bind fun k => match ixN ds.length k with
    | some j => .ret (.nx ((if imm d = true then ρ else freeze ls ρ).set i (.own (.lst (ds.set j d)))))
    | none => .fail
  | _ => .fail
theorem dens_put (i : Nat) (ls : List Nat) (he : DenE W te fe) (hk : DenE W tc fc) : DenS W (tAsg te (gSub (tVar i) tc rSetL)) (gPut i ls fe fc) := fun n F0 H0 F H ρ σ Dn x sb rs al => by
  unfold gPut at al
  split at al
  · rename_i d ed
    obtain ⟨o, ho, h1, h2, h3, h4, ys, rfl, h5⟩ := rs.own i _ ed
    by_cases c : ls.contains i = true
    · rw [if_pos c] at al
      exact al.elim
    · rw [if_neg c] at al
      refine he n F0 H0 (lentF ls ρ σ F H) H (lend ls ρ) σ _ (lentF_ext rs x) (lentF_re rs) (lentF_sb rs sb) ((AllN.bind al).q fun m1 a p => ?_)
      intro v G1 H1 x1 s1 r1
      refine ⟨.ref o, h1, ?_⟩
      refine hk m1 F0 H0 G1 H1 (lend ls ρ) σ _ (Ext.base rs x x1) ((lentF_re rs).mono x1.le) s1 ((AllN.bind p).q fun m2 k p2 => ?_)
      intro w G2 H2 x2 s2 r2
      obtain ⟨k, rfl, p3⟩ := toInt_ok (AllN.bind p2)
      have r2 : w = .int k := r2
      subst r2
      have x12 := x1.trans x2
      have nl : ¬ Lent ls ρ σ o := fun ⟨j, d2, q1, q2, q3⟩ => by
        have := rs.inj i j _ d2 o ed q2 h1 q3
        subst this
        exact c (by simpa using q1)
      have hr : HoRep (lentF ls ρ σ F H) (.lst d) (.lst ys) := ⟨ys, rfl, h5.mono (Le.of (lentF_gg rs))⟩
      obtain ⟨g1, e1⟩ := x12.out s2 (by rw [lentF_n nl]; exact h2) h4 hr
      split at p3
      · rename_i j ej
        refine ⟨o, ys, k, j, rfl, rfl, e1, by rw [← h5.length]; exact ej, ?_⟩
        by_cases c2 : imm a = true
        · rw [if_pos c2] at p3
          obtain ⟨F', y1, y2, y3, y4, y5, y6⟩ := rs.back x sb x12 s2
          obtain ⟨o2, ho2, z1, z2, z3, z4, zs, ezs, z5⟩ := y3.own i _ ed
          rw [h1] at z1
          cases z1
          rw [e1] at z4
          cases z4
          cases ezs
          exact p3 F' (upd H2 o _) σ y6 (y1.up h3) (y2.up z2) (y3.upO ed h1 ⟨_, rfl, z5.set j (Rep.imm y4 a v c2 (r1.mono x2.le))⟩)
        · rw [if_neg c2] at p3
          have ry := rs.froz x12 s2
          have ed' : (freeze ls ρ)[i]? = some (.own (.lst d)) := by
            rw [freeze_get, ed]
            show some (if ls.contains i then SV.fr (.lst d) else .own (.lst d)) = _
            rw [if_neg c]
          exact p3 G2 (upd H2 o _) σ (fun a o e => x12.gg a o (lentF_gg rs a o e)) ((Ext.base rs x x12).up h3) (s2.up g1) (ry.upO ed' h1 ⟨_, rfl, (((h5.mono (Le.of (lentF_gg rs))).mono x12.le).set j (r1.mono x2.le))⟩)
      · exact p3.elim
  · exact al.elim
end
end Dn
namespace Dn
open PySem PySem.Spec PyProof.Rows L2
section
variable {W : Wd} {K : PySem.W.Frag} {ta tb tc te : TE} {fa fb fc fe : Ev → Dr D} {tt tu : TT} {ft fu : Ev → Dr Bool} {tA : TA} {fA : Ev → Dr (List D)} {t u : TS} {g h : SEnv → Dr Out}
/-! ### for -/
abbrev STg := D → SEnv → Option SEnv
def stName (i : Nat) : STg := fun d ρ => some (ρ.set i (.fr d))
def stTup (is : List Nat) : STg := fun d ρ => match d with
  | .tup ds => setNames is ds ρ
  | _ => none
def DenGS (g : TG) (t : STg) : Prop := ∀ n H0 F H ρ σ x d ρ' (Q : L2.St → Hp → Prop), RS H0 F H ρ σ → Sb n F H → Rep F d x → t d ρ = some ρ' → (∀ σ', RS H0 F H ρ' σ' → Q σ' H) → g x σ H Q
theorem dengs_name (i : Nat) : DenGS (gName i) (stName i) := fun n H0 F H ρ σ x d ρ' Q r sb q e k => by
  cases e
  exact k _ (r.setF q)
theorem dengs_tup (is : List Nat) {l : Nat} (hl : l = is.length := by rfl) : DenGS (L2.gTup K l (gNames is)) (stTup is) := fun n H0 F H ρ σ x d ρ' Q r sb q e k => by
  cases d with
  | tup ds =>
    obtain ⟨a, xs, rfl, g, q⟩ := q
    have e' : setNames is ds ρ = some ρ' := e
    exact ⟨a, xs, rfl, sb.sqt g, by rw [← q.length, setNames_len e', hl], names_ok is r q e' k⟩
  | _ => cases e
/-- behind a loop's turn -/
def loopOut (k : SEnv → Dr Out) : Out → Dr Out
  | .nx ρ => k ρ
  | .ct ρ => k ρ
  | .bk ρ => .ret (.nx ρ)
  | .ret d => .ret (.ret d)
  | .rown d => .ret (.rown d)
def forGo (tg : STg) (body : SEnv → Dr Out) : List D → SEnv → Dr Out
  | [], ρ => .ret (.nx ρ)
  | d :: ds, ρ => match tg d ρ with
    | none => .fail
    | some ρ' => (body ρ').bind (loopOut (forGo tg body ds))
def gFor (ls : List Nat) (fi : Ev → Dr (List D)) (tg : STg) (body : SEnv → Dr Out) : SEnv → Dr Out := fun ρ => (fi (lend ls ρ)).bind fun ds => forGo tg body ds (freeze ls ρ)
theorem dens_for (ls : List Nat) {wi : TI} {fi : Ev → Dr (List D)} {gt : TG} {tg : STg} (hi : DenI W wi fi) (hg : DenGS gt tg) (hb : DenS W t g) : DenS W (tFor wi gt t) (gFor ls fi tg g) := fun n F0 H0 F H ρ σ Dn x sb r al => by
  refine hi n F0 H0 (lentF ls ρ σ F H) H (lend ls ρ) σ _ (lentF_ext r x) (lentF_re r) (lentF_sb r sb) ((AllN.bind al).q fun n1 ds p => ?_)
  intro J G1 H1 x1 s1 wd
  have r1 := r.froz x1 s1
  refine ⟨fun i m σ' H' => m = ds.length - i ∧ i ≤ ds.length ∧ ∃ n2 F2 ρ2, Ext F0 H0 F2 H' ∧ Sb n2 F2 H' ∧ RS H0 F2 H' ρ2 σ' ∧ (∀ a o, G1 a = some o → F2 a = some o) ∧ AllN (EXof W F0 H0) n2 (forGo tg g (ds.drop i) ρ2) (OutP G1 F0 H0 Dn),
    ⟨ds.length, by simp, Nat.zero_le _, n1, G1, freeze ls ρ, Ext.base r x x1, s1, r1, fun _ _ h => h, p.q fun _ _ q => q.inc fun a o e => x1.gg a o (lentF_gg r a o e)⟩, ?_⟩
  rintro i m σ2 H2 ⟨rfl, hile, n2, F2, ρ2, x2, s2, r2, k2, al2⟩
  by_cases hlt : i < ds.length
  · refine .inr ⟨wd.go i n2 F2 H2 hlt k2 s2, fun σ' H' => i + 1 ≤ ds.length ∧ ∃ n2 F2 ρ2, Ext F0 H0 F2 H' ∧ Sb n2 F2 H' ∧ RS H0 F2 H' ρ2 σ' ∧ (∀ a o, G1 a = some o → F2 a = some o) ∧ AllN (EXof W F0 H0) n2 (forGo tg g (ds.drop (i + 1)) ρ2) (OutP G1 F0 H0 Dn),
      fun σ' H' h => ⟨ds.length - (i + 1), by omega, rfl, h.1, h.2⟩, fun v H3 y => ?_⟩
    rw [drop_cons_of hlt] at al2
    have al2 : AllN (EXof W F0 H0) n2 (match tg ds[i] ρ2 with
      | none => .fail
      | some ρ' => (g ρ').bind (loopOut (forGo tg g (ds.drop (i + 1))))) (OutP G1 F0 H0 Dn) := al2
    obtain ⟨F3, x3, s3, r3⟩ := wd.yld i n2 F2 H2 v H3 ds[i] (List.getElem?_eq_getElem hlt) k2 s2 y
    split at al2
    · exact al2.elim
    · rename_i ρ' eρ
      refine hg n2 H0 F3 H3 ρ2 σ2 v ds[i] ρ' _ (r2.ext x3 s3) s3 r3 eρ fun σ' r' => ?_
      refine hb n2 F0 H0 F3 H3 ρ' σ' _ (x2.trans x3) s3 r' ((AllN.bind al2).q fun n4 o p4 => ?_)
      cases o with
      | nx ρ4 => exact fun F4 H4 σ4 i4 x4 s4 r4 => ⟨hlt, n4, F4, ρ4, x4, s4, r4, fun a o e => i4 a o (x3.gg a o (k2 a o e)), p4⟩
      | ct ρ4 => exact fun F4 H4 σ4 i4 x4 s4 r4 => ⟨hlt, n4, F4, ρ4, x4, s4, r4, fun a o e => i4 a o (x3.gg a o (k2 a o e)), p4⟩
      | bk ρ4 =>
        have p4 : OutP G1 F0 H0 Dn n4 (.nx ρ4) := p4
        exact fun F4 H4 σ4 i4 x4 s4 r4 => p4 F4 H4 σ4 (fun a o e => i4 a o (x3.gg a o (k2 a o e))) x4 s4 r4
      | ret d =>
        have p4 : OutP G1 F0 H0 Dn n4 (.ret d) := p4
        exact fun v F4 H4 i4 x4 s4 r4 => p4 v F4 H4 (fun a o e => i4 a o (x3.gg a o (k2 a o e))) x4 s4 r4
      | rown d =>
        have p4 : OutP G1 F0 H0 Dn n4 (.rown d) := p4
        exact fun v ho F4 H4 i4 x4 s4 g4 h4 e4 r4 => p4 v ho F4 H4 (fun a o e => i4 a o (x3.gg a o (k2 a o e))) x4 s4 g4 h4 e4 r4
  · have e : i = ds.length := by omega
    subst e
    refine .inl ⟨wd.stop n2 F2 H2 k2 s2, ?_⟩
    rw [List.drop_length] at al2
    have al2 : OutP G1 F0 H0 Dn n2 (.nx ρ2) := al2
    exact al2 F2 H2 σ2 k2 x2 s2 r2
/-! ### while -/
def whGo (ls : List Nat) (ft : Ev → Dr Bool) (body : SEnv → Dr Out) : Nat → SEnv → Dr Out
  | 0, _ => .fail
  | k + 1, ρ => (ft (lend ls ρ)).bind fun b => if b = true then (body ρ).bind (loopOut (whGo ls ft body k)) else .ret (.nx ρ)
theorem dens_while (fuel : Nat) (ls : List Nat) (hc : DenT W tt ft) (hb : DenS W t g) : DenS W (tWhile tt t) (whGo ls ft g fuel) := fun n F0 H0 F H ρ σ Dn x sb r al => by
  refine ⟨fun m σ' H' => ∃ n2 F2 ρ2, Ext F0 H0 F2 H' ∧ Sb n2 F2 H' ∧ RS H0 F2 H' ρ2 σ' ∧ Inc F F2 ∧ AllN (EXof W F0 H0) n2 (whGo ls ft g m ρ2) (OutP F F0 H0 Dn),
    ⟨fuel, n, F, ρ, x, sb, r, fun _ _ h => h, al⟩, ?_⟩
  rintro m σ2 H2 ⟨n2, F2, ρ2, x2, s2, r2, k2, al2⟩
  cases m with
  | zero => exact al2.elim
  | succ m =>
    refine hc n2 F0 H0 (lentF ls ρ2 σ2 F2 H2) H2 (lend ls ρ2) σ2 _ (lentF_ext r2 x2) (lentF_re r2) (lentF_sb r2 s2) ((AllN.bind al2).q fun n3 b p => ?_)
    intro G3 H3 x3 s3
    obtain ⟨F', y1, y2, y3, y4, y5, y6⟩ := r2.back x2 s2 x3 s3
    have k3 : Inc F F' := fun a o e => y6 a o (k2 a o e)
    cases b with
    | true =>
      rw [if_pos rfl] at p ⊢
      refine ⟨fun σ' H' => ∃ n2 F2 ρ2, Ext F0 H0 F2 H' ∧ Sb n2 F2 H' ∧ RS H0 F2 H' ρ2 σ' ∧ Inc F F2 ∧ AllN (EXof W F0 H0) n2 (whGo ls ft g m ρ2) (OutP F F0 H0 Dn), fun σ' H' h => ⟨m, Nat.lt_succ_self _, h⟩, ?_⟩
      refine hb n3 F0 H0 F' H3 ρ2 σ2 _ y1 y2 y3 ((AllN.bind p).q fun n4 o p4 => ?_)
      cases o with
      | nx ρ4 => exact fun F4 H4 σ4 i4 x4 s4 r4 => ⟨n4, F4, ρ4, x4, s4, r4, fun a o e => i4 a o (k3 a o e), p4⟩
      | ct ρ4 => exact fun F4 H4 σ4 i4 x4 s4 r4 => ⟨n4, F4, ρ4, x4, s4, r4, fun a o e => i4 a o (k3 a o e), p4⟩
      | bk ρ4 =>
        have p4 : OutP F F0 H0 Dn n4 (.nx ρ4) := p4
        exact fun F4 H4 σ4 i4 x4 s4 r4 => p4 F4 H4 σ4 (fun a o e => i4 a o (k3 a o e)) x4 s4 r4
      | ret d =>
        have p4 : OutP F F0 H0 Dn n4 (.ret d) := p4
        exact fun v F4 H4 i4 x4 s4 r4 => p4 v F4 H4 (fun a o e => i4 a o (k3 a o e)) x4 s4 r4
      | rown d =>
        have p4 : OutP F F0 H0 Dn n4 (.rown d) := p4
        exact fun v ho F4 H4 i4 x4 s4 g4 h4 e4 r4 => p4 v ho F4 H4 (fun a o e => i4 a o (k3 a o e)) x4 s4 g4 h4 e4 r4
    | false =>
      rw [if_neg Bool.false_ne_true] at p ⊢
      have p : OutP F F0 H0 Dn n3 (.nx ρ2) := p
      exact p F' H3 σ2 k3 y1 y2 y3
/-! ### a def -/
def begun (k : Nat) (ds : List D) : SEnv := ds.map SV.fr ++ List.replicate (k - ds.length) SV.no
def outD : Out → Dr D
  | .nx _ => .ret .non
  | .ret d => .ret d
  | .rown d => .ret d
  | _ => .fail
def outN : Out → Dr D
  | .rown d => .ret d
  | _ => .fail
/-- the def's answer: k the number of its names, g its body -/
def runD (k : Nat) (g : SEnv → Dr Out) (ds : List D) : Dr D := (g (begun k ds)).bind outD
def runN (k : Nat) (g : SEnv → Dr Out) (ds : List D) : Dr D := (g (begun k ds)).bind outN
theorem Reps.begun {N : List Str} {F H0 H : Hp} {ds : List D} {vs : List V} (r : Reps F ds vs) : RS H0 F H (begun N.length ds) (start N vs) := by
  have hl := r.length
  have key : ∀ (i : Nat) (s : SV), (Dn.begun N.length ds)[i]? = some s → (∃ d, s = .fr d ∧ ds[i]? = some d) ∨ s = .no := fun i s e => by
    unfold Dn.begun at e
    by_cases c : i < ds.length
    · rw [List.getElem?_append_left (by rw [List.length_map]; exact c), List.getElem?_map, List.getElem?_eq_getElem c] at e
      cases e
      exact .inl ⟨_, rfl, List.getElem?_eq_getElem c⟩
    · rw [List.getElem?_append_right (by rw [List.length_map]; omega)] at e
      have := List.mem_of_getElem? e
      exact .inr (List.mem_replicate.mp this).2
  refine ⟨?_, fun i d e => ?_, fun i d e => ?_, fun i j d e o h1 h2 h3 h4 => ?_⟩
  · unfold Dn.begun L2.start
    simp only [List.length_append, List.length_map, List.length_replicate, hl]
  · rcases key i _ e with ⟨d', e1, e2⟩ | z
    · cases e1
      obtain ⟨v, h1, h2⟩ := r.get e2
      refine ⟨v, ?_, h2⟩
      have c : i < vs.length := (List.getElem?_eq_some_iff.mp h1).1
      unfold L2.start
      rw [List.getElem?_append_left (by rw [List.length_map]; exact c), List.getElem?_map, h1] <;> rfl
    · cases z
  · rcases key i _ e with ⟨d', e1, e2⟩ | z
    · cases e1
    · cases z
  · rcases key i _ h1 with ⟨d', e1, e2⟩ | z
    · cases e1
    · cases z
theorem den_def {N : List Str} {k : Nat} {XR : XD → PySem.Value → Option Addr → Hp → Prop} {vs : List V} {H : Hp} {Q : VK} {E : XK} (hs : DenS ⟨E, XR⟩ t g) (h : spD XR k (runD N.length g) vs H Q E) : t { nx := fun _ H' => Q .non H', rt := Q } (start N vs) H := by
  obtain ⟨hk, n, G, ds, sb, r, al⟩ := h
  refine hs n G H G H (begun N.length ds) (start N vs) _ (Ext.refl G H) sb (r.begun) ((AllN.bind al).q fun m o p => ?_)
  cases o with
  | nx ρ => exact fun F' H' σ i x s r' => p .non F' H' x s rfl
  | ret d => exact fun v F' H' i x s r' => p v F' H' x s r'
  | rown d =>
    intro o ho F' H' i x s g0 h0 e r'
    have x2 : Ext G H (upd F' o ho) H' := ⟨fun b u q => by
        rw [upd_ne (ne_of_none (x.gg b u q) g0)]
        exact x.gg b u q, fun b u q q0 => by
        by_cases z : b = o
        · subst z
          exact .inl h0
        · rw [upd_ne z] at q
          exact x.fr b u q q0, x.hh, x.dm⟩
    have le : Le F' (upd F' o ho) := Le.of fun b u q => by
      rw [upd_ne (ne_of_none q g0)]
      exact q
    refine p (.ref o) (upd F' o ho) H' x2 ⟨fun b u q m => ?_, fun b c q => ?_⟩ ((r'.mono le).rep upd_same)
    · by_cases z : b = o
      · subst z
        rw [upd_same] at q
        cases q
        exact e
      · rw [upd_ne z] at q
        exact s.eq b u q m
    · by_cases z : b = o
      · subst z
        rw [upd_same] at q
        exact absurd (Option.some.inj q) (r'.unmark c)
      · rw [upd_ne z] at q
        exact (s.mr b c q).mono fun c u k => by
          rw [upd_ne (ne_of_none k g0)]
          exact k
  | bk ρ => exact p.elim
  | ct ρ => exact p.elim
theorem den_defN {N : List Str} {k : Nat} {XR : XD → PySem.Value → Option Addr → Hp → Prop} {vs : List V} {H : Hp} {Q : VK} {E : XK} (hs : DenS ⟨E, XR⟩ t g) (h : spN XR k (runN N.length g) vs H Q E) : t { nx := fun _ H' => Q .non H', rt := Q } (start N vs) H := by
  obtain ⟨hk, n, G, ds, sb, r, al⟩ := h
  refine hs n G H G H (begun N.length ds) (start N vs) _ (Ext.refl G H) sb (r.begun) ((AllN.bind al).q fun m o p => ?_)
  cases o with
  | rown d => exact fun o ho F' H' i x s g0 h0 e r' => p o ho F' H' x s g0 h0 e r'
  | nx ρ => exact p.elim
  | ret d => exact p.elim
  | bk ρ => exact p.elim
  | ct ρ => exact p.elim
theorem spD_len {XR : XD → PySem.Value → Option Addr → Hp → Prop} {k : Nat} {m : List D → Dr D} (vs : List V) (H : Hp) (Q : VK) (E : XK) (h : spD XR k m vs H Q E) : vs.length = k := h.1
theorem spN_len {XR : XD → PySem.Value → Option Addr → Hp → Prop} {k : Nat} {m : List D → Dr D} (vs : List V) (H : Hp) (Q : VK) (E : XK) (h : spN XR k m vs H Q E) : vs.length = k := h.1
end
end Dn
namespace Dn
open PySem PySem.Spec PyProof.Rows L2
/-! ## sorted(set(a list of tuples of ints)) -/
def insU (k : List Int) : List (List Int) → List (List Int)
  | [] => [k]
  | x :: xs => if k = x then x :: xs else if HT.lexLt k x = true then k :: x :: xs else x :: insU k xs
def sortU : List (List Int) → List (List Int)
  | [] => []
  | k :: ks => insU k (sortU ks)
theorem lex_irr : ∀ a : List Int, HT.lexLt a a = false
  | [] => rfl
  | x :: xs => by
    rw [HT.lexLt_cons, if_pos rfl]
    exact lex_irr xs
theorem lex_trans : ∀ {a b c : List Int}, HT.lexLt a b = true → HT.lexLt b c = true → HT.lexLt a c = true
  | [], [], _, h, _ => by cases h
  | [], _ :: _, [], _, h => by cases h
  | [], _ :: _, _ :: _, _, _ => rfl
  | _ :: _, [], _, h, _ => by cases h
  | _ :: _, _ :: _, [], _, h => by cases h
  | x :: xs, y :: ys, z :: zs, h1, h2 => by
    rw [HT.lexLt_cons] at h1 h2 ⊢
    by_cases e1 : x = y
    · subst e1
      rw [if_pos rfl] at h1
      by_cases e2 : x = z
      · subst e2
        rw [if_pos rfl] at h2 ⊢
        exact lex_trans h1 h2
      · rw [if_neg e2] at h2 ⊢
        exact h2
    · rw [if_neg e1] at h1
      have h1 := of_decide_eq_true h1
      by_cases e2 : y = z
      · subst e2
        rw [if_neg e1]
        exact decide_eq_true h1
      · rw [if_neg e2] at h2
        have h2 := of_decide_eq_true h2
        rw [if_neg (by omega)]
        exact decide_eq_true (by omega)
theorem lex_tri : ∀ (a b : List Int), a = b ∨ HT.lexLt a b = true ∨ HT.lexLt b a = true
  | [], [] => .inl rfl
  | [], _ :: _ => .inr (.inl rfl)
  | _ :: _, [] => .inr (.inr rfl)
  | x :: xs, y :: ys => by
    rw [HT.lexLt_cons, HT.lexLt_cons]
    by_cases e : x = y
    · subst e
      rw [if_pos rfl, if_pos rfl]
      rcases lex_tri xs ys with h | h | h
      · exact .inl (by rw [h])
      · exact .inr (.inl h)
      · exact .inr (.inr h)
    · rw [if_neg e, if_neg (fun z => e z.symm)]
      rcases Int.lt_or_gt_of_ne e with h | h
      · exact .inr (.inl (decide_eq_true h))
      · exact .inr (.inr (decide_eq_true h))
abbrev Asc (l : List (List Int)) : Prop := l.Pairwise fun a b => HT.lexLt a b = true
theorem mem_insU {k x : List Int} : ∀ {l : List (List Int)}, x ∈ insU k l ↔ x = k ∨ x ∈ l
  | [] => by simp [insU]
  | y :: l => by
    unfold insU
    by_cases e : k = y
    · rw [if_pos e]
      subst e
      simp
    · rw [if_neg e]
      by_cases h : HT.lexLt k y = true
      · rw [if_pos h]
        simp
      · rw [if_neg h, List.mem_cons, mem_insU, List.mem_cons]
        constructor
        · rintro (h | h | h)
          · exact .inr (.inl h)
          · exact .inl h
          · exact .inr (.inr h)
        · rintro (h | h | h)
          · exact .inr (.inl h)
          · exact .inl h
          · exact .inr (.inr h)
theorem asc_insU {k : List Int} : ∀ {l : List (List Int)}, Asc l → Asc (insU k l)
  | [], _ => by simp [insU, Asc]
  | y :: l, h => by
    unfold insU
    have h' := List.pairwise_cons.mp h
    by_cases e : k = y
    · rw [if_pos e]
      exact h
    · rw [if_neg e]
      by_cases c : HT.lexLt k y = true
      · rw [if_pos c]
        refine List.pairwise_cons.mpr ⟨fun z hz => ?_, h⟩
        rcases List.mem_cons.mp hz with rfl | hz
        · exact c
        · exact lex_trans c (h'.1 z hz)
      · rw [if_neg c]
        refine List.pairwise_cons.mpr ⟨fun z hz => ?_, asc_insU h'.2⟩
        rcases mem_insU.mp hz with rfl | hz
        · rcases lex_tri z y with q | q | q
          · exact absurd q e
          · exact absurd q c
          · exact q
        · exact h'.1 z hz
theorem mem_sortU {x : List Int} : ∀ {l : List (List Int)}, x ∈ sortU l ↔ x ∈ l
  | [] => by simp [sortU]
  | k :: l => by
    show x ∈ insU k (sortU l) ↔ _
    rw [mem_insU, mem_sortU, List.mem_cons]
theorem asc_sortU : ∀ l : List (List Int), Asc (sortU l)
  | [] => List.Pairwise.nil
  | k :: l => asc_insU (asc_sortU l)
theorem asc_unique : ∀ {a b : List (List Int)}, Asc a → Asc b → (∀ x, x ∈ a ↔ x ∈ b) → a = b
  | [], [], _, _, _ => rfl
  | [], y :: b, _, _, h => by
    have := (h y).mpr List.mem_cons_self
    cases this
  | x :: a, [], _, _, h => by
    have := (h x).mp List.mem_cons_self
    cases this
  | x :: a, y :: b, ha, hb, h => by
    have ha' := List.pairwise_cons.mp ha
    have hb' := List.pairwise_cons.mp hb
    have e : x = y := by
      rcases List.mem_cons.mp ((h x).mp List.mem_cons_self) with q | q
      · exact q
      · rcases List.mem_cons.mp ((h y).mpr List.mem_cons_self) with r | r
        · exact r.symm
        · have z := lex_trans (hb'.1 x q) (ha'.1 y r)
          rw [lex_irr] at z
          cases z
    subst e
    have ne : ∀ {l : List (List Int)}, (∀ z ∈ l, HT.lexLt x z = true) → x ∉ l := fun hl hx => by
      have := hl x hx
      rw [lex_irr] at this
      cases this
    rw [asc_unique ha'.2 hb'.2 fun z => ?_]
    constructor
    · intro hz
      rcases List.mem_cons.mp ((h z).mp (List.mem_cons_of_mem _ hz)) with q | q
      · exact absurd (q ▸ hz) (ne ha'.1)
      · exact q
    · intro hz
      rcases List.mem_cons.mp ((h z).mpr (List.mem_cons_of_mem _ hz)) with q | q
      · exact absurd (q ▸ hz) (ne hb'.1)
      · exact q
theorem code_lex {B : Int} : ∀ {a b : List Int}, a.length = b.length → TS.Bd B a → TS.Bd B b → TS.code B a ≤ TS.code B b → a ≠ b → HT.lexLt a b = true
  | [], [], _, _, _, _, ne => absurd rfl ne
  | [], _ :: _, h, _, _, _, _ => by simp at h
  | _ :: _, [], h, _, _, _, _ => by simp at h
  | x :: xs, y :: ys, hl, ha, hb, h, ne => by
    have hl' : xs.length = ys.length := by simpa using hl
    rw [HT.lexLt_cons]
    by_cases e : x = y
    · subst e
      rw [if_pos rfl]
      refine code_lex hl' ha.tail hb.tail ?_ fun q => ne (by rw [q])
      rcases Int.lt_or_le (TS.code B ys) (TS.code B xs) with q | q
      · have := (TS.code_same (B := B) (d := x) hl'.symm).mpr q
        omega
      · exact q
    · rw [if_neg e]
      rcases Int.lt_or_gt_of_ne e with q | q
      · exact decide_eq_true q
      · have := TS.code_lt hl'.symm hb.tail ha.tail q
        omega
/-- the tuples of ints in a list -/
def tupsD : List D → Option (List (List Int))
  | [] => some []
  | .tup ns :: ds => match intsD ns, tupsD ds with
    | some is, some ks => some (is :: ks)
    | _, _ => none
  | _ :: _ => none
def tupI (ns : List Int) : D := .tup (ns.map .int)
theorem tupsD_eq : ∀ {ds : List D} {ks : List (List Int)}, tupsD ds = some ks → ds = ks.map tupI
  | [], ks, h => by
    cases h
    rfl
  | d :: ds, ks, h => by
    cases d with
    | tup ns =>
      have h' : (match intsD ns, tupsD ds with
        | some is, some ks => some (is :: ks)
        | _, _ => none) = some ks := h
      cases e1 : intsD ns with
      | none =>
        rw [e1] at h'
        cases h'
      | some is =>
        cases e2 : tupsD ds with
        | none =>
          rw [e1, e2] at h'
          cases h'
        | some js =>
          rw [e1, e2] at h'
          cases h'
          rw [intsD_eq e1, tupsD_eq e2] <;> rfl
    | _ => cases h
theorem tupsD_map : ∀ ks : List (List Int), tupsD (ks.map tupI) = some ks
  | [] => rfl
  | k :: ks => by
    show (match intsD (k.map .int), tupsD (ks.map tupI) with
      | some is, some ks => some (is :: ks)
      | _, _ => none) = _
    rw [intsD_map, tupsD_map ks]
theorem Reps.tups {G : Hp} : ∀ {ks : List (List Int)} {xs : List V}, Reps G (ks.map tupI) xs → ∃ as : List Addr, as.length = ks.length ∧ xs = as.map V.ref ∧ ∀ (i : Nat) (a : Addr) (k : List Int), as[i]? = some a → ks[i]? = some k → G a = some (.tup (k.map V.int))
  | [], xs, r => by
    have r : xs = [] := r
    subst r
    exact ⟨[], rfl, rfl, fun i a k h => by simp at h⟩
  | k :: ks, xs, r => by
    obtain ⟨v, rs, rfl, ⟨a, ys, rfl, g, q⟩, r2⟩ := r
    have := q.ints'
    subst this
    obtain ⟨as, h1, rfl, h3⟩ := Reps.tups r2
    refine ⟨a :: as, by rw [List.length_cons, List.length_cons, h1], rfl, fun i b k' e1 e2 => ?_⟩
    cases i with
    | zero =>
      cases e1
      cases e2
      exact g
    | succ i => exact h3 i b k' e1 e2
def okTups (ks : List (List Int)) : Bool := ks.all fun k => decide (k.length = (ks.headD [0]).length) && decide (0 < k.length) && k.all fun x => decide (0 ≤ x)
def topT (ks : List (List Int)) : Int := 1 + (ks.flatten.foldr max 0)
theorem le_foldr {x : Int} : ∀ {l : List Int}, x ∈ l → x ≤ l.foldr max 0
  | [], h => by cases h
  | y :: l, h => by
    rw [List.foldr_cons]
    rcases List.mem_cons.mp h with rfl | h
    · omega
    · have := le_foldr h
      omega
section
variable {W : Wd} {K : PySem.W.Frag} {ta tb tc te : TE} {fa fb fc fe : Ev → Dr D} {tt tu : TT} {ft fu : Ev → Dr Bool} {tA : TA} {fA : Ev → Dr (List D)} {t u : TS} {g h : SEnv → Dr Out}
def gSortSet (f : Ev → Dr (List D)) : Ev → Dr D := fun ρ => (f ρ).bind fun ds => match ds with
  | [.lst es] => match tupsD es with
    | some ks => if ks.length < 64 ∧ okTups ks = true then .ret (.lst ((sortU ks).map tupI)) else .fail
    | none => .fail
  | _ => .fail
theorem Ext.drop {G H H1 H2 : Hp} {a : Addr} (x : Ext G H G H1) (ha : H1 a = none) : H a = none := x.dm a ha
theorem Reps.refs {G : Hp} : ∀ {ks : List (Addr × List Int)}, (∀ p ∈ ks, G p.1 = some (.tup (p.2.map V.int))) → Reps G (ks.map fun p => tupI p.2) (ks.map fun p => V.ref p.1)
  | [], _ => rfl
  | p :: ks, h => ⟨.ref p.1, _, rfl, ⟨p.1, _, rfl, h p List.mem_cons_self, Reps.ints _⟩, Reps.refs fun q hq => h q (List.mem_cons_of_mem _ hq)⟩
theorem den_sortSet {P : Program} {w : World} (h : DenA W tA fA) : DenN W (tCB (rSortedT K P w) (tCons (tCB (rSetOfT K P w) tA) tNil)) (gSortSet fA) := fun n F0 H0 G H ρ σ Q x re sb al => by
  refine h n F0 H0 G H ρ σ _ x re sb ((AllN.bind al).q fun m ds p => ?_)
  intro vs G1 H1 x1 s1 r1
  split at p
  · rename_i es
    split at p
    · rename_i ks ek
      obtain ⟨⟨hl, hok⟩, p⟩ := p.ite
      have p : PostN G H Q m (.lst ((sortU ks).map tupI)) := p
      have e := tupsD_eq ek
      subst e
      obtain ⟨v, rfl, a, xs, rfl, g, q⟩ := r1.one
      obtain ⟨as, l1, rfl, q3⟩ := q.tups
      -- the pairs of addresses and tuples
      have zl : (as.zip ks).length = ks.length := by rw [List.length_zip, l1, Nat.min_self]
      have zf : (as.zip ks).map Prod.fst = as := List.map_fst_zip (Nat.le_of_eq l1)
      have zs : (as.zip ks).map Prod.snd = ks := List.map_snd_zip (Nat.le_of_eq l1.symm)
      have zt : ∀ p ∈ as.zip ks, G1 p.1 = some (.tup (p.2.map V.int)) := fun p hp => by
        obtain ⟨i, hi⟩ := List.mem_iff_getElem?.mp hp
        rw [List.getElem?_zip_eq_some] at hi
        exact q3 i p.1 p.2 hi.1 hi.2
      have ok := List.all_eq_true.mp hok
      have okp : ∀ k ∈ ks, k.length = (ks.headD [0]).length ∧ 0 < k.length ∧ TS.Bd (topT ks) k := fun k hk => by
        have := ok k hk
        simp only [Bool.and_eq_true, decide_eq_true_eq, List.all_eq_true] at this
        refine ⟨this.1.1, this.1.2, fun z hz => ⟨this.2 z hz, ?_⟩⟩
        have := le_foldr (List.mem_flatten.mpr ⟨k, hk, hz⟩)
        unfold topT
        omega
      have hd : 1 ≤ (ks.headD [0]).length := by
        cases ks with
        | nil => exact Nat.le_refl _
        | cons k ks =>
          have := (okp k List.mem_cons_self).2.1
          exact this
      refine ⟨a, as.zip ks, rfl, ?_, fun p hp => s1.sqt (zt p hp), by rw [zl]; exact hl, fun b L hb sub all => ?_⟩
      · have e3 : (as.zip ks).map (fun p => V.ref p.1) = as.map V.ref := by
          rw [← zf, List.map_map]
          · rw [zf] <;> rfl
        rw [e3]
        exact s1.sql g
      · refine ⟨b, L, (ks.headD [0]).length, topT ks, rfl, upd_same, fun p hp => ?_, hd, fun p hp => ?_, fun L' l pm nd _ pw hl' => ?_⟩
        · have := s1.tup (zt p (sub p hp))
          refine .of ?_
          rw [upd_ne (ne_of_none this hb)]
          exact this
        · have hk : p.2 ∈ ks := by
            rw [← zs]
            exact List.mem_map_of_mem (sub p hp)
          exact ⟨(okp _ hk).1, (okp _ hk).2.2⟩
        · have inL : ∀ p ∈ L', p ∈ as.zip ks := fun p hp => sub p (pm.mem_iff.mp hp)
          have mk : ∀ p ∈ L', p.2 ∈ ks := fun p hp => by
            rw [← zs]
            exact List.mem_map_of_mem (inL p hp)
          have asc : Asc (L'.map Prod.snd) := by
            have nd' := List.pairwise_map.mp nd
            refine List.pairwise_map.mpr ?_
            refine List.Pairwise.imp_of_mem ?_ (List.Pairwise.and pw nd')
            intro p q hp hq hpq
            refine code_lex ?_ (okp _ (mk p hp)).2.2 (okp _ (mk q hq)).2.2 hpq.1 hpq.2
            rw [(okp _ (mk p hp)).1, (okp _ (mk q hq)).1]
          have em : L'.map Prod.snd = sortU ks := by
            refine asc_unique asc (asc_sortU ks) fun k => ?_
            rw [mem_sortU]
            constructor
            · intro hk
              obtain ⟨p, hp, rfl⟩ := List.mem_map.mp hk
              exact mk p hp
            · intro hk
              rw [← zs] at hk
              obtain ⟨p, hp, rfl⟩ := List.mem_map.mp hk
              have := all p hp
              obtain ⟨q, hq, e⟩ := List.mem_map.mp this
              refine List.mem_map.mpr ⟨q, pm.mem_iff.mpr hq, e⟩
          have xb := Ext.newO (F := G1) (o := SetTO P w b L) hb
          have rr : Reps G1 ((sortU ks).map tupI) (L'.map fun q => V.ref q.1) := by
            rw [← em, List.map_map]
            exact Reps.refs fun p hp => zt p (inL p hp)
          exact post_lst p (x1.trans xb) (s1.newO (s1.no hb)) rr hl'
    · exact p.elim
  · exact p.elim
/-! ### list(range(..)) -/
def gLstRg1 (f : Ev → Dr D) : Ev → Dr D := fun ρ => (f ρ).bind fun d => (toInt d).bind fun j => if -1000000 ≤ j ∧ j ≤ 1000000 then .ret (.lst (rangeD 0 j.toNat)) else .fail
theorem rgV_rep {G : Hp} (j : Int) : Reps G (rangeD 0 j.toNat) (rgV 0 j) := by
  have e1 : rangeD 0 j.toNat = ((List.range j.toNat).map fun i : Nat => (0 + (i : Int))).map D.int := by
    unfold rangeD
    rw [List.map_map] <;> rfl
  have e2 : rgV 0 j = ((List.range j.toNat).map fun i : Nat => (0 + (i : Int))).map V.int := by
    unfold rgV
    rw [List.map_map, Int.sub_zero] <;> rfl
  rw [e1, e2]
  exact Reps.ints _
/-! ### draws -/
def spDraw : Sp := fun vs H Q _ => vs.length = 2 ∧ ∃ n G a c b, vs = [.ref a, .int b] ∧ Sb (n + 1) G H ∧ G a = some (mark c) ∧ 0 < b ∧ b < 1073741824 ∧ ∀ r, 0 ≤ r → r < b → ∀ H', Ext G H G H' → Sb n G H' → Q (.int r) H'
def gDraw (f : Ev → Dr (List D)) : Ev → Dr D := fun ρ => (f ρ).bind fun ds => match ds with
  | [.drw, .int b] => .draw b fun r => .ret (.int r)
  | _ => .fail
theorem den_draw {E : XK} (h : DenA W tA fA) : DenE W (tCall spDraw [] E tA) (gDraw fA) := fun n F0 H0 G H ρ σ Q x re sb al => by
  refine h n F0 H0 G H ρ σ _ x re sb ((AllN.bind al).q fun m ds p => ?_)
  intro vs G1 H1 x1 s1 r1
  split at p
  · rename_i b
    obtain ⟨v, u, rfl, ⟨a, c, rfl, g⟩, h2⟩ := r1.two
    have h2 : u = .int b := h2
    subst h2
    obtain ⟨p1, p2, p3, p4⟩ := p
    have e : m - 1 + 1 = m := by omega
    refine ⟨rfl, m - 1, G1, a, c, b, rfl, by rw [e]; exact s1, g, p1, p2, fun r h0 h1 H' x' s' => ?_⟩
    exact p4 r h0 h1 _ G1 H' (x1.trans x') s' rfl
  · exact p.elim
end
end Dn
namespace L2
open PySem PySem.Spec PyProof.Rows
/-- t.index(k), t a tuple of ints that is known whole, k in it -/
def tTIdx (to ti : TE) : TE := fun σ H Q => to σ H fun x H1 => ∃ (p : Addr) (o : Obj) (xs : List V), x = .ref p ∧ H1 p = some (.frz o (.tup xs)) ∧ o.dict = none ∧ ti σ H1 fun y H2 => ∃ (k : Int) (ns : List Int), y = .int k ∧ H2 p = some (.frz o (.tup (ns.map V.int))) ∧ k ∈ ns ∧ Q (.int ((ns.idxOf k : Nat) : Int)) H2
theorem pe_tidx {X : Cx} {o e : Expr} {to te : TE} {apos cpos : Pos} (ho : PE X o to) (he : PE X e te) (m : M1 X o "index" apos e cpos) : PE X (.Call (.Attribute o "index" apos) [e] [] cpos) (tTIdx to te) := by
  refine ⟨fun pins s σ H Q I h => ?_⟩
  refine wpAny_Call_method m.base m.few m.line PySem.F.plainAttrs_tuple PySem.F.slot_tuple_index PySem.F.type_tuple_index (thn (ho.run pins s σ H _ I h) fun u s1 ⟨x, H1, I1, rx, p, ob, xs, ex, hs, hd, q1⟩ => ?_)
  subst ex
  obtain rfl : u = Value.ref p := rx
  obtain ⟨hg, hu⟩ := I1.hok p _ hs
  obtain ⟨its, rv, pl, hz⟩ := I1.tuple (X := X) (.inl (.inr ⟨ob, hs⟩))
  obtain ⟨ob2, ho2, hc, nn, hd2⟩ := id pl
  refine ⟨⟨ob2, ho2, hc⟩, fun b q => ?_, ?_⟩
  · cases q
    exact ⟨ob, hg, hd⟩
  rw [m.trees]
  refine Calls.callWith_builtin rfl (Calls.evalArgs_plain (Calls.spliced_cons (thn (he.run pins s1 σ H1 _ I1 q1) fun iv s2 ⟨y, H2, I2, ry, k, ns, ey, hs2, hk, q2⟩ => Calls.spliced_nil ?_)))
  subst ey
  obtain ⟨t, rfl⟩ := ry
  obtain ⟨its2, rv2, pl2, _⟩ := I2.tuple (X := X) (.inl (.inr ⟨ob, hs2⟩))
  exact SeqAt.tuple_index_ints (show s2.heap.IsTuple p its2.toArray from pl2) rv2.ints hk ⟨.int _, H2, I2.tok _, ⟨_, rfl⟩, q2⟩
/-- tuple(a list), the new tuple known whole -/
def rTupleF (K : PySem.W.Frag) : List V → Hp → VK → Prop := fun xs H Q => ∃ p ys, xs = [.ref p] ∧ SqL K H p ys ∧ ∀ l o, o.dict = none → H l = none → Q (.ref l) (upd H l (.frz o (.tup ys)))
theorem call_tupleF {X : Cx} : CallR X (.type "tuple") (rTupleF X.K) := by
  intro pins s σ H xs us Q I r h
  obtain ⟨p, ys, rfl, hq, q⟩ := h
  obtain ⟨u, rfl, rx⟩ := vals1 r
  cases rx
  obtain ⟨its, r', pl, hz⟩ := I.list hq
  have hlen := r'.length
  refine call_tuple_list pl.isList (fun h' kp => ?_) (by simp only [List.size_toArray] <;> omega)
  have I1 : Inv X pins σ H { s with heap := h' } := I.kept (t' := s.toks) kp
  have I2 : Inv X pins σ (upd H h'.objs.size (.frz { cls := .type "tuple", data := .seq its.toArray } (.tup ys))) { s with heap := h'.push { cls := .type "tuple", data := .seq its.toArray } } :=
    I1.laid (t' := s.toks) (fun b o e => Heap.get?_push_of_some _ e) (Nat.le_refl _) (show ObjOk X.prog X.w _ _ _ (.frz _ (.tup ys)) from ⟨Heap.get?_push_size _ rfl, hz, its, r', IsTup.new _ _⟩)
  exact ⟨.ref h'.objs.size, _, I2, rfl, q _ _ rfl (I1.hok.fresh (Nat.le_refl _))⟩
/-- the statement runs while the dict is locked, or as it is (where it is locked already) -/
def tLockOr (t : TS) : TS := fun D σ H => tLock t D σ H ∨ t D σ H
theorem ps_lockOr {X : Cx} {st : Stmt} {t : TS} (h : PS X st t) : PS X st (tLockOr t) := ⟨fun pins s σ H D I hw => by
  rcases hw with q | q
  · exact (ps_lock h).run pins s σ H D I q
  · exact h.run pins s σ H D I q⟩
end L2
namespace Dn
open PySem PySem.Spec PyProof.Rows L2
section
variable {W : Wd} {K : PySem.W.Frag} {ta tb tc te : TE} {fa fb fc fe : Ev → Dr D} {tt tu : TT} {ft fu : Ev → Dr Bool} {tA : TA} {fA : Ev → Dr (List D)} {t u : TS} {g h : SEnv → Dr Out}
def dTIdx (ds : List D) : D → Dr D
  | .int i => match intsD ds with
    | some ns => if i ∈ ns then .ret (.int ((ns.idxOf i : Nat) : Int)) else .fail
    | none => .fail
  | _ => .fail
def gTIdx (f k : Ev → Dr D) : Ev → Dr D := fun ρ => (f ρ).bind fun d => match d with
  | .ftup ds => (k ρ).bind (dTIdx ds)
  | _ => .fail
theorem den_tidx (ha : DenE W ta fa) (hb : DenE W tb fb) : DenE W (tTIdx ta tb) (gTIdx fa fb) := fun n F0 H0 G H ρ σ Q x re sb al => by
  refine ha n F0 H0 G H ρ σ _ x re sb ((AllN.bind al).q fun m d p => ?_)
  intro v G1 H1 x1 s1 r1
  split at p
  · rename_i ds
    obtain ⟨a, o, xs, rfl, g, hd, q⟩ := r1
    refine ⟨a, o, xs, rfl, s1.eq a _ g (fun _ z => nomatch z), hd, ?_⟩
    refine hb m F0 H0 G1 H1 ρ σ _ (x.trans x1) (re.mono x1.le) s1 ((AllN.bind p).q fun m2 e p2 => ?_)
    intro w G2 H2 x2 s2 r2
    unfold dTIdx at p2
    split at p2
    · rename_i i
      have r2 : w = .int i := r2
      subst r2
      split at p2
      · rename_i ns e
        obtain ⟨c, p3⟩ := p2.ite
        have e2 := intsD_eq e
        subst e2
        have e3 := q.ints'
        subst e3
        exact ⟨i, ns, rfl, s2.eq a _ (x2.gg _ _ g) (fun _ z => nomatch z), c, p3 _ G2 H2 (x1.trans x2) s2 rfl⟩
      · exact p2.elim
    · exact p2.elim
  · exact p.elim
def dTupleF : List D → Dr D
  | [.lst ds] => .ret (.ftup ds)
  | _ => .fail
theorem den_tupleF : DenC W (rTupleF K) dTupleF := fun n F0 H0 G H xs ds Q ex sb r al => by
  unfold dTupleF at al
  split at al
  · obtain ⟨v, rfl, a, ys, rfl, g, r⟩ := r.one
    have al : Post G H Q n (.ftup _) := al
    refine ⟨a, ys, rfl, sb.sql g, fun l o ho hl => ?_⟩
    have e := Ext.new (o := .frz o (.tup ys)) hl (sb.no hl)
    exact al (.ref l) (upd G l _) _ e (sb.new hl (fun _ z => nomatch z)) ⟨l, o, ys, rfl, upd_same, ho, r.mono e.le⟩
  · exact al.elim
/-! ## dicts -/
section
variable {κ κ' : Type} [DecidableEq κ] [DecidableEq κ'] {f : κ → κ'}
def lookG {α : Type} : List κ → List α → κ → Option α
  | k :: ks, x :: xs, q => if k = q then some x else lookG ks xs q
  | _, _, _ => none
def replG {α : Type} : List κ → List α → κ → α → List α
  | k :: ks, x :: xs, q, y => (if k = q then y else x) :: replG ks xs q y
  | _, xs, _, _ => xs
def putK' (ks : List κ) (q : κ) : List κ := if q ∈ ks then ks else ks ++ [q]
def putV' {α : Type} (ks : List κ) (xs : List α) (q : κ) (y : α) : List α := if q ∈ ks then replG ks xs q y else xs ++ [y]
theorem look_rep {G : Hp} (hf : ∀ a b, f a = f b → a = b) : ∀ {ks : List κ} {ds : List D} {xs : List V} {q : κ}, Reps G ds xs → ks.length = ds.length →
    (∀ d, lookG ks ds q = some d → ∃ v, valV ((ks.map f).zip xs) (f q) = some v ∧ Rep G d v) ∧ (lookG ks ds q = none → valV ((ks.map f).zip xs) (f q) = none)
  | [], ds, xs, q, r, hl => by
    refine ⟨fun d h => ?_, fun _ => rfl⟩
    cases ds <;> cases h
  | k :: ks, [], xs, q, r, hl => by simp at hl
  | k :: ks, d :: ds, xs, q, r, hl => by
    obtain ⟨v, rs, rfl, r1, r2⟩ := r
    obtain ⟨h1, h2⟩ := look_rep hf (q := q) r2 (by simpa using hl)
    by_cases e : k = q
    · have e2 : valV (((k :: ks).map f).zip (v :: rs)) (f q) = some v := valV_pos (by rw [e])
      have e3 : lookG (k :: ks) (d :: ds) q = some d := if_pos e
      rw [e2, e3]
      refine ⟨fun d' h => ?_, fun h => by cases h⟩
      cases h
      exact ⟨v, rfl, r1⟩
    · have e2 : valV (((k :: ks).map f).zip (v :: rs)) (f q) = valV ((ks.map f).zip rs) (f q) := valV_neg (fun z => e (hf _ _ z))
      have e3 : lookG (k :: ks) (d :: ds) q = lookG ks ds q := if_neg e
      rw [e2, e3]
      exact ⟨h1, h2⟩
theorem zip_any (hf : ∀ a b, f a = f b → a = b) : ∀ {ks : List κ} {xs : List V} {q : κ}, ks.length = xs.length → (((ks.map f).zip xs).any fun kv => decide (kv.1 = f q)) = decide (q ∈ ks)
  | [], xs, q, hl => by simp
  | k :: ks, [], q, hl => by simp at hl
  | k :: ks, x :: xs, q, hl => by
    have ih := zip_any hf (q := q) (ks := ks) (xs := xs) (by simpa using hl)
    show (decide (f k = f q) || ((ks.map f).zip xs).any fun kv => decide (kv.1 = f q)) = _
    rw [ih]
    by_cases e : k = q
    · subst e
      simp
    · have e2 : ¬ f k = f q := fun z => e (hf _ _ z)
      rw [decide_eq_false e2, Bool.false_or]
      have : (q ∈ k :: ks) ↔ q ∈ ks := by
        rw [List.mem_cons]
        constructor
        · rintro (z | z)
          · exact absurd z.symm e
          · exact z
        · exact .inr
      simp only [this]
theorem zip_repl (hf : ∀ a b, f a = f b → a = b) : ∀ {ks : List κ} {xs : List V} {q : κ} {y : V}, ((ks.map f).zip xs).map (fun kv => if kv.1 = f q then (kv.1, y) else kv) = (ks.map f).zip (replG ks xs q y)
  | [], xs, q, y => by simp
  | k :: ks, [], q, y => by simp [replG]
  | k :: ks, x :: xs, q, y => by
    have ih := zip_repl hf (ks := ks) (xs := xs) (q := q) (y := y)
    show (if f k = f q then (f k, y) else (f k, x)) :: ((ks.map f).zip xs).map (fun kv => if kv.1 = f q then (kv.1, y) else kv) = (f k, if k = q then y else x) :: (ks.map f).zip (replG ks xs q y)
    rw [ih]
    by_cases e : k = q
    · rw [if_pos (by rw [e]), if_pos e]
    · rw [if_neg (fun z => e (hf _ _ z)), if_neg e]
theorem zip_snoc : ∀ {ks : List κ'} {xs : List V} {k : κ'} {y : V}, ks.length = xs.length → ks.zip xs ++ [(k, y)] = (ks ++ [k]).zip (xs ++ [y])
  | [], [], k, y, _ => rfl
  | [], _ :: _, k, y, h => by simp at h
  | _ :: _, [], k, y, h => by simp at h
  | a :: ks, x :: xs, k, y, h => by
    show (a, x) :: (ks.zip xs ++ [(k, y)]) = (a, x) :: (ks ++ [k]).zip (xs ++ [y])
    rw [zip_snoc (by simpa using h)]
theorem put_zip (hf : ∀ a b, f a = f b → a = b) {ks : List κ} {xs : List V} {q : κ} {y : V} (hl : ks.length = xs.length) : putK ((ks.map f).zip xs) (f q) y = ((putK' ks q).map f).zip (putV' ks xs q y) := by
  unfold putK putK' putV'
  rw [zip_any hf hl]
  by_cases e : q ∈ ks
  · rw [if_pos (decide_eq_true e), if_pos e, if_pos e, zip_repl hf]
  · rw [if_neg (by rw [decide_eq_false e]; exact Bool.false_ne_true), if_neg e, if_neg e, List.map_append, zip_snoc (by rw [List.length_map]; exact hl)]
    rfl
theorem repl_rep {G : Hp} : ∀ {ks : List κ} {ds : List D} {xs : List V} {q : κ} {d : D} {y : V}, Reps G ds xs → Rep G d y → Reps G (replG ks ds q d) (replG ks xs q y)
  | [], ds, xs, q, d, y, r, k => by
    have e1 : replG [] ds q d = ds := by cases ds <;> rfl
    have e2 : replG [] xs q y = xs := by cases xs <;> rfl
    rw [e1, e2]
    exact r
  | k :: ks, [], xs, q, d, y, r, h => by
    have r' : xs = [] := r
    subst r'
    rfl
  | k :: ks, e :: ds, xs, q, d, y, r, h => by
    obtain ⟨v, rs, rfl, r1, r2⟩ := r
    show Reps G ((if k = q then d else e) :: replG ks ds q d) ((if k = q then y else v) :: replG ks rs q y)
    refine ⟨_, _, rfl, ?_, repl_rep r2 h⟩
    by_cases c : k = q
    · rw [if_pos c, if_pos c]
      exact h
    · rw [if_neg c, if_neg c]
      exact r1
theorem putV_rep {G : Hp} {ks : List κ} {ds : List D} {xs : List V} {q : κ} {d : D} {y : V} (r : Reps G ds xs) (k : Rep G d y) : Reps G (putV' ks ds q d) (putV' ks xs q y) := by
  unfold putV'
  by_cases e : q ∈ ks
  · rw [if_pos e, if_pos e]
    exact repl_rep r k
  · rw [if_neg e, if_neg e]
    exact r.snoc k
theorem replG_len {α : Type} : ∀ (ks : List κ) (xs : List α) (q : κ) (y : α), (replG ks xs q y).length = xs.length
  | [], xs, q, y => by cases xs <;> rfl
  | k :: ks, [], q, y => rfl
  | k :: ks, x :: xs, q, y => by
    show (replG ks xs q y).length + 1 = xs.length + 1
    rw [replG_len ks xs q y]
theorem put_len {α : Type} {ks : List κ} {xs : List α} {q : κ} {y : α} (h : ks.length = xs.length) : (putK' ks q).length = (putV' ks xs q y).length := by
  unfold putK' putV'
  by_cases e : q ∈ ks
  · rw [if_pos e, if_pos e, replG_len, h]
  · rw [if_neg e, if_neg e, List.length_append, List.length_append, h]
    rfl
end
theorem inl_inj : ∀ a b : List Int, a.map (Sum.inl : Int → Key) = b.map Sum.inl → a = b
  | [], [], _ => rfl
  | [], _ :: _, h => by simp at h
  | _ :: _, [], h => by simp at h
  | a :: as, b :: bs, h => by
    rw [List.map_cons, List.map_cons] at h
    injection h with h1 h2
    injection h1 with h1
    rw [h1, inl_inj as bs h2]
def keyT : D → Option (List Int)
  | .tup ns => intsD ns
  | _ => none
def keyK : D → Option Key
  | .int i => some (.inl i)
  | .str s => some (.inr s)
  | _ => none
theorem keyT_rep {n : Nat} {G H : Hp} (sb : Sb n G H) {d : D} {v : V} {q : List Int} (h : keyT d = some q) (r : Rep G d v) : ∃ b, v = .ref b ∧ H b = some (.tup ((q.map Sum.inl).map kV)) := by
  cases d with
  | tup ns =>
    obtain ⟨a, xs, rfl, g, rs⟩ := r
    have e := intsD_eq (show intsD ns = some q from h)
    subst e
    have e2 := rs.ints'
    subst e2
    refine ⟨a, rfl, ?_⟩
    rw [List.map_map]
    exact sb.tup g
  | _ => cases h
theorem keyK_rep {G : Hp} {d : D} {v : V} {q : Key} (h : keyK d = some q) (r : Rep G d v) : v = kV q := by
  cases d with
  | int i =>
    cases h
    exact r
  | str s =>
    cases h
    exact r
  | _ => cases h
/-- what a dict holds at a key: none: it is no dict or no key of it -/
def dLook : D → D → Option (Option D)
  | .dT ks ds, k => (keyT k).map fun q => lookG ks ds q
  | .dK ks ds, k => (keyK k).map fun q => lookG ks ds q
  | _, _ => none
def OptRep (G : Hp) : Option D → Option V → Prop
  | some d, some v => Rep G d v
  | none, none => True
  | _, _ => False
theorem dLook_rep {n : Nat} {G H : Hp} (sb : Sb n G H) {d k : D} {x y : V} {o : Option D} (h : dLook d k = some o) (r : Rep G d x) (r2 : Rep G k y) : ∃ a ov, x = .ref a ∧ DGet H a y ov ∧ OptRep G o ov ∧ IsD H a := by
  cases d with
  | dT ks ds =>
    obtain ⟨a, xs, rfl, g, hl, rs⟩ := r
    obtain ⟨q, e, rfl⟩ := Option.map_eq_some_iff.mp (show (keyT k).map (fun q => lookG ks ds q) = some o from h)
    obtain ⟨b, rfl, hb⟩ := keyT_rep sb e r2
    obtain ⟨h1, h2⟩ := look_rep (f := List.map (Sum.inl : Int → Key)) inl_inj (q := q) rs hl
    have hr : Rd H a (.dT ((ks.map (List.map Sum.inl)).zip xs)) := sb.rd g (fun _ z => nomatch z)
    refine ⟨a, valV ((ks.map (List.map Sum.inl)).zip xs) (q.map Sum.inl), rfl, .inr ⟨_, _, b, hr, rfl, hb, rfl⟩, ?_, .inr ⟨_, hr⟩⟩
    cases e2 : lookG ks ds q with
    | none =>
      rw [h2 e2]
      trivial
    | some d =>
      obtain ⟨v, e3, r3⟩ := h1 d e2
      rw [e3]
      exact r3
  | dK ks ds =>
    obtain ⟨a, xs, rfl, g, hl, rs⟩ := r
    obtain ⟨q, e, rfl⟩ := Option.map_eq_some_iff.mp (show (keyK k).map (fun q => lookG ks ds q) = some o from h)
    have := keyK_rep e r2
    subst this
    obtain ⟨h1, h2⟩ := look_rep (f := (id : Key → Key)) (fun _ _ z => z) (q := q) rs hl
    rw [List.map_id] at h1 h2
    have h1 : ∀ d, lookG ks ds q = some d → ∃ v, valV (ks.zip xs) q = some v ∧ Rep G d v := h1
    have h2 : lookG ks ds q = none → valV (ks.zip xs) q = none := h2
    have hr : Rd H a (.dK (ks.zip xs)) := sb.rd g (fun _ z => nomatch z)
    refine ⟨a, valV (ks.zip xs) q, rfl, .inl ⟨_, _, hr, rfl, rfl⟩, ?_, .inl ⟨_, hr⟩⟩
    cases e2 : lookG ks ds q with
    | none =>
      rw [h2 e2]
      trivial
    | some d =>
      obtain ⟨v, e3, r3⟩ := h1 d e2
      rw [e3]
      exact r3
  | _ => cases h
def dGet (d k : D) : Dr D := match dLook d k with
  | some (some v) => .ret v
  | _ => .fail
def dHas (d k : D) : Dr Bool := match dLook d k with
  | some o => .ret o.isSome
  | none => .fail
theorem den_dget (ha : DenE W ta fa) (hb : DenE W tb fb) : DenE W (tDGet ta tb) (g2 dGet fa fb) := fun n F0 H0 G H ρ σ Q x re sb al => by
  refine ha n F0 H0 G H ρ σ _ x re sb ((AllN.bind al).q fun m d p => ?_)
  intro v G1 H1 x1 s1 r1
  refine hb m F0 H0 G1 H1 ρ σ _ (x.trans x1) (re.mono x1.le) s1 ((AllN.bind p).q fun m2 k p2 => ?_)
  intro w G2 H2 x2 s2 r2
  unfold dGet at p2
  split at p2
  · rename_i z e
    obtain ⟨a, ov, rfl, hg, hm, _⟩ := dLook_rep s2 e (r1.mono x2.le) r2
    cases ov with
    | none => exact hm.elim
    | some u => exact ⟨a, u, rfl, hg, p2 u G2 H2 (x1.trans x2) s2 hm⟩
  · exact p2.elim
def gIn (f : Ev → Dr D) (k : Ev → Dr D) (neg : Bool) : Ev → Dr D := fun ρ => (k ρ).bind fun y => (f ρ).bind fun d => (dHas d y).bind fun b => .ret (.bl (if neg = true then !b else b))
theorem den_din (ha : DenE W ta fa) (hb : DenE W tb fb) : DenE W (tDIn tb ta) (gIn fa fb false) := fun n F0 H0 G H ρ σ Q x re sb al => by
  refine hb n F0 H0 G H ρ σ _ x re sb ((AllN.bind al).q fun m k p => ?_)
  intro v G1 H1 x1 s1 r1
  refine ha m F0 H0 G1 H1 ρ σ _ (x.trans x1) (re.mono x1.le) s1 ((AllN.bind p).q fun m2 d p2 => ?_)
  intro w G2 H2 x2 s2 r2
  have p3 := AllN.bind p2
  unfold dHas at p3
  split at p3
  · rename_i o e
    obtain ⟨a, ov, rfl, hg, hm, _⟩ := dLook_rep s2 e r2 (r1.mono x2.le)
    have eo : ov.isSome = o.isSome := by
      cases o <;> cases ov <;> first | rfl | exact hm.elim
    refine ⟨a, ov, rfl, hg, ?_⟩
    rw [eo]
    exact (show Post G H Q m2 (.bl o.isSome) from p3) _ G2 H2 (x1.trans x2) s2 rfl
  · exact p3.elim
theorem den_dnotin (ha : DenE W ta fa) (hb : DenE W tb fb) : DenE W (tDNotIn tb ta) (gIn fa fb true) := fun n F0 H0 G H ρ σ Q x re sb al => by
  refine hb n F0 H0 G H ρ σ _ x re sb ((AllN.bind al).q fun m k p => ?_)
  intro v G1 H1 x1 s1 r1
  refine ha m F0 H0 G1 H1 ρ σ _ (x.trans x1) (re.mono x1.le) s1 ((AllN.bind p).q fun m2 d p2 => ?_)
  intro w G2 H2 x2 s2 r2
  have p3 := AllN.bind p2
  unfold dHas at p3
  split at p3
  · rename_i o e
    obtain ⟨a, ov, rfl, hg, hm, _⟩ := dLook_rep s2 e r2 (r1.mono x2.le)
    have eo : ov.isSome = o.isSome := by
      cases o <;> cases ov <;> first | rfl | exact hm.elim
    refine ⟨a, ov, rfl, hg, ?_⟩
    rw [eo]
    exact (show Post G H Q m2 (.bl (!o.isSome)) from p3) _ G2 H2 (x1.trans x2) s2 rfl
  · exact p3.elim
/-- d.get(k, x) -/
def gGet2 (f k z : Ev → Dr D) : Ev → Dr D := fun ρ => (f ρ).bind fun d => match d with
  | .dT ks ds => (k ρ).bind fun y => (z ρ).bind fun e => match dLook (.dT ks ds) y with
    | some o => .ret (o.getD e)
    | none => .fail
  | .dK ks ds => (k ρ).bind fun y => (z ρ).bind fun e => match dLook (.dK ks ds) y with
    | some o => .ret (o.getD e)
    | none => .fail
  | _ => .fail
theorem get2_core {m : Nat} {F0 H0 G H G1 H1 : Hp} {ρ : Ev} {σ : L2.St} {Q : VK} {d : D} {a : Addr} (x : Ext F0 H0 G H) (x1 : Ext G H G1 H1) (re : RE G ρ σ) (s1 : Sb m G1 H1) (r1 : Rep G1 d (.ref a)) (hb : DenE W tb fb) (hc : DenE W tc fc) (hI : IsD H1 a)
    (p : AllN (EXof W F0 H0) m ((fb ρ).bind fun y => (fc ρ).bind fun e => match dLook d y with
      | some o => .ret (o.getD e)
      | none => .fail) (Post G H Q)) : ∃ a', V.ref a = .ref a' ∧ IsD H1 a' ∧ tb σ H1 fun y H2 => tc σ H2 fun z H3 => ∃ o, DGet H3 a' y o ∧ Q (o.getD z) H3 := by
  refine ⟨a, rfl, hI, ?_⟩
  refine hb m F0 H0 G1 H1 ρ σ _ (x.trans x1) (re.mono x1.le) s1 ((AllN.bind p).q fun m2 k p2 => ?_)
  intro w G2 H2 x2 s2 r2
  refine hc m2 F0 H0 G2 H2 ρ σ _ ((x.trans x1).trans x2) (re.mono (x1.trans x2).le) s2 ((AllN.bind p2).q fun m3 e p3 => ?_)
  intro z G3 H3 x3 s3 r3
  split at p3
  · rename_i o eo
    obtain ⟨a2, ov, ea, hg, hm, _⟩ := dLook_rep s3 eo (r1.mono (x2.trans x3).le) (r2.mono x3.le)
    cases ea
    refine ⟨ov, hg, ?_⟩
    refine (show Post G H Q m3 (o.getD e) from p3) _ G3 H3 ((x1.trans x2).trans x3) s3 ?_
    cases o <;> cases ov <;> first | exact r3 | exact hm | exact hm.elim
  · exact p3.elim
theorem den_get2 (ha : DenE W ta fa) (hb : DenE W tb fb) (hc : DenE W tc fc) : DenE W (tDGet2 ta tb tc) (gGet2 fa fb fc) := fun n F0 H0 G H ρ σ Q x re sb al => by
  refine ha n F0 H0 G H ρ σ _ x re sb ((AllN.bind al).q fun m d p => ?_)
  intro v G1 H1 x1 s1 r1
  split at p
  · have r1' := r1
    obtain ⟨a, xs, rfl, g, hl, rs⟩ := r1'
    exact get2_core x x1 re s1 r1 hb hc (.inr ⟨_, s1.rd g (fun _ z => nomatch z)⟩) p
  · have r1' := r1
    obtain ⟨a, xs, rfl, g, hl, rs⟩ := r1'
    exact get2_core x x1 re s1 r1 hb hc (.inl ⟨_, s1.rd g (fun _ z => nomatch z)⟩) p
  · exact p.elim
/-! ### {} and d[k] = v -/
def gNewT : Ev → Dr D := fun _ => .ret (.dT [] [])
def gNewK : Ev → Dr D := fun _ => .ret (.dK [] [])
theorem den_newT : DenN W tDNewT gNewT := fun n F0 H0 G H ρ σ Q x re sb al p hp => by
  have al : PostN G H Q n (.dT [] []) := al
  exact al p (.dT []) G _ (Ext.newO hp) (sb.newO (sb.no hp)) (sb.no hp) hp upd_same ⟨[], rfl, rfl, rfl⟩
theorem den_newK : DenN W tDNewK gNewK := fun n F0 H0 G H ρ σ Q x re sb al p hp => by
  have al : PostN G H Q n (.dK [] []) := al
  exact al p (.dK []) G _ (Ext.newO hp) (sb.newO (sb.no hp)) (sb.no hp) hp upd_same ⟨[], rfl, rfl, rfl⟩
def dPut : D → D → D → Option D
  | .dT ks ds, k, d => match keyT k with
    | some q => if ks.length < 1000000 then some (.dT (putK' ks q) (putV' ks ds q d)) else none
    | none => none
  | .dK ks ds, k, d => match keyK k with
    | some q => if ks.length < 1000000 then some (.dK (putK' ks q) (putV' ks ds q d)) else none
    | none => none
  | _, _, _ => none
theorem zip_len' {α β : Type} {a : List α} {b : List β} (h : a.length = b.length) : (a.zip b).length = a.length := by
  rw [List.length_zip, h, Nat.min_self]
theorem dPut_rep {n : Nat} {G H : Hp} (sb : Sb n G H) {d k e d' : D} {a : Addr} {y v : V} {ho : HO} (h : dPut d k e = some d') (ha : H a = some ho) (r : HoRep G d ho) (r2 : Rep G k y) (r3 : Rep G e v) : ∃ ho', DPut H a y v (upd H a ho') ∧ HoRep G d' ho' ∧
    ∀ F', (∀ a xs, G a = some (.tup xs) → F' a = some (.tup xs)) → imm e = true → HoRep F' d ho → HoRep F' d' ho' := by
  unfold dPut at h
  split at h
  · rename_i ks ds
    split at h
    · rename_i q eq
      obtain ⟨hc, h⟩ := opt_ite h
      cases h
      obtain ⟨xs, rfl, hl, rs⟩ := r
      obtain ⟨b, rfl, hb⟩ := keyT_rep sb eq r2
      have hx : ks.length = xs.length := by rw [hl, rs.length]
      refine ⟨.dT (((putK' ks q).map (List.map Sum.inl)).zip (putV' ks xs q v)), .inr ⟨_, _, b, ha, rfl, hb, ?_, ?_⟩, ⟨_, rfl, put_len hl, putV_rep rs r3⟩, fun F' kt c z => ?_⟩
      · rw [zip_len' (by rw [List.length_map]; exact hx), List.length_map]
        exact line_lt hc
      · rw [put_zip inl_inj hx]
      · obtain ⟨zs, ez, lz, qz⟩ := z
        have e2 := congrArg (fun o => match o with | HO.dT l => l.map Prod.snd | _ => []) ez
        have l1 : ((ks.map (List.map (Sum.inl : Int → Key))).zip xs).map Prod.snd = xs := List.map_snd_zip (by rw [List.length_map]; omega)
        have l2 : ((ks.map (List.map (Sum.inl : Int → Key))).zip zs).map Prod.snd = zs := List.map_snd_zip (by rw [List.length_map, lz, qz.length]; exact Nat.le_refl _)
        have e2 : ((ks.map (List.map (Sum.inl : Int → Key))).zip xs).map Prod.snd = ((ks.map (List.map (Sum.inl : Int → Key))).zip zs).map Prod.snd := e2
        rw [l1, l2] at e2
        subst e2
        exact ⟨_, rfl, put_len hl, putV_rep qz (Rep.imm kt e v c r3)⟩
    · cases h
  · rename_i ks ds
    split at h
    · rename_i q eq
      obtain ⟨hc, h⟩ := opt_ite h
      cases h
      obtain ⟨xs, rfl, hl, rs⟩ := r
      have := keyK_rep eq r2
      subst this
      have hx : ks.length = xs.length := by rw [hl, rs.length]
      have pz := put_zip (f := (id : Key → Key)) (fun _ _ z => z) (q := q) (y := v) hx
      rw [List.map_id, List.map_id] at pz
      refine ⟨.dK ((putK' ks q).zip (putV' ks xs q v)), .inl ⟨_, _, ha, rfl, ?_, ?_⟩, ⟨_, rfl, put_len hl, putV_rep rs r3⟩, fun F' kt c z => ?_⟩
      · rw [zip_len' hx]
        exact line_lt hc
      · show upd H a _ = upd H a (.dK (putK (ks.zip xs) (id q) v))
        rw [pz]
      · obtain ⟨zs, ez, lz, qz⟩ := z
        have e2 := congrArg (fun o => match o with | HO.dK l => l.map Prod.snd | _ => []) ez
        have l1 : (ks.zip xs).map Prod.snd = xs := List.map_snd_zip (by omega)
        have l2 : (ks.zip zs).map Prod.snd = zs := List.map_snd_zip (by rw [lz, qz.length]; exact Nat.le_refl _)
        have e2 : (ks.zip xs).map Prod.snd = (ks.zip zs).map Prod.snd := e2
        rw [l1, l2] at e2
        subst e2
        exact ⟨_, rfl, put_len hl, putV_rep qz (Rep.imm kt e v c r3)⟩
    · cases h
  · cases h
def gDPut (i : Nat) (ls : List Nat) (fv fk : Ev → Dr D) : SEnv → Dr Out := fun ρ => match ρ[i]? with
  | some (.own d) => if ls.contains i = true then .fail else (fv (lend ls ρ)).bind fun e => (fk (lend ls ρ)).bind fun k => match dPut d k e with
    | some d' => .ret (.nx ((if imm e = true then ρ else freeze ls ρ).set i (.own d')))
    | none => .fail
  | _ => .fail
theorem dens_dput (i : Nat) (ls : List Nat) (he : DenE W te fe) (hk : DenE W tc fc) : DenS W (sDPut (tVar i) tc te) (gDPut i ls fe fc) := fun n F0 H0 F H ρ σ Dn x sb rs al => by
  unfold gDPut at al
  split at al
  · rename_i d ed
    obtain ⟨o, ho, h1, h2, h3, h4, h5⟩ := rs.own i _ ed
    by_cases c : ls.contains i = true
    · rw [if_pos c] at al
      exact al.elim
    · rw [if_neg c] at al
      refine he n F0 H0 (lentF ls ρ σ F H) H (lend ls ρ) σ _ (lentF_ext rs x) (lentF_re rs) (lentF_sb rs sb) ((AllN.bind al).q fun m1 a p => ?_)
      intro v G1 H1 x1 s1 r1
      refine ⟨.ref o, h1, ?_⟩
      refine hk m1 F0 H0 G1 H1 (lend ls ρ) σ _ (Ext.base rs x x1) ((lentF_re rs).mono x1.le) s1 ((AllN.bind p).q fun m2 k p2 => ?_)
      intro w G2 H2 x2 s2 r2
      have x12 := x1.trans x2
      have nl : ¬ Lent ls ρ σ o := fun ⟨j, d2, q1, q2, q3⟩ => by
        have := rs.inj i j _ d2 o ed q2 h1 q3
        subst this
        exact c (by simpa using q1)
      have hr : HoRep (lentF ls ρ σ F H) d ho := h5.mono (Le.of (lentF_gg rs))
      obtain ⟨g1, e1⟩ := x12.out s2 (by rw [lentF_n nl]; exact h2) h4 hr
      split at p2
      · rename_i d' ed'
        obtain ⟨ho', k1, k2, k3⟩ := dPut_rep s2 ed' e1 (hr.mono x12.le) r2 (r1.mono x2.le)
        refine ⟨o, upd H2 o ho', rfl, k1, ?_⟩
        by_cases c2 : imm a = true
        · rw [if_pos c2] at p2
          obtain ⟨F', y1, y2, y3, y4, y5, y6⟩ := rs.back x sb x12 s2
          obtain ⟨o2, ho2, z1, z2, z3, z4, z5⟩ := y3.own i _ ed
          rw [h1] at z1
          cases z1
          rw [e1] at z4
          cases z4
          exact p2 F' (upd H2 o _) σ y6 (y1.up h3) (y2.up z2) (y3.upO ed h1 (k3 F' y4 c2 z5))
        · rw [if_neg c2] at p2
          have ry := rs.froz x12 s2
          have ed2 : (freeze ls ρ)[i]? = some (.own d) := by
            rw [freeze_get, ed]
            show some (if ls.contains i then SV.fr d else .own d) = _
            rw [if_neg c]
          exact p2 G2 (upd H2 o _) σ (fun a o e => x12.gg a o (lentF_gg rs a o e)) ((Ext.base rs x x12).up h3) (s2.up g1) (ry.upO ed2 h1 k2)
      · exact p2.elim
  · exact al.elim
end
end Dn
namespace Dn
open PySem PySem.Spec PyProof.Rows L2
/-! ## while a dict is locked -/
section
variable {d : Addr} {u : HO} {od : Obj}
open Classical in
/-- X with the lock at d -/
noncomputable def lk (d : Addr) (u : HO) (od : Obj) (X : Hp) : Hp := fun a => if a = d ∧ X d = some u then some (.frz od u) else X a
open Classical in
/-- .. without it -/
noncomputable def ul (d : Addr) (u : HO) (od : Obj) (X : Hp) : Hp := fun a => if a = d ∧ X d = some (.frz od u) then some u else X a
theorem lk_ne {X : Hp} {a : Addr} (h : a ≠ d) : lk d u od X a = X a := if_neg fun z => h z.1
theorem ul_ne {X : Hp} {a : Addr} (h : a ≠ d) : ul d u od X a = X a := if_neg fun z => h z.1
theorem lk_d {X : Hp} (h : X d = some u) : lk d u od X d = some (.frz od u) := if_pos ⟨rfl, h⟩
theorem ul_d {X : Hp} (h : X d = some (.frz od u)) : ul d u od X d = some u := if_pos ⟨rfl, h⟩
theorem lk_no {X : Hp} (h : X d ≠ some u) : lk d u od X = X := funext fun a => if_neg fun z => h z.2
theorem lk_upd {X : Hp} (h : X d = some u) : lk d u od X = upd X d (.frz od u) := funext fun a => by
  by_cases e : a = d
  · subst e
    rw [lk_d h, upd_same]
  · rw [lk_ne e, upd_ne e]
theorem ul_upd {X : Hp} (h : X d = some (.frz od u)) : ul d u od X = upd X d u := funext fun a => by
  by_cases e : a = d
  · subst e
    rw [ul_d h, upd_same]
  · rw [ul_ne e, upd_ne e]
/-- u is a dict -/
def IsDc (u : HO) : Prop := (∃ xs, u = .dT xs) ∨ ∃ xs, u = .dK xs
theorem IsDc.ne {u : HO} (h : IsDc u) : NM u ∧ (∀ xs, u ≠ .tup xs) ∧ (∀ xs, u ≠ .lst xs) ∧ (∀ o v, u ≠ .frz o v) := by
  rcases h with ⟨xs, rfl⟩ | ⟨xs, rfl⟩
  · exact ⟨(fun _ z => nomatch z), (fun _ z => nomatch z), (fun _ z => nomatch z), (fun _ _ z => nomatch z)⟩
  · exact ⟨(fun _ z => nomatch z), (fun _ z => nomatch z), (fun _ z => nomatch z), (fun _ _ z => nomatch z)⟩
variable (hu : IsDc u)
include hu
theorem lk_le (X : Hp) : Le X (lk d u od X) where
  eq := fun a o e h1 h2 h3 => by
    by_cases c : a = d
    · subst c
      by_cases c2 : X a = some u
      · rw [e] at c2
        cases c2
        rcases hu with ⟨xs, q⟩ | ⟨xs, q⟩
        · exact absurd q (h2 xs)
        · exact absurd q (h3 xs)
      · rw [lk_no c2]
        exact e
    · rw [lk_ne c]
      exact e
  rd := fun a o r nf => by
    by_cases c : a = d
    · subst c
      by_cases c2 : X a = some u
      · rcases r with r | ⟨ob, r⟩
        · rw [c2] at r
          cases r
          exact .inr ⟨od, lk_d c2⟩
        · rw [c2] at r
          exact absurd (Option.some.inj r) (hu.ne.2.2.2 _ _)
      · rw [lk_no c2]
        exact r
    · rcases r with r | ⟨ob, r⟩
      · exact .inl (by rw [lk_ne c]; exact r)
      · exact .inr ⟨ob, by rw [lk_ne c]; exact r⟩
theorem ul_le (X : Hp) : Le X (ul d u od X) where
  eq := fun a o e h1 h2 h3 => by
    by_cases c : a = d
    · subst c
      by_cases c2 : X a = some (.frz od u)
      · rw [e] at c2
        cases c2
        rcases hu with ⟨xs, q⟩ | ⟨xs, q⟩
        · subst q
          exact absurd rfl ((h1 od).1 xs)
        · subst q
          exact absurd rfl ((h1 od).2 xs)
      · have : ul a u od X a = X a := if_neg fun z => c2 z.2
        rw [this]
        exact e
    · rw [ul_ne c]
      exact e
  rd := fun a o r nf => by
    by_cases c : a = d
    · subst c
      by_cases c2 : X a = some (.frz od u)
      · rcases r with r | ⟨ob, r⟩
        · rw [c2] at r
          cases r
          exact absurd rfl (nf od u)
        · rw [c2] at r
          cases r
          exact .inl (ul_d c2)
      · have : ul a u od X a = X a := if_neg fun z => c2 z.2
        rcases r with r | ⟨ob, r⟩
        · exact .inl (by rw [this]; exact r)
        · exact .inr ⟨ob, by rw [this]; exact r⟩
    · rcases r with r | ⟨ob, r⟩
      · exact .inl (by rw [ul_ne c]; exact r)
      · exact .inr ⟨ob, by rw [ul_ne c]; exact r⟩
variable {n : Nat} {F0 H0 F H F' H' : Hp} {ρ : SEnv} {σ : L2.St}
theorem lk_some {X : Hp} {a : Addr} {o : HO} (e : lk d u od X a = some o) : (a = d ∧ X d = some u ∧ o = .frz od u) ∨ (X a = some o ∧ ¬ (a = d ∧ X d = some u)) := by
  by_cases c : a = d ∧ X d = some u
  · unfold lk at e
    rw [if_pos c] at e
    exact .inl ⟨c.1, c.2, (Option.some.inj e).symm⟩
  · unfold lk at e
    rw [if_neg c] at e
    exact .inr ⟨e, c⟩
theorem ul_some {X : Hp} {a : Addr} {o : HO} (e : ul d u od X a = some o) : (a = d ∧ X d = some (.frz od u) ∧ o = u) ∨ (X a = some o ∧ ¬ (a = d ∧ X d = some (.frz od u))) := by
  by_cases c : a = d ∧ X d = some (.frz od u)
  · unfold ul at e
    rw [if_pos c] at e
    exact .inl ⟨c.1, c.2, (Option.some.inj e).symm⟩
  · unfold ul at e
    rw [if_neg c] at e
    exact .inr ⟨e, c⟩
theorem lk_none {X : Hp} {a : Addr} : lk d u od X a = none ↔ X a = none := by
  constructor
  · intro e
    by_cases c : a = d ∧ X d = some u
    · unfold lk at e
      rw [if_pos c] at e
      cases e
    · unfold lk at e
      rw [if_neg c] at e
      exact e
  · intro e
    unfold lk
    rw [if_neg]
    · exact e
    · rintro ⟨rfl, z⟩
      rw [e] at z
      cases z
theorem ul_none {X : Hp} {a : Addr} : ul d u od X a = none ↔ X a = none := by
  constructor
  · intro e
    by_cases c : a = d ∧ X d = some (.frz od u)
    · unfold ul at e
      rw [if_pos c] at e
      cases e
    · unfold ul at e
      rw [if_neg c] at e
      exact e
  · intro e
    unfold ul
    rw [if_neg]
    · exact e
    · rintro ⟨rfl, z⟩
      rw [e] at z
      cases z
/-- into the lock -/
theorem Sb.lk (s : Sb n F H) (hF : F d = some u) : Sb n (lk d u od F) (lk d u od H) where
  eq := fun a o e' m => by
    rcases lk_some hu e' with ⟨rfl, _, rfl⟩ | ⟨e, ne⟩
    · exact lk_d (s.eq _ _ hF hu.ne.1)
    · by_cases c : a = d
      · subst c
        exact absurd ⟨rfl, hF⟩ ne
      · rw [lk_ne c]
        exact s.eq a o e m
  mr := fun a c e' => by
    rcases lk_some hu e' with ⟨_, _, z⟩ | ⟨e, ne⟩
    · cases z
    · obtain ⟨l, sd, p, cs, h1, h2, h3⟩ := s.mr a c e
      have na : a ≠ d := fun z => by
        subst z
        rw [hF] at e
        exact hu.ne.1 c (Option.some.inj e)
      have nc : c ≠ d := fun z => by
        subst z
        rw [hF] at h2
        exact hu.ne.2.2.1 _ (Option.some.inj h2)
      refine ⟨l, sd, p, cs, ?_, ?_, h3⟩
      · rw [lk_ne na]
        exact h1
      · rw [lk_ne nc]
        exact h2
theorem Ext.lk (x : Ext F0 H0 F H) (hF : F d = some u) (hH : H d = some u) : Ext (lk d u od F0) (lk d u od H0) (lk d u od F) (lk d u od H) where
  gg := fun a o e' => by
    rcases lk_some hu e' with ⟨rfl, _, rfl⟩ | ⟨e, ne⟩
    · exact lk_d hF
    · have e2 := x.gg a o e
      by_cases c : a = d
      · subst c
        rw [hF] at e2
        cases e2
        exact absurd ⟨rfl, e⟩ ne
      · rw [lk_ne c]
        exact e2
  fr := fun a o e' e0' => by
    have e0 := (lk_none hu).mp e0'
    rcases lk_some hu e' with ⟨rfl, _, rfl⟩ | ⟨e, ne⟩
    · rcases x.fr _ _ hF e0 with z | ⟨xs, z⟩
      · exact .inl ((lk_none hu).mpr z)
      · exact absurd z (hu.ne.2.1 xs)
    · rcases x.fr _ _ e e0 with z | z
      · exact .inl ((lk_none hu).mpr z)
      · exact .inr z
  hh := fun a o e' nm => by
    have nmd : ∀ c, F0 d ≠ some (mark c) := fun c z => by
      have := x.gg _ _ z
      rw [hF] at this
      exact hu.ne.1 c (Option.some.inj this)
    rcases lk_some hu e' with ⟨rfl, _, rfl⟩ | ⟨e, ne⟩
    · exact lk_d hH
    · by_cases c : a = d
      · subst c
        have := x.hh _ _ e nmd
        rw [hH] at this
        cases this
        exact absurd ⟨rfl, e⟩ ne
      · rw [lk_ne c] at nm ⊢
        exact x.hh a o e nm
  dm := fun a e => (lk_none hu).mpr (x.dm a ((lk_none hu).mp e))
theorem RS.lk (r : RS H0 F H ρ σ) (hF : F d = some u) : RS (lk d u od H0) (lk d u od F) (lk d u od H) ρ σ where
  len := r.len
  frz := fun i e h => by
    obtain ⟨v, h1, h2⟩ := r.frz i e h
    exact ⟨v, h1, h2.mono (lk_le hu F)⟩
  own := fun i e h => by
    obtain ⟨o, ho, h1, h2, h3, h4, h5⟩ := r.own i e h
    have ne : o ≠ d := fun z => by
      subst z
      rw [hF] at h2
      cases h2
    exact ⟨o, ho, h1, (lk_none hu).mpr h2, (lk_none hu).mpr h3, by rw [lk_ne ne]; exact h4, h5.mono (lk_le hu F)⟩
  inj := r.inj
/-- out of the lock -/
theorem Ext.ul (x0 : Ext F0 H0 F H) (hF : F d = some u) (hH : H d = some u) (x : Ext (Dn.lk d u od F0) (Dn.lk d u od H0) F' H') (hF' : F' d = some (.frz od u)) (hH' : H' d = some (.frz od u)) : Ext F0 H0 (ul d u od F') (ul d u od H') where
  gg := fun a o e => by
    by_cases c : a = d
    · subst c
      have := x0.gg _ _ e
      rw [hF] at this
      cases this
      exact ul_d hF'
    · rw [ul_ne c]
      exact x.gg a o (by rw [lk_ne c]; exact e)
  fr := fun a o e e0 => by
    by_cases c : a = d
    · subst c
      rcases x0.fr _ _ hF e0 with z | ⟨xs, z⟩
      · exact .inl z
      · exact absurd z (hu.ne.2.1 xs)
    · rw [ul_ne c] at e
      rcases x.fr a o e ((lk_none hu).mpr e0) with z | z
      · exact .inl ((lk_none hu).mp z)
      · exact .inr z
  hh := fun a o e nm => by
    by_cases c : a = d
    · subst c
      have := x0.hh _ _ e nm
      rw [hH] at this
      cases this
      exact ul_d hH'
    · rw [ul_ne c]
      exact x.hh a o (by rw [lk_ne c]; exact e) (by rw [lk_ne c]; exact nm)
  dm := fun a e => (lk_none hu).mp (x.dm a ((ul_none hu).mp e))
theorem Sb.ul (s : Sb n F' H') (hF' : F' d = some (.frz od u)) : Sb n (ul d u od F') (ul d u od H') where
  eq := fun a o e m => by
    by_cases c : a = d
    · subst c
      rw [ul_d hF'] at e
      cases e
      exact ul_d (s.eq _ _ hF' (fun _ z => nomatch z))
    · rw [ul_ne c] at e ⊢
      exact s.eq a o e m
  mr := fun a c e => by
    have na : a ≠ d := fun z => by
      subst z
      rw [ul_d hF'] at e
      exact hu.ne.1 c (Option.some.inj e)
    rw [ul_ne na] at e
    obtain ⟨l, sd, p, cs, h1, h2, h3⟩ := s.mr a c e
    have nc : c ≠ d := fun z => by
      subst z
      rw [hF'] at h2
      cases h2
    refine ⟨l, sd, p, cs, ?_, ?_, h3⟩
    · rw [ul_ne na]
      exact h1
    · rw [ul_ne nc]
      exact h2
theorem RS.ul (r : RS (Dn.lk d u od H0) F' H' ρ σ) (hF' : F' d = some (.frz od u)) : RS H0 (ul d u od F') (ul d u od H') ρ σ where
  len := r.len
  frz := fun i e h => by
    obtain ⟨v, h1, h2⟩ := r.frz i e h
    exact ⟨v, h1, h2.mono (ul_le hu F')⟩
  own := fun i e h => by
    obtain ⟨o, ho, h1, h2, h3, h4, h5⟩ := r.own i e h
    have ne : o ≠ d := fun z => by
      subst z
      rw [hF'] at h2
      cases h2
    exact ⟨o, ho, h1, (ul_none hu).mpr h2, (lk_none hu).mp h3, by rw [ul_ne ne]; exact h4, h5.mono (ul_le hu F')⟩
  inj := r.inj
end
/-- an error on the way counts as a failure -/
def noexc {α : Type} : Dr α → Dr α
  | .ret a => .ret a
  | .fail => .fail
  | .exc _ => .fail
  | .draw b k => .draw b fun r => noexc (k r)
theorem AllN.noexc {α : Type} {EX EX' : Nat → XD → Prop} {Q : Nat → α → Prop} : ∀ {t : Dr α} {n : Nat}, AllN EX n (Dn.noexc t) Q → AllN EX' n t Q
  | .ret a, n, h => h
  | .fail, n, h => h
  | .exc x, n, h => h.elim
  | .draw b k, n, h => ⟨h.1, h.2.1, h.2.2.1, fun r a b => AllN.noexc (h.2.2.2 r a b)⟩
section
variable {W : Wd} {K : PySem.W.Frag} {t : TS} {g : SEnv → Dr Out}
theorem for_core {J : It} {gt : TG} {tg : STg} {ds : List D} {n : Nat} {F0 H0 F H : Hp} {ρ : SEnv} {σ : L2.St} {Dn' : Ends} (hg : DenGS gt tg) (hb : DenS W t g) (x : Ext F0 H0 F H) (sb : Sb n F H) (r : RS H0 F H ρ σ) (wd : WD J F ds) (al : AllN (EXof W F0 H0) n (forGo tg g ds ρ) (OutP F F0 H0 Dn')) :
    ∃ W' : Nat → Nat → L2.St → Hp → Prop, (∃ m, W' 0 m σ H) ∧ ∀ i m σ H, W' i m σ H →
      (J.stop i H ∧ Dn'.nx σ H) ∨ (J.go i H ∧ ∃ N : L2.St → Hp → Prop, (∀ σ' H', N σ' H' → ∃ m', m' < m ∧ W' (i + 1) m' σ' H') ∧ ∀ x H', J.yld i H x H' → gt x σ H' fun σ2 H2 => t { Dn' with nx := N, ct := N, bk := Dn'.nx } σ2 H2) := by
  refine ⟨fun i m σ' H' => m = ds.length - i ∧ i ≤ ds.length ∧ ∃ n2 F2 ρ2, Ext F0 H0 F2 H' ∧ Sb n2 F2 H' ∧ RS H0 F2 H' ρ2 σ' ∧ Inc F F2 ∧ AllN (EXof W F0 H0) n2 (forGo tg g (ds.drop i) ρ2) (OutP F F0 H0 Dn'),
    ⟨ds.length, by simp, Nat.zero_le _, n, F, ρ, x, sb, r, fun _ _ h => h, al⟩, ?_⟩
  rintro i m σ2 H2 ⟨rfl, hile, n2, F2, ρ2, x2, s2, r2, k2, al2⟩
  by_cases hlt : i < ds.length
  · refine .inr ⟨wd.go i n2 F2 H2 hlt k2 s2, fun σ' H' => i + 1 ≤ ds.length ∧ ∃ n2 F2 ρ2, Ext F0 H0 F2 H' ∧ Sb n2 F2 H' ∧ RS H0 F2 H' ρ2 σ' ∧ Inc F F2 ∧ AllN (EXof W F0 H0) n2 (forGo tg g (ds.drop (i + 1)) ρ2) (OutP F F0 H0 Dn'),
      fun σ' H' h => ⟨ds.length - (i + 1), by omega, rfl, h.1, h.2⟩, fun v H3 y => ?_⟩
    rw [drop_cons_of hlt] at al2
    have al2 : AllN (EXof W F0 H0) n2 (match tg ds[i] ρ2 with
      | none => .fail
      | some ρ' => (g ρ').bind (loopOut (forGo tg g (ds.drop (i + 1))))) (OutP F F0 H0 Dn') := al2
    obtain ⟨F3, x3, s3, r3⟩ := wd.yld i n2 F2 H2 v H3 ds[i] (List.getElem?_eq_getElem hlt) k2 s2 y
    split at al2
    · exact al2.elim
    · rename_i ρ' eρ
      refine hg n2 H0 F3 H3 ρ2 σ2 v ds[i] ρ' _ (r2.ext x3 s3) s3 r3 eρ fun σ' r' => ?_
      refine hb n2 F0 H0 F3 H3 ρ' σ' _ (x2.trans x3) s3 r' ((AllN.bind al2).q fun n4 o p4 => ?_)
      cases o with
      | nx ρ4 => exact fun F4 H4 σ4 i4 x4 s4 r4 => ⟨hlt, n4, F4, ρ4, x4, s4, r4, fun a o e => i4 a o (x3.gg a o (k2 a o e)), p4⟩
      | ct ρ4 => exact fun F4 H4 σ4 i4 x4 s4 r4 => ⟨hlt, n4, F4, ρ4, x4, s4, r4, fun a o e => i4 a o (x3.gg a o (k2 a o e)), p4⟩
      | bk ρ4 =>
        have p4 : OutP F F0 H0 Dn' n4 (.nx ρ4) := p4
        exact fun F4 H4 σ4 i4 x4 s4 r4 => p4 F4 H4 σ4 (fun a o e => i4 a o (x3.gg a o (k2 a o e))) x4 s4 r4
      | ret d =>
        have p4 : OutP F F0 H0 Dn' n4 (.ret d) := p4
        exact fun v F4 H4 i4 x4 s4 r4 => p4 v F4 H4 (fun a o e => i4 a o (x3.gg a o (k2 a o e))) x4 s4 r4
      | rown d =>
        have p4 : OutP F F0 H0 Dn' n4 (.rown d) := p4
        exact fun v ho F4 H4 i4 x4 s4 g4 h4 e4 r4 => p4 v ho F4 H4 (fun a o e => i4 a o (x3.gg a o (k2 a o e))) x4 s4 g4 h4 e4 r4
  · have e : i = ds.length := by omega
    subst e
    refine .inl ⟨wd.stop n2 F2 H2 k2 s2, ?_⟩
    rw [List.drop_length] at al2
    have al2 : OutP F F0 H0 Dn' n2 (.nx ρ2) := al2
    exact al2 F2 H2 σ2 k2 x2 s2 r2
theorem adopt {n : Nat} {G H : Hp} (sb : Sb n G H) {q : Addr} {xs : List V} (h : H q = some (.tup xs)) : ∃ G3, Ext G H G3 H ∧ Sb n G3 H ∧ G3 q = some (.tup xs) := by
  cases e : G q with
  | some o =>
    refine ⟨G, Ext.refl _ _, sb, ?_⟩
    by_cases m : ∃ c, o = mark c
    · obtain ⟨c, rfl⟩ := m
      obtain ⟨l, sd, p, cs, h1, _⟩ := sb.mr q c e
      rw [h] at h1
      cases h1
    · have := sb.eq q o e fun c z => m ⟨c, z⟩
      rw [h] at this
      cases this
      exact e
  | none =>
    refine ⟨upd G q (.tup xs), ⟨fun a o k => ?_, fun a o k k0 => ?_, fun a o k _ => k, fun a k => k⟩, ⟨fun a o k m => ?_, fun a c k => ?_⟩, upd_same⟩
    · rw [upd_ne (ne_of_none k e)]
      exact k
    · by_cases c : a = q
      · subst c
        rw [upd_same] at k
        exact .inr ⟨xs, (Option.some.inj k).symm⟩
      · rw [upd_ne c, k0] at k
        cases k
    · by_cases c : a = q
      · subst c
        rw [upd_same] at k
        cases k
        exact h
      · rw [upd_ne c] at k
        exact sb.eq a o k m
    · by_cases c' : a = q
      · subst c'
        rw [upd_same] at k
        cases k
      · rw [upd_ne c'] at k
        exact (sb.mr a c k).mono fun b o z => by
          rw [upd_ne (ne_of_none z e)]
          exact z
def keyD : Key → D
  | .inl i => .int i
  | .inr s => .str s
theorem wd_keysT {d : Addr} {o : Obj} {G : Hp} {ks : List (List Int)} {xs : List V} (g : G d = some (.frz o (.dT ((ks.map (List.map Sum.inl)).zip xs)))) (hl : ks.length = xs.length) : WD (Itkt d o ((ks.map (List.map Sum.inl)).zip xs)) G (ks.map tupI) where
  go := fun i n G2 H2 hi k sb => ⟨sb.eq _ _ (k _ _ g) (fun _ z => nomatch z), by
    rw [List.length_map] at hi
    rw [zip_len' (by rw [List.length_map]; exact hl), List.length_map]
    exact hi⟩
  stop := fun n G2 H2 k sb => ⟨sb.eq _ _ (k _ _ g) (fun _ z => nomatch z), by
    rw [zip_len' (by rw [List.length_map]; exact hl), List.length_map, List.length_map]
    exact Nat.le_refl _⟩
  yld := fun i n G2 H2 x H3 e he k sb y => by
    obtain ⟨rfl, k1, v, q, h1, rfl, h3⟩ := y
    rw [List.getElem?_map] at he
    obtain ⟨m, em, rfl⟩ := Option.map_eq_some_iff.mp he
    rw [List.getElem?_zip_eq_some] at h1
    obtain ⟨h1, h2⟩ := h1
    rw [List.getElem?_map, em] at h1
    cases h1
    rw [List.map_map] at h3
    obtain ⟨G3, x3, s3, g3⟩ := adopt sb h3
    exact ⟨G3, x3, s3, q, _, rfl, g3, Reps.ints m⟩
theorem wd_keysK {d : Addr} {o : Obj} {G : Hp} {ks : List Key} {xs : List V} (g : G d = some (.frz o (.dK (ks.zip xs)))) (hl : ks.length = xs.length) : WD (Itk d o (ks.zip xs)) G (ks.map keyD) where
  go := fun i n G2 H2 hi k sb => ⟨sb.eq _ _ (k _ _ g) (fun _ z => nomatch z), by
    rw [List.length_map] at hi
    rw [zip_len' hl]
    exact hi⟩
  stop := fun n G2 H2 k sb => ⟨sb.eq _ _ (k _ _ g) (fun _ z => nomatch z), by
    rw [zip_len' hl, List.length_map]
    exact Nat.le_refl _⟩
  yld := fun i n G2 H2 x H3 e he k sb y => by
    obtain ⟨rfl, k1, v, h1, rfl⟩ := y
    rw [List.getElem?_map] at he
    obtain ⟨m, em, rfl⟩ := Option.map_eq_some_iff.mp he
    rw [List.getElem?_zip_eq_some] at h1
    obtain ⟨h1, h2⟩ := h1
    rw [em] at h1
    cases h1
    refine ⟨G2, Ext.refl _ _, sb, ?_⟩
    cases k1 <;> rfl
def keysD : D → Option (List D)
  | .dT ks _ => some (ks.map tupI)
  | .dK ks _ => some (ks.map keyD)
  | _ => none
def gForK (i : Nat) (tg : STg) (body : SEnv → Dr Out) : SEnv → Dr Out := fun ρ => match (freeze [i] ρ)[i]? with
  | some (.fr d) => match keysD d with
    | some ds => noexc (forGo tg body ds (freeze [i] ρ))
    | none => .fail
  | _ => .fail
theorem outP_lk {d : Addr} {u : HO} {od : Obj} (hu : IsDc u) {F0 H0 Fc F H : Hp} {Dn' : Ends} {n : Nat} {o : Out} (x0 : Ext F0 H0 F H) (hF : F d = some u) (hH : H d = some u) (hc : Inc Fc F) (h : OutP Fc F0 H0 Dn' n o) :
    OutP (lk d u od F) (lk d u od F0) (lk d u od H0) ⟨fun σ' H' => H' d = some (.frz od u) ∧ Dn'.nx σ' (upd H' d u), fun v H' => H' d = some (.frz od u) ∧ Dn'.rt v (upd H' d u), fun σ' H' => H' d = some (.frz od u) ∧ Dn'.bk σ' (upd H' d u), fun σ' H' => H' d = some (.frz od u) ∧ Dn'.ct σ' (upd H' d u)⟩ n o := by
  have key : ∀ {F' H' : Hp} {m : Nat}, Inc (lk d u od F) F' → Sb m F' H' → F' d = some (.frz od u) ∧ H' d = some (.frz od u) ∧ Inc Fc (ul d u od F') := fun {F' H' m} i s => by
    have h1 := i d _ (lk_d hF)
    refine ⟨h1, s.eq _ _ h1 (fun _ z => nomatch z), fun a o e => ?_⟩
    by_cases c : a = d
    · subst c
      have := hc _ _ e
      rw [hF] at this
      cases this
      exact ul_d h1
    · rw [ul_ne c]
      exact i a o (by rw [lk_ne c]; exact hc a o e)
  cases o with
  | nx ρ =>
    intro F' H' σ' i x s r
    obtain ⟨h1, h2, h3⟩ := key i s
    refine ⟨h2, ?_⟩
    rw [← ul_upd h2]
    exact h _ _ σ' h3 (x0.ul hu hF hH x h1 h2) (s.ul hu h1) (r.ul hu h1)
  | ct ρ =>
    intro F' H' σ' i x s r
    obtain ⟨h1, h2, h3⟩ := key i s
    refine ⟨h2, ?_⟩
    rw [← ul_upd h2]
    exact h _ _ σ' h3 (x0.ul hu hF hH x h1 h2) (s.ul hu h1) (r.ul hu h1)
  | bk ρ =>
    intro F' H' σ' i x s r
    obtain ⟨h1, h2, h3⟩ := key i s
    refine ⟨h2, ?_⟩
    rw [← ul_upd h2]
    exact h _ _ σ' h3 (x0.ul hu hF hH x h1 h2) (s.ul hu h1) (r.ul hu h1)
  | ret e =>
    intro v F' H' i x s r
    obtain ⟨h1, h2, h3⟩ := key i s
    refine ⟨h2, ?_⟩
    rw [← ul_upd h2]
    exact h v _ _ h3 (x0.ul hu hF hH x h1 h2) (s.ul hu h1) (r.mono (ul_le hu F'))
  | rown e =>
    intro o ho F' H' i x s g0 h0 eo r
    obtain ⟨h1, h2, h3⟩ := key i s
    refine ⟨h2, ?_⟩
    rw [← ul_upd h2]
    have ne : o ≠ d := fun z => by
      subst z
      rw [h1] at g0
      cases g0
    exact h o ho _ _ h3 (x0.ul hu hF hH x h1 h2) (s.ul hu h1) ((ul_none hu).mpr g0) ((lk_none hu).mp h0) (by rw [ul_ne ne]; exact eo) (r.mono (ul_le hu F'))
theorem dens_forK (i : Nat) {gt : TG} {tg : STg} (hg : DenGS gt tg) (hb : DenS W t g) : DenS W (tLockOr (tFor (iKeys (tVar i)) gt t)) (gForK i tg g) := fun n F0 H0 F H ρ σ Dn' x sb r al => by
  have x1 : Ext F0 H0 (lentF [i] ρ σ F H) H := lentF_ext r x
  have s1 : Sb n (lentF [i] ρ σ F H) H := lentF_sb r sb
  have r1 : RS H0 (lentF [i] ρ σ F H) H (freeze [i] ρ) σ := r.froz (Ext.refl _ _) s1
  have inc : Inc F (lentF [i] ρ σ F H) := lentF_gg r
  unfold gForK at al
  split at al
  · rename_i d ed
    split at al
    · rename_i ds eds
      obtain ⟨v, hv, rv⟩ := r1.frz i d ed
      cases d with
      | dT ks vs =>
        have eds : ks.map tupI = ds := Option.some.inj eds
        subst eds
        obtain ⟨a, xs, rfl, hr, hl, rs⟩ := rv
        have hx : ks.length = xs.length := by rw [hl, rs.length]
        rcases hr with hF | ⟨ob, hF⟩
        · have hu : IsDc (.dT ((ks.map (List.map Sum.inl)).zip xs)) := .inl ⟨_, rfl⟩
          have hH := s1.eq _ _ hF hu.ne.1
          refine .inl ⟨a, _, hH, True.intro, fun od => ?_⟩
          rw [← lk_upd (od := od) hH]
          refine ⟨.ref a, hv, a, od, rfl, .inr ⟨_, lk_d hH, ?_⟩⟩
          exact for_core hg hb (x1.lk hu hF hH) (s1.lk hu hF) (r1.lk hu hF) (wd_keysT (lk_d hF) hx) ((AllN.noexc al).q fun m o p => outP_lk hu x1 hF hH inc p)
        · refine .inr ⟨.ref a, hv, a, ob, rfl, .inr ⟨_, s1.eq _ _ hF (fun _ z => nomatch z), ?_⟩⟩
          exact for_core hg hb x1 s1 r1 (wd_keysT hF hx) ((AllN.noexc al).q fun m o p => p.inc inc)
      | dK ks vs =>
        have eds : ks.map keyD = ds := Option.some.inj eds
        subst eds
        obtain ⟨a, xs, rfl, hr, hl, rs⟩ := rv
        have hx : ks.length = xs.length := by rw [hl, rs.length]
        rcases hr with hF | ⟨ob, hF⟩
        · have hu : IsDc (.dK (ks.zip xs)) := .inr ⟨_, rfl⟩
          have hH := s1.eq _ _ hF hu.ne.1
          refine .inl ⟨a, _, hH, True.intro, fun od => ?_⟩
          rw [← lk_upd (od := od) hH]
          refine ⟨.ref a, hv, a, od, rfl, .inl ⟨_, lk_d hH, ?_⟩⟩
          exact for_core hg hb (x1.lk hu hF hH) (s1.lk hu hF) (r1.lk hu hF) (wd_keysK (lk_d hF) hx) ((AllN.noexc al).q fun m o p => outP_lk hu x1 hF hH inc p)
        · refine .inr ⟨.ref a, hv, a, ob, rfl, .inl ⟨_, s1.eq _ _ hF (fun _ z => nomatch z), ?_⟩⟩
          exact for_core hg hb x1 s1 r1 (wd_keysK hF hx) ((AllN.noexc al).q fun m o p => p.inc inc)
      | _ => cases eds
    · exact al.elim
  · exact al.elim
end
end Dn
namespace Dn
open PySem PySem.Spec PyProof.Rows L2
theorem passE {X : Cx} {E : XK} : Passes CX0 X E := fun _ _ _ _ _ _ _ h => h.elim
section
variable {W : Wd} {K : PySem.W.Frag} {ta tb tc te : TE} {fa fb fc fe : Ev → Dr D} {tt tu tt1 : TT} {ft fu ft1 : Ev → Dr Bool} {tA : TA} {fA : Ev → Dr (List D)} {t u : TS} {g h : SEnv → Dr Out}
theorem den_lstRg1 (ha : DenE W ta fa) : DenN W (tLstRg (tRg1 ta)) (gLstRg1 fa) := fun n F0 H0 G H ρ σ Q x re sb al => by
  refine ha n F0 H0 G H ρ σ _ x re sb ((AllN.bind al).q fun n1 d p => ?_)
  intro v G1 H1 x1 s1 r1
  cases d with
  | int j =>
    cases r1
    obtain ⟨hj, p⟩ := AllN.ite p
    exact ⟨j, rfl, ⟨by omega, by omega, by omega, by omega, by omega⟩, fun q hq => post_lst p x1 s1 (rgV_rep j) hq⟩
  | _ => exact p.elim
/-! ### [e for x in xs for y in ys] -/
def lcIn (tg : Tg) (ft : Ev → Dr Bool) (fe : Ev → Dr D) (ρ0 : Ev) : List D → List D → Dr (List D)
  | acc, [] => .ret acc
  | acc, d :: ds => match tg d ρ0 with
    | none => .fail
    | some ρ => (ft ρ).bind fun b => if b = true then (fe ρ).bind fun y => if acc.length < 1000000 then lcIn tg ft fe ρ0 (acc ++ [y]) ds else .fail else lcIn tg ft fe ρ0 acc ds
def lcOut (tg : Tg) (ft : Ev → Dr Bool) (fi1 : Ev → Dr (List D)) (tg1 : Tg) (ft1 : Ev → Dr Bool) (fe : Ev → Dr D) (vs1 : List Nat) (ρ0 : Ev) : List D → List D → Dr (List D)
  | acc, [] => .ret acc
  | acc, d :: ds => match tg d ρ0 with
    | none => .fail
    | some ρ => (ft ρ).bind fun b => if b = true then (fi1 ρ).bind fun es => (lcIn tg1 ft1 fe (wipeE ρ vs1) acc es).bind fun acc' => lcOut tg ft fi1 tg1 ft1 fe vs1 ρ0 acc' ds else lcOut tg ft fi1 tg1 ft1 fe vs1 ρ0 acc ds
def gLc2 (fi : Ev → Dr (List D)) (tg : Tg) (ft : Ev → Dr Bool) (fi1 : Ev → Dr (List D)) (tg1 : Tg) (ft1 : Ev → Dr Bool) (fe : Ev → Dr D) (vs vs1 : List Nat) : Ev → Dr D := fun ρ => (fi ρ).bind fun ds => (lcOut tg ft fi1 tg1 ft1 fe vs1 (wipeE ρ vs) [] ds).bind fun ys => .ret (.lst ys)
/-- the list that is made stays no one's -/
theorem lcStay {n : Nat} {G H G' H' : Hp} {L : Addr} {xs : List V} (x : Ext G H G' H') (s : Sb n G' H') (g : G L = none) (h : H L = some (.lst xs)) : G' L = none ∧ H' L = some (.lst xs) := by
  have h4 : H' L = some (.lst xs) := x.hh L _ h (fun c => by rw [g]; exact nofun)
  refine ⟨?_, h4⟩
  cases e : G' L with
  | none => rfl
  | some o =>
    rcases x.fr L o e g with z | ⟨z, q⟩
    · rw [h] at z
      cases z
    · subst q
      have := s.tup e
      rw [h4] at this
      cases this
theorem Ext.updO {G1 H1 G H : Hp} {L : Addr} {o : HO} (x : Ext G1 H1 G H) (hL : H1 L = none) : Ext G1 H1 G (upd H L o) := ⟨x.gg, fun a o e1 e2 => x.fr a o e1 e2, fun a o e1 e2 => by
    rw [upd_ne (ne_of_none e1 hL)]
    exact x.hh a o e1 e2, fun a e1 => by
    by_cases c : a = L
    · rw [c]
      exact hL
    · rw [upd_ne c] at e1
      exact x.dm a e1⟩
theorem Sb.updO {n : Nat} {G H : Hp} {L : Addr} {o : HO} (s : Sb n G H) (g : G L = none) : Sb n G (upd H L o) := by
  refine ⟨fun a o e1 e2 => ?_, fun a c e1 => ?_⟩
  · rw [upd_ne (ne_of_none e1 g)]
    exact s.eq a o e1 e2
  · obtain ⟨l, sd, q, cs, q1, q2, q3⟩ := s.mr a c e1
    refine ⟨l, sd, q, cs, ?_, q2, q3⟩
    rw [upd_ne (ne_of_none e1 g)]
    exact q1
theorem den_lc2 {wi wi1 : TI} {fi fi1 : Ev → Dr (List D)} {g g1 : TG} {tg tg1 : Tg} {ts ts1 vs vs1 : List Nat} (hi : DenI W wi fi) (hg : DenG g tg ts) (hts : ts.all (fun i => vs.contains i) = true) (ht : DenT W tt ft)
    (hi1 : DenI W wi1 fi1) (hg1 : DenG g1 tg1 ts1) (hts1 : ts1.all (fun i => vs1.contains i) = true) (ht1 : DenT W tt1 ft1) (he : DenE W te fe) : DenN W (tLc2 wi g tt wi1 g1 tt1 te vs vs1) (gLc2 fi tg ft fi1 tg1 ft1 fe vs vs1) := fun n F0 H0 G H ρ σ Q x re sb al => by
  have hts' : ∀ i, i ∈ ts → i ∈ vs := fun i h => by simpa using List.all_eq_true.mp hts i h
  have hts1' : ∀ i, i ∈ ts1 → i ∈ vs1 := fun i h => by simpa using List.all_eq_true.mp hts1 i h
  refine hi n F0 H0 G H ρ σ _ x re sb ((AllN.bind al).q fun n1 ds p => ?_)
  intro J G1 H1 x1 s1 wd L hL
  have re1 : RE G1 (wipeE ρ vs) (L2.wipe σ vs) := (re.mono x1.le).wipe vs
  have fin : PostN G H Q = fun n' d => PostN G H Q n' d := rfl
  have p : AllN (EXof W F0 H0) n1 (lcOut tg ft fi1 tg1 ft1 fe vs1 (wipeE ρ vs) [] ds) (fun n' ys => PostN G H Q n' (.lst ys)) := (AllN.bind p).q fun m ys q => q
  refine ⟨fun i m H2 => m = ds.length - i ∧ i ≤ ds.length ∧ ∃ n2 G2 acc xs, Ext G1 H1 G2 H2 ∧ Sb n2 G2 H2 ∧ G2 L = none ∧ H2 L = some (.lst xs) ∧ Reps G2 acc xs ∧
      AllN (EXof W F0 H0) n2 (lcOut tg ft fi1 tg1 ft1 fe vs1 (wipeE ρ vs) acc (ds.drop i)) (fun n' ys => PostN G H Q n' (.lst ys)),
    ⟨ds.length, by simp, Nat.zero_le _, n1, G1, [], [], Ext.newO hL, s1.newO (s1.no hL), s1.no hL, upd_same, rfl, p⟩, ?_⟩
  rintro i m H2 ⟨rfl, hile, n2, G2, acc, xs, x2, s2, gl, hl, ra, al2⟩
  by_cases hlt : i < ds.length
  · refine .inr ⟨wd.go i n2 G2 H2 hlt x2.gg s2, fun H' => i + 1 ≤ ds.length ∧ ∃ n2 G2 acc xs, Ext G1 H1 G2 H' ∧ Sb n2 G2 H' ∧ G2 L = none ∧ H' L = some (.lst xs) ∧ Reps G2 acc xs ∧
      AllN (EXof W F0 H0) n2 (lcOut tg ft fi1 tg1 ft1 fe vs1 (wipeE ρ vs) acc (ds.drop (i + 1))) (fun n' ys => PostN G H Q n' (.lst ys)), fun H' h => ⟨ds.length - (i + 1), by omega, rfl, h.1, h.2⟩, fun v H3 y => ?_⟩
    rw [drop_cons_of hlt] at al2
    have al2 : AllN (EXof W F0 H0) n2 (match tg ds[i] (wipeE ρ vs) with
      | none => .fail
      | some ρ' => (ft ρ').bind fun b => if b = true then (fi1 ρ').bind fun es => (lcIn tg1 ft1 fe (wipeE ρ' vs1) acc es).bind fun acc' => lcOut tg ft fi1 tg1 ft1 fe vs1 (wipeE ρ vs) acc' (ds.drop (i + 1)) else lcOut tg ft fi1 tg1 ft1 fe vs1 (wipeE ρ vs) acc (ds.drop (i + 1))) (fun n' ys => PostN G H Q n' (.lst ys)) := al2
    obtain ⟨G3, x3, s3, r3⟩ := wd.yld i n2 G2 H2 v H3 ds[i] (List.getElem?_eq_getElem hlt) x2.gg s2 y
    obtain ⟨gl3, hl3⟩ := lcStay x3 s3 gl hl
    split at al2
    · exact al2.elim
    · rename_i ρ' eρ
      refine hg n2 G3 H3 (wipeE ρ vs) (L2.wipe σ vs) v ds[i] ρ' _ (re1.mono (x2.trans x3).le) s3 r3 eρ fun σ' re' hw => ?_
      refine ⟨by rw [hw vs hts', wipe_twice], ?_⟩
      refine ht n2 F0 H0 G3 H3 ρ' σ' _ (((x.trans x1).trans x2).trans x3) re' s3 ((AllN.bind al2).q fun n4 b p4 => ?_)
      intro G4 H4 x4 s4
      obtain ⟨g4, h4⟩ := lcStay x4 s4 gl3 hl3
      cases b with
      | false =>
        rw [if_neg Bool.false_ne_true] at p4 ⊢
        exact ⟨hlt, n4, G4, acc, xs, (x2.trans x3).trans x4, s4, g4, h4, ra.mono (x3.trans x4).le, p4⟩
      | true =>
        rw [if_pos rfl] at p4 ⊢
        refine hi1 n4 F0 H0 G4 H4 ρ' σ' _ ((((x.trans x1).trans x2).trans x3).trans x4) (re'.mono x4.le) s4 ((AllN.bind p4).q fun n5 es p5 => ?_)
        intro J1 G5 H5 x5 s5 wd1
        obtain ⟨g5, h5⟩ := lcStay x5 s5 g4 h4
        have re2 : RE G5 (wipeE ρ' vs1) (L2.wipe σ' vs1) := (re'.mono (x4.trans x5).le).wipe vs1
        have x05 := (x2.trans x3).trans (x4.trans x5)
        refine ⟨fun j k H6 => k = es.length - j ∧ j ≤ es.length ∧ ∃ n6 G6 acc xs, Ext G1 H1 G6 H6 ∧ (∀ a o, G5 a = some o → G6 a = some o) ∧ RE G6 (wipeE ρ' vs1) (L2.wipe σ' vs1) ∧ Sb n6 G6 H6 ∧ G6 L = none ∧ H6 L = some (.lst xs) ∧ Reps G6 acc xs ∧
            AllN (EXof W F0 H0) n6 (lcIn tg1 ft1 fe (wipeE ρ' vs1) acc (es.drop j)) (fun n' acc' => AllN (EXof W F0 H0) n' (lcOut tg ft fi1 tg1 ft1 fe vs1 (wipeE ρ vs) acc' (ds.drop (i + 1))) (fun n' ys => PostN G H Q n' (.lst ys))),
          ⟨es.length, by simp, Nat.zero_le _, n5, G5, acc, xs, x05, fun _ _ z => z, re2, s5, g5, h5, ra.mono (x3.trans (x4.trans x5)).le, AllN.bind p5⟩, ?_⟩
        rintro j k H6 ⟨rfl, hjle, n6, G6, acc6, xs6, x6, k6, re6, s6, g6, h6, ra6, al6⟩
        by_cases hjt : j < es.length
        · refine .inr ⟨wd1.go j n6 G6 H6 hjt k6 s6, fun H' => j + 1 ≤ es.length ∧ ∃ n6 G6 acc xs, Ext G1 H1 G6 H' ∧ (∀ a o, G5 a = some o → G6 a = some o) ∧ RE G6 (wipeE ρ' vs1) (L2.wipe σ' vs1) ∧ Sb n6 G6 H' ∧ G6 L = none ∧ H' L = some (.lst xs) ∧ Reps G6 acc xs ∧
            AllN (EXof W F0 H0) n6 (lcIn tg1 ft1 fe (wipeE ρ' vs1) acc (es.drop (j + 1))) (fun n' acc' => AllN (EXof W F0 H0) n' (lcOut tg ft fi1 tg1 ft1 fe vs1 (wipeE ρ vs) acc' (ds.drop (i + 1))) (fun n' ys => PostN G H Q n' (.lst ys))), fun H' h => ⟨es.length - (j + 1), by omega, rfl, h.1, h.2⟩, fun v H7 y => ?_⟩
          rw [drop_cons_of hjt] at al6
          have al6 : AllN (EXof W F0 H0) n6 (match tg1 es[j] (wipeE ρ' vs1) with
            | none => .fail
            | some ρ2 => (ft1 ρ2).bind fun b => if b = true then (fe ρ2).bind fun y => if acc6.length < 1000000 then lcIn tg1 ft1 fe (wipeE ρ' vs1) (acc6 ++ [y]) (es.drop (j + 1)) else .fail else lcIn tg1 ft1 fe (wipeE ρ' vs1) acc6 (es.drop (j + 1))) (fun n' acc' => AllN (EXof W F0 H0) n' (lcOut tg ft fi1 tg1 ft1 fe vs1 (wipeE ρ vs) acc' (ds.drop (i + 1))) (fun n' ys => PostN G H Q n' (.lst ys))) := al6
          obtain ⟨G7, x7, s7, r7⟩ := wd1.yld j n6 G6 H6 v H7 es[j] (List.getElem?_eq_getElem hjt) k6 s6 y
          obtain ⟨g7, h7⟩ := lcStay x7 s7 g6 h6
          split at al6
          · exact al6.elim
          · rename_i ρ2 eρ2
            refine hg1 n6 G7 H7 (wipeE ρ' vs1) (L2.wipe σ' vs1) v es[j] ρ2 _ (re6.mono x7.le) s7 r7 eρ2 fun σ2 re' hw => ?_
            refine ⟨by rw [hw vs1 hts1', wipe_twice], ?_⟩
            have xx7 := (x.trans x1).trans (x6.trans x7)
            refine ht1 n6 F0 H0 G7 H7 ρ2 σ2 _ xx7 re' s7 ((AllN.bind al6).q fun n8 b p8 => ?_)
            intro G8 H8 x8 s8
            obtain ⟨g8, h8⟩ := lcStay x8 s8 g7 h7
            cases b with
            | false =>
              rw [if_neg Bool.false_ne_true] at p8 ⊢
              exact ⟨hjt, n8, G8, acc6, xs6, (x6.trans x7).trans x8, fun a o z => x8.gg a o (x7.gg a o (k6 a o z)), re6.mono (x7.trans x8).le, s8, g8, h8, ra6.mono (x7.trans x8).le, p8⟩
            | true =>
              rw [if_pos rfl] at p8 ⊢
              refine he n8 F0 H0 G8 H8 ρ2 σ2 _ (xx7.trans x8) (re'.mono x8.le) s8 ((AllN.bind p8).q fun n9 d9 p9 => ?_)
              intro w G9 H9 x9 s9 r9
              obtain ⟨g9, h9⟩ := lcStay x9 s9 g8 h8
              obtain ⟨hlen, p9⟩ := AllN.ite p9
              exact ⟨xs6, h9, by rw [← ra6.length]; exact line_lt (by omega), hjt, n9, G9, acc6 ++ [d9], xs6 ++ [w], ((x6.trans x7).trans (x8.trans x9)).updO hL, fun a o z => x9.gg a o (x8.gg a o (x7.gg a o (k6 a o z))), re6.mono (x7.trans (x8.trans x9)).le, s9.updO g9, g9, upd_same, (ra6.mono (x7.trans (x8.trans x9)).le).snoc r9, p9⟩
        · have e : j = es.length := by omega
          subst e
          refine .inl ⟨wd1.stop n6 G6 H6 k6 s6, ?_⟩
          rw [List.drop_length] at al6
          exact ⟨hlt, n6, G6, acc6, xs6, x6, s6, g6, h6, ra6, al6⟩
  · have e : i = ds.length := by omega
    subst e
    refine .inl ⟨wd.stop n2 G2 H2 x2.gg s2, ?_⟩
    rw [List.drop_length] at al2
    have al2 : PostN G H Q n2 (.lst acc) := al2
    exact al2 L (.lst xs) G2 H2 (x1.trans x2) s2 gl (x1.dm L hL) hl ⟨xs, rfl, ra⟩
end
end Dn
namespace Dn
open PySem PySem.Spec PyProof.Rows L2
theorem bt_len : bootBuiltins "len" = some (.builtin "len") := by decide +kernel
theorem bt_max : bootBuiltins "max" = some (.builtin "max") := by decide +kernel
theorem bt_min : bootBuiltins "min" = some (.builtin "min") := by decide +kernel
theorem bt_sum : bootBuiltins "sum" = some (.builtin "sum") := by decide +kernel
theorem bt_any : bootBuiltins "any" = some (.builtin "any") := by decide +kernel
theorem bt_all : bootBuiltins "all" = some (.builtin "all") := by decide +kernel
theorem bt_sorted : bootBuiltins "sorted" = some (.builtin "sorted") := by decide +kernel
theorem bt_set : bootBuiltins "set" = some (.type "set") := by decide +kernel
theorem bt_tuple : bootBuiltins "tuple" = some (.type "tuple") := by decide +kernel
theorem bt_list : bootBuiltins "list" = some (.type "list") := by decide +kernel
theorem bt_int : bootBuiltins "int" = some (.type "int") := by decide +kernel
theorem bt_repr : bootBuiltins "repr" = some (.builtin "repr") := by decide +kernel
theorem bt_abs : bootBuiltins "abs" = some (.builtin "abs") := by decide +kernel
theorem bt_bool : bootBuiltins "bool" = some (.type "bool") := by decide +kernel
theorem bt_isinstance : bootBuiltins "isinstance" = some (.builtin "isinstance") := by decide +kernel
theorem bt_dict : bootBuiltins "dict" = some (.type "dict") := by decide +kernel
theorem bt_str : bootBuiltins "str" = some (.type "str") := by decide +kernel
/-! ## the store of draws -/
def drwH (l sd : Int) (c : Addr) (sp : Int) : HO := .dK [(kLeft, .int l), (kSeed, .int sd), (kCells, .ref c), (kSpot, .int sp)]
theorem drw_upd {n : Nat} {G H : Hp} {a c : Addr} {l sd p l' p' : Int} {cs : List Int} (s : Sb (n + 1) G H) (g : G a = some (mark c)) (gc : G c = some (.lst (cs.map V.int))) (hc : cs ≠ []) (hs : 0 ≤ sd ∧ sd < 2147483648) (hp : 0 ≤ p' ∧ p' + n ≤ 1152921504606846976) :
    ∀ H' : Hp, H' a = some (drwH l' sd c p') → (∀ b, b ≠ a → H' b = H b) → Ext G H G H' ∧ Sb n G H' := fun H' e k => by
  have gg : Ext G H G H' := ⟨fun _ _ z => z, fun b o z n => (by rw [n] at z; cases z), fun b o z nm => (by
    rw [k b (fun q => nm c (by rw [q]; exact g))]
    exact z), fun b z => (by
    by_cases q : b = a
    · rw [q, e] at z
      cases z
    · rw [k b q] at z
      exact z)⟩
  refine ⟨gg, ⟨fun b o z nm => ?_, fun b d z => ?_⟩⟩
  · rw [k b (fun q => by rw [q, g] at z; exact nm c (Option.some.inj z).symm)]
    exact s.eq b o z nm
  · by_cases q : b = a
    · rw [q] at z ⊢
      rw [g] at z
      cases z
      exact ⟨l', sd, p', cs, e, gc, hc, hs.1, hs.2, hp.1, hp.2⟩
    · obtain ⟨l, sd, p, cs, h1, h2, h3, h4, h5, h6, h7⟩ := s.mr b d z
      exact ⟨l, sd, p, cs, by rw [k b q]; exact h1, h2, h3, h4, h5, h6, by omega⟩
theorem cutV_ints (ns : List Int) (lo hi : Option Int) : ∃ ms : List Int, cutV (ns.map V.int) lo hi = ms.map V.int ∧ ms.length ≤ ns.length := by
  refine ⟨(ns.drop (HT.sIx ns.length 0 lo)).take (HT.sIx ns.length ns.length hi - HT.sIx ns.length 0 lo), ?_, ?_⟩
  · unfold cutV
    rw [List.length_map, List.map_take, List.map_drop]
  · rw [List.length_take, List.length_drop]
    omega
theorem same_upd {H H1 : Hp} {p : Addr} {o : HO} (s : Same H H1) (h : H p = none) : Same H (upd H1 p o) := fun b x e => by
  rw [upd_ne (ne_of_none e h)]
  exact s b x e
theorem shp_all : ∀ ns : List Int, PyData.depthAll (ns.map PyData.int) ≤ 1
  | [] => by simp [PyData.depthAll]
  | n :: r => by
    have := shp_all r
    simp only [List.map_cons, PyData.depthAll, PyData.depth]
    omega
theorem shp_lay : ∀ ns : List Int, PyData.canLayAll0 (ns.map PyData.int) = true
  | [] => rfl
  | n :: r => shp_lay r
theorem shp_ints (ns : List Int) : SeqAt.shaped (.list (ns.map PyData.int)) = true := by
  have h1 := shp_all ns
  have h2 : PyData.depth (.list (ns.map PyData.int)) ≤ 64 := by simp only [PyData.depth]; omega
  show (PyData.canLay0 (.list (ns.map PyData.int)) && decide (PyData.depth (.list (ns.map PyData.int)) ≤ 64)) = true
  rw [Bool.and_eq_true]
  exact ⟨shp_lay ns, decide_eq_true h2⟩
theorem dp_ints {K : PySem.W.Frag} {H : Hp} : ∀ gs : List Int, DpAll K H (gs.map V.int) (gs.map PyData.int)
  | [] => .nil
  | g :: gs => .cons (.int g) (dp_ints gs)
def spBegun (K : PySem.W.Frag) : Sp := fun vs H Q _ => vs.length = 2 ∧ ∃ (a : Addr) (k : Int) (ns : List Int), vs = [.ref a, .int k] ∧ SqL K H a (ns.map V.int) ∧ ns.length ≤ 1000 ∧ 0 ≤ k ∧ k ≤ 1000 ∧
  ∀ (H' : Hp) (p c : Addr) (l sd : Int) (cs : List Int), Same H H' → H p = none → H c = none → c ≠ p → H' p = some (drwH l sd c 0) → H' c = some (.lst (cs.map V.int)) → cs ≠ [] → 0 ≤ sd → sd < 2147483648 → Q (.ref p) H'
/-! ## the law's own head -/
section
variable {W : Wd} {K : PySem.W.Frag} {tA : TA} {fA : Ev → Dr (List D)} {te : TE} {fe : Ev → Dr D}
open Classical in
/-- len(script) -/
noncomputable def dLenS (K : PySem.W.Frag) : List D → Dr D
  | [.opq K' ns] => if K' = K then .ret (.int ns.length) else .fail
  | _ => .fail
open Classical in
theorem den_lenS : DenC W (rLenQ K) (dLenS K) := fun n F0 H0 G H xs ds Q ex sb r al => by
  unfold dLenS at al
  split at al
  · rename_i K' ns
    obtain ⟨e, al2⟩ := AllN.ite al
    subst e
    obtain ⟨v, vs, rfl, ⟨a, rfl, hs⟩, rfl⟩ := r
    have hs' : SqL K' H a (ns.map V.int) := by
      rcases hs with hs | hs
      · exact .inl (sb.rd hs (fun _ z => nomatch z))
      · exact .inr hs
    refine ⟨a, ns.map V.int, rfl, .inl hs', ?_⟩
    rw [List.length_map]
    exact al2 (.int ns.length) G H (Ext.refl G H) sb rfl
  · exact al.elim
open Classical in
noncomputable def gBegun (K : PySem.W.Frag) (f : Ev → Dr (List D)) : Ev → Dr D := fun ρ => (f ρ).bind fun ds => match ds with
  | [.opq K' ns, .int k] => if K' = K ∧ ns.length ≤ 1000 ∧ 0 ≤ k ∧ k ≤ 1000 then .draw 1 fun _ => .ret .drw else .fail
  | _ => .fail
open Classical in
theorem den_begun {E : XK} (h : DenA W tA fA) : DenE W (tCall (spBegun K) [] E tA) (gBegun K fA) := fun n F0 H0 G H ρ σ Q x re sb al => by
  refine h n F0 H0 G H ρ σ _ x re sb ((AllN.bind al).q fun m ds p => ?_)
  intro vs G1 H1 x1 s1 r1
  split at p
  · rename_i K' ns k
    obtain ⟨⟨e, e1, e2, e3⟩, pp⟩ := AllN.ite p
    subst e
    obtain ⟨v, u, rfl, ⟨a, rfl, hs⟩, h2⟩ := r1.two
    have h2 : u = .int k := h2
    subst h2
    obtain ⟨p1, p2, p3, p4⟩ := pp
    have hs' : SqL K' H1 a (ns.map V.int) := by
      rcases hs with hs | hs
      · exact .inl (s1.rd hs (fun _ z => nomatch z))
      · exact .inr hs
    refine ⟨rfl, a, k, ns, rfl, hs', e1, e2, e3, fun H' p c l sd cs hH hp hc hne ep ec h1 h2 h3 => ?_⟩
    have gp : G1 p = none := s1.no hp
    have gc : G1 c = none := s1.no hc
    have x' : Ext G1 H1 (upd (upd G1 c (.lst (cs.map V.int))) p (mark c)) H' := by
      refine ⟨fun b o z => ?_, fun b o z zn => ?_, fun b o z _ => hH b o z, fun b z => ?_⟩
      · rw [upd_ne (ne_of_none z gp), upd_ne (ne_of_none z gc)]
        exact z
      · by_cases q1 : b = p
        · rw [q1]
          exact .inl hp
        · rw [upd_ne q1] at z
          by_cases q2 : b = c
          · rw [q2]
            exact .inl hc
          · rw [upd_ne q2, zn] at z
            cases z
      · cases q : H1 b with
        | none => rfl
        | some o =>
          have := hH b o q
          rw [z] at this
          cases this
    have s' : Sb (m - 1) (upd (upd G1 c (.lst (cs.map V.int))) p (mark c)) H' := by
      refine ⟨fun b o z nm => ?_, fun b d z => ?_⟩
      · by_cases q1 : b = p
        · rw [q1, upd_same] at z
          exact absurd (Option.some.inj z).symm (nm c)
        · rw [upd_ne q1] at z
          by_cases q2 : b = c
          · rw [q2, upd_same] at z
            rw [q2, ← z]
            exact ec
          · rw [upd_ne q2] at z
            exact hH b o (s1.eq b o z nm)
      · by_cases q1 : b = p
        · rw [q1] at z ⊢
          rw [upd_same] at z
          cases z
          exact ⟨l, sd, 0, cs, ep, by rw [upd_ne hne, upd_same], h1, h2, h3, Int.le_refl _, by omega⟩
        · rw [upd_ne q1] at z
          by_cases q2 : b = c
          · rw [q2, upd_same] at z
            cases z
          · rw [upd_ne q2] at z
            obtain ⟨l, sd, sp, cs, y1, y2, y3, y4, y5, y6, y7⟩ := s1.mr b d z
            refine ⟨l, sd, sp, cs, hH _ _ y1, ?_, y3, y4, y5, y6, by omega⟩
            rw [upd_ne (ne_of_none y2 gp), upd_ne (ne_of_none y2 gc)]
            exact y2
    exact p4 0 (Int.le_refl _) (by decide) (.ref p) _ H' (x1.trans x') s' ⟨p, c, rfl, upd_same⟩
  · exact p.elim
end
/-- no exception is asked -/
def XR0 : XD → PySem.Value → Option Addr → Hp → Prop := fun _ _ _ _ => False
/-- the law's promise from its plain form -/
theorem law_sp {K : PySem.W.Frag} {N : Nat} {g : SEnv → Dr Out} {H : Hp} {a : Addr} {ns : List Int} (hO : Only H) (hS : SqL K H a (ns.map V.int)) (h : ∀ EX, AllN EX 1000000000 (runD N g [.opq K ns]) (fun _ d => d = .bl true)) : spD XR0 1 (runD N g) [.ref a] H (fun v _ => v = .bl true) fun _ _ _ => False := by
  refine ⟨rfl, 1000000000, H, [.opq K ns], ⟨fun _ _ z _ => z, fun b c z => ?_⟩, ⟨.ref a, [], rfl, ⟨a, rfl, hS⟩, rfl⟩, (h _).q fun m d e => ?_⟩
  · rcases hO b with q | ⟨o, xs, q⟩
    · rw [q] at z
      cases z
    · rw [q] at z
      cases z
  · subst e
    exact fun v G' H' x s r => r
end Dn
namespace Dn
open PySem PySem.Spec PyProof.Rows L2
/-! ## the rules again, the law's own K written out -/
section
variable {X : Cx} {K : PySem.W.Frag} (hK : X.K = K)
include hK
theorem pi_seqK {tg l : Expr} {tl : TE} (hl : PE X l tl) : PI X tg l (iSeq K tl) := by
  subst hK
  exact pi_seq hl
theorem pi_zipK {e e2 : Expr} {ta : TA} {p pos tpos : Pos} {elts : List Expr} {kk : Nat} (hg : Gl X "zip") (hm : X.mg "zip" = none) (ha : PA X [e, e2] ta)
    (hs : starEach [e, e2] X.env = (false, eval e X.env) :: starEach [e2] X.env := by rfl) (hpl : (backTo pos (starEach [e2] X.env)).any (·.1) = false := by rfl) :
    PI X (.Tuple elts kk tpos) (.Call (.Name "zip" p) [e, e2] [] pos) (RZ.iZipA K ta) := by
  subst hK
  exact RZ.pi_zipA hg hm ha hs hpl
theorem pg_tupK {es : List Expr} {k : Nat} {pos : Pos} {t : TGs} {n : Nat} (hc : X.calm = true) (h : PGs X es t)
    (hn : (assignEach es X.env).length = n := by rfl) (hst : (assignEach es X.env).findIdx? (·.1) = none := by rfl) : PG X (.Tuple es k pos) (L2.gTup K n t) := by
  subst hK
  exact pg_tup hc h hn hst
theorem pe_revLK {e : Expr} {te : TE} {k : Nat} {p1 p2 p3 pos : Pos} (he : PE X e te) : PE X (.Subscript e (.Slice none none (some (.UnaryOp .USub (.Constant (.int 1) k p1) p2)) p3) pos) (tRevL K te) := by
  subst hK
  exact pe_revL he
end
end Dn
namespace L2
open PySem PySem.Spec PyProof.Rows
/-! ## set(t), t a tuple of tuples of ints -/
def freshSet (w : World) : Obj := { cls := .type "set", dict := none, data := .set #[] 0 (.fresh 0 0 (!w.params.followText "set-order")) }
section
variable {P : Program} {w : World} {A : Around} {E : Value → Shared → Prop} {s : Shared}
theorem call_setTup {l : Addr} {its : Array Value} (ks : List (Addr × List Int)) {Q : Value → Shared → Prop} (noh : A.handled = none) (isT : s.heap.IsTuple l its)
    (eit : its.toList = ks.map fun p => Value.ref p.1) (ok : ∀ p ∈ ks, IsT P w s.heap p.2 p.1) (few : ks.length < 64) (units : A.units + 3 < cLine)
    (fin : ∀ (h' : Heap) (tk : Nat) L es ep t, SetTR P w h' s.heap.objs.size L es ep t → Got ks ks.length L → (∀ b o, s.heap.get? b = some o → h'.get? b = some o) →
      Q (.ref s.heap.objs.size) { s with heap := h', toks := tk }) : wpAny (model P w) A (call (.type "set") [.ref l]) Q E s := by
  have size_eq : its.size = ks.length := by
    have := congrArg List.length eit
    simpa using this
  obtain ⟨c, tl, m_mro⟩ := F.called_set.mro
  have m_made := F.called_set.made
  have m_sub := F.called_set.sub
  refine wpAny_call (codeAny_of_tree (show wpAny _ _ (callAny (.type "set") _) _ _ _ from wpAny_pure ⟨Code.quiet_builtin _ (by decide +kernel), codeAny_builtin F.entry_type_call ?_⟩))
  rw [Around.under_plain (weight_type_call_type "set" [.ref l] []) rfl]
  have m_1 := F.called_set.notType
  have m_2 := F.called_set.canCreate
  have m_3 := F.typeCall_set_1 (.ref l)
  repeat (any_goals (first | assumption | wp_step))
  refine codeAny_mono (code_set_led1 (.ref l) (E := E) (Q₁ := fun o s1 => o = .ref s.heap.objs.size ∧ s1 = { s with heap := s.heap.push (freshSet w) }) ⟨rfl, rfl⟩) fun r1 s1 q1 => ?_
  match r1, q1 with
  | .error e, q1 => exact q1
  | .ok (.ret o1), q1 =>
    obtain ⟨rfl, rfl⟩ := q1
    have at_S : (s.heap.push (freshSet w)).get? s.heap.objs.size = some (freshSet w) := Heap.get?_push_size _ rfl
    have ty_S : Shared.TypeIs { s with heap := s.heap.push (freshSet w) } (.ref s.heap.objs.size) "set" := ⟨_, at_S, rfl⟩
    have m_li := F.called_set.init.lookup
    have m_bi := F.called_set.init.bind (.ref s.heap.objs.size)
    repeat (any_goals (first | assumption | wp_step))
    refine codeAny_mono (codeAny_call_builtin (R := wants (fun r s2 => r = .none ∧ ∃ h' tk L es ep t, s2 = { s with heap := h', toks := tk } ∧ SetTR P w h' s.heap.objs.size L es ep t ∧
      Got ks ks.length L ∧ ∀ b o, s.heap.get? b = some o → h'.get? b = some o) E) F.called_set.init.plain F.entry_set_init (check_set_init_1 ty_S ?body)) fun r2 s2 q2 => ?after
    case after =>
      match r2, q2 with
      | .error e, q2 => exact q2
      | .ok (.ret o2), q2 =>
        obtain ⟨rfl, h', tk, L, es, ep, t, rfl, x1, x2, x3⟩ := q2
        repeat (any_goals (first | assumption | wp_step))
        exact fin _ _ _ _ _ _ x1 x2 x3
    case body =>
      obtain ⟨⟨cls0, dict0, data0, slots0⟩, at_l, cls_l, nl, data_l⟩ := isT
      simp only at cls_l data_l
      subst cls_l data_l
      have at_l2 : (s.heap.push (freshSet w)).get? l = some { cls := .type "tuple", dict := dict0, data := .seq its nl, slots := slots0 } := Heap.get?_push_of_some _ at_l
      have t_sub := F.sub_tuple_set
      have t_fro := F.sub_tuple_frozenset
      have t_dict : (Value.type "tuple" == Value.type "dict") = false := by decide
      have isT2 : (s.heap.push (freshSet w)).IsTuple l its := ⟨_, at_l2, rfl, nl, rfl⟩
      unfold Builtin.«set.__init__» noKeywords Builtin.Frozenset.updateFrom
      generalize it_name : pyIter = it_fun
      wp_walk
      subst it_name
      refine wpAny_pyIter_tuple isT2 (wpAny_bind (wpAny_runValue ?_))
      have l_lt : l < s.heap.objs.size := Heap.lt_size at_l
      have noh3 : A.in1.in1.in1.handled = none := by simp [noh]
      have size2 : (s.heap.push (freshSet w)).objs.size = s.heap.objs.size + 1 := Heap.size_push ..
      have l_ne : l ≠ (s.heap.push (freshSet w)).objs.size := by
        rw [size2]
        exact fun z => absurd l_lt (by rw [z]; exact Nat.not_lt.mpr (Nat.le_succ _))
      have S_out : s.heap.objs.size ∉ [(s.heap.push (freshSet w)).objs.size, l] := by
        rw [size2]
        simp only [List.mem_cons, List.not_mem_nil, or_false, not_or]
        exact ⟨fun z => Nat.lt_irrefl _ (Nat.lt_of_lt_of_eq (Nat.lt_succ_self _) z.symm), fun z => Nat.lt_irrefl _ (z ▸ l_lt)⟩
      have vals : ∀ (i : Nat) (v : Value), its[i]? = some v → ∃ p, ks[i]? = some p ∧ v = .ref p.1 := fun i v hv => by
        have q : its.toList[i]? = some v := by
          rw [Array.getElem?_toList]
          exact hv
        rw [eit, List.getElem?_map] at q
        obtain ⟨p, hp, e⟩ := Option.map_eq_some_iff.mp q
        exact ⟨p, hp, e.symm⟩
      have gone : ∀ b, s.heap.objs.size ≤ b → s.heap.get? b = none := fun b hb => by
        cases q : s.heap.get? b with
        | none => rfl
        | some o => exact absurd (Heap.lt_size q) (Nat.not_lt.mpr hb)
      refine set_update_tups ((Walks.tuple noh3 _ l l_ne its).toS) s.heap.objs.size S_out ks size_eq few vals s.heap ok (gone _ (Nat.le_refl _))
        (fun b hb => gone b (by rw [List.mem_singleton.mp hb, size2]; exact Nat.le_succ _)) units (its.size - 0) 0 _ (by omega) (Nat.zero_le _)
        ⟨⟨_, Heap.get?_push_size _ rfl, rfl, rfl⟩, isT2.push _⟩ (fun b o e => Heap.get?_push_of_some _ (Heap.get?_push_of_some _ e)) ?start ?done
      case start => exact ⟨[], #[], 0, _, setTR_fresh (Heap.get?_push_of_some _ at_S), Got.zero ks⟩
      case done =>
        intro s3 L es ep t moved x1 x2 x3
        obtain ⟨h3, g3, d3, tk3, os3⟩ := s3
        have y1 : g3 = s.gens := moved.gens
        have y2 : d3 = s.drawn := moved.drawn
        have y3 : os3 = s.os := moved.os
        subst y1 y2 y3
        rw [size_eq] at x2
        exact wpAny_pure (show wpAny _ _ (ret Value.none) _ _ _ from wpAny_pure ⟨rfl, h3, tk3, L, es, ep, t, rfl, x1, x2, x3⟩)
  | .ok .next, q1 => exact q1.elim
  | .ok .brk, q1 => exact q1.elim
  | .ok .cont, q1 => exact q1.elim
end
/-- set(xs), xs a list or a tuple of tuples of ints -/
def rSetU (K : PySem.W.Frag) (P : Program) (w : World) : List V → Hp → VK → Prop := fun xs H Q => ∃ (l : Addr) (ks : List (Addr × List Int)), xs = [V.ref l] ∧ (SqL K H l (ks.map fun p => V.ref p.1) ∨ SqT K H l (ks.map fun p => V.ref p.1)) ∧
  (∀ p ∈ ks, SqT K H p.1 (p.2.map V.int)) ∧ ks.length < 64 ∧ ∀ a L, H a = none → (∀ p ∈ L, p ∈ ks) → (∀ p ∈ ks, p.2 ∈ L.map (·.2)) → Q (.ref a) (upd H a (SetTO P w a L))
theorem cr_setU {X : Cx} (hc : X.calm = true) (hu : X.A.units + 64 < cLine) : CallR X (.type "set") (rSetU X.K X.prog X.w) := by
  intro pins s σ H xs us Q I r h
  obtain ⟨l, ks, rfl, hl | hl, hk, hf, q⟩ := h
  · exact cr_setOfT hc hu pins s σ H _ us Q I r ⟨l, ks, rfl, hl, hk, hf, q⟩
  · rw [Vals.ref1 r]
    obtain ⟨its, rv, pl, hz⟩ := I.tuple hl
    have fresh : H s.heap.objs.size = none := I.hok.fresh (Nat.le_refl _)
    refine call_setTup (P := X.prog) (w := X.w) (its := its.toArray) ks (I.ok.hd hc) pl (by simpa using refs_of_vals rv) (fun p hp => I.isT (hk p hp)) hf (by omega) fun h' tk L es ep t R g k => ?_
    refine ⟨.ref s.heap.objs.size, upd H s.heap.objs.size (SetTO X.prog X.w s.heap.objs.size L), I.laid (t' := tk) k (Nat.le_refl _) (setTO_new R.t0), rfl, q _ L fresh (fun p hp => List.mem_of_mem_take (g.sub p hp)) fun p hp => g.all p (by rw [List.take_length]; exact hp)⟩
end L2
namespace Dn
open PySem PySem.Spec PyProof.Rows L2
section
variable {W : Wd} {K : PySem.W.Frag} {tA : TA} {fA : Ev → Dr (List D)}
def sortCore (es : List D) : Dr D := match tupsD es with
  | some ks => if ks.length < 64 ∧ okTups ks = true then .ret (.lst ((sortU ks).map tupI)) else .fail
  | none => .fail
def gSortU (f : Ev → Dr (List D)) : Ev → Dr D := fun ρ => (f ρ).bind fun ds => match ds with
  | [.lst es] => sortCore es
  | [.tup es] => sortCore es
  | _ => .fail
theorem sortCore_ok {P : Program} {w : World} {EX : Nat → XD → Prop} {m : Nat} {G H G1 H1 : Hp} {Q : VK} {a : Addr} {xs : List V} {es : List D} (x1 : Ext G H G1 H1) (s1 : Sb m G1 H1) (hS : SqL K H1 a xs ∨ SqT K H1 a xs) (q : Reps G1 es xs) (p : AllN EX m (sortCore es) (PostN G H Q)) :
    rSetU K P w [.ref a] H1 fun v H2 => rSortedT K P w [v] H2 Q := by
  unfold sortCore at p
  split at p
  · rename_i ks ek
    obtain ⟨⟨hl, hok⟩, p⟩ := p.ite
    have p : PostN G H Q m (.lst ((sortU ks).map tupI)) := p
    have e := tupsD_eq ek
    subst e
    obtain ⟨as, l1, rfl, q3⟩ := q.tups
    -- the pairs of addresses and tuples
    have zl : (as.zip ks).length = ks.length := by rw [List.length_zip, l1, Nat.min_self]
    have zf : (as.zip ks).map Prod.fst = as := List.map_fst_zip (Nat.le_of_eq l1)
    have zs : (as.zip ks).map Prod.snd = ks := List.map_snd_zip (Nat.le_of_eq l1.symm)
    have zt : ∀ p ∈ as.zip ks, G1 p.1 = some (.tup (p.2.map V.int)) := fun p hp => by
      obtain ⟨i, hi⟩ := List.mem_iff_getElem?.mp hp
      rw [List.getElem?_zip_eq_some] at hi
      exact q3 i p.1 p.2 hi.1 hi.2
    have ok := List.all_eq_true.mp hok
    have okp : ∀ k ∈ ks, k.length = (ks.headD [0]).length ∧ 0 < k.length ∧ TS.Bd (topT ks) k := fun k hk => by
      have := ok k hk
      simp only [Bool.and_eq_true, decide_eq_true_eq, List.all_eq_true] at this
      refine ⟨this.1.1, this.1.2, fun z hz => ⟨this.2 z hz, ?_⟩⟩
      have := le_foldr (List.mem_flatten.mpr ⟨k, hk, hz⟩)
      unfold topT
      omega
    have hd : 1 ≤ (ks.headD [0]).length := by
      cases ks with
      | nil => exact Nat.le_refl _
      | cons k ks =>
        have := (okp k List.mem_cons_self).2.1
        exact this
    refine ⟨a, as.zip ks, rfl, ?_, fun p hp => s1.sqt (zt p hp), by rw [zl]; exact hl, fun b L hb sub all => ?_⟩
    · have e3 : (as.zip ks).map (fun p => V.ref p.1) = as.map V.ref := by
        rw [← zf, List.map_map]
        · rw [zf] <;> rfl
      rw [e3]
      exact hS
    · refine ⟨b, L, (ks.headD [0]).length, topT ks, rfl, upd_same, fun p hp => ?_, hd, fun p hp => ?_, fun L' l pm nd _ pw hl' => ?_⟩
      · have := s1.tup (zt p (sub p hp))
        refine .of ?_
        rw [upd_ne (ne_of_none this hb)]
        exact this
      · have hk : p.2 ∈ ks := by
          rw [← zs]
          exact List.mem_map_of_mem (sub p hp)
        exact ⟨(okp _ hk).1, (okp _ hk).2.2⟩
      · have inL : ∀ p ∈ L', p ∈ as.zip ks := fun p hp => sub p (pm.mem_iff.mp hp)
        have mk : ∀ p ∈ L', p.2 ∈ ks := fun p hp => by
          rw [← zs]
          exact List.mem_map_of_mem (inL p hp)
        have asc : Asc (L'.map Prod.snd) := by
          have nd' := List.pairwise_map.mp nd
          refine List.pairwise_map.mpr ?_
          refine List.Pairwise.imp_of_mem ?_ (List.Pairwise.and pw nd')
          intro p q hp hq hpq
          refine code_lex ?_ (okp _ (mk p hp)).2.2 (okp _ (mk q hq)).2.2 hpq.1 hpq.2
          rw [(okp _ (mk p hp)).1, (okp _ (mk q hq)).1]
        have em : L'.map Prod.snd = sortU ks := by
          refine asc_unique asc (asc_sortU ks) fun k => ?_
          rw [mem_sortU]
          constructor
          · intro hk
            obtain ⟨p, hp, rfl⟩ := List.mem_map.mp hk
            exact mk p hp
          · intro hk
            rw [← zs] at hk
            obtain ⟨p, hp, rfl⟩ := List.mem_map.mp hk
            have := all p hp
            obtain ⟨q, hq, e⟩ := List.mem_map.mp this
            refine List.mem_map.mpr ⟨q, pm.mem_iff.mpr hq, e⟩
        have xb := Ext.newO (F := G1) (o := SetTO P w b L) hb
        have rr : Reps G1 ((sortU ks).map tupI) (L'.map fun q => V.ref q.1) := by
          rw [← em, List.map_map]
          exact Reps.refs fun p hp => zt p (inL p hp)
        exact post_lst p (x1.trans xb) (s1.newO (s1.no hb)) rr hl'
  · exact p.elim
theorem den_sortU {P : Program} {w : World} (h : DenA W tA fA) : DenN W (tCB (rSortedT K P w) (tCons (tCB (rSetU K P w) tA) tNil)) (gSortU fA) := fun n F0 H0 G H ρ σ Q x re sb al => by
  refine h n F0 H0 G H ρ σ _ x re sb ((AllN.bind al).q fun m ds p => ?_)
  intro vs G1 H1 x1 s1 r1
  split at p
  · obtain ⟨v, rfl, a, xs, rfl, g, q⟩ := r1.one
    exact sortCore_ok x1 s1 (.inl (s1.sql g)) q p
  · obtain ⟨v, rfl, a, xs, rfl, g, q⟩ := r1.one
    exact sortCore_ok x1 s1 (.inr (s1.sqt g)) q p
  · exact p.elim
end
end Dn
namespace Dn
open PySem PySem.Spec PyProof.Rows L2
/-! ## the plain side: hoare rules over results -/
/-- t answers Q on every way, with at most k draws -/
def Ok {α : Type} (k : Nat) (t : Dr α) (Q : α → Prop) : Prop := ∀ (EX : Nat → XD → Prop) (n : Nat), k ≤ n → n ≤ 1152921504606846976 → AllN EX n t (fun n' a => n ≤ n' + k ∧ n' ≤ n ∧ Q a)
theorem Ok.ret {α : Type} {k : Nat} {a : α} {Q : α → Prop} (h : Q a) : Ok k (.ret a) Q := fun _ n _ _ => ⟨by omega, Nat.le_refl _, h⟩
theorem Ok.bind {α β : Type} {k j : Nat} {t : Dr α} {f : α → Dr β} {Q : α → Prop} {R : β → Prop} (h : Ok k t Q) (h2 : ∀ a, Q a → Ok j (f a) R) : Ok (k + j) (t.bind f) R := fun EX n h0 h1 =>
  AllN.bind' ((h EX n (by omega) h1).q fun n' a ⟨e1, e2, q⟩ => (h2 a q EX n' (by omega) (by omega)).q fun n2 b ⟨e3, e4, r⟩ => ⟨by omega, by omega, r⟩)
theorem Ok.mono {α : Type} {k j : Nat} {t : Dr α} {Q R : α → Prop} (h : Ok k t Q) (hk : k ≤ j) (hq : ∀ a, Q a → R a) : Ok j t R := fun EX n h0 h1 =>
  (h EX n (by omega) h1).q fun n' a ⟨e1, e2, q⟩ => ⟨by omega, e2, hq a q⟩
theorem Ok.draw {b : Int} {α : Type} {k : Nat} {f : Int → Dr α} {R : α → Prop} (h0 : 0 < b) (h1 : b < 1073741824) (h : ∀ r, 0 ≤ r → r < b → Ok k (f r) R) : Ok (k + 1) (.draw b f) R := fun EX n e1 e2 =>
  ⟨h0, h1, ⟨by omega, e2⟩, fun r r0 r1 => (h r r0 r1 EX (n - 1) (by omega) (by omega)).q fun n' a ⟨e3, e4, q⟩ => ⟨by omega, by omega, q⟩⟩
theorem Ok.of_eq {α : Type} {k : Nat} {t : Dr α} {a : α} {Q : α → Prop} (e : t = .ret a) (h : Q a) : Ok k t Q := by
  rw [e]
  exact Ok.ret h
/-- for, by an invariant over the turn and the names -/
theorem Ok.for {c : Nat} {tg : STg} {body : SEnv → Dr Out} {R : Out → Prop} (Inv : Nat → SEnv → Prop) : ∀ (ds : List D) (i : Nat) (ρ : SEnv), Inv i ρ →
    (∀ j d ρ, ds[j]? = some d → Inv (i + j) ρ → ∃ ρ', tg d ρ = some ρ' ∧ Ok c (body ρ') fun o => match o with
      | .nx ρ2 => Inv (i + j + 1) ρ2
      | .ct ρ2 => Inv (i + j + 1) ρ2
      | .bk ρ2 => R (.nx ρ2)
      | o => R o) → (∀ ρ, Inv (i + ds.length) ρ → R (.nx ρ)) → Ok (c * ds.length) (forGo tg body ds ρ) R
  | [], i, ρ, h0, hs, hd => Ok.ret (hd ρ h0)
  | d :: ds, i, ρ, h0, hs, hd => by
    obtain ⟨ρ', e, h⟩ := hs 0 d ρ rfl h0
    have ih : ∀ ρ2, Inv (i + 1) ρ2 → Ok (c * ds.length) (forGo tg body ds ρ2) R := fun ρ2 h2 => Ok.for Inv ds (i + 1) ρ2 h2 (fun j d' ρ3 e3 h3 => by
      have := hs (j + 1) d' ρ3 e3 (by rw [show i + (j + 1) = i + 1 + j by omega]; exact h3)
      rw [show i + (j + 1) + 1 = i + 1 + j + 1 by omega] at this
      exact this) (fun ρ3 h3 => hd ρ3 (by rw [show i + (d :: ds).length = i + 1 + ds.length by rw [List.length_cons]; omega]; exact h3))
    show Ok (c * (ds.length + 1)) (match tg d ρ with
      | none => Dr.fail
      | some ρ' => (body ρ').bind (loopOut (forGo tg body ds))) R
    rw [e, Nat.mul_succ, Nat.add_comm]
    refine h.bind fun o ho => ?_
    cases o with
    | nx ρ2 => exact ih ρ2 ho
    | ct ρ2 => exact ih ρ2 ho
    | bk ρ2 => exact Ok.ret ho
    | ret d => exact Ok.ret ho
    | rown d => exact Ok.ret ho
/-- for, where nothing is drawn and no turn leaves -/
theorem for_eq {α : Type} {tg : STg} {body : SEnv → Dr Out} (enc : α → SEnv → Prop) (step : α → D → α) : ∀ (ds : List D) (a : α) (ρ : SEnv), enc a ρ →
    (∀ d a ρ, d ∈ ds → enc a ρ → ∃ ρ', tg d ρ = some ρ' ∧ ∃ ρ2, (body ρ' = .ret (.nx ρ2) ∨ body ρ' = .ret (.ct ρ2)) ∧ enc (step a d) ρ2) → ∃ ρ2, forGo tg body ds ρ = .ret (.nx ρ2) ∧ enc (ds.foldl step a) ρ2
  | [], a, ρ, h0, hs => ⟨ρ, rfl, h0⟩
  | d :: ds, a, ρ, h0, hs => by
    obtain ⟨ρ', e, ρ2, eb, h2⟩ := hs d a ρ List.mem_cons_self h0
    obtain ⟨ρ3, e3, h3⟩ := for_eq enc step ds _ ρ2 h2 fun d' a' ρ' m => hs d' a' ρ' (List.mem_cons_of_mem _ m)
    refine ⟨ρ3, ?_, h3⟩
    show (match tg d ρ with
      | none => Dr.fail
      | some ρ' => (body ρ').bind (loopOut (forGo tg body ds))) = _
    rw [e]
    rcases eb with eb | eb
    · show (body ρ').bind _ = _
      rw [eb]
      exact e3
    · show (body ρ').bind _ = _
      rw [eb]
      exact e3
/-- comprehensions without draws -/
theorem lc_eq {α : Type} {tg : Tg} {ft : Ev → Dr Bool} {fe : Ev → Dr D} {ρ0 : Ev} (enc : α → D) (p : α → Bool) (h : α → D) : ∀ (xs : List α),
    (∀ x ∈ xs, ∃ ρ, tg (enc x) ρ0 = some ρ ∧ ft ρ = .ret (p x) ∧ (p x = true → fe ρ = .ret (h x))) → lcGo tg ft fe ρ0 (xs.map enc) = .ret ((xs.filter p).map h)
  | [], _ => rfl
  | x :: xs, hs => by
    obtain ⟨ρ, e, et, ee⟩ := hs x List.mem_cons_self
    have ih := lc_eq enc p h xs fun y m => hs y (List.mem_cons_of_mem _ m)
    show (match tg (enc x) ρ0 with
      | none => Dr.fail
      | some ρ => (ft ρ).bind fun b => if b = true then (fe ρ).bind fun y => (lcGo tg ft fe ρ0 (xs.map enc)).bind fun ys => .ret (y :: ys) else lcGo tg ft fe ρ0 (xs.map enc)) = _
    rw [e, ih]
    show (ft ρ).bind _ = _
    rw [et]
    show (if p x = true then _ else _) = _
    by_cases c : p x = true
    · rw [if_pos c, ee c, List.filter_cons_of_pos c]
      rfl
    · rw [if_neg c, List.filter_cons_of_neg c]
theorem lc_all {α : Type} {tg : Tg} {ft : Ev → Dr Bool} {fe : Ev → Dr D} {ρ0 : Ev} (enc : α → D) (h : α → D) (xs : List α)
    (hs : ∀ x ∈ xs, ∃ ρ, tg (enc x) ρ0 = some ρ ∧ ft ρ = .ret true ∧ fe ρ = .ret (h x)) : lcGo tg ft fe ρ0 (xs.map enc) = .ret (xs.map h) := by
  have := lc_eq (tg := tg) (ft := ft) (fe := fe) (ρ0 := ρ0) enc (fun _ => true) h xs fun x m => by
    obtain ⟨ρ, e1, e2, e3⟩ := hs x m
    exact ⟨ρ, e1, e2, fun _ => e3⟩
  rw [this, List.filter_eq_self.mpr (fun _ _ => rfl)]
/-- .. with draws -/
theorem Ok.lc {α : Type} {c : Nat} {tg : Tg} {ft : Ev → Dr Bool} {fe : Ev → Dr D} {ρ0 : Ev} (P : α → D → Prop) : ∀ (ds : List D),
    (∀ d ∈ ds, ∃ ρ, tg d ρ0 = some ρ ∧ ft ρ = .ret true ∧ Ok c (fe ρ) fun y => ∃ a, P a y) → Ok (c * ds.length) (lcGo tg ft fe ρ0 ds) fun ys => ys.length = ds.length ∧ ∀ y ∈ ys, ∃ a, P a y
  | [], _ => Ok.ret ⟨rfl, fun y m => nomatch m⟩
  | d :: ds, hs => by
    obtain ⟨ρ, e, et, he⟩ := hs d List.mem_cons_self
    have ih := Ok.lc (c := c) (tg := tg) (ft := ft) (fe := fe) (ρ0 := ρ0) P ds fun y m => hs y (List.mem_cons_of_mem _ m)
    show Ok (c * (ds.length + 1)) (match tg d ρ0 with
      | none => Dr.fail
      | some ρ => (ft ρ).bind fun b => if b = true then (fe ρ).bind fun y => (lcGo tg ft fe ρ0 ds).bind fun ys => .ret (y :: ys) else lcGo tg ft fe ρ0 ds) _
    rw [e]
    show Ok _ ((ft ρ).bind _) _
    rw [et, Nat.mul_succ, Nat.add_comm]
    show Ok _ ((fe ρ).bind _) _
    refine he.bind fun y hy => ?_
    rw [← Nat.add_zero (c * ds.length)]
    refine ih.bind fun ys ⟨hl, hys⟩ => Ok.ret ⟨by simp [hl], fun z m => ?_⟩
    rcases List.mem_cons.mp m with rfl | m
    · exact hy
    · exact hys z m
end Dn
namespace Dn
open PySem
/-! ## data with a Lean type -/
structure Enc (α : Type) [DecidableEq α] where
  e : α → D
  p : α → PyData
  k : Nat
  he : ∀ a, toPy (e a) = some (p a)
  lay : ∀ a, PyData.canLay0 (p a) = true
  dep : ∀ a, PyData.depth (p a) ≤ k
  inj : ∀ a b, PyData.eqv (p a) (p b) = decide (a = b)
section
variable {α β : Type} [DecidableEq α] [DecidableEq β]
theorem Enc.hes (E : Enc α) : ∀ xs : List α, toPys (xs.map E.e) = some (xs.map E.p)
  | [] => rfl
  | x :: xs => by
    show (match toPy (E.e x), toPys (xs.map E.e) with
      | some p, some ps => some (p :: ps)
      | _, _ => none) = _
    rw [E.he, E.hes xs]
    rfl
theorem Enc.lays (E : Enc α) : ∀ xs : List α, PyData.canLayAll0 (xs.map E.p) = true
  | [] => rfl
  | x :: xs => by
    show (PyData.canLay0 (E.p x) && PyData.canLayAll0 (xs.map E.p)) = true
    rw [E.lay, E.lays xs]
    rfl
theorem Enc.deps (E : Enc α) : ∀ xs : List α, PyData.depthAll (xs.map E.p) ≤ E.k
  | [] => Nat.zero_le _
  | x :: xs => by
    have := E.dep x
    have := E.deps xs
    show max (PyData.depth (E.p x)) (PyData.depthAll (xs.map E.p)) ≤ _
    omega
theorem Enc.injs (E : Enc α) : ∀ xs ys : List α, PyData.eqvAll (xs.map E.p) (ys.map E.p) = decide (xs = ys)
  | [], [] => rfl
  | [], _ :: _ => rfl
  | _ :: _, [] => rfl
  | x :: xs, y :: ys => by
    show (PyData.eqv (E.p x) (E.p y) && PyData.eqvAll (xs.map E.p) (ys.map E.p)) = _
    rw [E.inj, E.injs xs ys, ← Bool.decide_and]
    exact decide_eq_decide.mpr (by rw [List.cons.injEq])
def eI : Enc Int := ⟨.int, .int, 0, fun _ => rfl, fun _ => rfl, fun _ => Nat.le_refl _, fun a b => by
  show (a == b) = _
  rw [Bool.eq_iff_iff, beq_iff_eq, decide_eq_true_eq]⟩
def eB : Enc Bool := ⟨.bl, .bool, 0, fun _ => rfl, fun _ => rfl, fun _ => Nat.le_refl _, fun a b => by
  show (a == b) = _
  rw [Bool.eq_iff_iff, beq_iff_eq, decide_eq_true_eq]⟩
/-- tuples of any length -/
def eT (E : Enc α) : Enc (List α) := ⟨fun xs => .tup (xs.map E.e), fun xs => .tuple (xs.map E.p), E.k + 1, fun xs => by
  show (toPys (xs.map E.e)).map PyData.tuple = _
  rw [E.hes]
  rfl, fun xs => E.lays xs, fun xs => Nat.succ_le_succ (E.deps xs), fun xs ys => E.injs xs ys⟩
/-- lists -/
def eL (E : Enc α) : Enc (List α) := ⟨fun xs => .lst (xs.map E.e), fun xs => .list (xs.map E.p), E.k + 1, fun xs => by
  show (toPys (xs.map E.e)).map PyData.list = _
  rw [E.hes]
  rfl, fun xs => E.lays xs, fun xs => Nat.succ_le_succ (E.deps xs), fun xs ys => E.injs xs ys⟩
def eP (E : Enc α) (F : Enc β) : Enc (α × β) := ⟨fun x => .tup [E.e x.1, F.e x.2], fun x => .tuple [E.p x.1, F.p x.2], max E.k F.k + 1, fun x => by
  show (match toPy (E.e x.1), (match toPy (F.e x.2), some [] with
      | some p, some ps => some (p :: ps)
      | _, _ => none) with
      | some p, some ps => some (p :: ps)
      | _, _ => none).map PyData.tuple = _
  rw [E.he, F.he]
  rfl, fun x => by
  show (PyData.canLay0 (E.p x.1) && (PyData.canLay0 (F.p x.2) && true)) = true
  rw [E.lay, F.lay]
  rfl, fun x => by
  have := E.dep x.1
  have := F.dep x.2
  show max (PyData.depth (E.p x.1)) (max (PyData.depth (F.p x.2)) 0) + 1 ≤ _
  omega, fun x y => by
  show (PyData.eqv (E.p x.1) (E.p y.1) && (PyData.eqv (F.p x.2) (F.p y.2) && true)) = _
  rw [E.inj, F.inj, Bool.and_true, ← Bool.decide_and]
  exact decide_eq_decide.mpr ⟨fun e => Prod.ext e.1 e.2, fun e => by rw [e]; exact ⟨rfl, rfl⟩⟩⟩
theorem dEqv_enc (E : Enc α) (hk : E.k ≤ 64) (a b : α) : dEqv (E.e a) (E.e b) = .ret (decide (a = b)) := by
  have sh : ∀ a, SeqAt.shaped (E.p a) = true := fun a => by
    show (PyData.canLay0 (E.p a) && decide (PyData.depth (E.p a) ≤ 64)) = true
    rw [E.lay, decide_eq_true (Nat.le_trans (E.dep a) hk)]
    rfl
  unfold dEqv
  rw [E.he, E.he]
  show (if _ then _ else _) = _
  rw [if_pos ⟨sh a, sh b⟩, E.inj]
theorem dEq_enc (E : Enc α) (hk : E.k ≤ 64) (a b : α) : dEq (E.e a) (E.e b) = .ret (.bl (decide (a = b))) := by
  unfold dEq
  rw [dEqv_enc E hk]
  rfl
theorem dNe_enc (E : Enc α) (hk : E.k ≤ 64) (a b : α) : dNe (E.e a) (E.e b) = .ret (.bl (!decide (a = b))) := by
  unfold dNe
  rw [dEqv_enc E hk]
  rfl
end
theorem atI_map {α β : Type} (f : α → β) (xs : List α) (i : Nat) (h : i < xs.length) : L2.atI (xs.map f) (i : Int) = some (f xs[i]) := L2.atI_nat (by rw [List.getElem?_map, List.getElem?_eq_getElem h]; rfl)
theorem zipD_ints : ∀ a b : List Int, zipD (a.map D.int) (b.map D.int) = (a.zip b).map fun p => D.tup [.int p.1, .int p.2]
  | [], _ => rfl
  | _ :: _, [] => rfl
  | x :: a, y :: b => by
    show _ :: zipD (a.map D.int) (b.map D.int) = _
    rw [zipD_ints a b]
    rfl
/-! ### sorted sets -/
theorem sortU_eq {f : Ev → Dr D} {ρ : Ev} (ks : List (List Int)) (h : f ρ = .ret (.lst (ks.map tupI)) ∨ f ρ = .ret (.tup (ks.map tupI))) (h1 : ks.length < 64) (h2 : okTups ks = true) : gSortU (gCons f gNil) ρ = .ret (.lst ((sortU ks).map tupI)) := by
  have e : sortCore (ks.map tupI) = .ret (.lst ((sortU ks).map tupI)) := by
    unfold sortCore
    rw [tupsD_map]
    exact if_pos ⟨h1, h2⟩
  show ((f ρ).bind fun d => .ret [d]).bind _ = _
  rcases h with h | h <;> rw [h] <;> exact e
end Dn
namespace Dn
open PySem
/-! ### calls whose arguments are known -/
theorem call1 {m : List D → Dr D} {f : Ev → Dr D} {ρ : Ev} {d : D} (h : f ρ = .ret d) : gCall m (gCons f gNil) ρ = m [d] := by
  unfold gCall gCons
  rw [h]
  rfl
theorem call2 {m : List D → Dr D} {f g : Ev → Dr D} {ρ : Ev} {d e : D} (h : f ρ = .ret d) (h2 : g ρ = .ret e) : gCall m (gCons f (gCons g gNil)) ρ = m [d, e] := by
  show ((f ρ).bind fun d => ((g ρ).bind fun e => .ret [e]).bind fun ds => .ret (d :: ds)).bind m = _
  rw [h, h2]
  rfl
theorem callK1 {m : List D → Dr D} {f : Ev → Dr D} {ρ : Ev} {d : D} (h : f ρ = .ret d) : gCallK 1 m (gCons f gNil) ρ = m [d] := by
  show ((f ρ).bind fun d => .ret [d]).bind _ = _
  rw [h]
  rfl
theorem callK2 {m : List D → Dr D} {f g : Ev → Dr D} {ρ : Ev} {d e : D} (h : f ρ = .ret d) (h2 : g ρ = .ret e) : gCallK 2 m (gCons f (gCons g gNil)) ρ = m [d, e] := by
  show ((f ρ).bind fun d => ((g ρ).bind fun e => .ret [e]).bind fun ds => .ret (d :: ds)).bind _ = _
  rw [h, h2]
  rfl
theorem callK3 {m : List D → Dr D} {f g i : Ev → Dr D} {ρ : Ev} {d e c : D} (h : f ρ = .ret d) (h2 : g ρ = .ret e) (h3 : i ρ = .ret c) : gCallK 3 m (gCons f (gCons g (gCons i gNil))) ρ = m [d, e, c] := by
  show ((f ρ).bind fun d => ((g ρ).bind fun e => ((i ρ).bind fun c => .ret [c]).bind fun ds => .ret (e :: ds)).bind fun ds => .ret (d :: ds)).bind _ = _
  rw [h, h2, h3]
  rfl
theorem op2 {m : D → D → Dr D} {f g : Ev → Dr D} {ρ : Ev} {d e : D} (h : f ρ = .ret d) (h2 : g ρ = .ret e) : g2 m f g ρ = m d e := by
  show (f ρ).bind _ = _
  rw [h]
  show (g ρ).bind _ = _
  rw [h2]
  rfl
/-- a comprehension over items that are known -/
theorem glc_eq {α : Type} {fi : Ev → Dr (List D)} {tg : Tg} {ft : Ev → Dr Bool} {fe : Ev → Dr D} {vs : List Nat} {ρ : Ev} (enc : α → D) (p : α → Bool) (h : α → D) (xs : List α) (hl : xs.length ≤ 1000000) (hi : fi ρ = .ret (xs.map enc))
    (hs : ∀ x ∈ xs, ∃ ρ', tg (enc x) (wipeE ρ vs) = some ρ' ∧ ft ρ' = .ret (p x) ∧ (p x = true → fe ρ' = .ret (h x))) : gLc fi tg ft fe vs ρ = .ret (.lst ((xs.filter p).map h)) := by
  show (fi ρ).bind _ = _
  rw [hi]
  show (if (xs.map enc).length ≤ 1000000 then (lcGo tg ft fe (wipeE ρ vs) (xs.map enc)).bind fun ys => Dr.ret (D.lst ys) else Dr.fail) = _
  rw [lc_eq enc p h xs hs, if_pos (by rw [List.length_map]; exact hl)]
  rfl
theorem glc_all {α : Type} {fi : Ev → Dr (List D)} {tg : Tg} {fe : Ev → Dr D} {vs : List Nat} {ρ : Ev} (enc : α → D) (h : α → D) (xs : List α) (hl : xs.length ≤ 1000000) (hi : fi ρ = .ret (xs.map enc))
    (hs : ∀ x ∈ xs, ∃ ρ', tg (enc x) (wipeE ρ vs) = some ρ' ∧ fe ρ' = .ret (h x)) : gLc fi tg gYes fe vs ρ = .ret (.lst (xs.map h)) := by
  have := glc_eq (fi := fi) (tg := tg) (ft := gYes) (fe := fe) (vs := vs) (ρ := ρ) enc (fun _ => true) h xs hl hi fun x m => by
    obtain ⟨ρ', e1, e2⟩ := hs x m
    exact ⟨ρ', e1, rfl, fun _ => e2⟩
  rw [this, List.filter_eq_self.mpr (fun _ _ => rfl)]
theorem items1 {f : Ev → Dr D} {ρ : Ev} {ds : List D} (h : f ρ = .ret (.lst ds) ∨ f ρ = .ret (.tup ds) ∨ f ρ = .ret (.ftup ds)) : gItems f ρ = .ret ds := by
  show (f ρ).bind itemsD = _
  rcases h with h | h | h <;> rw [h] <;> rfl
theorem rng1 {f : Ev → Dr D} {ρ : Ev} {n : Nat} (h : f ρ = .ret (.int n)) (hn : n ≤ 1000000) : gRng1 (gCons f gNil) ρ = .ret ((List.range n).map fun i : Nat => D.int i) := by
  show ((f ρ).bind fun d => .ret [d]).bind _ = _
  rw [h]
  show (if -1000000 ≤ (n : Int) ∧ (n : Int) ≤ 1000000 then Dr.ret (rangeD 0 (n : Int).toNat) else Dr.fail) = _
  rw [if_pos ⟨by omega, by omega⟩]
  unfold rangeD
  simp
theorem any_bls (bs : List Bool) : dAny [.lst (bs.map D.bl)] = .ret (.bl (bs.any id)) := by
  show (match blsD (bs.map D.bl) with
      | some bs => Dr.ret (D.bl (bs.any id))
      | none => Dr.fail) = _
  rw [blsD_map]
theorem max1_ints (m : Int) (ns : List Int) : dMax1 [.tup ((m :: ns).map D.int)] = .ret (.int (ns.foldl max m)) := by
  show (match intsD ((m :: ns).map D.int) with
    | some (m :: is) => Dr.ret (D.int (is.foldl max m))
    | _ => Dr.fail) = _
  rw [intsD_map]
theorem sum_ints (ns : List Int) : dSum [.tup (ns.map D.int)] = .ret (.int ns.sum) := by
  show (match intsD (ns.map D.int) with
    | some is => Dr.ret (D.int is.sum)
    | none => Dr.fail) = _
  rw [intsD_map]
theorem app_tup (ds : List D) (d : D) (h : ds.length < 1000000) : mAppend ds [d] = some (ds ++ [d], imm d) := if_pos h
theorem imms_ints : ∀ ns : List Int, imms (ns.map D.int) = true
  | [] => rfl
  | n :: ns => imms_ints ns
theorem imm_tupI (a : List Int) : imm (tupI a) = true := imms_ints a
theorem imms_tups : ∀ ms : List (List Int), imms (ms.map tupI) = true
  | [] => rfl
  | m :: ms => by
    show (imm (tupI m) && imms (ms.map tupI)) = true
    rw [imm_tupI, imms_tups ms]
    rfl
end Dn
namespace Dn
open PySem
/-! ### statements whose parts are known -/
theorem freeze_nil (ρ : SEnv) : freeze [] ρ = ρ := by
  have key : ∀ (k : Nat) (ρ : SEnv), frzGo [] k ρ = ρ := by
    intro k ρ
    induction ρ generalizing k with
    | nil => rfl
    | cons s ρ ih =>
      show frz1 [] k s :: frzGo [] (k + 1) ρ = _
      rw [ih]
      cases s <;> rfl
  exact key 0 ρ
theorem seq_nx {g k : SEnv → Dr Out} {ρ ρ' : SEnv} (h : g ρ = .ret (.nx ρ')) : gSeq g k ρ = k ρ' := by
  show (g ρ).bind _ = _
  rw [h]
  rfl
theorem seq_ret {g k : SEnv → Dr Out} {ρ : SEnv} {d : D} (h : g ρ = .ret (.ret d)) : gSeq g k ρ = .ret (.ret d) := by
  show (g ρ).bind _ = _
  rw [h]
  rfl
theorem set0 {i : Nat} {f : Ev → Dr D} {ρ : SEnv} {d : D} (h : f (lend [] ρ) = .ret d) : gSet i [] f ρ = .ret (.nx (ρ.set i (.fr d))) := by
  show (f (lend [] ρ)).bind _ = _
  rw [h]
  show Dr.ret (Out.nx ((if imm d = true then ρ else freeze [] ρ).set i (.fr d))) = _
  rw [freeze_nil, ite_self]
theorem ret_eq {ls : List Nat} {f : Ev → Dr D} {ρ : SEnv} {d : D} (h : f (lend ls ρ) = .ret d) : gRet ls f ρ = .ret (.ret d) := by
  show (f (lend ls ρ)).bind _ = _
  rw [h]
  rfl
theorem ifT {ls : List Nat} {f : Ev → Dr Bool} {g h : SEnv → Dr Out} {ρ : SEnv} (e : f (lend ls ρ) = .ret true) : gIfS ls f g h ρ = g ρ := by
  show (f (lend ls ρ)).bind _ = _
  rw [e]
  rfl
theorem ifF {ls : List Nat} {f : Ev → Dr Bool} {g h : SEnv → Dr Out} {ρ : SEnv} (e : f (lend ls ρ) = .ret false) : gIfS ls f g h ρ = h ρ := by
  show (f (lend ls ρ)).bind _ = _
  rw [e]
  rfl
theorem for0 {fi : Ev → Dr (List D)} {tg : STg} {body : SEnv → Dr Out} {ρ : SEnv} {ds : List D} (e : fi (lend [] ρ) = .ret ds) : gFor [] fi tg body ρ = forGo tg body ds ρ := by
  show (fi (lend [] ρ)).bind _ = _
  rw [e, freeze_nil]
  rfl
theorem run_ret {k : Nat} {g : SEnv → Dr Out} {ds : List D} {d : D} (h : g (begun k ds) = .ret (.ret d)) : runD k g ds = .ret d := by
  show (g (begun k ds)).bind outD = _
  rw [h]
  rfl
theorem gb_eq {f : Ev → Dr D} {ρ : Ev} {b : Bool} (h : f ρ = .ret (.bl b)) : gB f ρ = .ret b := by
  show (f ρ).bind toBl = _
  rw [h]
  rfl
theorem tup1 {f : Ev → Dr D} {ρ : Ev} {d : D} (h : f ρ = .ret d) : gTup (gCons f gNil) ρ = .ret (.tup [d]) := by
  show ((f ρ).bind fun d => .ret [d]).bind _ = _
  rw [h]
  rfl
theorem tup2 {f g : Ev → Dr D} {ρ : Ev} {d e : D} (h : f ρ = .ret d) (h2 : g ρ = .ret e) : gTup (gCons f (gCons g gNil)) ρ = .ret (.tup [d, e]) := by
  show ((f ρ).bind fun d => ((g ρ).bind fun e => .ret [e]).bind fun ds => .ret (d :: ds)).bind _ = _
  rw [h, h2]
  rfl
/-- a for of which no turn alters anything that matters -/
theorem for_skip {tg : STg} {body : SEnv → Dr Out} (S : SEnv → Prop) : ∀ (ds : List D) (ρ : SEnv), S ρ → (∀ d ∈ ds, ∀ ρ, S ρ → ∃ ρ', tg d ρ = some ρ' ∧ ∃ ρ2, body ρ' = .ret (.nx ρ2) ∧ S ρ2) → ∃ ρ2, forGo tg body ds ρ = .ret (.nx ρ2) ∧ S ρ2
  | [], ρ, h, _ => ⟨ρ, rfl, h⟩
  | d :: ds, ρ, h, hs => by
    obtain ⟨ρ', e, ρ2, eb, h2⟩ := hs d List.mem_cons_self ρ h
    obtain ⟨ρ3, e3, h3⟩ := for_skip S ds ρ2 h2 fun d' m => hs d' (List.mem_cons_of_mem _ m)
    refine ⟨ρ3, ?_, h3⟩
    show (match tg d ρ with
      | none => Dr.fail
      | some ρ' => (body ρ').bind (loopOut (forGo tg body ds))) = _
    rw [e]
    show (body ρ').bind _ = _
    rw [eb]
    exact e3
end Dn
namespace Dn
open PySem
/-! ### with draws -/
theorem draw_eq {f g : Ev → Dr D} {ρ : Ev} {b : Int} (h : f ρ = .ret .drw) (h2 : g ρ = .ret (.int b)) : gDraw (gCons f (gCons g gNil)) ρ = .draw b fun r => .ret (.int r) := by
  show ((f ρ).bind fun d => ((g ρ).bind fun e => .ret [e]).bind fun ds => .ret (d :: ds)).bind _ = _
  rw [h, h2]
  rfl
theorem Ok.drawn {f g : Ev → Dr D} {ρ : Ev} {b : Int} (h : f ρ = .ret .drw) (h2 : g ρ = .ret (.int b)) (h0 : 0 < b) (h1 : b < 1073741824) : Ok 1 (gDraw (gCons f (gCons g gNil)) ρ) fun d => ∃ r : Nat, (r : Int) < b ∧ d = .int r := by
  rw [draw_eq h h2]
  exact Ok.draw (k := 0) h0 h1 fun r r0 r1 => Ok.ret ⟨r.toNat, by omega, by rw [Int.toNat_of_nonneg r0]⟩
theorem Ok.run {k m : Nat} {g : SEnv → Dr Out} {ds : List D} {Q : D → Prop} (h : Ok k (g (begun m ds)) fun o => ∃ d, o = .ret d ∧ Q d) : Ok k (runD m g ds) Q := by
  rw [← Nat.add_zero k]
  refine Ok.bind (j := 0) h fun o ⟨d, e, q⟩ => ?_
  subst e
  exact Ok.ret q
theorem Ok.rt {k : Nat} {ls : List Nat} {f : Ev → Dr D} {ρ : SEnv} {Q : D → Prop} (h : Ok k (f (lend ls ρ)) Q) : Ok k (gRet ls f ρ) fun o => ∃ d, o = .ret d ∧ Q d := by
  rw [← Nat.add_zero k]
  exact Ok.bind (j := 0) h fun d q => Ok.ret ⟨d, rfl, q⟩
theorem Ok.seq {k j : Nat} {g h : SEnv → Dr Out} {ρ : SEnv} {P : SEnv → Prop} {R : Out → Prop} (h1 : Ok k (g ρ) fun o => ∃ ρ', o = .nx ρ' ∧ P ρ') (h2 : ∀ ρ', P ρ' → Ok j (h ρ') R) : Ok (k + j) (gSeq g h ρ) R := by
  refine Ok.bind h1 fun o ⟨ρ', e, p⟩ => ?_
  subst e
  exact h2 ρ' p
/-- .. where the first one may leave -/
theorem Ok.seqL {k j : Nat} {g h : SEnv → Dr Out} {ρ : SEnv} {P : SEnv → Prop} {R : Out → Prop} (h1 : Ok k (g ρ) fun o => (∃ ρ', o = .nx ρ' ∧ P ρ') ∨ ∃ d, o = .ret d ∧ R o) (h2 : ∀ ρ', P ρ' → Ok j (h ρ') R) : Ok (k + j) (gSeq g h ρ) R := by
  refine Ok.bind h1 fun o q => ?_
  rcases q with ⟨ρ', e, p⟩ | ⟨d, e, p⟩
  · subst e
    exact h2 ρ' p
  · subst e
    exact Ok.ret p
theorem Ok.set0 {k i : Nat} {f : Ev → Dr D} {ρ : SEnv} {Q : D → Prop} (h : Ok k (f (lend [] ρ)) Q) : Ok k (gSet i [] f ρ) fun o => ∃ ρ', o = .nx ρ' ∧ ∃ d, ρ' = ρ.set i (.fr d) ∧ Q d := by
  rw [← Nat.add_zero k]
  refine Ok.bind (j := 0) h fun d q => ?_
  show Ok 0 (Dr.ret (Out.nx ((if imm d = true then ρ else freeze [] ρ).set i (.fr d)))) _
  rw [freeze_nil, ite_self]
  exact Ok.ret ⟨_, rfl, d, rfl, q⟩
theorem Ok.call1 {k j : Nat} {m : List D → Dr D} {f : Ev → Dr D} {ρ : Ev} {P R : D → Prop} (h : Ok k (f ρ) P) (h2 : ∀ d, P d → Ok j (m [d]) R) : Ok (k + j) (gCall m (gCons f gNil) ρ) R := by
  have : gCall m (gCons f gNil) ρ = (f ρ).bind fun d => m [d] := by
    show ((f ρ).bind fun d => .ret [d]).bind m = _
    rw [Dr.bind_assoc]
    rfl
  rw [this]
  exact Ok.bind h h2
theorem Ok.callK1 {k j : Nat} {m : List D → Dr D} {f : Ev → Dr D} {ρ : Ev} {P R : D → Prop} (h : Ok k (f ρ) P) (h2 : ∀ d, P d → Ok j (m [d]) R) : Ok (k + j) (gCallK 1 m (gCons f gNil) ρ) R := by
  have : gCallK 1 m (gCons f gNil) ρ = (f ρ).bind fun d => m [d] := by
    show ((f ρ).bind fun d => .ret [d]).bind _ = _
    rw [Dr.bind_assoc]
    rfl
  rw [this]
  exact Ok.bind h h2
theorem Ok.callK4 {k j : Nat} {m : List D → Dr D} {f g i l : Ev → Dr D} {ρ : Ev} {a c d : D} {P R : D → Prop} (h1 : f ρ = .ret a) (h : Ok k (g ρ) P) (h3 : i ρ = .ret c) (h4 : l ρ = .ret d) (h2 : ∀ b, P b → Ok j (m [a, b, c, d]) R) : Ok (k + j) (gCallK 4 m (gCons f (gCons g (gCons i (gCons l gNil)))) ρ) R := by
  have : gCallK 4 m (gCons f (gCons g (gCons i (gCons l gNil)))) ρ = (g ρ).bind fun b => m [a, b, c, d] := by
    show ((f ρ).bind fun a => ((g ρ).bind fun b => ((i ρ).bind fun c => ((l ρ).bind fun d => .ret [d]).bind fun ds => .ret (c :: ds)).bind fun ds => .ret (b :: ds)).bind fun ds => .ret (a :: ds)).bind _ = _
    rw [h1, h3, h4]
    show (((g ρ).bind fun b => .ret (b :: [c, d])).bind fun ds => .ret (a :: ds)).bind _ = _
    rw [Dr.bind_assoc, Dr.bind_assoc]
    rfl
  rw [this]
  exact Ok.bind h h2
theorem Ok.tup2 {k j : Nat} {f g : Ev → Dr D} {ρ : Ev} {P R : D → Prop} (h : Ok k (f ρ) P) (h2 : Ok j (g ρ) R) : Ok (k + j) (gTup (gCons f (gCons g gNil)) ρ) fun d => ∃ a b, d = .tup [a, b] ∧ P a ∧ R b := by
  have : gTup (gCons f (gCons g gNil)) ρ = (f ρ).bind fun a => (g ρ).bind fun b => .ret (.tup [a, b]) := by
    show ((f ρ).bind fun d => ((g ρ).bind fun e => .ret [e]).bind fun ds => .ret (d :: ds)).bind _ = _
    rw [Dr.bind_assoc]
    congr 1
    funext a
    rw [Dr.bind_assoc, Dr.bind_assoc]
    rfl
  rw [this]
  exact Ok.bind h fun a pa => (Ok.bind (j := 0) h2 fun b pb => Ok.ret ⟨a, b, rfl, pa, pb⟩).mono (by omega) fun _ q => q
/-- a comprehension without a test -/
theorem Ok.glc {c : Nat} {fi : Ev → Dr (List D)} {tg : Tg} {fe : Ev → Dr D} {vs : List Nat} {ρ : Ev} (P : D → Prop) (ds : List D) (hl : ds.length ≤ 1000000) (hi : fi ρ = .ret ds)
    (hs : ∀ d ∈ ds, ∃ ρ', tg d (wipeE ρ vs) = some ρ' ∧ Ok c (fe ρ') P) : Ok (c * ds.length) (gLc fi tg gYes fe vs ρ) fun d => ∃ ys, d = .lst ys ∧ ys.length = ds.length ∧ ∀ y ∈ ys, P y := by
  show Ok _ ((fi ρ).bind _) _
  rw [hi]
  show Ok _ (if ds.length ≤ 1000000 then (lcGo tg gYes fe (wipeE ρ vs) ds).bind fun ys => Dr.ret (D.lst ys) else Dr.fail) _
  rw [if_pos hl, ← Nat.add_zero (c * ds.length)]
  refine Ok.bind (j := 0) (Ok.lc (fun _ : Unit => P) ds fun d hd => ?_) fun ys ⟨h1, h2⟩ => Ok.ret ⟨ys, rfl, h1, fun y hy => by
    obtain ⟨_, q⟩ := h2 y hy
    exact q⟩
  obtain ⟨ρ', e, h⟩ := hs d hd
  exact ⟨ρ', e, rfl, h.mono (Nat.le_refl _) fun a q => ⟨(), q⟩⟩
theorem map_of {α : Type} {enc : α → D} {p : α → Prop} : ∀ {ys : List D}, (∀ y ∈ ys, ∃ x, y = enc x ∧ p x) → ∃ xs : List α, ys = xs.map enc ∧ ∀ x ∈ xs, p x
  | [], _ => ⟨[], rfl, fun x h => nomatch h⟩
  | y :: ys, h => by
    obtain ⟨x, e, hx⟩ := h y List.mem_cons_self
    obtain ⟨xs, e2, hxs⟩ := map_of fun z m => h z (List.mem_cons_of_mem _ m)
    refine ⟨x :: xs, by rw [e, e2]; rfl, fun z m => ?_⟩
    rcases List.mem_cons.mp m with rfl | m
    · exact hx
    · exact hxs z m
end Dn
namespace Dn
open PySem
/-- [fe for k in range(a draw)] -/
theorem Ok.drawnLc {c b : Nat} {f g fe : Ev → Dr D} {tg : Tg} {vs : List Nat} {ρ : Ev} (P : D → Prop) (h : f ρ = .ret .drw) (h2 : g ρ = .ret (.int b)) (h0 : 0 < b) (h1 : b ≤ 1000000) (hs : ∀ d, ∃ ρ', tg d (wipeE ρ vs) = some ρ' ∧ Ok c (fe ρ') P) :
    Ok (1 + c * (b - 1)) (gLc (gRng1 (gCons (gDraw (gCons f (gCons g gNil))) gNil)) tg gYes fe vs ρ) fun d => ∃ ys, d = .lst ys ∧ ys.length < b ∧ ∀ y ∈ ys, P y := by
  have e1 : gRng1 (gCons (gDraw (gCons f (gCons g gNil))) gNil) ρ = Dr.draw (b : Int) fun r => if -1000000 ≤ r ∧ r ≤ 1000000 then .ret (rangeD 0 r.toNat) else .fail := by
    show ((gDraw (gCons f (gCons g gNil)) ρ).bind fun d => .ret [d]).bind _ = _
    rw [draw_eq h h2]
    rfl
  show Ok _ ((gRng1 (gCons (gDraw (gCons f (gCons g gNil))) gNil) ρ).bind _) _
  rw [e1, Dr.bind_draw, Nat.add_comm]
  refine Ok.draw (by omega) (by omega) fun r r0 r1 => ?_
  rw [if_pos ⟨by omega, by omega⟩]
  have hr : (rangeD 0 r.toNat).length = r.toNat := by
    unfold rangeD
    rw [List.length_map, List.length_range]
  have key := Ok.lc (c := c) (tg := tg) (ft := gYes) (fe := fe) (ρ0 := wipeE ρ vs) (fun _ : Unit => P) (rangeD 0 r.toNat) fun d hd => by
    obtain ⟨ρ', e, h⟩ := hs d
    exact ⟨ρ', e, rfl, h.mono (Nat.le_refl _) fun a q => ⟨(), q⟩⟩
  show Ok _ (if (rangeD 0 r.toNat).length ≤ 1000000 then (lcGo tg gYes fe (wipeE ρ vs) (rangeD 0 r.toNat)).bind fun ys => Dr.ret (D.lst ys) else Dr.fail) _
  rw [if_pos (by rw [hr]; omega), ← Nat.add_zero (c * (b - 1))]
  refine Ok.bind (j := 0) (key.mono (j := c * (b - 1)) (by rw [hr]; exact Nat.mul_le_mul_left _ (by omega)) fun _ q => q) fun ys ⟨hl, hy⟩ => Ok.ret ⟨ys, rfl, by rw [hl, hr]; omega, fun y m => ?_⟩
  obtain ⟨_, q⟩ := hy y m
  exact q
end Dn
namespace Dn
open PySem
/-! ### [e for x in xs for y in ys] -/
theorem lcIn_eq {α : Type} {tg : Tg} {fe : Ev → Dr D} {ρ0 : Ev} (enc : α → D) (h : α → D) : ∀ (ys : List α) (acc : List D), acc.length + ys.length < 1000000 → (∀ y ∈ ys, ∃ ρ, tg (enc y) ρ0 = some ρ ∧ fe ρ = .ret (h y)) → lcIn tg gYes fe ρ0 acc (ys.map enc) = .ret (acc ++ ys.map h)
  | [], acc, _, _ => by
    rw [List.map_nil, List.map_nil, List.append_nil]
    rfl
  | y :: ys, acc, hl, hs => by
    obtain ⟨ρ, e, ee⟩ := hs y List.mem_cons_self
    rw [List.length_cons] at hl
    show (match tg (enc y) ρ0 with
      | none => Dr.fail
      | some ρ => (fe ρ).bind fun z => if acc.length < 1000000 then lcIn tg gYes fe ρ0 (acc ++ [z]) (ys.map enc) else Dr.fail) = _
    rw [e]
    show (fe ρ).bind _ = _
    rw [ee]
    show (if acc.length < 1000000 then lcIn tg gYes fe ρ0 (acc ++ [h y]) (ys.map enc) else Dr.fail) = _
    rw [if_pos (by omega), lcIn_eq enc h ys (acc ++ [h y]) (by rw [List.length_append, List.length_singleton]; omega) fun z m => hs z (List.mem_cons_of_mem _ m)]
    simp
theorem lcOut_eq {α β : Type} {tg tg1 : Tg} {fi1 : Ev → Dr (List D)} {fe : Ev → Dr D} {ρ0 : Ev} {vs1 : List Nat} (enc : α → D) (enc1 : β → D) (ys : List β) (h : α → β → D) : ∀ (xs : List α) (acc : List D), acc.length + xs.length * ys.length < 1000000 →
    (∀ x ∈ xs, ∃ ρ, tg (enc x) ρ0 = some ρ ∧ fi1 ρ = .ret (ys.map enc1) ∧ ∀ y ∈ ys, ∃ ρ2, tg1 (enc1 y) (wipeE ρ vs1) = some ρ2 ∧ fe ρ2 = .ret (h x y)) → lcOut tg gYes fi1 tg1 gYes fe vs1 ρ0 acc (xs.map enc) = .ret (acc ++ xs.flatMap fun x => ys.map (h x))
  | [], acc, _, _ => by
    rw [List.map_nil, List.flatMap_nil, List.append_nil]
    rfl
  | x :: xs, acc, hl, hs => by
    obtain ⟨ρ, e, ei, ee⟩ := hs x List.mem_cons_self
    rw [List.length_cons, Nat.add_mul, Nat.one_mul] at hl
    show (match tg (enc x) ρ0 with
      | none => Dr.fail
      | some ρ => (fi1 ρ).bind fun es => (lcIn tg1 gYes fe (wipeE ρ vs1) acc es).bind fun acc' => lcOut tg gYes fi1 tg1 gYes fe vs1 ρ0 acc' (xs.map enc)) = _
    rw [e]
    show (fi1 ρ).bind _ = _
    rw [ei]
    show (lcIn tg1 gYes fe (wipeE ρ vs1) acc (ys.map enc1)).bind _ = _
    rw [lcIn_eq enc1 (h x) ys acc (by omega) ee]
    show lcOut tg gYes fi1 tg1 gYes fe vs1 ρ0 (acc ++ ys.map (h x)) (xs.map enc) = _
    rw [lcOut_eq enc enc1 ys h xs _ (by rw [List.length_append, List.length_map]; omega) fun z m => hs z (List.mem_cons_of_mem _ m), List.flatMap_cons, List.append_assoc]
theorem glc2_eq {α β : Type} {fi fi1 : Ev → Dr (List D)} {tg tg1 : Tg} {fe : Ev → Dr D} {vs vs1 : List Nat} {ρ : Ev} (enc : α → D) (enc1 : β → D) (xs : List α) (ys : List β) (h : α → β → D) (hl : xs.length * ys.length < 1000000) (hi : fi ρ = .ret (xs.map enc))
    (hs : ∀ x ∈ xs, ∃ ρ', tg (enc x) (wipeE ρ vs) = some ρ' ∧ fi1 ρ' = .ret (ys.map enc1) ∧ ∀ y ∈ ys, ∃ ρ2, tg1 (enc1 y) (wipeE ρ' vs1) = some ρ2 ∧ fe ρ2 = .ret (h x y)) : gLc2 fi tg gYes fi1 tg1 gYes fe vs vs1 ρ = .ret (.lst (xs.flatMap fun x => ys.map (h x))) := by
  show (fi ρ).bind _ = _
  rw [hi]
  show (lcOut tg gYes fi1 tg1 gYes fe vs1 (wipeE ρ vs) [] (xs.map enc)).bind _ = _
  rw [lcOut_eq enc enc1 ys h xs [] (by simpa using hl) hs]
  rfl
/-! ### branches that leave -/
theorem skip {ls : List Nat} {c : Ev → Dr Bool} {g k : SEnv → Dr Out} {ρ : SEnv} (h : c (lend ls ρ) = .ret false) : gSeq (gIfS ls c g gSkip) k ρ = k ρ := seq_nx ((ifF h).trans rfl)
theorem Ok.left {k : Nat} {g b h : SEnv → Dr Out} {ρ : SEnv} {Q : D → Prop} (e : g ρ = b ρ) (hb : Ok k (b ρ) fun o => ∃ d, o = .ret d ∧ Q d) : Ok k (gSeq g h ρ) fun o => ∃ d, o = .ret d ∧ Q d := by
  show Ok k ((g ρ).bind _) _
  rw [e, ← Nat.add_zero k]
  refine Ok.bind (j := 0) hb fun o ⟨d, e, q⟩ => ?_
  subst e
  exact Ok.ret ⟨d, rfl, q⟩
end Dn
namespace Dn
open PySem
open Classical in
theorem begun_eq {K : PySem.W.Frag} {f g : Ev → Dr D} {ρ : Ev} {ns : List Int} {k : Int} (h : f ρ = .ret (.opq K ns)) (h2 : g ρ = .ret (.int k)) (hl : ns.length ≤ 1000) (h0 : 0 ≤ k) (h1 : k ≤ 1000) : gBegun K (gCons f (gCons g gNil)) ρ = .draw 1 fun _ => .ret .drw := by
  show ((f ρ).bind fun d => ((g ρ).bind fun e => .ret [e]).bind fun ds => .ret (d :: ds)).bind _ = _
  rw [h, h2]
  show (if K = K ∧ ns.length ≤ 1000 ∧ 0 ≤ k ∧ k ≤ 1000 then (Dr.draw 1 fun _ => Dr.ret D.drw) else Dr.fail) = _
  exact if_pos ⟨rfl, hl, h0, h1⟩
open Classical in
theorem lenS_eq {K : PySem.W.Frag} {f : Ev → Dr D} {ρ : Ev} {ns : List Int} (h : f ρ = .ret (.opq K ns)) : gCall (dLenS K) (gCons f gNil) ρ = .ret (.int ns.length) := by
  rw [call1 h]
  exact if_pos rfl
end Dn
namespace K98
open PySem PySem.Spec PyProof.Rows L2 Dn
def topS (i : Nat) : Stmt := PySem.Challenge.pw_jointneeds_k98_whole_rows_of_operations.main.body.getD i (.Pass ⟨0, 0, 0, 0⟩)
abbrev s__law_begun : Stmt := topS 21
abbrev s__law_draw : Stmt := topS 22
abbrev s__law_divides : Stmt := topS 24
abbrev s__law_least : Stmt := topS 25
abbrev s__law_in : Stmt := topS 26
abbrev s__law_monomial : Stmt := topS 27
abbrev s__law_ideal : Stmt := topS 28
abbrev s__law_box : Stmt := topS 29
abbrev s__law_table : Stmt := topS 30
abbrev s_divides : Stmt := topS 5
abbrev s_least_ones : Stmt := topS 11
abbrev s_made : Stmt := topS 12
abbrev s_sum_of : Stmt := topS 14
abbrev s_lcm_of : Stmt := topS 6
abbrev s_meet_of : Stmt := topS 15
abbrev s_cut : Stmt := topS 7
abbrev s_colon_by : Stmt := topS 16
abbrev s_saturated : Stmt := topS 17
abbrev s_radical_of : Stmt := topS 18
abbrev s_permuted : Stmt := topS 19
abbrev s__law_of : Stmt := topS 23
abbrev s__law_moved : Stmt := topS 31
abbrev s__law_listing : Stmt := topS 32
abbrev s__law_done : Stmt := topS 33
abbrev s_law : Stmt := topS 34
abbrev n__law_divides : List Str := ["a", "b", "k"]
theorem sc__law_divides : FnScope n__law_divides ["a", "b"] (defScope s__law_divides) := ⟨rfl, rfl, rfl, by decide +kernel, rfl, by decide +kernel, by decide +kernel⟩
abbrev n__law_least : List Str := ["monomials", "some", "a", "b"]
theorem sc__law_least : FnScope n__law_least ["monomials"] (defScope s__law_least) := ⟨rfl, rfl, rfl, by decide +kernel, rfl, by decide +kernel, by decide +kernel⟩
def c__law_least_0 : Scope := { kind := .function, names := [(".0", .local), ("a", .cell), ("some", .free)], isGenerator := false, isCoroutine := false, more := [] }
abbrev n__law_in : List Str := ["generators", "b", "a"]
theorem sc__law_in : FnScope n__law_in ["generators", "b"] (defScope s__law_in) := ⟨rfl, rfl, rfl, by decide +kernel, rfl, by decide +kernel, by decide +kernel⟩
abbrev n__law_monomial : List Str := ["m", "n", "top", "k"]
theorem sc__law_monomial : FnScope n__law_monomial ["m", "n", "top"] (defScope s__law_monomial) := ⟨rfl, rfl, rfl, by decide +kernel, rfl, by decide +kernel, by decide +kernel⟩
abbrev n__law_ideal : List Str := ["m", "n", "count", "top", "some", "k", "a"]
theorem sc__law_ideal : FnScope n__law_ideal ["m", "n", "count", "top"] (defScope s__law_ideal) := ⟨rfl, rfl, rfl, by decide +kernel, rfl, by decide +kernel, by decide +kernel⟩
abbrev n__law_box : List Str := ["tops", "found", "top", "wider", "a", "k"]
theorem sc__law_box : FnScope n__law_box ["tops"] (defScope s__law_box) := ⟨rfl, rfl, rfl, by decide +kernel, rfl, by decide +kernel, by decide +kernel⟩
abbrev n__law_table : List Str := ["n", "rows", "found", "c"]
theorem sc__law_table : FnScope n__law_table ["n", "rows"] (defScope s__law_table) := ⟨rfl, rfl, rfl, by decide +kernel, rfl, by decide +kernel, by decide +kernel⟩
abbrev n_divides : List Str := ["a", "b", "one", "other"]
theorem sc_divides : FnScope n_divides ["a", "b"] (defScope s_divides) := ⟨rfl, rfl, rfl, by decide +kernel, rfl, by decide +kernel, by decide +kernel⟩
abbrev n_least_ones : List Str := ["monomials", "found", "monomial", "other"]
theorem sc_least_ones : FnScope n_least_ones ["monomials"] (defScope s_least_ones) := ⟨rfl, rfl, rfl, by decide +kernel, rfl, by decide +kernel, by decide +kernel⟩
abbrev n_made : List Str := ["n", "monomials", "found", "monomial"]
theorem sc_made : FnScope n_made ["n", "monomials"] (defScope s_made) := ⟨rfl, rfl, rfl, by decide +kernel, rfl, by decide +kernel, by decide +kernel⟩
abbrev n_sum_of : List Str := ["a", "b"]
theorem sc_sum_of : FnScope n_sum_of ["a", "b"] (defScope s_sum_of) := ⟨rfl, rfl, rfl, by decide +kernel, rfl, by decide +kernel, by decide +kernel⟩
abbrev n_lcm_of : List Str := ["a", "b", "one", "other"]
theorem sc_lcm_of : FnScope n_lcm_of ["a", "b"] (defScope s_lcm_of) := ⟨rfl, rfl, rfl, by decide +kernel, rfl, by decide +kernel, by decide +kernel⟩
abbrev n_meet_of : List Str := ["a", "b", "one", "other"]
theorem sc_meet_of : FnScope n_meet_of ["a", "b"] (defScope s_meet_of) := ⟨rfl, rfl, rfl, by decide +kernel, rfl, by decide +kernel, by decide +kernel⟩
abbrev n_cut : List Str := ["a", "b", "one", "other"]
theorem sc_cut : FnScope n_cut ["a", "b"] (defScope s_cut) := ⟨rfl, rfl, rfl, by decide +kernel, rfl, by decide +kernel, by decide +kernel⟩
abbrev n_colon_by : List Str := ["ideal", "monomial", "generator"]
theorem sc_colon_by : FnScope n_colon_by ["ideal", "monomial"] (defScope s_colon_by) := ⟨rfl, rfl, rfl, by decide +kernel, rfl, by decide +kernel, by decide +kernel⟩
abbrev n_saturated : List Str := ["ideal", "variable", "monomial"]
theorem sc_saturated : FnScope n_saturated ["ideal", "variable"] (defScope s_saturated) := ⟨rfl, rfl, rfl, by decide +kernel, rfl, by decide +kernel, by decide +kernel⟩
abbrev n_radical_of : List Str := ["ideal", "monomial", "exponent"]
theorem sc_radical_of : FnScope n_radical_of ["ideal"] (defScope s_radical_of) := ⟨rfl, rfl, rfl, by decide +kernel, rfl, by decide +kernel, by decide +kernel⟩
def c_radical_of_0 : Scope := { kind := .function, names := [(".0", .local), ("monomial", .local), ("tuple", .globalImplicit)], isGenerator := false, isCoroutine := false, more := [] }
abbrev n_permuted : List Str := ["ideal", "listing", "monomial", "place"]
theorem sc_permuted : FnScope n_permuted ["ideal", "listing"] (defScope s_permuted) := ⟨rfl, rfl, rfl, by decide +kernel, rfl, by decide +kernel, by decide +kernel⟩
def c_permuted_0 : Scope := { kind := .function, names := [(".0", .local), ("monomial", .cell), ("tuple", .globalImplicit), ("listing", .free)], isGenerator := false, isCoroutine := false, more := [] }
abbrev n__law_of : List Str := ["m", "some"]
theorem sc__law_of : FnScope n__law_of ["m", "some"] (defScope s__law_of) := ⟨rfl, rfl, rfl, by decide +kernel, rfl, by decide +kernel, by decide +kernel⟩
abbrev n__law_moved : List Str := ["table", "word", "data", "found", "c", "j", "e"]
theorem sc__law_moved : FnScope n__law_moved ["table", "word", "data"] (defScope s__law_moved) := ⟨rfl, rfl, rfl, by decide +kernel, rfl, by decide +kernel, by decide +kernel⟩
abbrev n__law_listing : List Str := ["m", "n", "left", "found", "k", "one", "other"]
theorem sc__law_listing : FnScope n__law_listing ["m", "n"] (defScope s__law_listing) := ⟨rfl, rfl, rfl, by decide +kernel, rfl, by decide +kernel, by decide +kernel⟩
abbrev n__law_done : List Str := ["m", "ideal", "table", "n", "word", "other", "factor", "variable", "listing"]
theorem sc__law_done : FnScope n__law_done ["m", "ideal", "table"] (defScope s__law_done) := ⟨rfl, rfl, rfl, by decide +kernel, rfl, by decide +kernel, by decide +kernel⟩
abbrev n_law : List Str := ["script", "k", "m", "ideal", "table", "turn", "c", "a"]
theorem sc_law : FnScope n_law ["script"] (defScope s_law) := ⟨rfl, rfl, rfl, by decide +kernel, rfl, by decide +kernel, by decide +kernel⟩
def g__law_divides : SEnv → Dr Out := (gRet [] (g2 dEq (gLc (gRng1 (gCons (gCall dLen (gCons (gV 0) gNil)) gNil)) (tgName 2) (gB (g2 dGt (g2 dIx (gV 0) (gV 2)) (g2 dIx (gV 1) (gV 2)))) (gV 2) [2]) (gLst gNil)))
def m__law_divides : List D → Dr D := runD 3 (g__law_divides)
def g__law_least : SEnv → Dr Out := (gSeq (gSet 1 [] (gSortU (gCons (gV 0) gNil)))
    (gRet [] (gCall dTupleOf (gCons (gLc (gItems (gV 1)) (tgName 2) (gB (g2 dEq (gLc (gItems (gV 1)) (tgName 3) (gAnd (gB (g2 dNe (gV 3) (gV 2))) (gB (gCallK 2 m__law_divides (gCons (gV 3) (gCons (gV 2) gNil))))) (gV 3) [3]) (gLst gNil))) (gV 2) [2]) gNil))))
def m__law_least : List D → Dr D := runD 4 (g__law_least)
def g__law_in : SEnv → Dr Out := (gRet [] (g2 dNe (gLc (gItems (gV 0)) (tgName 2) (gB (gCallK 2 m__law_divides (gCons (gV 2) (gCons (gV 1) gNil)))) (gV 2) [2]) (gLst gNil)))
def m__law_in : List D → Dr D := runD 3 (g__law_in)
def g__law_monomial : SEnv → Dr Out := (gRet [] (gCall dTupleOf (gCons (gLc (gRng1 (gCons (gV 1) gNil)) (tgName 3) gYes (gIf (gB (g2 dGt (gDraw (gCons (gV 0) (gCons (gC (.int 3)) gNil))) (gC (.int 0)))) (gDraw (gCons (gV 0) (gCons (g2 dAdd (gV 2) (gC (.int 1))) gNil))) (gC (.int 0))) [3]) gNil)))
def m__law_monomial : List D → Dr D := runD 4 (g__law_monomial)
def g__law_ideal : SEnv → Dr Out := (gSeq (gSet 4 [] (gLc (gRng1 (gCons (gDraw (gCons (gV 0) (gCons (g2 dAdd (gV 2) (gC (.int 1))) gNil))) gNil)) (tgName 5) gYes (gCallK 3 m__law_monomial (gCons (gV 0) (gCons (gV 1) (gCons (gV 3) gNil)))) [5]))
    (gRet [] (gTup (gCons (gV 1) (gCons (gCallK 1 m__law_least (gCons (gLc (gItems (gV 4)) (tgName 6) (gB (g2 dGt (gCall dSum (gCons (gV 6) gNil)) (gC (.int 0)))) (gV 6) [6]) gNil)) gNil)))))
def m__law_ideal : List D → Dr D := runD 7 (g__law_ideal)
def g__law_box : SEnv → Dr Out := (gSeq (gSet 1 [] (gLst (gCons (gTup gNil) gNil)))
    (gSeq (gFor [] (gItems (gV 0)) (stName 2)
    (gSeq (gSetN 3 [] (gLst gNil))
    (gSeq (gFor [] (gItems (gV 1)) (stName 4)
    (gMeth 3 [] (gCons (gLc (gRng1 (gCons (g2 dAdd (gV 2) (gC (.int 1))) gNil)) (tgName 5) gYes (g2 dAdd (gV 4) (gTup (gCons (gV 5) gNil))) [5]) gNil) mExtend))
    (gSet 1 [3] (gV 3)))))
    (gRet [] (gV 1))))
def m__law_box : List D → Dr D := runD 6 (g__law_box)
def g__law_table : SEnv → Dr Out := (gSeq (gSetN 2 [] gNewT)
    (gSeq (gFor [] (gItems (gCallK 1 m__law_box (gCons (g2 dMul (gTup (gCons (gC (.int 3)) gNil)) (gV 0)) gNil))) (stName 3)
    (gDPut 2 [] (gCallK 2 m__law_in (gCons (gV 1) (gCons (gV 3) gNil))) (gV 3)))
    (gRetV 2)))
def m__law_table : List D → Dr D := runD 4 (g__law_table)
def g_divides : SEnv → Dr Out := (gSeq (gFor [] (gZip (gCons (gV 0) (gCons (gV 1) gNil))) (stTup [2, 3])
    (gIfS [] (gB (g2 dGt (gV 2) (gV 3)))
    (gRet [] (gC (.bl false)))
    gSkip))
    (gRet [] (gC (.bl true))))
def m_divides : List D → Dr D := runD 4 (g_divides)
def g_least_ones : SEnv → Dr Out := (gSeq (gSetN 1 [] (gLst gNil))
    (gSeq (gFor [] (gItems (gSortU (gCons (gV 0) gNil))) (stName 2)
    (gIfS [1] (gNot (gB (gCall dAny (gCons (gLc (gItems (gV 1)) (tgName 3) gYes (gCallK 2 m_divides (gCons (gV 3) (gCons (gV 2) gNil))) [3]) gNil))))
    (gMeth 1 [] (gCons (gV 2) gNil) mAppend)
    gSkip))
    (gRetV 1)))
def m_least_ones : List D → Dr D := runD 4 (g_least_ones)
def g_made : SEnv → Dr Out := (gSeq (gSet 2 [] (gCallK 1 m_least_ones (gCons (gV 1) gNil)))
    (gSeq (gIfS [] (gB (g2 dGt (gCall dLen (gCons (gV 2) gNil)) (gC (.int 60))))
    gNever
    gSkip)
    (gSeq (gFor [] (gItems (gV 2)) (stName 3)
    (gIfS [] (gB (g2 dGt (gCall dMax1 (gCons (gV 3) gNil)) (gC (.int 60))))
    gNever
    gSkip))
    (gRet [] (gTup (gCons (gV 0) (gCons (gCall dTupleOf (gCons (gV 2) gNil)) gNil)))))))
def m_made : List D → Dr D := runD 4 (g_made)
def g_sum_of : SEnv → Dr Out := (gRet [] (gCallK 2 m_made (gCons (g2 dIx (gV 0) (gC (.int 0))) (gCons (gCall dListOf (gCons (g2 dAdd (g2 dIx (gV 0) (gC (.int 1))) (g2 dIx (gV 1) (gC (.int 1)))) gNil)) gNil))))
def m_sum_of : List D → Dr D := runD 2 (g_sum_of)
def g_lcm_of : SEnv → Dr Out := (gRet [] (gCall dTupleOf (gCons (gLc (gZip (gCons (gV 0) (gCons (gV 1) gNil))) (tgTup [2, 3]) gYes (gCall dMax2 (gCons (gV 2) (gCons (gV 3) gNil))) [2, 3]) gNil)))
def m_lcm_of : List D → Dr D := runD 4 (g_lcm_of)
def g_meet_of : SEnv → Dr Out := (gRet [] (gCallK 2 m_made (gCons (g2 dIx (gV 0) (gC (.int 0))) (gCons (gLc2 (gItems (g2 dIx (gV 0) (gC (.int 1)))) (tgName 2) gYes (gItems (g2 dIx (gV 1) (gC (.int 1)))) (tgName 3) gYes (gCallK 2 m_lcm_of (gCons (gV 2) (gCons (gV 3) gNil))) [2, 3] [3]) gNil))))
def m_meet_of : List D → Dr D := runD 4 (g_meet_of)
def g_cut : SEnv → Dr Out := (gRet [] (gCall dTupleOf (gCons (gLc (gZip (gCons (gV 0) (gCons (gV 1) gNil))) (tgTup [2, 3]) gYes (gCall dMax2 (gCons (g2 dSub (gV 2) (gV 3)) (gCons (gC (.int 0)) gNil))) [2, 3]) gNil)))
def m_cut : List D → Dr D := runD 4 (g_cut)
def g_colon_by : SEnv → Dr Out := (gRet [] (gCallK 2 m_made (gCons (g2 dIx (gV 0) (gC (.int 0))) (gCons (gLc (gItems (g2 dIx (gV 0) (gC (.int 1)))) (tgName 2) gYes (gCallK 2 m_cut (gCons (gV 2) (gCons (gV 1) gNil))) [2]) gNil))))
def m_colon_by : List D → Dr D := runD 3 (g_colon_by)
def g_saturated : SEnv → Dr Out := (gRet [] (gCallK 2 m_made (gCons (g2 dIx (gV 0) (gC (.int 0))) (gCons (gLc (gItems (g2 dIx (gV 0) (gC (.int 1)))) (tgName 2) gYes (g2 dAdd (g2 dAdd (gSl (gV 2) gNoPart (gPart (gV 1))) (gTup (gCons (gC (.int 0)) gNil))) (gSl (gV 2) (gPart (g2 dAdd (gV 1) (gC (.int 1)))) gNoPart)) [2]) gNil))))
def m_saturated : List D → Dr D := runD 3 (g_saturated)
def g_radical_of : SEnv → Dr Out := (gRet [] (gCallK 2 m_made (gCons (g2 dIx (gV 0) (gC (.int 0))) (gCons (gLc (gItems (g2 dIx (gV 0) (gC (.int 1)))) (tgName 1) gYes (gCall dTupleOf (gCons (gLc (gItems (gV 1)) (tgName 2) gYes (gCall dMin2 (gCons (gV 2) (gCons (gC (.int 1)) gNil))) [2]) gNil)) [1]) gNil))))
def m_radical_of : List D → Dr D := runD 3 (g_radical_of)
def g_permuted : SEnv → Dr Out := (gRet [] (gCallK 2 m_made (gCons (g2 dIx (gV 0) (gC (.int 0))) (gCons (gLc (gItems (g2 dIx (gV 0) (gC (.int 1)))) (tgName 2) gYes (gCall dTupleOf (gCons (gLc (gItems (gV 1)) (tgName 3) gYes (g2 dIx (gV 2) (gV 3)) [3]) gNil)) [2]) gNil))))
def m_permuted : List D → Dr D := runD 4 (g_permuted)
def g__law_of : SEnv → Dr Out := (gRet [] (g2 dIx (gV 1) (gDraw (gCons (gV 0) (gCons (gCall dLen (gCons (gV 1) gNil)) gNil)))))
def m__law_of : List D → Dr D := runD 2 (g__law_of)
def g__law_moved : SEnv → Dr Out := (gSeq (gSetN 3 [] gNewT)
    (gSeq (gForK 0 (stName 4)
    (gIfS [] (gB (g2 dEq (gV 1) (gC (.str "sum"))))
    (gDPut 3 [] (gOrV (g2 dGet (gV 0) (gV 4)) (g2 dGet (gV 2) (gV 4))) (gV 4))
    (gIfS [] (gB (g2 dEq (gV 1) (gC (.str "meet"))))
    (gDPut 3 [] (gAndV (g2 dGet (gV 0) (gV 4)) (g2 dGet (gV 2) (gV 4))) (gV 4))
    (gIfS [] (gB (g2 dEq (gV 1) (gC (.str "colon"))))
    (gDPut 3 [] (g2 dGet (gV 0) (gCall dTupleOf (gCons (gLc (gRng1 (gCons (gCall dLen (gCons (gV 4) gNil)) gNil)) (tgName 5) gYes (gCall dMin2 (gCons (gC (.int 3)) (gCons (g2 dAdd (g2 dIx (gV 4) (gV 5)) (g2 dIx (gV 2) (gV 5))) gNil))) [5]) gNil))) (gV 4))
    (gIfS [] (gB (g2 dEq (gV 1) (gC (.str "radical"))))
    (gDPut 3 [] (g2 dGet (gV 0) (gCall dTupleOf (gCons (gLc (gItems (gV 4)) (tgName 6) gYes (gIf (gB (g2 dGt (gV 6) (gC (.int 0)))) (gC (.int 3)) (gC (.int 0))) [6]) gNil))) (gV 4))
    (gIfS [] (gB (g2 dEq (gV 1) (gC (.str "saturated"))))
    (gDPut 3 [] (g2 dGet (gV 0) (gCall dTupleOf (gCons (gLc (gRng1 (gCons (gCall dLen (gCons (gV 4) gNil)) gNil)) (tgName 5) gYes (gIf (gB (g2 dEq (gV 5) (gV 2))) (gC (.int 3)) (g2 dIx (gV 4) (gV 5))) [5]) gNil))) (gV 4))
    (gDPut 3 [] (g2 dGet (gV 0) (gCall dTupleOf (gCons (gLc (gRng1 (gCons (gCall dLen (gCons (gV 4) gNil)) gNil)) (tgName 5) gYes (g2 dIx (gV 4) (gTIdx (gV 2) (gV 5))) [5]) gNil))) (gV 4))))))))
    (gRetV 3)))
def m__law_moved : List D → Dr D := runD 7 (g__law_moved)
def g__law_listing : SEnv → Dr Out := (gSeq (gParN 2 3 [] (gLstRg1 (gV 1)) (gLst gNil))
    (gSeq (gFor [] (gRng1 (gCons (gV 1) gNil)) (stName 4)
    (gSeq (gSet 5 [] (gCallK 2 m__law_of (gCons (gV 0) (gCons (gV 2) gNil))))
    (gSeq (gSet 2 [] (gLc (gItems (gV 2)) (tgName 6) (gB (g2 dNe (gV 6) (gV 5))) (gV 6) [6]))
    (gMeth 3 [] (gCons (gV 5) gNil) mAppend))))
    (gRet [3] (gCall dTupleF (gCons (gV 3) gNil)))))
def m__law_listing : List D → Dr D := runD 7 (g__law_listing)
def g__law_done : SEnv → Dr Out := (gSeq (gSet 3 [] (g2 dIx (gV 1) (gC (.int 0))))
    (gSeq (gSet 4 [] (gCallK 2 m__law_of (gCons (gV 0) (gCons (gLst (gCons (gC (.str "sum")) (gCons (gC (.str "meet")) (gCons (gC (.str "colon")) (gCons (gC (.str "radical")) (gCons (gC (.str "saturated")) (gCons (gC (.str "permuted")) (gCons (gC (.str "sum")) (gCons (gC (.str "meet")) gNil))))))))) gNil))))
    (gSeq (gSet 5 [] (gCallK 4 m__law_ideal (gCons (gV 0) (gCons (gV 3) (gCons (gC (.int 3)) (gCons (gC (.int 3)) gNil))))))
    (gSeq (gIfS [] (gB (g2 dEq (gV 4) (gC (.str "sum"))))
    (gRet [] (gTup (gCons (gCallK 2 m_sum_of (gCons (gV 1) (gCons (gV 5) gNil))) (gCons (gCallK 3 m__law_moved (gCons (gV 2) (gCons (gV 4) (gCons (gCallK 2 m__law_table (gCons (gV 3) (gCons (g2 dIx (gV 5) (gC (.int 1))) gNil))) gNil)))) gNil))))
    gSkip)
    (gSeq (gIfS [] (gB (g2 dEq (gV 4) (gC (.str "meet"))))
    (gRet [] (gTup (gCons (gCallK 2 m_meet_of (gCons (gV 1) (gCons (gV 5) gNil))) (gCons (gCallK 3 m__law_moved (gCons (gV 2) (gCons (gV 4) (gCons (gCallK 2 m__law_table (gCons (gV 3) (gCons (g2 dIx (gV 5) (gC (.int 1))) gNil))) gNil)))) gNil))))
    gSkip)
    (gSeq (gIfS [] (gB (g2 dEq (gV 4) (gC (.str "colon"))))
    (gSeq (gSet 6 [] (gCallK 3 m__law_monomial (gCons (gV 0) (gCons (gV 3) (gCons (gC (.int 2)) gNil)))))
    (gRet [] (gTup (gCons (gCallK 2 m_colon_by (gCons (gV 1) (gCons (gV 6) gNil))) (gCons (gCallK 3 m__law_moved (gCons (gV 2) (gCons (gV 4) (gCons (gV 6) gNil)))) gNil)))))
    gSkip)
    (gSeq (gIfS [] (gB (g2 dEq (gV 4) (gC (.str "radical"))))
    (gRet [] (gTup (gCons (gCallK 1 m_radical_of (gCons (gV 1) gNil)) (gCons (gCallK 3 m__law_moved (gCons (gV 2) (gCons (gV 4) (gCons (gC .non) gNil)))) gNil))))
    gSkip)
    (gSeq (gIfS [] (gB (g2 dEq (gV 4) (gC (.str "saturated"))))
    (gSeq (gSet 7 [] (gDraw (gCons (gV 0) (gCons (gV 3) gNil))))
    (gRet [] (gTup (gCons (gCallK 2 m_saturated (gCons (gV 1) (gCons (gV 7) gNil))) (gCons (gCallK 3 m__law_moved (gCons (gV 2) (gCons (gV 4) (gCons (gV 7) gNil)))) gNil)))))
    gSkip)
    (gSeq (gSet 8 [] (gCallK 2 m__law_listing (gCons (gV 0) (gCons (gV 3) gNil))))
    (gRet [] (gTup (gCons (gCallK 2 m_permuted (gCons (gV 1) (gCons (gV 8) gNil))) (gCons (gCallK 3 m__law_moved (gCons (gV 2) (gCons (gV 4) (gCons (gV 8) gNil)))) gNil)))))))))))))
def m__law_done : List D → Dr D := runD 9 (g__law_done)
noncomputable def g_law (K : PySem.W.Frag) : SEnv → Dr Out := (gSeq (gFor [] (gRng1 (gCons (gCall dMax2 (gCons (gC (.int 2)) (gCons (gCall dMin2 (gCons (gCall (dLenS K) (gCons (gV 0) gNil)) (gCons (gC (.int 3)) gNil))) gNil))) gNil)) (stName 1)
    (gSeq (gSet 2 [] (gBegun K (gCons (gV 0) (gCons (gV 1) gNil))))
    (gSeq (gSet 3 [] (gCallK 4 m__law_ideal (gCons (gV 2) (gCons (g2 dAdd (gC (.int 1)) (gDraw (gCons (gV 2) (gCons (gC (.int 3)) gNil)))) (gCons (gC (.int 4)) (gCons (gC (.int 3)) gNil))))))
    (gSeq (gSet 4 [] (gCallK 2 m__law_table (gCons (g2 dIx (gV 3) (gC (.int 0))) (gCons (g2 dIx (gV 3) (gC (.int 1))) gNil))))
    (gFor [] (gRng1 (gCons (gDraw (gCons (gV 2) (gCons (gC (.int 11)) gNil))) gNil)) (stName 5)
    (gSeq (gUnp [3, 4] [] (gCallK 3 m__law_done (gCons (gV 2) (gCons (gV 3) (gCons (gV 4) gNil)))))
    (gSeq (gIfS [] (gOr (gB (g2 dNe (g2 dIx (gV 3) (gC (.int 1))) (gCallK 1 m__law_least (gCons (g2 dIx (gV 3) (gC (.int 1))) gNil)))) (gB (g2 dNe (gLc (gItems (g2 dIx (gV 3) (gC (.int 1)))) (tgName 7) (gB (g2 dGt (gCall dMax1 (gCons (gV 7) gNil)) (gC (.int 3)))) (gV 7) [7]) (gLst gNil))))
    (gRet [] (gC (.bl false)))
    gSkip)
    (gForK 4 (stName 6)
    (gIfS [] (gB (g2 dNe (gCallK 2 m__law_in (gCons (g2 dIx (gV 3) (gC (.int 1))) (gCons (gV 6) gNil))) (g2 dGet (gV 4) (gV 6))))
    (gRet [] (gC (.bl false)))
    gSkip)))))))))
    (gRet [] (gC (.bl true))))
noncomputable def m_law (K : PySem.W.Frag) : List D → Dr D := runD 8 (g_law K)
/-- what the top has written -/
structure Txt (K : PySem.W.Frag) (mg : Str → Option Value) where
  a__law_begun : Addr
  d__law_begun : FuncData
  f__law_begun : Fun K "_law_begun" "_law_begun" s__law_begun a__law_begun d__law_begun
  m__law_begun : mg "_law_begun" = some (.ref a__law_begun)
  b__law_begun : Binds K d__law_begun ["script", "k"] []
  a__law_draw : Addr
  d__law_draw : FuncData
  f__law_draw : Fun K "_law_draw" "_law_draw" s__law_draw a__law_draw d__law_draw
  m__law_draw : mg "_law_draw" = some (.ref a__law_draw)
  b__law_draw : Binds K d__law_draw ["m", "below"] []
  a__law_divides : Addr
  d__law_divides : FuncData
  f__law_divides : Fun K "_law_divides" "_law_divides" s__law_divides a__law_divides d__law_divides
  m__law_divides : mg "_law_divides" = some (.ref a__law_divides)
  b__law_divides : Binds K d__law_divides ["a", "b"] []
  a__law_least : Addr
  d__law_least : FuncData
  f__law_least : Fun K "_law_least" "_law_least" s__law_least a__law_least d__law_least
  m__law_least : mg "_law_least" = some (.ref a__law_least)
  b__law_least : Binds K d__law_least ["monomials"] []
  a__law_in : Addr
  d__law_in : FuncData
  f__law_in : Fun K "_law_in" "_law_in" s__law_in a__law_in d__law_in
  m__law_in : mg "_law_in" = some (.ref a__law_in)
  b__law_in : Binds K d__law_in ["generators", "b"] []
  a__law_monomial : Addr
  d__law_monomial : FuncData
  f__law_monomial : Fun K "_law_monomial" "_law_monomial" s__law_monomial a__law_monomial d__law_monomial
  m__law_monomial : mg "_law_monomial" = some (.ref a__law_monomial)
  b__law_monomial : Binds K d__law_monomial ["m", "n", "top"] []
  a__law_ideal : Addr
  d__law_ideal : FuncData
  f__law_ideal : Fun K "_law_ideal" "_law_ideal" s__law_ideal a__law_ideal d__law_ideal
  m__law_ideal : mg "_law_ideal" = some (.ref a__law_ideal)
  b__law_ideal : Binds K d__law_ideal ["m", "n", "count", "top"] []
  a__law_box : Addr
  d__law_box : FuncData
  f__law_box : Fun K "_law_box" "_law_box" s__law_box a__law_box d__law_box
  m__law_box : mg "_law_box" = some (.ref a__law_box)
  b__law_box : Binds K d__law_box ["tops"] []
  a__law_table : Addr
  d__law_table : FuncData
  f__law_table : Fun K "_law_table" "_law_table" s__law_table a__law_table d__law_table
  m__law_table : mg "_law_table" = some (.ref a__law_table)
  b__law_table : Binds K d__law_table ["n", "rows"] []
  a_divides : Addr
  d_divides : FuncData
  f_divides : Fun K "divides" "divides" s_divides a_divides d_divides
  m_divides : mg "divides" = some (.ref a_divides)
  b_divides : Binds K d_divides ["a", "b"] []
  a_least_ones : Addr
  d_least_ones : FuncData
  f_least_ones : Fun K "least_ones" "least_ones" s_least_ones a_least_ones d_least_ones
  m_least_ones : mg "least_ones" = some (.ref a_least_ones)
  b_least_ones : Binds K d_least_ones ["monomials"] []
  a_made : Addr
  d_made : FuncData
  f_made : Fun K "made" "made" s_made a_made d_made
  m_made : mg "made" = some (.ref a_made)
  b_made : Binds K d_made ["n", "monomials"] []
  a_sum_of : Addr
  d_sum_of : FuncData
  f_sum_of : Fun K "sum_of" "sum_of" s_sum_of a_sum_of d_sum_of
  m_sum_of : mg "sum_of" = some (.ref a_sum_of)
  b_sum_of : Binds K d_sum_of ["a", "b"] []
  a_lcm_of : Addr
  d_lcm_of : FuncData
  f_lcm_of : Fun K "lcm_of" "lcm_of" s_lcm_of a_lcm_of d_lcm_of
  m_lcm_of : mg "lcm_of" = some (.ref a_lcm_of)
  b_lcm_of : Binds K d_lcm_of ["a", "b"] []
  a_meet_of : Addr
  d_meet_of : FuncData
  f_meet_of : Fun K "meet_of" "meet_of" s_meet_of a_meet_of d_meet_of
  m_meet_of : mg "meet_of" = some (.ref a_meet_of)
  b_meet_of : Binds K d_meet_of ["a", "b"] []
  a_cut : Addr
  d_cut : FuncData
  f_cut : Fun K "cut" "cut" s_cut a_cut d_cut
  m_cut : mg "cut" = some (.ref a_cut)
  b_cut : Binds K d_cut ["a", "b"] []
  a_colon_by : Addr
  d_colon_by : FuncData
  f_colon_by : Fun K "colon_by" "colon_by" s_colon_by a_colon_by d_colon_by
  m_colon_by : mg "colon_by" = some (.ref a_colon_by)
  b_colon_by : Binds K d_colon_by ["ideal", "monomial"] []
  a_saturated : Addr
  d_saturated : FuncData
  f_saturated : Fun K "saturated" "saturated" s_saturated a_saturated d_saturated
  m_saturated : mg "saturated" = some (.ref a_saturated)
  b_saturated : Binds K d_saturated ["ideal", "variable"] []
  a_radical_of : Addr
  d_radical_of : FuncData
  f_radical_of : Fun K "radical_of" "radical_of" s_radical_of a_radical_of d_radical_of
  m_radical_of : mg "radical_of" = some (.ref a_radical_of)
  b_radical_of : Binds K d_radical_of ["ideal"] []
  a_permuted : Addr
  d_permuted : FuncData
  f_permuted : Fun K "permuted" "permuted" s_permuted a_permuted d_permuted
  m_permuted : mg "permuted" = some (.ref a_permuted)
  b_permuted : Binds K d_permuted ["ideal", "listing"] []
  a__law_of : Addr
  d__law_of : FuncData
  f__law_of : Fun K "_law_of" "_law_of" s__law_of a__law_of d__law_of
  m__law_of : mg "_law_of" = some (.ref a__law_of)
  b__law_of : Binds K d__law_of ["m", "some"] []
  a__law_moved : Addr
  d__law_moved : FuncData
  f__law_moved : Fun K "_law_moved" "_law_moved" s__law_moved a__law_moved d__law_moved
  m__law_moved : mg "_law_moved" = some (.ref a__law_moved)
  b__law_moved : Binds K d__law_moved ["table", "word", "data"] []
  a__law_listing : Addr
  d__law_listing : FuncData
  f__law_listing : Fun K "_law_listing" "_law_listing" s__law_listing a__law_listing d__law_listing
  m__law_listing : mg "_law_listing" = some (.ref a__law_listing)
  b__law_listing : Binds K d__law_listing ["m", "n"] []
  a__law_done : Addr
  d__law_done : FuncData
  f__law_done : Fun K "_law_done" "_law_done" s__law_done a__law_done d__law_done
  m__law_done : mg "_law_done" = some (.ref a__law_done)
  b__law_done : Binds K d__law_done ["m", "ideal", "table"] []
  a_law : Addr
  d_law : FuncData
  f_law : Fun K "law" "law" s_law a_law d_law
  m_law : mg "law" = some (.ref a_law)
  b_law : Binds K d_law ["script"] []
  z_any : mg "any" = none
  z_int : mg "int" = none
  z_len : mg "len" = none
  z_list : mg "list" = none
  z_max : mg "max" = none
  z_min : mg "min" = none
  z_range : mg "range" = none
  z_set : mg "set" = none
  z_sorted : mg "sorted" = none
  z_sum : mg "sum" = none
  z_tuple : mg "tuple" = none
  z_zip : mg "zip" = none
  t_MOST_EXPONENT : Tok
  c_MOST_EXPONENT : mg "MOST_EXPONENT" = some (.int 60 t_MOST_EXPONENT)
  t_MOST_GENERATORS : Tok
  c_MOST_GENERATORS : mg "MOST_GENERATORS" = some (.int 60 t_MOST_GENERATORS)
section
variable {P : Program} {w : World} {K : PySem.W.Frag} {mg : Str → Option Value} {base : Heap}
theorem sc__law_draw : FnScope ["m", "below", "found", "spot", "cells", "extra", "cell", "blend"] ["m", "below"] (defScope s__law_draw) := ⟨rfl, rfl, rfl, by decide +kernel, rfl, by decide +kernel, by decide +kernel⟩
theorem ok__law_draw (T : Txt K mg) : FnOk P w K mg base CX0 1 T.a__law_draw T.d__law_draw ["m", "below"] spDraw := by
  have zi := T.z_int
  have zl := T.z_len
  refine T.f__law_draw.ok sc__law_draw (fun vs H Q E h => h.1) (fun cdv A outer s H vs Q E hr h => ?_)
  obtain ⟨_, n, G, a, c, b, rfl, sb, ga, hb0, hb1, q⟩ := h
  have hu := hu_of hr
  refine ⟨_, pss_cons (ps_if (pt_cmpR op_gt (pe_dget hu (pv 0) pe_str (fun _ _ => rfl)) pe_int (nomark _))
      (pss_cons (ps_set (i := 2) sc__law_draw.nd rfl (.inl rfl) (pe_op op_mod (pe_callTy call_int1 (by rfl) zi boot_int (pa_cons (pe_dget hu (pv 0) pe_str (fun _ _ => rfl)) pa_nil)) (pv 1)))
        (pss_cons (ps_dput hu (pv 0) pe_str (pe_op op_fdiv (pe_dget hu (pv 0) pe_str (fun _ _ => rfl)) (pv 1)) rfl) (pss_one (ps_ret (pv 2))))) pss_nil)
    (pss_cons (ps_set (i := 3) sc__law_draw.nd rfl (.inl rfl) (pe_dget hu (pv 0) pe_str (fun _ _ => rfl)))
    (pss_cons (ps_dput hu (pv 0) pe_str (pe_op op_add (pv 3) pe_int) rfl)
    (pss_cons (ps_par (i := 4) (j := 5) rfl sc__law_draw.nd rfl rfl (by decide) rfl rfl (pa_cons (pe_dget hu (pv 0) pe_str (fun _ _ => rfl)) (pa_cons (pe_op op_add (pe_dget hu (pv 0) pe_str (fun _ _ => rfl)) (pe_op op_mul (pe_op op_mul pe_int (pv 3)) (pv 3))) pa_nil)) (by rfl))
    (pss_cons (ps_set (i := 6) sc__law_draw.nd rfl (.inl rfl) (pe_ix ix_list (pv 4) (pe_op op_mod (pe_callTy call_int1 (by rfl) zi boot_int (pa_cons (pv 3) pa_nil)) (pe_callB call_len_seq (by rfl) zl PySem.boot_len (pa_cons (pv 4) pa_nil))) (fun _ _ => rfl)))
    (pss_cons (ps_set (i := 7) sc__law_draw.nd rfl (.inl rfl) (pe_op op_mod (pe_callTy call_int1 (by rfl) zi boot_int (pa_cons (pe_op op_add (pe_op op_mul (pv 6) (pe_op op_add (pe_op op_mul pe_int (pv 3)) pe_int)) (pv 5)) pa_nil)) pe_int))
    (pss_cons (ps_set (i := 7) sc__law_draw.nd rfl (.inl rfl) (pe_op op_mod (pe_callTy call_int1 (by rfl) zi boot_int (pa_cons (pe_op op_add (pe_op op_add (pe_op op_mul (pv 7) (pv 7)) (pe_op op_mul pe_int (pv 3))) (pe_dget hu (pv 0) pe_str (fun _ _ => rfl))) pa_nil)) pe_int))
    (pss_one (ps_ret (pe_op op_mod (pe_op op_fdiv (pe_op op_mod (pe_callTy call_int1 (by rfl) zi boot_int (pa_cons (pe_op op_add (pe_op op_mul (pv 7) pe_int) (pv 3)) pa_nil)) pe_int) pe_int) (pv 1)))))))))), ?_⟩
  obtain ⟨l, sd, sp, cs, ha, gc, hne, h0, h1, h2, h3⟩ := sb.mr a c ga
  -- left > 0
  refine ⟨.ref a, rfl, a, .int l, rfl, DGet.k (k := kLeft) ha, l, 0, rfl, rfl, _, rfl, ite2 (fun e => ?_) (fun e => ?_)⟩
  · refine ⟨.ref a, rfl, a, .int l, rfl, DGet.k (k := kLeft) ha, .inl ⟨l, rfl, .int b, rfl, l, b, rfl, rfl, hb0, ?_⟩⟩
    refine ⟨.ref a, rfl, a, .int l, rfl, DGet.k (k := kLeft) ha, .int b, rfl, l, b, rfl, rfl, ⟨hb0, hb1⟩, .ref a, rfl, a, _, rfl, DPut.k (k := kLeft) ha (by show (4 : Nat) < sizeLine; decide), .int (l % b), rfl, ?_⟩
    obtain ⟨x, s'⟩ := drw_upd (l := l) (p := sp) (l' := l / b) (p' := sp) sb ga gc hne ⟨h0, h1⟩ ⟨h2, by omega⟩ _ upd_same (fun _ z => upd_ne z)
    exact q _ (Int.emod_nonneg _ (by omega)) (Int.emod_lt_of_pos _ hb0) _ x s'
  · have ne : c ≠ a := fun z => by
      rw [z, ga] at gc
      cases gc
    refine ⟨.ref a, rfl, a, .int sp, rfl, DGet.k (k := kSpot) ha, ?_⟩
    refine ⟨.int sp, rfl, sp, 1, rfl, rfl, .ref a, rfl, a, _, rfl, DPut.k (k := kSpot) ha (by show (4 : Nat) < sizeLine; decide), ?_⟩
    have hS : (upd H a (drwH l sd c (sp + 1))) a = some (drwH l sd c (sp + 1)) := upd_same
    have hC : (upd H a (drwH l sd c (sp + 1))) c = some (.lst (cs.map V.int)) := by
      rw [upd_ne ne]
      exact sb.eq c _ gc (fun _ z => nomatch z)
    obtain ⟨x, s'⟩ := drw_upd (l := l) (p := sp) (l' := l) (p' := sp + 1) sb ga gc hne ⟨h0, h1⟩ ⟨by omega, by omega⟩ _ upd_same (fun _ z => upd_ne z)
    refine ⟨.ref a, rfl, a, .ref c, rfl, DGet.k (k := kCells) hS, .ref a, rfl, a, .int sd, rfl, DGet.k (k := kSeed) hS, .int sp, rfl, 40503, sp, rfl, rfl, .inl ⟨by decide, by decide⟩, .int sp, rfl, _, sp, rfl, rfl, .inr ⟨by omega, by omega⟩, sd, _, rfl, rfl, _, _, rfl, ?_⟩
    have hlen : 0 < ((cs.map V.int).length : Int) := by
      rw [List.length_map]
      have := List.length_pos_iff.mpr hne
      omega
    -- cell = cells[int(spot) % len(cells)]
    have hi0 := Int.emod_nonneg sp (show ((cs.map V.int).length : Int) ≠ 0 by omega)
    have hi1 := Int.emod_lt_of_pos sp hlen
    obtain ⟨j, ej⟩ := Int.eq_ofNat_of_zero_le hi0
    have hj : j < cs.length := by
      rw [ej, List.length_map] at hi1
      omega
    have gj : (cs.map V.int)[j]? = some (.int cs[j]) := by
      rw [List.getElem?_map, List.getElem?_eq_getElem hj]
      rfl
    refine ⟨.ref c, rfl, .int sp, rfl, .inl ⟨sp, rfl, .ref c, rfl, c, cs.map V.int, rfl, .inl (.inl (.inl hC)), sp, _, rfl, rfl, hlen, c, cs.map V.int, sp % ((cs.map V.int).length : Int), .int cs[j], rfl, rfl, .inl (.inl hC), by rw [ej]; exact atI_nat gj, ?_⟩⟩
    -- blend
    refine ⟨.int cs[j], rfl, .int sp, rfl, 2, sp, rfl, rfl, .inl ⟨by decide, by decide⟩, _, 3, rfl, rfl, cs[j], _, rfl, rfl, .inr ⟨by omega, by omega⟩, .int _, rfl, _, _, rfl, rfl, .inl ⟨_, rfl, _, 2147483647, rfl, rfl, by show (0 : Int) < 2147483647; decide, ?_⟩⟩
    obtain ⟨b1, hb⟩ : ∃ b1, b1 = (cs[j] * (2 * sp + 3) + (sd + 40503 * sp * sp)) % 2147483647 := ⟨_, rfl⟩
    have b1a : 0 ≤ b1 := by
      rw [hb]
      exact Int.emod_nonneg _ (by decide)
    have b1b : b1 < 2147483647 := by
      rw [hb]
      exact Int.emod_lt_of_pos _ (by decide)
    refine ⟨.int b1, by rw [hb]; rfl, .int b1, by rw [hb]; rfl, b1, b1, rfl, rfl, .inl ⟨by omega, by omega⟩, .int sp, rfl, 69621, sp, rfl, rfl, .inl ⟨by decide, by decide⟩, _, _, rfl, rfl, .ref a, rfl, a, .int sd, rfl, DGet.k (k := kSeed) hS, _, sd, rfl, rfl, .inl ⟨_, rfl, _, 2147483629, rfl, rfl, by show (0 : Int) < 2147483629; decide, ?_⟩⟩
    obtain ⟨b2, hb2⟩ : ∃ b2, b2 = (b1 * b1 + 69621 * sp + sd) % 2147483629 := ⟨_, rfl⟩
    have b2a : 0 ≤ b2 := by
      rw [hb2]
      exact Int.emod_nonneg _ (by decide)
    have b2b : b2 < 2147483629 := by
      rw [hb2]
      exact Int.emod_lt_of_pos _ (by decide)
    refine ⟨.int b2, by rw [hb2]; rfl, b2, 48271, rfl, rfl, .inl ⟨by omega, by omega⟩, .int sp, rfl, _, sp, rfl, rfl, .inl ⟨_, rfl, _, 2147483647, rfl, rfl, by show (0 : Int) < 2147483647; decide, _, 11, rfl, rfl, ⟨by decide, by decide⟩, .int b, rfl, _, b, rfl, rfl, hb0, ?_⟩⟩
    exact q _ (Int.emod_nonneg _ (by omega)) (Int.emod_lt_of_pos _ hb0) _ x s'
abbrev n__law_begun : List Str := ["script", "k", "cells", "cell", "great", "seed"]
theorem sc__law_begun : FnScope n__law_begun ["script", "k"] (defScope s__law_begun) := ⟨rfl, rfl, rfl, by decide +kernel, rfl, by decide +kernel, by decide +kernel⟩
theorem ok__law_begun (T : Txt K mg) : FnOk P w K mg base CX0 1 T.a__law_begun T.d__law_begun ["script", "k"] (spBegun K) := by
  have zi := T.z_int
  refine T.f__law_begun.ok sc__law_begun (fun vs H Q E h => h.1) (fun cdv A outer s H vs Q E hr h => ?_)
  obtain ⟨_, a, kk, ns, rfl, hS, hlen, hk0, hk1, q⟩ := h
  have hu := hu_of hr
  have hu64 : (A.deeper (envOfC "_law_begun" (defScope s__law_begun) s.heap.objs.size T.a__law_begun cdv)).units + 64 < cLine := Nat.lt_of_le_of_lt (by omega) hr.un
  have nd := sc__law_begun.nd
  refine ⟨_, pss_cons (ps_set (i := 2) nd rfl (.inl rfl) (pe_op op_cat (pe_slice sl_list (pv 0) (po_some (pv 1)) po_none) (pe_slice sl_list (pv 0) po_none (po_some (pv 1)))))
   (pss_cons (ps_setLc (i := 4) (own := [("cell", 3)]) (g := gName 3) (tt := tTest _) rfl nd rfl rfl (sw_true rfl rfl rfl (by decide +kernel)) (pi_list (pv 2)) (blkOk_by (N := n__law_begun) (sc := defScope s__law_begun) (by decide +kernel)) (fun _ _ _ _ _ => pg_name (i := 3) nd rfl (Or.inl rfl)) (fun _ _ _ _ _ => pts_one (pt_cmpR op_ge (pv 3) (pe_op op_pow pe_int pe_int) (nomark _))) (fun _ _ _ _ _ => pv 3))
   (pss_cons (ps_set (i := 5) nd rfl (.inl rfl) (pe_op op_add pe_int (pv 1)))
   (pss_cons (ps_for PassesOwn.never rfl (pi_list (pv 2)) (pg_name (i := 3) nd rfl (.inl rfl)) (pss_one (ps_set (i := 5) nd rfl (.inl rfl) (pe_op op_mod (pe_callTy call_int1 (by rfl) zi boot_int (pa_cons (pe_op op_add (pe_op op_mul (pv 5) pe_int) (pv 3)) pa_nil)) pe_int))))
   (pss_one (ps_ret (pe_disp (pps_cons pe_str (pe_ifExp (pt_cmpR (op_neD hu64) (pv 4) (pe_lst pa_nil) (nomark _)) (pe_ix ix_list (pv 4) pe_int (fun _ _ => rfl)) pe_int) (pps_cons pe_str (pv 5) (pps_cons pe_str (pe_op op_cat (pv 2) (pe_lst (pa_cons (pe_op op_add (pe_op op_mul pe_int (pv 1)) pe_int) pa_nil))) (pps_cons pe_str pe_int pps_nil)))) rfl rfl nofun (by decide))))))), ?_⟩
  -- cells
  obtain ⟨m1, em1, lm1⟩ := cutV_ints ns (some kk) none
  obtain ⟨m2, em2, lm2⟩ := cutV_ints ns none (some kk)
  refine ⟨.ref a, rfl, .int kk, rfl, kk, rfl, a, _, rfl, hS, fun p1 n1 => ?_⟩
  rw [em1]
  have s1 : Same H (upd H p1 (.lst (m1.map V.int))) := same_upd (fun _ _ z => z) n1
  refine ⟨.ref a, rfl, .int kk, rfl, kk, rfl, a, _, rfl, s1.seq hS, fun p2 n2 => ?_⟩
  rw [em2]
  have n12 : p1 ≠ p2 := fun z => by
    rw [← z, upd_same] at n2
    cases n2
  obtain ⟨H2, eH2⟩ : ∃ H2, H2 = upd (upd H p1 (.lst (m1.map V.int))) p2 (.lst (m2.map V.int)) := ⟨_, rfl⟩
  have s2 : Same H H2 := by
    rw [eH2]
    exact s1.trans (same_upd (fun _ _ z => z) n2)
  have h1 : H2 p1 = some (.lst (m1.map V.int)) := by
    rw [eH2, upd_ne n12, upd_same]
  have h2 : H2 p2 = some (.lst (m2.map V.int)) := by
    rw [eH2, upd_same]
  rw [← eH2]
  refine ⟨p1, p2, _, _, rfl, rfl, h1, h2, ?_, fun p3 n3 => ?_⟩
  · rw [List.length_map, List.length_map, sizeLine_eq]
    omega
  rw [← List.map_append]
  obtain ⟨cs, ecs⟩ : ∃ cs, cs = m1 ++ m2 := ⟨_, rfl⟩
  rw [← ecs]
  have lcs : cs.length ≤ 2000 := by
    rw [ecs, List.length_append]
    omega
  obtain ⟨H3, eH3⟩ : ∃ H3, H3 = upd H2 p3 (.lst (cs.map V.int)) := ⟨_, rfl⟩
  have s3 : Same H H3 := by
    rw [eH3]
    exact s2.trans (same_upd (fun _ _ z => z) n3)
  have h3 : H3 p3 = some (.lst (cs.map V.int)) := by
    rw [eH3, upd_same]
  have f3 : H p3 = none := s2.free n3
  rw [← eH3]
  -- great
  refine ⟨.ref p3, rfl, p3, rfl, ⟨_, .inl (.inl h3)⟩, fun D hD => lc_list (xs := cs.map V.int) (fun i Hh => Same H3 Hh ∧ ∃ gs : List Int, Hh D = some (.lst (gs.map V.int)) ∧ gs.length ≤ i) ⟨same_upd (fun _ _ z => z) hD, [], upd_same, Nat.le_refl _⟩ (fun i Hh hi ⟨z, _⟩ => z.seq (.inl (.inl h3))) (fun i x Hh hx ⟨z, gs, hg, lg⟩ => ?_) (fun Hd ⟨z, gs, hg, lg⟩ => ?_)⟩
  · have hi : i < cs.length := by
      obtain ⟨hi, _⟩ := List.getElem?_eq_some_iff.mp hx
      rw [List.length_map] at hi
      exact hi
    rw [List.getElem?_map, List.getElem?_eq_getElem hi] at hx
    cases hx
    refine ⟨rfl, .int cs[i], rfl, 10, 18, rfl, rfl, ⟨by decide, by decide, by decide⟩, cs[i], _, rfl, rfl, _, rfl, ite2 (fun e => ?_) (fun e => ?_)⟩
    · refine ⟨.int cs[i], rfl, gs.map V.int, hg, ?_, fun b o e => ?_, gs ++ [cs[i]], ?_, ?_⟩
      · rw [List.length_map]
        exact line_lt (by omega)
      · have : b ≠ D := fun q => by
          rw [q, hD] at e
          cases e
        rw [upd_ne this]
        exact z b o e
      · rw [upd_same, List.map_append]
        rfl
      · rw [List.length_append]
        exact Nat.succ_le_succ lg
    · exact ⟨z, gs, hg, Nat.le_succ_of_le lg⟩
  have fD : H D = none := s3.free hD
  have s4 : Same H Hd := s3.trans z
  have h4 : Hd p3 = some (.lst (cs.map V.int)) := z _ _ h3
  -- seed = 71 + k; the loop
  refine ⟨.int kk, rfl, 71, kk, rfl, rfl, .ref p3, rfl, p3, rfl, ⟨_, .inl (.inl h4)⟩, for_list (xs := cs.map V.int) (fun i σ Hh => ∃ y3 sd, σ = [some (.ref a), some (.int kk), some (.ref p3), y3, some (.ref D), some (.int sd)] ∧ 0 ≤ sd ∧ sd < 2147483648 ∧ Hh = Hd) ⟨none, 71 + kk, rfl, by omega, by omega, rfl⟩ (fun i σ Hh hi ⟨_, _, _, _, _, e⟩ => by rw [e]; exact .inl (.inl h4)) (fun i x σ Hh hx ⟨y3, sd, e1, e2, e3, e4⟩ => ?_) (fun σ Hh ⟨y3, sd, e1, e2, e3, e4⟩ => ?_)⟩
  · have hi : i < cs.length := by
      obtain ⟨hi, _⟩ := List.getElem?_eq_some_iff.mp hx
      rw [List.length_map] at hi
      exact hi
    rw [List.getElem?_map, List.getElem?_eq_getElem hi] at hx
    cases hx
    subst e1 e4
    refine ⟨.int sd, rfl, sd, 48271, rfl, rfl, .inl ⟨by omega, by omega⟩, .int cs[i], rfl, _, cs[i], rfl, rfl, .inl ⟨_, rfl, _, 2147483647, rfl, rfl, by show (0 : Int) < 2147483647; decide, ?_⟩⟩
    refine ⟨some (.int cs[i]), _, rfl, Int.emod_nonneg _ (by decide), ?_, rfl⟩
    have := Int.emod_lt_of_pos (sd * 48271 + cs[i]) (show (0 : Int) < 2147483647 by decide)
    omega
  subst e1 e4
  -- the dict
  intro p hp
  have fp : H p = none := s4.free hp
  have npD : D ≠ p := ne_of_none hg hp
  have np3 : p3 ≠ p := ne_of_none h4 hp
  obtain ⟨H5, eH5⟩ : ∃ H5, H5 = upd Hh p (.dK []) := ⟨_, rfl⟩
  have s5 : Same H H5 := by
    rw [eH5]
    exact s4.trans (same_upd (fun _ _ z => z) hp)
  have h5D : H5 D = some (.lst (gs.map V.int)) := by
    rw [eH5, upd_ne npD]
    exact hg
  have h5p : H5 p = some (.dK []) := by
    rw [eH5, upd_same]
  have h53 : H5 p3 = some (.lst (cs.map V.int)) := by
    rw [eH5, upd_ne np3]
    exact h4
  rw [← eH5]
  refine ⟨.ref D, rfl, Nat.zero_le _, fun l hl => ?_⟩
  obtain ⟨H6, eH6⟩ : ∃ H6, H6 = upd H5 l (.lst []) := ⟨_, rfl⟩
  have k6 : Same H5 H6 := by
    rw [eH6]
    exact same_upd (fun _ _ z => z) hl
  have h6D := k6 _ _ h5D
  have h6p := k6 _ _ h5p
  have h63 := k6 _ _ h53
  have h6l : H6 l = some (.lst []) := by
    rw [eH6, upd_same]
  rw [← eH6]
  have s6 := s5.trans k6
  refine ⟨.list (gs.map PyData.int), .list [], .lst (.inl (.inl h6D)) ?_, .lst (.inl (.inl h6l)) .nil, ?_, rfl, _, rfl, ite2 (fun e => ?_) (fun e => ?_)⟩
  · exact dp_ints gs
  · exact shp_ints gs
  · obtain ⟨g0, gs', eg⟩ : ∃ g0 gs', gs = g0 :: gs' := by
      cases gs with
      | nil => cases e
      | cons g0 gs' => exact ⟨g0, gs', rfl⟩
    refine ⟨.ref D, rfl, D, gs.map V.int, 0, .int g0, rfl, rfl, .inl (.inl h6D), by rw [eg]; exact atI_nat (j := 0) rfl, ?_⟩
    refine ⟨.int sd, rfl, .ref p3, rfl, .int kk, rfl, 53, kk, rfl, rfl, .inl ⟨by decide, by decide⟩, _, 11, rfl, rfl, by show (1 : Nat) ≤ sizeLine; decide, fun r hr' => ⟨p3, r, cs.map V.int, [.int (53 * kk + 11)], rfl, rfl, ?_, upd_same, ?_, fun c hc => ⟨?_, [(kLeft, .int _), (kSeed, .int sd), (kCells, .ref c), (kSpot, .int 0)], rfl, (by show (4 : Nat) ≤ 15; decide), q _ p c _ sd (cs ++ [53 * kk + 11]) ?_ fp ?_ ?_ upd_same ?_ (by simp) e2 e3⟩⟩⟩
    · rw [upd_ne (ne_of_none h63 hr')]
      exact h63
    · rw [List.length_map, sizeLine_eq]
      show cs.length + 1 ≤ _
      omega
    · have x1 : (upd H6 r (.lst [.int (53 * kk + 11)])) p = some (.dK []) := by
        rw [upd_ne (ne_of_none h6p hr')]
        exact h6p
      rw [upd_ne (ne_of_none x1 hc)]
      exact x1
    · intro b o eb
      have nb : b ≠ p := ne_of_none eb fp
      rw [upd_ne nb]
      exact ((s6.trans (same_upd (fun _ _ z => z) hr')).trans (same_upd (fun _ _ z => z) hc)) b o eb
    · exact (s6.trans (same_upd (fun _ _ z => z) hr')).free hc
    · intro ec
      have x1 : (upd H6 r (.lst [.int (53 * kk + 11)])) p = some (.dK []) := by
        rw [upd_ne (ne_of_none h6p hr')]
        exact h6p
      rw [← ec, hc] at x1
      cases x1
    · have x1 : c ≠ p := by
        intro ec
        have x1 : (upd H6 r (.lst [.int (53 * kk + 11)])) p = some (.dK []) := by
          rw [upd_ne (ne_of_none h6p hr')]
          exact h6p
        rw [← ec, hc] at x1
        cases x1
      rw [upd_ne x1, upd_same, List.map_append]
      rfl
  · refine ⟨.int sd, rfl, .ref p3, rfl, .int kk, rfl, 53, kk, rfl, rfl, .inl ⟨by decide, by decide⟩, _, 11, rfl, rfl, by show (1 : Nat) ≤ sizeLine; decide, fun r hr' => ⟨p3, r, cs.map V.int, [.int (53 * kk + 11)], rfl, rfl, ?_, upd_same, ?_, fun c hc => ⟨?_, [(kLeft, .int _), (kSeed, .int sd), (kCells, .ref c), (kSpot, .int 0)], rfl, (by show (4 : Nat) ≤ 15; decide), q _ p c _ sd (cs ++ [53 * kk + 11]) ?_ fp ?_ ?_ upd_same ?_ (by simp) e2 e3⟩⟩⟩
    · rw [upd_ne (ne_of_none h63 hr')]
      exact h63
    · rw [List.length_map, sizeLine_eq]
      show cs.length + 1 ≤ _
      omega
    · have x1 : (upd H6 r (.lst [.int (53 * kk + 11)])) p = some (.dK []) := by
        rw [upd_ne (ne_of_none h6p hr')]
        exact h6p
      rw [upd_ne (ne_of_none x1 hc)]
      exact x1
    · intro b o eb
      have nb : b ≠ p := ne_of_none eb fp
      rw [upd_ne nb]
      exact ((s6.trans (same_upd (fun _ _ z => z) hr')).trans (same_upd (fun _ _ z => z) hc)) b o eb
    · exact (s6.trans (same_upd (fun _ _ z => z) hr')).free hc
    · intro ec
      have x1 : (upd H6 r (.lst [.int (53 * kk + 11)])) p = some (.dK []) := by
        rw [upd_ne (ne_of_none h6p hr')]
        exact h6p
      rw [← ec, hc] at x1
      cases x1
    · have x1 : c ≠ p := by
        intro ec
        have x1 : (upd H6 r (.lst [.int (53 * kk + 11)])) p = some (.dK []) := by
          rw [upd_ne (ne_of_none h6p hr')]
          exact h6p
        rw [← ec, hc] at x1
        cases x1
      rw [upd_ne x1, upd_same, List.map_append]
      rfl
theorem ok__law_divides (T : Txt K mg) : FnOk P w K mg base CX0 1 T.a__law_divides T.d__law_divides ["a", "b"] (spD XR0 2 (m__law_divides)) := by
  refine T.f__law_divides.ok sc__law_divides (fun vs H Q E h => h.1) (fun cdv A outer s H vs Q E hr h => ?_)
  have hu := hu_of hr
  have hu64 : (A.deeper (envOfC "_law_divides" (defScope s__law_divides) s.heap.objs.size T.a__law_divides cdv)).units + 64 < cLine := Nat.lt_of_le_of_lt (by omega) hr.un
  have hu65 : (A.deeper (envOfC "_law_divides" (defScope s__law_divides) s.heap.objs.size T.a__law_divides cdv)).units + 65 < cLine := Nat.lt_of_le_of_lt (by omega) hr.un
  have nd := sc__law_divides.nd
  refine ⟨_, (pss_one (ps_ret (pe_cmpR (r := rEqD K) (op_eqD hu64) (pe_lc (own := [("k", 2)]) rfl nd (pi_range1 (by rfl) T.z_range (pa_cons (pe_callB (r := rLenQ K) call_len_seq (by rfl) T.z_len bt_len (pa_cons (pv 0) pa_nil)) pa_nil)) (blkOk_by (N := n__law_divides) (sc := defScope s__law_divides) (by decide +kernel)) (fun _ _ _ _ _ => (pg_name (i := 2) nd rfl (Or.inl rfl))) (fun _ _ _ _ _ => (pts_one (pt_cmpR op_gt (pe_ix (r := rIx K) ix_seq (pv 0) (pv 2) (fun _ _ => rfl)) (pe_ix (r := rIx K) ix_seq (pv 1) (pv 2) (fun _ _ => rfl)) (nomark _)))) (fun _ _ _ _ _ => (pv 2))) (pe_lst pa_nil) (nomark _)))), ?_⟩
  exact den_def (N := n__law_divides) (g := g__law_divides) (XR := XR0) ((dens_ret [] (den_op den_eq (DenN.e (den_lc (den_rng1 (den_cons (den_cb den_len (den_cons (den_var 0) den_nil)) den_nil)) (den_gname 2) rfl (den_test (den_op den_gt (den_op den_ix (den_var 0) (den_var 2)) (den_op den_ix (den_var 1) (den_var 2)))) (den_var 2))) (DenN.e (den_lst den_nil))))) h
theorem ok__law_least (T : Txt K mg) : FnOk P w K mg base CX0 2 T.a__law_least T.d__law_least ["monomials"] (spD XR0 1 (m__law_least)) := by
  refine T.f__law_least.ok sc__law_least (fun vs H Q E h => h.1) (fun cdv A outer s H vs Q E hr h => ?_)
  have hu := hu_of hr
  have hu64 : (A.deeper (envOfC "_law_least" (defScope s__law_least) s.heap.objs.size T.a__law_least cdv)).units + 64 < cLine := Nat.lt_of_le_of_lt (by omega) hr.un
  have hu65 : (A.deeper (envOfC "_law_least" (defScope s__law_least) s.heap.objs.size T.a__law_least cdv)).units + 65 < cLine := Nat.lt_of_le_of_lt (by omega) hr.un
  have nd := sc__law_least.nd
  refine ⟨_, (pss_cons (ps_set (i := 1) nd rfl (Or.inr rfl) (pe_callB (r := rSortedT K P w) (cr_sortedT rfl) (by rfl) T.z_sorted bt_sorted (pa_cons (pe_callTy (r := rSetU K P w) (cr_setU rfl hu64) (by rfl) T.z_set bt_set (pa_cons (pv 0) pa_nil)) pa_nil)))
    (pss_one (ps_ret (pe_callTy (r := rTupleOf K) call_tuple_of (by rfl) T.z_tuple bt_tuple (pa_cons (pe_lc (own := [("a", 2)]) rfl nd (pi_seqK (K := K) rfl (pv 1)) (blkOk_by (N := n__law_least) (sc := defScope s__law_least) (by decide +kernel)) (fun _ _ _ _ _ => (pg_name (i := 2) nd rfl (Or.inr rfl))) (fun _ _ _ _ _ => (pts_one (pt_cmpR (r := rEqD K) (op_eqD hu64) (pe_lc (own := [("b", 3)]) rfl nd (pi_seqK (K := K) rfl (pv 1)) (blkOk_by (N := n__law_least) (sc := (relS c__law_least_0 (defScope s__law_least))) (by decide +kernel)) (fun _ _ _ _ _ => (pg_name (i := 3) nd rfl (Or.inl rfl))) (fun _ _ _ _ _ => (pts_one (PW.pt (pw_and (pt_cmpR (r := rNeD K) (op_neD hu64) (pv 3) (pv 2) (nomark _)) (pw_and1 (pt_val (pe_call (ok__law_divides T) (hr.mono (by decide)) (by rfl) T.m__law_divides T.f__law_divides.kp T.b__law_divides .nil (passE (E := E)) (pa_cons (pv 3) (pa_cons (pv 2) pa_nil))))))))) (fun _ _ _ _ _ => (pv 3))) (pe_lst pa_nil) (nomark _)))) (fun _ _ _ _ _ => (pv 2))) pa_nil))))), ?_⟩
  exact den_def (N := n__law_least) (g := g__law_least) (XR := XR0) ((dens_seq (dens_set 1 [] (DenN.e (den_sortU (den_cons (den_var 0) den_nil))))
    (dens_ret [] (den_cb den_tupleOf (den_cons (DenN.e (den_lc (den_iseq (den_var 1)) (den_gname 2) rfl (den_test (den_op den_eq (DenN.e (den_lc (den_iseq (den_var 1)) (den_gname 3) rfl (den_and (den_test (den_op den_ne (den_var 3) (den_var 2))) (den_tB (den_call (den_cons (den_var 3) (den_cons (den_var 2) den_nil))))) (den_var 3))) (DenN.e (den_lst den_nil)))) (den_var 2))) den_nil))))) h
theorem ok__law_in (T : Txt K mg) : FnOk P w K mg base CX0 2 T.a__law_in T.d__law_in ["generators", "b"] (spD XR0 2 (m__law_in)) := by
  refine T.f__law_in.ok sc__law_in (fun vs H Q E h => h.1) (fun cdv A outer s H vs Q E hr h => ?_)
  have hu := hu_of hr
  have hu64 : (A.deeper (envOfC "_law_in" (defScope s__law_in) s.heap.objs.size T.a__law_in cdv)).units + 64 < cLine := Nat.lt_of_le_of_lt (by omega) hr.un
  have hu65 : (A.deeper (envOfC "_law_in" (defScope s__law_in) s.heap.objs.size T.a__law_in cdv)).units + 65 < cLine := Nat.lt_of_le_of_lt (by omega) hr.un
  have nd := sc__law_in.nd
  refine ⟨_, (pss_one (ps_ret (pe_cmpR (r := rNeD K) (op_neD hu64) (pe_lc (own := [("a", 2)]) rfl nd (pi_seqK (K := K) rfl (pv 0)) (blkOk_by (N := n__law_in) (sc := defScope s__law_in) (by decide +kernel)) (fun _ _ _ _ _ => (pg_name (i := 2) nd rfl (Or.inl rfl))) (fun _ _ _ _ _ => (pts_one (pt_val (pe_call (ok__law_divides T) (hr.mono (by decide)) (by rfl) T.m__law_divides T.f__law_divides.kp T.b__law_divides .nil (passE (E := E)) (pa_cons (pv 2) (pa_cons (pv 1) pa_nil)))))) (fun _ _ _ _ _ => (pv 2))) (pe_lst pa_nil) (nomark _)))), ?_⟩
  exact den_def (N := n__law_in) (g := g__law_in) (XR := XR0) ((dens_ret [] (den_op den_ne (DenN.e (den_lc (den_iseq (den_var 0)) (den_gname 2) rfl (den_tB (den_call (den_cons (den_var 2) (den_cons (den_var 1) den_nil)))) (den_var 2))) (DenN.e (den_lst den_nil))))) h
theorem ok__law_monomial (T : Txt K mg) : FnOk P w K mg base CX0 2 T.a__law_monomial T.d__law_monomial ["m", "n", "top"] (spD XR0 3 (m__law_monomial)) := by
  refine T.f__law_monomial.ok sc__law_monomial (fun vs H Q E h => h.1) (fun cdv A outer s H vs Q E hr h => ?_)
  have hu := hu_of hr
  have hu64 : (A.deeper (envOfC "_law_monomial" (defScope s__law_monomial) s.heap.objs.size T.a__law_monomial cdv)).units + 64 < cLine := Nat.lt_of_le_of_lt (by omega) hr.un
  have hu65 : (A.deeper (envOfC "_law_monomial" (defScope s__law_monomial) s.heap.objs.size T.a__law_monomial cdv)).units + 65 < cLine := Nat.lt_of_le_of_lt (by omega) hr.un
  have nd := sc__law_monomial.nd
  refine ⟨_, (pss_one (ps_ret (pe_callTy (r := rTupleOf K) call_tuple_of (by rfl) T.z_tuple bt_tuple (pa_cons (pe_lc (own := [("k", 3)]) rfl nd (pi_range1 (by rfl) T.z_range (pa_cons (pv 1) pa_nil)) (blkOk_by (N := n__law_monomial) (sc := defScope s__law_monomial) (by decide +kernel)) (fun _ _ _ _ _ => (pg_name (i := 3) nd rfl (Or.inl rfl))) (fun _ _ _ _ _ => pts_nil) (fun _ _ _ _ _ => (pe_ifExp (pt_cmpR op_gt (pe_call (ok__law_draw T) (hr.mono (by decide)) (by rfl) T.m__law_draw T.f__law_draw.kp T.b__law_draw .nil (passE (E := E)) (pa_cons (pv 0) (pa_cons pe_int pa_nil))) pe_int (nomark _)) (pe_call (ok__law_draw T) (hr.mono (by decide)) (by rfl) T.m__law_draw T.f__law_draw.kp T.b__law_draw .nil (passE (E := E)) (pa_cons (pv 0) (pa_cons (pe_op (r := rAddU K) op_addU (pv 2) pe_int) pa_nil))) pe_int))) pa_nil)))), ?_⟩
  exact den_def (N := n__law_monomial) (g := g__law_monomial) (XR := XR0) ((dens_ret [] (den_cb den_tupleOf (den_cons (DenN.e (den_lc (den_rng1 (den_cons (den_var 1) den_nil)) (den_gname 3) rfl den_yes (den_if (den_test (den_op den_gt (den_draw (den_cons (den_var 0) (den_cons (den_int 3) den_nil))) (den_int 0))) (den_draw (den_cons (den_var 0) (den_cons (den_op den_addU (den_var 2) (den_int 1)) den_nil))) (den_int 0)))) den_nil)))) h
theorem ok__law_ideal (T : Txt K mg) : FnOk P w K mg base CX0 3 T.a__law_ideal T.d__law_ideal ["m", "n", "count", "top"] (spD XR0 4 (m__law_ideal)) := by
  refine T.f__law_ideal.ok sc__law_ideal (fun vs H Q E h => h.1) (fun cdv A outer s H vs Q E hr h => ?_)
  have hu := hu_of hr
  have hu64 : (A.deeper (envOfC "_law_ideal" (defScope s__law_ideal) s.heap.objs.size T.a__law_ideal cdv)).units + 64 < cLine := Nat.lt_of_le_of_lt (by omega) hr.un
  have hu65 : (A.deeper (envOfC "_law_ideal" (defScope s__law_ideal) s.heap.objs.size T.a__law_ideal cdv)).units + 65 < cLine := Nat.lt_of_le_of_lt (by omega) hr.un
  have nd := sc__law_ideal.nd
  refine ⟨_, (pss_cons (ps_setLc (i := 4) (own := [("k", 5)]) rfl nd rfl rfl (sw_true rfl rfl rfl (by decide +kernel)) (pi_range1 (by rfl) T.z_range (pa_cons (pe_call (ok__law_draw T) (hr.mono (by decide)) (by rfl) T.m__law_draw T.f__law_draw.kp T.b__law_draw .nil (passE (E := E)) (pa_cons (pv 0) (pa_cons (pe_op (r := rAddU K) op_addU (pv 2) pe_int) pa_nil))) pa_nil)) (blkOk_by (N := n__law_ideal) (sc := defScope s__law_ideal) (by decide +kernel)) (fun _ _ _ _ _ => (pg_name (i := 5) nd rfl (Or.inl rfl))) (fun _ _ _ _ _ => pts_nil) (fun _ _ _ _ _ => (pe_call (ok__law_monomial T) (hr.mono (by decide)) (by rfl) T.m__law_monomial T.f__law_monomial.kp T.b__law_monomial .nil (passE (E := E)) (pa_cons (pv 0) (pa_cons (pv 1) (pa_cons (pv 3) pa_nil))))))
    (pss_one (ps_ret (pe_tup (pa_cons (pv 1) (pa_cons (pe_call (ok__law_least T) (hr.mono (by decide)) (by rfl) T.m__law_least T.f__law_least.kp T.b__law_least .nil (passE (E := E)) (pa_cons (pe_lc (own := [("a", 6)]) rfl nd (pi_seqK (K := K) rfl (pv 4)) (blkOk_by (N := n__law_ideal) (sc := defScope s__law_ideal) (by decide +kernel)) (fun _ _ _ _ _ => (pg_name (i := 6) nd rfl (Or.inl rfl))) (fun _ _ _ _ _ => (pts_one (pt_cmpR op_gt (pe_callB (r := rSumI K) (cr_sumI rfl) (by rfl) T.z_sum bt_sum (pa_cons (pv 6) pa_nil)) pe_int (nomark _)))) (fun _ _ _ _ _ => (pv 6))) pa_nil)) pa_nil)))))), ?_⟩
  exact den_def (N := n__law_ideal) (g := g__law_ideal) (XR := XR0) ((dens_seq (dens_set 4 [] (DenN.e (den_lc (den_rng1 (den_cons (den_draw (den_cons (den_var 0) (den_cons (den_op den_addU (den_var 2) (den_int 1)) den_nil))) den_nil)) (den_gname 5) rfl den_yes (den_call (den_cons (den_var 0) (den_cons (den_var 1) (den_cons (den_var 3) den_nil)))))))
    (dens_ret [] (den_tup (den_cons (den_var 1) (den_cons (den_call (den_cons (DenN.e (den_lc (den_iseq (den_var 4)) (den_gname 6) rfl (den_test (den_op den_gt (den_cb den_sum (den_cons (den_var 6) den_nil)) (den_int 0))) (den_var 6))) den_nil)) den_nil)))))) h
theorem ok__law_box (T : Txt K mg) : FnOk P w K mg base CX0 1 T.a__law_box T.d__law_box ["tops"] (spD XR0 1 (m__law_box)) := by
  refine T.f__law_box.ok sc__law_box (fun vs H Q E h => h.1) (fun cdv A outer s H vs Q E hr h => ?_)
  have hu := hu_of hr
  have hu64 : (A.deeper (envOfC "_law_box" (defScope s__law_box) s.heap.objs.size T.a__law_box cdv)).units + 64 < cLine := Nat.lt_of_le_of_lt (by omega) hr.un
  have hu65 : (A.deeper (envOfC "_law_box" (defScope s__law_box) s.heap.objs.size T.a__law_box cdv)).units + 65 < cLine := Nat.lt_of_le_of_lt (by omega) hr.un
  have nd := sc__law_box.nd
  refine ⟨_, (pss_cons (ps_set (i := 1) nd rfl (Or.inl rfl) (pe_lst (pa_cons (pe_tup pa_nil) pa_nil)))
    (pss_cons (ps_for PassesOwn.never rfl (pi_seqK (K := K) rfl (pv 0)) (pg_name (i := 2) nd rfl (Or.inl rfl))
    (pss_cons (ps_set (i := 3) nd rfl (Or.inl rfl) (pe_lst pa_nil))
    (pss_cons (ps_for PassesOwn.never rfl (pi_seqK (K := K) rfl (pv 1)) (pg_name (i := 4) nd rfl (Or.inr rfl))
    (pss_one (ps_expr (pe_bm PySem.F.plainAttrs_list PySem.F.slot_list_extend PySem.F.type_list_extend mt_extend (pv 3) (pa_cons (pe_lc (own := [("k", 5)]) rfl nd (pi_range1 (by rfl) T.z_range (pa_cons (pe_op (r := rAddU K) op_addU (pv 2) pe_int) pa_nil)) (blkOk_by (N := n__law_box) (sc := defScope s__law_box) (by decide +kernel)) (fun _ _ _ _ _ => (pg_name (i := 5) nd rfl (Or.inl rfl))) (fun _ _ _ _ _ => pts_nil) (fun _ _ _ _ _ => (pe_op (r := rAddU K) op_addU (pv 4) (pe_tup (pa_cons (pv 5) pa_nil))))) pa_nil)))))
    (pss_one (ps_set (i := 1) nd rfl (Or.inl rfl) (pv 3))))))
    (pss_one (ps_ret (pv 1))))), ?_⟩
  exact den_def (N := n__law_box) (g := g__law_box) (XR := XR0) ((dens_seq (dens_set 1 [] (DenN.e (den_lst (den_cons (den_tup den_nil) den_nil))))
    (dens_seq (dens_for [] (den_iseq (den_var 0)) (dengs_name 2)
    (dens_seq (dens_setN 3 [] (den_lst den_nil))
    (dens_seq (dens_for [] (den_iseq (den_var 1)) (dengs_name 4)
    (dens_meth 3 [] denm_extend (den_cons (DenN.e (den_lc (den_rng1 (den_cons (den_op den_addU (den_var 2) (den_int 1)) den_nil)) (den_gname 5) rfl den_yes (den_op den_addU (den_var 4) (den_tup (den_cons (den_var 5) den_nil))))) den_nil)))
    (dens_set 1 [3] (den_var 3)))))
    (dens_ret [] (den_var 1))))) h
theorem ok__law_table (T : Txt K mg) : FnOk P w K mg base CX0 3 T.a__law_table T.d__law_table ["n", "rows"] (spD XR0 2 (m__law_table)) := by
  refine T.f__law_table.ok sc__law_table (fun vs H Q E h => h.1) (fun cdv A outer s H vs Q E hr h => ?_)
  have hu := hu_of hr
  have hu64 : (A.deeper (envOfC "_law_table" (defScope s__law_table) s.heap.objs.size T.a__law_table cdv)).units + 64 < cLine := Nat.lt_of_le_of_lt (by omega) hr.un
  have hu65 : (A.deeper (envOfC "_law_table" (defScope s__law_table) s.heap.objs.size T.a__law_table cdv)).units + 65 < cLine := Nat.lt_of_le_of_lt (by omega) hr.un
  have nd := sc__law_table.nd
  refine ⟨_, (pss_cons (ps_set (i := 2) nd rfl (Or.inl rfl) pe_dnewT)
    (pss_cons (ps_for PassesOwn.never rfl (pi_seqK (K := K) rfl (pe_call (ok__law_box T) (hr.mono (by decide)) (by rfl) T.m__law_box T.f__law_box.kp T.b__law_box .nil (passE (E := E)) (pa_cons (pe_op (r := rMulU K) op_mulU (pe_tup (pa_cons pe_int pa_nil)) (pv 0)) pa_nil))) (pg_name (i := 3) nd rfl (Or.inl rfl))
    (pss_one (ps_dput hu (pv 2) (pv 3) (pe_call (ok__law_in T) (hr.mono (by decide)) (by rfl) T.m__law_in T.f__law_in.kp T.b__law_in .nil (passE (E := E)) (pa_cons (pv 1) (pa_cons (pv 3) pa_nil))) rfl)))
    (pss_one (ps_ret (pv 2))))), ?_⟩
  exact den_def (N := n__law_table) (g := g__law_table) (XR := XR0) ((dens_seq (dens_setN 2 [] den_newT)
    (dens_seq (dens_for [] (den_iseq (den_call (den_cons (den_op den_mulU (den_tup (den_cons (den_int 3) den_nil)) (den_var 0)) den_nil))) (dengs_name 3)
    (dens_dput 2 [] (den_call (den_cons (den_var 1) (den_cons (den_var 3) den_nil))) (den_var 3)))
    (dens_retV 2)))) h
theorem ok_divides (T : Txt K mg) : FnOk P w K mg base CX0 1 T.a_divides T.d_divides ["a", "b"] (spD XR0 2 (m_divides)) := by
  refine T.f_divides.ok sc_divides (fun vs H Q E h => h.1) (fun cdv A outer s H vs Q E hr h => ?_)
  have hu := hu_of hr
  have hu64 : (A.deeper (envOfC "divides" (defScope s_divides) s.heap.objs.size T.a_divides cdv)).units + 64 < cLine := Nat.lt_of_le_of_lt (by omega) hr.un
  have hu65 : (A.deeper (envOfC "divides" (defScope s_divides) s.heap.objs.size T.a_divides cdv)).units + 65 < cLine := Nat.lt_of_le_of_lt (by omega) hr.un
  have nd := sc_divides.nd
  refine ⟨_, (pss_cons (ps_for PassesOwn.never rfl (pi_zipK (K := K) rfl (by rfl) T.z_zip (pa_cons (pv 0) (pa_cons (pv 1) pa_nil))) (pg_tupK (K := K) (n := 2) rfl rfl (pgs_cons (pg_name (i := 2) nd rfl (Or.inl rfl)) (pgs_cons (pg_name (i := 3) nd rfl (Or.inl rfl)) pgs_nil)))
    (pss_one (ps_if (pt_cmpR op_gt (pv 2) (pv 3) (nomark _))
    (pss_one (ps_ret pe_bl))
    pss_nil)))
    (pss_one (ps_ret pe_bl))), ?_⟩
  exact den_def (N := n_divides) (g := g_divides) (XR := XR0) ((dens_seq (dens_for [] (den_zip (den_cons (den_var 0) (den_cons (den_var 1) den_nil))) (dengs_tup [2, 3])
    (dens_if [] (den_test (den_op den_gt (den_var 2) (den_var 3)))
    (dens_ret [] (den_bl false))
    dens_skip))
    (dens_ret [] (den_bl true)))) h
theorem ok_least_ones (T : Txt K mg) : FnOk P w K mg base CX0 2 T.a_least_ones T.d_least_ones ["monomials"] (spD XR0 1 (m_least_ones)) := by
  refine T.f_least_ones.ok sc_least_ones (fun vs H Q E h => h.1) (fun cdv A outer s H vs Q E hr h => ?_)
  have hu := hu_of hr
  have hu64 : (A.deeper (envOfC "least_ones" (defScope s_least_ones) s.heap.objs.size T.a_least_ones cdv)).units + 64 < cLine := Nat.lt_of_le_of_lt (by omega) hr.un
  have hu65 : (A.deeper (envOfC "least_ones" (defScope s_least_ones) s.heap.objs.size T.a_least_ones cdv)).units + 65 < cLine := Nat.lt_of_le_of_lt (by omega) hr.un
  have nd := sc_least_ones.nd
  refine ⟨_, (pss_cons (ps_set (i := 1) nd rfl (Or.inl rfl) (pe_lst pa_nil))
    (pss_cons (ps_for PassesOwn.never rfl (pi_seqK (K := K) rfl (pe_callB (r := rSortedT K P w) (cr_sortedT rfl) (by rfl) T.z_sorted bt_sorted (pa_cons (pe_callTy (r := rSetU K P w) (cr_setU rfl hu64) (by rfl) T.z_set bt_set (pa_cons (pv 0) pa_nil)) pa_nil))) (pg_name (i := 2) nd rfl (Or.inr rfl))
    (pss_one (ps_if (pt_not (pt_val (pe_callB (r := rAny K) (cr_any rfl) (by rfl) T.z_any bt_any (pa_cons (pe_lc (own := [("other", 3)]) rfl nd (pi_seqK (K := K) rfl (pv 1)) (blkOk_by (N := n_least_ones) (sc := defScope s_least_ones) (by decide +kernel)) (fun _ _ _ _ _ => (pg_name (i := 3) nd rfl (Or.inl rfl))) (fun _ _ _ _ _ => pts_nil) (fun _ _ _ _ _ => (pe_call (ok_divides T) (hr.mono (by decide)) (by rfl) T.m_divides T.f_divides.kp T.b_divides .nil (passE (E := E)) (pa_cons (pv 3) (pa_cons (pv 2) pa_nil))))) pa_nil))))
    (pss_one (ps_expr (pe_bm PySem.F.plainAttrs_list PySem.F.slot_list_append PySem.F.type_list_append mt_append (pv 1) (pa_cons (pv 2) pa_nil))))
    pss_nil)))
    (pss_one (ps_ret (pv 1))))), ?_⟩
  exact den_def (N := n_least_ones) (g := g_least_ones) (XR := XR0) ((dens_seq (dens_setN 1 [] (den_lst den_nil))
    (dens_seq (dens_for [] (den_iseq (DenN.e (den_sortU (den_cons (den_var 0) den_nil)))) (dengs_name 2)
    (dens_if [1] (den_not (den_tB (den_cb den_any (den_cons (DenN.e (den_lc (den_iseq (den_var 1)) (den_gname 3) rfl den_yes (den_call (den_cons (den_var 3) (den_cons (den_var 2) den_nil))))) den_nil))))
    (dens_meth 1 [] denm_append (den_cons (den_var 2) den_nil))
    dens_skip))
    (dens_retV 1)))) h
theorem ok_made (T : Txt K mg) : FnOk P w K mg base CX0 3 T.a_made T.d_made ["n", "monomials"] (spD XR0 2 (m_made)) := by
  refine T.f_made.ok sc_made (fun vs H Q E h => h.1) (fun cdv A outer s H vs Q E hr h => ?_)
  have hu := hu_of hr
  have hu64 : (A.deeper (envOfC "made" (defScope s_made) s.heap.objs.size T.a_made cdv)).units + 64 < cLine := Nat.lt_of_le_of_lt (by omega) hr.un
  have hu65 : (A.deeper (envOfC "made" (defScope s_made) s.heap.objs.size T.a_made cdv)).units + 65 < cLine := Nat.lt_of_le_of_lt (by omega) hr.un
  have nd := sc_made.nd
  refine ⟨_, (pss_cons (ps_set (i := 2) nd rfl (Or.inl rfl) (pe_call (ok_least_ones T) (hr.mono (by decide)) (by rfl) T.m_least_ones T.f_least_ones.kp T.b_least_ones .nil (passE (E := E)) (pa_cons (pv 1) pa_nil)))
    (pss_cons (ps_if (pt_cmpR op_gt (pe_callB (r := rLenQ K) call_len_seq (by rfl) T.z_len bt_len (pa_cons (pv 2) pa_nil)) (pe_glob (v := .int 60) rfl T.c_MOST_GENERATORS ⟨_, rfl⟩) (nomark _))
    pss_never
    pss_nil)
    (pss_cons (ps_for PassesOwn.never rfl (pi_seqK (K := K) rfl (pv 2)) (pg_name (i := 3) nd rfl (Or.inl rfl))
    (pss_one (ps_if (pt_cmpR op_gt (pe_callB (r := rMaxI K) (cr_maxI rfl hu64) (by rfl) T.z_max bt_max (pa_cons (pv 3) pa_nil)) (pe_glob (v := .int 60) rfl T.c_MOST_EXPONENT ⟨_, rfl⟩) (nomark _))
    pss_never
    pss_nil)))
    (pss_one (ps_ret (pe_tup (pa_cons (pv 0) (pa_cons (pe_callTy (r := rTupleOf K) call_tuple_of (by rfl) T.z_tuple bt_tuple (pa_cons (pv 2) pa_nil)) pa_nil)))))))), ?_⟩
  exact den_def (N := n_made) (g := g_made) (XR := XR0) ((dens_seq (dens_set 2 [] (den_call (den_cons (den_var 1) den_nil)))
    (dens_seq (dens_if [] (den_test (den_op den_gt (den_cb den_len (den_cons (den_var 2) den_nil)) (den_int 60)))
    dens_never
    dens_skip)
    (dens_seq (dens_for [] (den_iseq (den_var 2)) (dengs_name 3)
    (dens_if [] (den_test (den_op den_gt (den_cb den_max1 (den_cons (den_var 3) den_nil)) (den_int 60)))
    dens_never
    dens_skip))
    (dens_ret [] (den_tup (den_cons (den_var 0) (den_cons (den_cb den_tupleOf (den_cons (den_var 2) den_nil)) den_nil)))))))) h
theorem ok_sum_of (T : Txt K mg) : FnOk P w K mg base CX0 4 T.a_sum_of T.d_sum_of ["a", "b"] (spD XR0 2 (m_sum_of)) := by
  refine T.f_sum_of.ok sc_sum_of (fun vs H Q E h => h.1) (fun cdv A outer s H vs Q E hr h => ?_)
  have hu := hu_of hr
  have hu64 : (A.deeper (envOfC "sum_of" (defScope s_sum_of) s.heap.objs.size T.a_sum_of cdv)).units + 64 < cLine := Nat.lt_of_le_of_lt (by omega) hr.un
  have hu65 : (A.deeper (envOfC "sum_of" (defScope s_sum_of) s.heap.objs.size T.a_sum_of cdv)).units + 65 < cLine := Nat.lt_of_le_of_lt (by omega) hr.un
  have nd := sc_sum_of.nd
  refine ⟨_, (pss_one (ps_ret (pe_call (ok_made T) (hr.mono (by decide)) (by rfl) T.m_made T.f_made.kp T.b_made .nil (passE (E := E)) (pa_cons (pe_ix (r := rIx K) ix_seq (pv 0) pe_int (fun _ _ => rfl)) (pa_cons (pe_callTy (r := rListOf K) call_list_of (by rfl) T.z_list bt_list (pa_cons (pe_op (r := rAddU K) op_addU (pe_ix (r := rIx K) ix_seq (pv 0) pe_int (fun _ _ => rfl)) (pe_ix (r := rIx K) ix_seq (pv 1) pe_int (fun _ _ => rfl))) pa_nil)) pa_nil))))), ?_⟩
  exact den_def (N := n_sum_of) (g := g_sum_of) (XR := XR0) ((dens_ret [] (den_call (den_cons (den_op den_ix (den_var 0) (den_int 0)) (den_cons (DenN.e (den_cbN den_listOf (den_cons (den_op den_addU (den_op den_ix (den_var 0) (den_int 1)) (den_op den_ix (den_var 1) (den_int 1))) den_nil))) den_nil))))) h
theorem ok_lcm_of (T : Txt K mg) : FnOk P w K mg base CX0 1 T.a_lcm_of T.d_lcm_of ["a", "b"] (spD XR0 2 (m_lcm_of)) := by
  refine T.f_lcm_of.ok sc_lcm_of (fun vs H Q E h => h.1) (fun cdv A outer s H vs Q E hr h => ?_)
  have hu := hu_of hr
  have hu64 : (A.deeper (envOfC "lcm_of" (defScope s_lcm_of) s.heap.objs.size T.a_lcm_of cdv)).units + 64 < cLine := Nat.lt_of_le_of_lt (by omega) hr.un
  have hu65 : (A.deeper (envOfC "lcm_of" (defScope s_lcm_of) s.heap.objs.size T.a_lcm_of cdv)).units + 65 < cLine := Nat.lt_of_le_of_lt (by omega) hr.un
  have nd := sc_lcm_of.nd
  refine ⟨_, (pss_one (ps_ret (pe_callTy (r := rTupleOf K) call_tuple_of (by rfl) T.z_tuple bt_tuple (pa_cons (pe_lc (own := [("one", 2), ("other", 3)]) rfl nd (pi_zipK (K := K) rfl (by rfl) T.z_zip (pa_cons (pv 0) (pa_cons (pv 1) pa_nil))) (blkOk_by (N := n_lcm_of) (sc := defScope s_lcm_of) (by decide +kernel)) (fun _ _ _ _ _ => (pg_tupK (K := K) (n := 2) rfl rfl (pgs_cons (pg_name (i := 2) nd rfl (Or.inl rfl)) (pgs_cons (pg_name (i := 3) nd rfl (Or.inl rfl)) pgs_nil)))) (fun _ _ _ _ _ => pts_nil) (fun _ _ _ _ _ => (pe_callB (call_max2 rfl) (by rfl) T.z_max bt_max (pa_cons (pv 2) (pa_cons (pv 3) pa_nil))))) pa_nil)))), ?_⟩
  exact den_def (N := n_lcm_of) (g := g_lcm_of) (XR := XR0) ((dens_ret [] (den_cb den_tupleOf (den_cons (DenN.e (den_lc (den_zip (den_cons (den_var 0) (den_cons (den_var 1) den_nil))) (den_gtup [2, 3]) rfl den_yes (den_cb den_max2 (den_cons (den_var 2) (den_cons (den_var 3) den_nil))))) den_nil)))) h
theorem ok_meet_of (T : Txt K mg) : FnOk P w K mg base CX0 4 T.a_meet_of T.d_meet_of ["a", "b"] (spD XR0 2 (m_meet_of)) := by
  refine T.f_meet_of.ok sc_meet_of (fun vs H Q E h => h.1) (fun cdv A outer s H vs Q E hr h => ?_)
  have hu := hu_of hr
  have hu64 : (A.deeper (envOfC "meet_of" (defScope s_meet_of) s.heap.objs.size T.a_meet_of cdv)).units + 64 < cLine := Nat.lt_of_le_of_lt (by omega) hr.un
  have hu65 : (A.deeper (envOfC "meet_of" (defScope s_meet_of) s.heap.objs.size T.a_meet_of cdv)).units + 65 < cLine := Nat.lt_of_le_of_lt (by omega) hr.un
  have nd := sc_meet_of.nd
  refine ⟨_, (pss_one (ps_ret (pe_call (ok_made T) (hr.mono (by decide)) (by rfl) T.m_made T.f_made.kp T.b_made .nil (passE (E := E)) (pa_cons (pe_ix (r := rIx K) ix_seq (pv 0) pe_int (fun _ _ => rfl)) (pa_cons (pe_lc2 (own := [("one", 2), ("other", 3)]) (vs1 := [3]) rfl nd (pi_seqK (K := K) rfl (pe_ix (r := rIx K) ix_seq (pv 0) pe_int (fun _ _ => rfl))) (blkOk_by (N := n_meet_of) (sc := defScope s_meet_of) (by decide +kernel)) (by decide) (fun _ _ _ _ _ => (pg_name (i := 2) nd rfl (Or.inl rfl))) (fun _ _ _ _ _ => pts_nil) (fun _ _ _ _ _ => (pi_seqK (K := K) rfl (pe_ix (r := rIx K) ix_seq (pv 1) pe_int (fun _ _ => rfl)))) (fun _ _ _ _ _ => (pg_name (i := 3) nd rfl (Or.inl rfl))) (fun _ _ _ _ _ => pts_nil) (fun _ _ _ _ _ => (pe_call (ok_lcm_of T) (hr.mono (by decide)) (by rfl) T.m_lcm_of T.f_lcm_of.kp T.b_lcm_of .nil (passE (E := E)) (pa_cons (pv 2) (pa_cons (pv 3) pa_nil))))) pa_nil))))), ?_⟩
  exact den_def (N := n_meet_of) (g := g_meet_of) (XR := XR0) ((dens_ret [] (den_call (den_cons (den_op den_ix (den_var 0) (den_int 0)) (den_cons (DenN.e (den_lc2 (den_iseq (den_op den_ix (den_var 0) (den_int 1))) (den_gname 2) rfl den_yes (den_iseq (den_op den_ix (den_var 1) (den_int 1))) (den_gname 3) rfl den_yes (den_call (den_cons (den_var 2) (den_cons (den_var 3) den_nil))))) den_nil))))) h
theorem ok_cut (T : Txt K mg) : FnOk P w K mg base CX0 1 T.a_cut T.d_cut ["a", "b"] (spD XR0 2 (m_cut)) := by
  refine T.f_cut.ok sc_cut (fun vs H Q E h => h.1) (fun cdv A outer s H vs Q E hr h => ?_)
  have hu := hu_of hr
  have hu64 : (A.deeper (envOfC "cut" (defScope s_cut) s.heap.objs.size T.a_cut cdv)).units + 64 < cLine := Nat.lt_of_le_of_lt (by omega) hr.un
  have hu65 : (A.deeper (envOfC "cut" (defScope s_cut) s.heap.objs.size T.a_cut cdv)).units + 65 < cLine := Nat.lt_of_le_of_lt (by omega) hr.un
  have nd := sc_cut.nd
  refine ⟨_, (pss_one (ps_ret (pe_callTy (r := rTupleOf K) call_tuple_of (by rfl) T.z_tuple bt_tuple (pa_cons (pe_lc (own := [("one", 2), ("other", 3)]) rfl nd (pi_zipK (K := K) rfl (by rfl) T.z_zip (pa_cons (pv 0) (pa_cons (pv 1) pa_nil))) (blkOk_by (N := n_cut) (sc := defScope s_cut) (by decide +kernel)) (fun _ _ _ _ _ => (pg_tupK (K := K) (n := 2) rfl rfl (pgs_cons (pg_name (i := 2) nd rfl (Or.inl rfl)) (pgs_cons (pg_name (i := 3) nd rfl (Or.inl rfl)) pgs_nil)))) (fun _ _ _ _ _ => pts_nil) (fun _ _ _ _ _ => (pe_callB (call_max2 rfl) (by rfl) T.z_max bt_max (pa_cons (pe_op op_sub (pv 2) (pv 3)) (pa_cons pe_int pa_nil))))) pa_nil)))), ?_⟩
  exact den_def (N := n_cut) (g := g_cut) (XR := XR0) ((dens_ret [] (den_cb den_tupleOf (den_cons (DenN.e (den_lc (den_zip (den_cons (den_var 0) (den_cons (den_var 1) den_nil))) (den_gtup [2, 3]) rfl den_yes (den_cb den_max2 (den_cons (den_op den_sub (den_var 2) (den_var 3)) (den_cons (den_int 0) den_nil))))) den_nil)))) h
theorem ok_colon_by (T : Txt K mg) : FnOk P w K mg base CX0 4 T.a_colon_by T.d_colon_by ["ideal", "monomial"] (spD XR0 2 (m_colon_by)) := by
  refine T.f_colon_by.ok sc_colon_by (fun vs H Q E h => h.1) (fun cdv A outer s H vs Q E hr h => ?_)
  have hu := hu_of hr
  have hu64 : (A.deeper (envOfC "colon_by" (defScope s_colon_by) s.heap.objs.size T.a_colon_by cdv)).units + 64 < cLine := Nat.lt_of_le_of_lt (by omega) hr.un
  have hu65 : (A.deeper (envOfC "colon_by" (defScope s_colon_by) s.heap.objs.size T.a_colon_by cdv)).units + 65 < cLine := Nat.lt_of_le_of_lt (by omega) hr.un
  have nd := sc_colon_by.nd
  refine ⟨_, (pss_one (ps_ret (pe_call (ok_made T) (hr.mono (by decide)) (by rfl) T.m_made T.f_made.kp T.b_made .nil (passE (E := E)) (pa_cons (pe_ix (r := rIx K) ix_seq (pv 0) pe_int (fun _ _ => rfl)) (pa_cons (pe_lc (own := [("generator", 2)]) rfl nd (pi_seqK (K := K) rfl (pe_ix (r := rIx K) ix_seq (pv 0) pe_int (fun _ _ => rfl))) (blkOk_by (N := n_colon_by) (sc := defScope s_colon_by) (by decide +kernel)) (fun _ _ _ _ _ => (pg_name (i := 2) nd rfl (Or.inl rfl))) (fun _ _ _ _ _ => pts_nil) (fun _ _ _ _ _ => (pe_call (ok_cut T) (hr.mono (by decide)) (by rfl) T.m_cut T.f_cut.kp T.b_cut .nil (passE (E := E)) (pa_cons (pv 2) (pa_cons (pv 1) pa_nil))))) pa_nil))))), ?_⟩
  exact den_def (N := n_colon_by) (g := g_colon_by) (XR := XR0) ((dens_ret [] (den_call (den_cons (den_op den_ix (den_var 0) (den_int 0)) (den_cons (DenN.e (den_lc (den_iseq (den_op den_ix (den_var 0) (den_int 1))) (den_gname 2) rfl den_yes (den_call (den_cons (den_var 2) (den_cons (den_var 1) den_nil))))) den_nil))))) h
theorem ok_saturated (T : Txt K mg) : FnOk P w K mg base CX0 4 T.a_saturated T.d_saturated ["ideal", "variable"] (spD XR0 2 (m_saturated)) := by
  refine T.f_saturated.ok sc_saturated (fun vs H Q E h => h.1) (fun cdv A outer s H vs Q E hr h => ?_)
  have hu := hu_of hr
  have hu64 : (A.deeper (envOfC "saturated" (defScope s_saturated) s.heap.objs.size T.a_saturated cdv)).units + 64 < cLine := Nat.lt_of_le_of_lt (by omega) hr.un
  have hu65 : (A.deeper (envOfC "saturated" (defScope s_saturated) s.heap.objs.size T.a_saturated cdv)).units + 65 < cLine := Nat.lt_of_le_of_lt (by omega) hr.un
  have nd := sc_saturated.nd
  refine ⟨_, (pss_one (ps_ret (pe_call (ok_made T) (hr.mono (by decide)) (by rfl) T.m_made T.f_made.kp T.b_made .nil (passE (E := E)) (pa_cons (pe_ix (r := rIx K) ix_seq (pv 0) pe_int (fun _ _ => rfl)) (pa_cons (pe_lc (own := [("monomial", 2)]) rfl nd (pi_seqK (K := K) rfl (pe_ix (r := rIx K) ix_seq (pv 0) pe_int (fun _ _ => rfl))) (blkOk_by (N := n_saturated) (sc := defScope s_saturated) (by decide +kernel)) (fun _ _ _ _ _ => (pg_name (i := 2) nd rfl (Or.inl rfl))) (fun _ _ _ _ _ => pts_nil) (fun _ _ _ _ _ => (pe_op (r := rAddU K) op_addU (pe_op (r := rAddU K) op_addU (pe_slice (r := rSlU K) sl_U (pv 2) po_none (po_some (pv 1))) (pe_tup (pa_cons pe_int pa_nil))) (pe_slice (r := rSlU K) sl_U (pv 2) (po_some (pe_op (r := rAddU K) op_addU (pv 1) pe_int)) po_none)))) pa_nil))))), ?_⟩
  exact den_def (N := n_saturated) (g := g_saturated) (XR := XR0) ((dens_ret [] (den_call (den_cons (den_op den_ix (den_var 0) (den_int 0)) (den_cons (DenN.e (den_lc (den_iseq (den_op den_ix (den_var 0) (den_int 1))) (den_gname 2) rfl den_yes (den_op den_addU (den_op den_addU (den_sl (den_var 2) den_noPart (den_part (den_var 1))) (den_tup (den_cons (den_int 0) den_nil))) (den_sl (den_var 2) (den_part (den_op den_addU (den_var 1) (den_int 1))) den_noPart)))) den_nil))))) h
theorem ok_radical_of (T : Txt K mg) : FnOk P w K mg base CX0 4 T.a_radical_of T.d_radical_of ["ideal"] (spD XR0 1 (m_radical_of)) := by
  refine T.f_radical_of.ok sc_radical_of (fun vs H Q E h => h.1) (fun cdv A outer s H vs Q E hr h => ?_)
  have hu := hu_of hr
  have hu64 : (A.deeper (envOfC "radical_of" (defScope s_radical_of) s.heap.objs.size T.a_radical_of cdv)).units + 64 < cLine := Nat.lt_of_le_of_lt (by omega) hr.un
  have hu65 : (A.deeper (envOfC "radical_of" (defScope s_radical_of) s.heap.objs.size T.a_radical_of cdv)).units + 65 < cLine := Nat.lt_of_le_of_lt (by omega) hr.un
  have nd := sc_radical_of.nd
  refine ⟨_, (pss_one (ps_ret (pe_call (ok_made T) (hr.mono (by decide)) (by rfl) T.m_made T.f_made.kp T.b_made .nil (passE (E := E)) (pa_cons (pe_ix (r := rIx K) ix_seq (pv 0) pe_int (fun _ _ => rfl)) (pa_cons (pe_lc (own := [("monomial", 1)]) rfl nd (pi_seqK (K := K) rfl (pe_ix (r := rIx K) ix_seq (pv 0) pe_int (fun _ _ => rfl))) (blkOk_by (N := n_radical_of) (sc := defScope s_radical_of) (by decide +kernel)) (fun _ _ _ _ _ => (pg_name (i := 1) nd rfl (Or.inl rfl))) (fun _ _ _ _ _ => pts_nil) (fun _ _ _ _ _ => (pe_callTy (r := rTupleOf K) call_tuple_of (by rfl) T.z_tuple bt_tuple (pa_cons (pe_lc (own := [("exponent", 2)]) rfl nd (pi_seqK (K := K) rfl (pv 1)) (blkOk_by (N := n_radical_of) (sc := (relS c_radical_of_0 (defScope s_radical_of))) (by decide +kernel)) (fun _ _ _ _ _ => (pg_name (i := 2) nd rfl (Or.inl rfl))) (fun _ _ _ _ _ => pts_nil) (fun _ _ _ _ _ => (pe_callB (call_min2 rfl) (by rfl) T.z_min bt_min (pa_cons (pv 2) (pa_cons pe_int pa_nil))))) pa_nil)))) pa_nil))))), ?_⟩
  exact den_def (N := n_radical_of) (g := g_radical_of) (XR := XR0) ((dens_ret [] (den_call (den_cons (den_op den_ix (den_var 0) (den_int 0)) (den_cons (DenN.e (den_lc (den_iseq (den_op den_ix (den_var 0) (den_int 1))) (den_gname 1) rfl den_yes (den_cb den_tupleOf (den_cons (DenN.e (den_lc (den_iseq (den_var 1)) (den_gname 2) rfl den_yes (den_cb den_min2 (den_cons (den_var 2) (den_cons (den_int 1) den_nil))))) den_nil)))) den_nil))))) h
theorem ok_permuted (T : Txt K mg) : FnOk P w K mg base CX0 4 T.a_permuted T.d_permuted ["ideal", "listing"] (spD XR0 2 (m_permuted)) := by
  refine T.f_permuted.ok sc_permuted (fun vs H Q E h => h.1) (fun cdv A outer s H vs Q E hr h => ?_)
  have hu := hu_of hr
  have hu64 : (A.deeper (envOfC "permuted" (defScope s_permuted) s.heap.objs.size T.a_permuted cdv)).units + 64 < cLine := Nat.lt_of_le_of_lt (by omega) hr.un
  have hu65 : (A.deeper (envOfC "permuted" (defScope s_permuted) s.heap.objs.size T.a_permuted cdv)).units + 65 < cLine := Nat.lt_of_le_of_lt (by omega) hr.un
  have nd := sc_permuted.nd
  refine ⟨_, (pss_one (ps_ret (pe_call (ok_made T) (hr.mono (by decide)) (by rfl) T.m_made T.f_made.kp T.b_made .nil (passE (E := E)) (pa_cons (pe_ix (r := rIx K) ix_seq (pv 0) pe_int (fun _ _ => rfl)) (pa_cons (pe_lc (own := [("monomial", 2)]) rfl nd (pi_seqK (K := K) rfl (pe_ix (r := rIx K) ix_seq (pv 0) pe_int (fun _ _ => rfl))) (blkOk_by (N := n_permuted) (sc := defScope s_permuted) (by decide +kernel)) (fun _ _ _ _ _ => (pg_name (i := 2) nd rfl (Or.inr rfl))) (fun _ _ _ _ _ => pts_nil) (fun _ _ _ _ _ => (pe_callTy (r := rTupleOf K) call_tuple_of (by rfl) T.z_tuple bt_tuple (pa_cons (pe_lc (own := [("place", 3)]) rfl nd (pi_seqK (K := K) rfl (pv 1)) (blkOk_by (N := n_permuted) (sc := (relS c_permuted_0 (defScope s_permuted))) (by decide +kernel)) (fun _ _ _ _ _ => (pg_name (i := 3) nd rfl (Or.inl rfl))) (fun _ _ _ _ _ => pts_nil) (fun _ _ _ _ _ => (pe_ix (r := rIx K) ix_seq (pv 2) (pv 3) (fun _ _ => rfl)))) pa_nil)))) pa_nil))))), ?_⟩
  exact den_def (N := n_permuted) (g := g_permuted) (XR := XR0) ((dens_ret [] (den_call (den_cons (den_op den_ix (den_var 0) (den_int 0)) (den_cons (DenN.e (den_lc (den_iseq (den_op den_ix (den_var 0) (den_int 1))) (den_gname 2) rfl den_yes (den_cb den_tupleOf (den_cons (DenN.e (den_lc (den_iseq (den_var 1)) (den_gname 3) rfl den_yes (den_op den_ix (den_var 2) (den_var 3)))) den_nil)))) den_nil))))) h
theorem ok__law_of (T : Txt K mg) : FnOk P w K mg base CX0 2 T.a__law_of T.d__law_of ["m", "some"] (spD XR0 2 (m__law_of)) := by
  refine T.f__law_of.ok sc__law_of (fun vs H Q E h => h.1) (fun cdv A outer s H vs Q E hr h => ?_)
  have hu := hu_of hr
  have hu64 : (A.deeper (envOfC "_law_of" (defScope s__law_of) s.heap.objs.size T.a__law_of cdv)).units + 64 < cLine := Nat.lt_of_le_of_lt (by omega) hr.un
  have hu65 : (A.deeper (envOfC "_law_of" (defScope s__law_of) s.heap.objs.size T.a__law_of cdv)).units + 65 < cLine := Nat.lt_of_le_of_lt (by omega) hr.un
  have nd := sc__law_of.nd
  refine ⟨_, (pss_one (ps_ret (pe_ix (r := rIx K) ix_seq (pv 1) (pe_call (ok__law_draw T) (hr.mono (by decide)) (by rfl) T.m__law_draw T.f__law_draw.kp T.b__law_draw .nil (passE (E := E)) (pa_cons (pv 0) (pa_cons (pe_callB (r := rLenQ K) call_len_seq (by rfl) T.z_len bt_len (pa_cons (pv 1) pa_nil)) pa_nil))) (fun _ _ => rfl)))), ?_⟩
  exact den_def (N := n__law_of) (g := g__law_of) (XR := XR0) ((dens_ret [] (den_op den_ix (den_var 1) (den_draw (den_cons (den_var 0) (den_cons (den_cb den_len (den_cons (den_var 1) den_nil)) den_nil)))))) h
theorem ok__law_moved (T : Txt K mg) : FnOk P w K mg base CX0 1 T.a__law_moved T.d__law_moved ["table", "word", "data"] (spD XR0 3 (m__law_moved)) := by
  refine T.f__law_moved.ok sc__law_moved (fun vs H Q E h => h.1) (fun cdv A outer s H vs Q E hr h => ?_)
  have hu := hu_of hr
  have hu64 : (A.deeper (envOfC "_law_moved" (defScope s__law_moved) s.heap.objs.size T.a__law_moved cdv)).units + 64 < cLine := Nat.lt_of_le_of_lt (by omega) hr.un
  have hu65 : (A.deeper (envOfC "_law_moved" (defScope s__law_moved) s.heap.objs.size T.a__law_moved cdv)).units + 65 < cLine := Nat.lt_of_le_of_lt (by omega) hr.un
  have nd := sc__law_moved.nd
  refine ⟨_, (pss_cons (ps_set (i := 3) nd rfl (Or.inl rfl) pe_dnewT)
    (pss_cons (ps_lockOr (ps_for PassesOwn.never rfl (pi_keys (pv 0)) (pg_name (i := 4) nd rfl (Or.inr rfl))
    (pss_one (ps_if (pt_cmpR (r := rEqD K) (op_eqD hu64) (pv 1) pe_str (nomark _))
    (pss_one (ps_dput hu (pv 3) (pv 4) (pe_or (pe_dget hu (pv 0) (pv 4) (fun _ _ => rfl)) (pe_one (pe_dget hu (pv 2) (pv 4) (fun _ _ => rfl)))) rfl))
    (pss_one (ps_if (pt_cmpR (r := rEqD K) (op_eqD hu64) (pv 1) pe_str (nomark _))
    (pss_one (ps_dput hu (pv 3) (pv 4) (pe_and (pe_dget hu (pv 0) (pv 4) (fun _ _ => rfl)) (pe_one (pe_dget hu (pv 2) (pv 4) (fun _ _ => rfl)))) rfl))
    (pss_one (ps_if (pt_cmpR (r := rEqD K) (op_eqD hu64) (pv 1) pe_str (nomark _))
    (pss_one (ps_dput hu (pv 3) (pv 4) (pe_dget hu (pv 0) (pe_callTy (r := rTupleOf K) call_tuple_of (by rfl) T.z_tuple bt_tuple (pa_cons (pe_lc (own := [("j", 5)]) rfl nd (pi_range1 (by rfl) T.z_range (pa_cons (pe_callB (r := rLenQ K) call_len_seq (by rfl) T.z_len bt_len (pa_cons (pv 4) pa_nil)) pa_nil)) (blkOk_by (N := n__law_moved) (sc := defScope s__law_moved) (by decide +kernel)) (fun _ _ _ _ _ => (pg_name (i := 5) nd rfl (Or.inl rfl))) (fun _ _ _ _ _ => pts_nil) (fun _ _ _ _ _ => (pe_callB (call_min2 rfl) (by rfl) T.z_min bt_min (pa_cons pe_int (pa_cons (pe_op (r := rAddU K) op_addU (pe_ix (r := rIx K) ix_seq (pv 4) (pv 5) (fun _ _ => rfl)) (pe_ix (r := rIx K) ix_seq (pv 2) (pv 5) (fun _ _ => rfl))) pa_nil))))) pa_nil)) (fun _ _ => rfl)) rfl))
    (pss_one (ps_if (pt_cmpR (r := rEqD K) (op_eqD hu64) (pv 1) pe_str (nomark _))
    (pss_one (ps_dput hu (pv 3) (pv 4) (pe_dget hu (pv 0) (pe_callTy (r := rTupleOf K) call_tuple_of (by rfl) T.z_tuple bt_tuple (pa_cons (pe_lc (own := [("e", 6)]) rfl nd (pi_seqK (K := K) rfl (pv 4)) (blkOk_by (N := n__law_moved) (sc := defScope s__law_moved) (by decide +kernel)) (fun _ _ _ _ _ => (pg_name (i := 6) nd rfl (Or.inl rfl))) (fun _ _ _ _ _ => pts_nil) (fun _ _ _ _ _ => (pe_ifExp (pt_cmpR op_gt (pv 6) pe_int (nomark _)) pe_int pe_int))) pa_nil)) (fun _ _ => rfl)) rfl))
    (pss_one (ps_if (pt_cmpR (r := rEqD K) (op_eqD hu64) (pv 1) pe_str (nomark _))
    (pss_one (ps_dput hu (pv 3) (pv 4) (pe_dget hu (pv 0) (pe_callTy (r := rTupleOf K) call_tuple_of (by rfl) T.z_tuple bt_tuple (pa_cons (pe_lc (own := [("j", 5)]) rfl nd (pi_range1 (by rfl) T.z_range (pa_cons (pe_callB (r := rLenQ K) call_len_seq (by rfl) T.z_len bt_len (pa_cons (pv 4) pa_nil)) pa_nil)) (blkOk_by (N := n__law_moved) (sc := defScope s__law_moved) (by decide +kernel)) (fun _ _ _ _ _ => (pg_name (i := 5) nd rfl (Or.inl rfl))) (fun _ _ _ _ _ => pts_nil) (fun _ _ _ _ _ => (pe_ifExp (pt_cmpR (r := rEqD K) (op_eqD hu64) (pv 5) (pv 2) (nomark _)) pe_int (pe_ix (r := rIx K) ix_seq (pv 4) (pv 5) (fun _ _ => rfl))))) pa_nil)) (fun _ _ => rfl)) rfl))
    (pss_one (ps_dput hu (pv 3) (pv 4) (pe_dget hu (pv 0) (pe_callTy (r := rTupleOf K) call_tuple_of (by rfl) T.z_tuple bt_tuple (pa_cons (pe_lc (own := [("j", 5)]) rfl nd (pi_range1 (by rfl) T.z_range (pa_cons (pe_callB (r := rLenQ K) call_len_seq (by rfl) T.z_len bt_len (pa_cons (pv 4) pa_nil)) pa_nil)) (blkOk_by (N := n__law_moved) (sc := defScope s__law_moved) (by decide +kernel)) (fun _ _ _ _ _ => (pg_name (i := 5) nd rfl (Or.inl rfl))) (fun _ _ _ _ _ => pts_nil) (fun _ _ _ _ _ => (pe_ix (r := rIx K) ix_seq (pv 4) (pe_tidx (pv 2) (pv 5) ⟨rfl, rfl, rfl, rfl⟩) (fun _ _ => rfl)))) pa_nil)) (fun _ _ => rfl)) rfl))))))))))))))
    (pss_one (ps_ret (pv 3))))), ?_⟩
  exact den_def (N := n__law_moved) (g := g__law_moved) (XR := XR0) ((dens_seq (dens_setN 3 [] den_newT)
    (dens_seq (dens_forK 0 (dengs_name 4)
    (dens_if [] (den_test (den_op den_eq (den_var 1) (den_str "sum")))
    (dens_dput 3 [] (den_orV (den_dget (den_var 0) (den_var 4)) (den_dget (den_var 2) (den_var 4))) (den_var 4))
    (dens_if [] (den_test (den_op den_eq (den_var 1) (den_str "meet")))
    (dens_dput 3 [] (den_andV (den_dget (den_var 0) (den_var 4)) (den_dget (den_var 2) (den_var 4))) (den_var 4))
    (dens_if [] (den_test (den_op den_eq (den_var 1) (den_str "colon")))
    (dens_dput 3 [] (den_dget (den_var 0) (den_cb den_tupleOf (den_cons (DenN.e (den_lc (den_rng1 (den_cons (den_cb den_len (den_cons (den_var 4) den_nil)) den_nil)) (den_gname 5) rfl den_yes (den_cb den_min2 (den_cons (den_int 3) (den_cons (den_op den_addU (den_op den_ix (den_var 4) (den_var 5)) (den_op den_ix (den_var 2) (den_var 5))) den_nil))))) den_nil))) (den_var 4))
    (dens_if [] (den_test (den_op den_eq (den_var 1) (den_str "radical")))
    (dens_dput 3 [] (den_dget (den_var 0) (den_cb den_tupleOf (den_cons (DenN.e (den_lc (den_iseq (den_var 4)) (den_gname 6) rfl den_yes (den_if (den_test (den_op den_gt (den_var 6) (den_int 0))) (den_int 3) (den_int 0)))) den_nil))) (den_var 4))
    (dens_if [] (den_test (den_op den_eq (den_var 1) (den_str "saturated")))
    (dens_dput 3 [] (den_dget (den_var 0) (den_cb den_tupleOf (den_cons (DenN.e (den_lc (den_rng1 (den_cons (den_cb den_len (den_cons (den_var 4) den_nil)) den_nil)) (den_gname 5) rfl den_yes (den_if (den_test (den_op den_eq (den_var 5) (den_var 2))) (den_int 3) (den_op den_ix (den_var 4) (den_var 5))))) den_nil))) (den_var 4))
    (dens_dput 3 [] (den_dget (den_var 0) (den_cb den_tupleOf (den_cons (DenN.e (den_lc (den_rng1 (den_cons (den_cb den_len (den_cons (den_var 4) den_nil)) den_nil)) (den_gname 5) rfl den_yes (den_op den_ix (den_var 4) (den_tidx (den_var 2) (den_var 5))))) den_nil))) (den_var 4))))))))
    (dens_retV 3)))) h
theorem ok__law_listing (T : Txt K mg) : FnOk P w K mg base CX0 3 T.a__law_listing T.d__law_listing ["m", "n"] (spD XR0 2 (m__law_listing)) := by
  refine T.f__law_listing.ok sc__law_listing (fun vs H Q E h => h.1) (fun cdv A outer s H vs Q E hr h => ?_)
  have hu := hu_of hr
  have hu64 : (A.deeper (envOfC "_law_listing" (defScope s__law_listing) s.heap.objs.size T.a__law_listing cdv)).units + 64 < cLine := Nat.lt_of_le_of_lt (by omega) hr.un
  have hu65 : (A.deeper (envOfC "_law_listing" (defScope s__law_listing) s.heap.objs.size T.a__law_listing cdv)).units + 65 < cLine := Nat.lt_of_le_of_lt (by omega) hr.un
  have nd := sc__law_listing.nd
  refine ⟨_, (pss_cons (ps_par (i := 2) (j := 3) rfl nd rfl rfl (by decide) rfl rfl (pa_cons (pe_listRg rfl (by rfl) T.z_list (prg_1 (by rfl) T.z_range (pv 1))) (pa_cons (pe_lst pa_nil) pa_nil)) (by rfl))
    (pss_cons (ps_for PassesOwn.never rfl (pi_range1 (by rfl) T.z_range (pa_cons (pv 1) pa_nil)) (pg_name (i := 4) nd rfl (Or.inl rfl))
    (pss_cons (ps_set (i := 5) nd rfl (Or.inr rfl) (pe_call (ok__law_of T) (hr.mono (by decide)) (by rfl) T.m__law_of T.f__law_of.kp T.b__law_of .nil (passE (E := E)) (pa_cons (pv 0) (pa_cons (pv 2) pa_nil))))
    (pss_cons (ps_setLc (i := 2) (own := [("other", 6)]) rfl nd rfl rfl (sw_true rfl rfl rfl (by decide +kernel)) (pi_seqK (K := K) rfl (pv 2)) (blkOk_by (N := n__law_listing) (sc := defScope s__law_listing) (by decide +kernel)) (fun _ _ _ _ _ => (pg_name (i := 6) nd rfl (Or.inl rfl))) (fun _ _ _ _ _ => (pts_one (pt_cmpR (r := rNeD K) (op_neD hu64) (pv 6) (pv 5) (nomark _)))) (fun _ _ _ _ _ => (pv 6)))
    (pss_one (ps_expr (pe_bm PySem.F.plainAttrs_list PySem.F.slot_list_append PySem.F.type_list_append mt_append (pv 3) (pa_cons (pv 5) pa_nil)))))))
    (pss_one (ps_ret (pe_callTy (r := rTupleF K) call_tupleF (by rfl) T.z_tuple bt_tuple (pa_cons (pv 3) pa_nil)))))), ?_⟩
  exact den_def (N := n__law_listing) (g := g__law_listing) (XR := XR0) ((dens_seq (dens_parN 2 3 [] (DenN.e (den_lstRg1 (den_var 1))) (den_lst den_nil))
    (dens_seq (dens_for [] (den_rng1 (den_cons (den_var 1) den_nil)) (dengs_name 4)
    (dens_seq (dens_set 5 [] (den_call (den_cons (den_var 0) (den_cons (den_var 2) den_nil))))
    (dens_seq (dens_set 2 [] (DenN.e (den_lc (den_iseq (den_var 2)) (den_gname 6) rfl (den_test (den_op den_ne (den_var 6) (den_var 5))) (den_var 6))))
    (dens_meth 3 [] denm_append (den_cons (den_var 5) den_nil)))))
    (dens_ret [3] (den_cb den_tupleF (den_cons (den_var 3) den_nil)))))) h
theorem ok__law_done (T : Txt K mg) : FnOk P w K mg base CX0 5 T.a__law_done T.d__law_done ["m", "ideal", "table"] (spD XR0 3 (m__law_done)) := by
  refine T.f__law_done.ok sc__law_done (fun vs H Q E h => h.1) (fun cdv A outer s H vs Q E hr h => ?_)
  have hu := hu_of hr
  have hu64 : (A.deeper (envOfC "_law_done" (defScope s__law_done) s.heap.objs.size T.a__law_done cdv)).units + 64 < cLine := Nat.lt_of_le_of_lt (by omega) hr.un
  have hu65 : (A.deeper (envOfC "_law_done" (defScope s__law_done) s.heap.objs.size T.a__law_done cdv)).units + 65 < cLine := Nat.lt_of_le_of_lt (by omega) hr.un
  have nd := sc__law_done.nd
  refine ⟨_, (pss_cons (ps_set (i := 3) nd rfl (Or.inl rfl) (pe_ix (r := rIx K) ix_seq (pv 1) pe_int (fun _ _ => rfl)))
    (pss_cons (ps_set (i := 4) nd rfl (Or.inl rfl) (pe_call (ok__law_of T) (hr.mono (by decide)) (by rfl) T.m__law_of T.f__law_of.kp T.b__law_of .nil (passE (E := E)) (pa_cons (pv 0) (pa_cons (pe_lst (pa_cons pe_str (pa_cons pe_str (pa_cons pe_str (pa_cons pe_str (pa_cons pe_str (pa_cons pe_str (pa_cons pe_str (pa_cons pe_str pa_nil))))))))) pa_nil))))
    (pss_cons (ps_set (i := 5) nd rfl (Or.inl rfl) (pe_call (ok__law_ideal T) (hr.mono (by decide)) (by rfl) T.m__law_ideal T.f__law_ideal.kp T.b__law_ideal .nil (passE (E := E)) (pa_cons (pv 0) (pa_cons (pv 3) (pa_cons pe_int (pa_cons pe_int pa_nil))))))
    (pss_cons (ps_if (pt_cmpR (r := rEqD K) (op_eqD hu64) (pv 4) pe_str (nomark _))
    (pss_one (ps_ret (pe_tup (pa_cons (pe_call (ok_sum_of T) (hr.mono (by decide)) (by rfl) T.m_sum_of T.f_sum_of.kp T.b_sum_of .nil (passE (E := E)) (pa_cons (pv 1) (pa_cons (pv 5) pa_nil))) (pa_cons (pe_call (ok__law_moved T) (hr.mono (by decide)) (by rfl) T.m__law_moved T.f__law_moved.kp T.b__law_moved .nil (passE (E := E)) (pa_cons (pv 2) (pa_cons (pv 4) (pa_cons (pe_call (ok__law_table T) (hr.mono (by decide)) (by rfl) T.m__law_table T.f__law_table.kp T.b__law_table .nil (passE (E := E)) (pa_cons (pv 3) (pa_cons (pe_ix (r := rIx K) ix_seq (pv 5) pe_int (fun _ _ => rfl)) pa_nil))) pa_nil)))) pa_nil)))))
    pss_nil)
    (pss_cons (ps_if (pt_cmpR (r := rEqD K) (op_eqD hu64) (pv 4) pe_str (nomark _))
    (pss_one (ps_ret (pe_tup (pa_cons (pe_call (ok_meet_of T) (hr.mono (by decide)) (by rfl) T.m_meet_of T.f_meet_of.kp T.b_meet_of .nil (passE (E := E)) (pa_cons (pv 1) (pa_cons (pv 5) pa_nil))) (pa_cons (pe_call (ok__law_moved T) (hr.mono (by decide)) (by rfl) T.m__law_moved T.f__law_moved.kp T.b__law_moved .nil (passE (E := E)) (pa_cons (pv 2) (pa_cons (pv 4) (pa_cons (pe_call (ok__law_table T) (hr.mono (by decide)) (by rfl) T.m__law_table T.f__law_table.kp T.b__law_table .nil (passE (E := E)) (pa_cons (pv 3) (pa_cons (pe_ix (r := rIx K) ix_seq (pv 5) pe_int (fun _ _ => rfl)) pa_nil))) pa_nil)))) pa_nil)))))
    pss_nil)
    (pss_cons (ps_if (pt_cmpR (r := rEqD K) (op_eqD hu64) (pv 4) pe_str (nomark _))
    (pss_cons (ps_set (i := 6) nd rfl (Or.inl rfl) (pe_call (ok__law_monomial T) (hr.mono (by decide)) (by rfl) T.m__law_monomial T.f__law_monomial.kp T.b__law_monomial .nil (passE (E := E)) (pa_cons (pv 0) (pa_cons (pv 3) (pa_cons pe_int pa_nil)))))
    (pss_one (ps_ret (pe_tup (pa_cons (pe_call (ok_colon_by T) (hr.mono (by decide)) (by rfl) T.m_colon_by T.f_colon_by.kp T.b_colon_by .nil (passE (E := E)) (pa_cons (pv 1) (pa_cons (pv 6) pa_nil))) (pa_cons (pe_call (ok__law_moved T) (hr.mono (by decide)) (by rfl) T.m__law_moved T.f__law_moved.kp T.b__law_moved .nil (passE (E := E)) (pa_cons (pv 2) (pa_cons (pv 4) (pa_cons (pv 6) pa_nil)))) pa_nil))))))
    pss_nil)
    (pss_cons (ps_if (pt_cmpR (r := rEqD K) (op_eqD hu64) (pv 4) pe_str (nomark _))
    (pss_one (ps_ret (pe_tup (pa_cons (pe_call (ok_radical_of T) (hr.mono (by decide)) (by rfl) T.m_radical_of T.f_radical_of.kp T.b_radical_of .nil (passE (E := E)) (pa_cons (pv 1) pa_nil)) (pa_cons (pe_call (ok__law_moved T) (hr.mono (by decide)) (by rfl) T.m__law_moved T.f__law_moved.kp T.b__law_moved .nil (passE (E := E)) (pa_cons (pv 2) (pa_cons (pv 4) (pa_cons pe_non pa_nil)))) pa_nil)))))
    pss_nil)
    (pss_cons (ps_if (pt_cmpR (r := rEqD K) (op_eqD hu64) (pv 4) pe_str (nomark _))
    (pss_cons (ps_set (i := 7) nd rfl (Or.inl rfl) (pe_call (ok__law_draw T) (hr.mono (by decide)) (by rfl) T.m__law_draw T.f__law_draw.kp T.b__law_draw .nil (passE (E := E)) (pa_cons (pv 0) (pa_cons (pv 3) pa_nil))))
    (pss_one (ps_ret (pe_tup (pa_cons (pe_call (ok_saturated T) (hr.mono (by decide)) (by rfl) T.m_saturated T.f_saturated.kp T.b_saturated .nil (passE (E := E)) (pa_cons (pv 1) (pa_cons (pv 7) pa_nil))) (pa_cons (pe_call (ok__law_moved T) (hr.mono (by decide)) (by rfl) T.m__law_moved T.f__law_moved.kp T.b__law_moved .nil (passE (E := E)) (pa_cons (pv 2) (pa_cons (pv 4) (pa_cons (pv 7) pa_nil)))) pa_nil))))))
    pss_nil)
    (pss_cons (ps_set (i := 8) nd rfl (Or.inl rfl) (pe_call (ok__law_listing T) (hr.mono (by decide)) (by rfl) T.m__law_listing T.f__law_listing.kp T.b__law_listing .nil (passE (E := E)) (pa_cons (pv 0) (pa_cons (pv 3) pa_nil))))
    (pss_one (ps_ret (pe_tup (pa_cons (pe_call (ok_permuted T) (hr.mono (by decide)) (by rfl) T.m_permuted T.f_permuted.kp T.b_permuted .nil (passE (E := E)) (pa_cons (pv 1) (pa_cons (pv 8) pa_nil))) (pa_cons (pe_call (ok__law_moved T) (hr.mono (by decide)) (by rfl) T.m__law_moved T.f__law_moved.kp T.b__law_moved .nil (passE (E := E)) (pa_cons (pv 2) (pa_cons (pv 4) (pa_cons (pv 8) pa_nil)))) pa_nil)))))))))))))), ?_⟩
  exact den_def (N := n__law_done) (g := g__law_done) (XR := XR0) ((dens_seq (dens_set 3 [] (den_op den_ix (den_var 1) (den_int 0)))
    (dens_seq (dens_set 4 [] (den_call (den_cons (den_var 0) (den_cons (DenN.e (den_lst (den_cons (den_str "sum") (den_cons (den_str "meet") (den_cons (den_str "colon") (den_cons (den_str "radical") (den_cons (den_str "saturated") (den_cons (den_str "permuted") (den_cons (den_str "sum") (den_cons (den_str "meet") den_nil)))))))))) den_nil))))
    (dens_seq (dens_set 5 [] (den_call (den_cons (den_var 0) (den_cons (den_var 3) (den_cons (den_int 3) (den_cons (den_int 3) den_nil))))))
    (dens_seq (dens_if [] (den_test (den_op den_eq (den_var 4) (den_str "sum")))
    (dens_ret [] (den_tup (den_cons (den_call (den_cons (den_var 1) (den_cons (den_var 5) den_nil))) (den_cons (den_call (den_cons (den_var 2) (den_cons (den_var 4) (den_cons (den_call (den_cons (den_var 3) (den_cons (den_op den_ix (den_var 5) (den_int 1)) den_nil))) den_nil)))) den_nil))))
    dens_skip)
    (dens_seq (dens_if [] (den_test (den_op den_eq (den_var 4) (den_str "meet")))
    (dens_ret [] (den_tup (den_cons (den_call (den_cons (den_var 1) (den_cons (den_var 5) den_nil))) (den_cons (den_call (den_cons (den_var 2) (den_cons (den_var 4) (den_cons (den_call (den_cons (den_var 3) (den_cons (den_op den_ix (den_var 5) (den_int 1)) den_nil))) den_nil)))) den_nil))))
    dens_skip)
    (dens_seq (dens_if [] (den_test (den_op den_eq (den_var 4) (den_str "colon")))
    (dens_seq (dens_set 6 [] (den_call (den_cons (den_var 0) (den_cons (den_var 3) (den_cons (den_int 2) den_nil)))))
    (dens_ret [] (den_tup (den_cons (den_call (den_cons (den_var 1) (den_cons (den_var 6) den_nil))) (den_cons (den_call (den_cons (den_var 2) (den_cons (den_var 4) (den_cons (den_var 6) den_nil)))) den_nil)))))
    dens_skip)
    (dens_seq (dens_if [] (den_test (den_op den_eq (den_var 4) (den_str "radical")))
    (dens_ret [] (den_tup (den_cons (den_call (den_cons (den_var 1) den_nil)) (den_cons (den_call (den_cons (den_var 2) (den_cons (den_var 4) (den_cons den_non den_nil)))) den_nil))))
    dens_skip)
    (dens_seq (dens_if [] (den_test (den_op den_eq (den_var 4) (den_str "saturated")))
    (dens_seq (dens_set 7 [] (den_draw (den_cons (den_var 0) (den_cons (den_var 3) den_nil))))
    (dens_ret [] (den_tup (den_cons (den_call (den_cons (den_var 1) (den_cons (den_var 7) den_nil))) (den_cons (den_call (den_cons (den_var 2) (den_cons (den_var 4) (den_cons (den_var 7) den_nil)))) den_nil)))))
    dens_skip)
    (dens_seq (dens_set 8 [] (den_call (den_cons (den_var 0) (den_cons (den_var 3) den_nil))))
    (dens_ret [] (den_tup (den_cons (den_call (den_cons (den_var 1) (den_cons (den_var 8) den_nil))) (den_cons (den_call (den_cons (den_var 2) (den_cons (den_var 4) (den_cons (den_var 8) den_nil)))) den_nil)))))))))))))) h
theorem ok_law (T : Txt K mg) : FnOk P w K mg base CX0 6 T.a_law T.d_law ["script"] (spD XR0 1 (m_law K)) := by
  refine T.f_law.ok sc_law (fun vs H Q E h => h.1) (fun cdv A outer s H vs Q E hr h => ?_)
  have hu := hu_of hr
  have hu64 : (A.deeper (envOfC "law" (defScope s_law) s.heap.objs.size T.a_law cdv)).units + 64 < cLine := Nat.lt_of_le_of_lt (by omega) hr.un
  have hu65 : (A.deeper (envOfC "law" (defScope s_law) s.heap.objs.size T.a_law cdv)).units + 65 < cLine := Nat.lt_of_le_of_lt (by omega) hr.un
  have nd := sc_law.nd
  refine ⟨_, (pss_cons (ps_for PassesOwn.never rfl (pi_range1 (by rfl) T.z_range (pa_cons (pe_callB (call_max2 rfl) (by rfl) T.z_max bt_max (pa_cons pe_int (pa_cons (pe_callB (call_min2 rfl) (by rfl) T.z_min bt_min (pa_cons (pe_callB (r := rLenQ K) call_len_seq (by rfl) T.z_len bt_len (pa_cons (pv 0) pa_nil)) (pa_cons pe_int pa_nil))) pa_nil))) pa_nil)) (pg_name (i := 1) nd rfl (Or.inl rfl))
    (pss_cons (ps_set (i := 2) nd rfl (Or.inl rfl) (pe_call (ok__law_begun T) (hr.mono (by decide)) (by rfl) T.m__law_begun T.f__law_begun.kp T.b__law_begun .nil (passE (E := E)) (pa_cons (pv 0) (pa_cons (pv 1) pa_nil))))
    (pss_cons (ps_set (i := 3) nd rfl (Or.inl rfl) (pe_call (ok__law_ideal T) (hr.mono (by decide)) (by rfl) T.m__law_ideal T.f__law_ideal.kp T.b__law_ideal .nil (passE (E := E)) (pa_cons (pv 2) (pa_cons (pe_op (r := rAddU K) op_addU pe_int (pe_call (ok__law_draw T) (hr.mono (by decide)) (by rfl) T.m__law_draw T.f__law_draw.kp T.b__law_draw .nil (passE (E := E)) (pa_cons (pv 2) (pa_cons pe_int pa_nil)))) (pa_cons pe_int (pa_cons pe_int pa_nil))))))
    (pss_cons (ps_set (i := 4) nd rfl (Or.inl rfl) (pe_call (ok__law_table T) (hr.mono (by decide)) (by rfl) T.m__law_table T.f__law_table.kp T.b__law_table .nil (passE (E := E)) (pa_cons (pe_ix (r := rIx K) ix_seq (pv 3) pe_int (fun _ _ => rfl)) (pa_cons (pe_ix (r := rIx K) ix_seq (pv 3) pe_int (fun _ _ => rfl)) pa_nil))))
    (pss_one (ps_for PassesOwn.never rfl (pi_range1 (by rfl) T.z_range (pa_cons (pe_call (ok__law_draw T) (hr.mono (by decide)) (by rfl) T.m__law_draw T.f__law_draw.kp T.b__law_draw .nil (passE (E := E)) (pa_cons (pv 2) (pa_cons pe_int pa_nil))) pa_nil)) (pg_name (i := 5) nd rfl (Or.inl rfl))
    (pss_cons (ps_asg (pe_call (ok__law_done T) (hr.mono (by decide)) (by rfl) T.m__law_done T.f__law_done.kp T.b__law_done .nil (passE (E := E)) (pa_cons (pv 2) (pa_cons (pv 3) (pa_cons (pv 4) pa_nil)))) (pg_tupK (K := K) (n := 2) rfl rfl (pgs_cons (pg_name (i := 3) nd rfl (Or.inl rfl)) (pgs_cons (pg_name (i := 4) nd rfl (Or.inl rfl)) pgs_nil))))
    (pss_cons (ps_if (PW.pt (pw_or (pt_cmpR (r := rNeD K) (op_neD hu64) (pe_ix (r := rIx K) ix_seq (pv 3) pe_int (fun _ _ => rfl)) (pe_call (ok__law_least T) (hr.mono (by decide)) (by rfl) T.m__law_least T.f__law_least.kp T.b__law_least .nil (passE (E := E)) (pa_cons (pe_ix (r := rIx K) ix_seq (pv 3) pe_int (fun _ _ => rfl)) pa_nil)) (nomark _)) (pw_or1 (pt_cmpR (r := rNeD K) (op_neD hu64) (pe_lc (own := [("a", 7)]) rfl nd (pi_seqK (K := K) rfl (pe_ix (r := rIx K) ix_seq (pv 3) pe_int (fun _ _ => rfl))) (blkOk_by (N := n_law) (sc := defScope s_law) (by decide +kernel)) (fun _ _ _ _ _ => (pg_name (i := 7) nd rfl (Or.inl rfl))) (fun _ _ _ _ _ => (pts_one (pt_cmpR op_gt (pe_callB (r := rMaxI K) (cr_maxI rfl hu64) (by rfl) T.z_max bt_max (pa_cons (pv 7) pa_nil)) pe_int (nomark _)))) (fun _ _ _ _ _ => (pv 7))) (pe_lst pa_nil) (nomark _)))))
    (pss_one (ps_ret pe_bl))
    pss_nil)
    (pss_one (ps_lockOr (ps_for PassesOwn.never rfl (pi_keys (pv 4)) (pg_name (i := 6) nd rfl (Or.inl rfl))
    (pss_one (ps_if (pt_cmpR (r := rNeD K) (op_neD hu64) (pe_call (ok__law_in T) (hr.mono (by decide)) (by rfl) T.m__law_in T.f__law_in.kp T.b__law_in .nil (passE (E := E)) (pa_cons (pe_ix (r := rIx K) ix_seq (pv 3) pe_int (fun _ _ => rfl)) (pa_cons (pv 6) pa_nil))) (pe_dget hu (pv 4) (pv 6) (fun _ _ => rfl)) (nomark _))
    (pss_one (ps_ret pe_bl))
    pss_nil)))))))))))))
    (pss_one (ps_ret pe_bl))), ?_⟩
  exact den_def (N := n_law) (g := g_law K) (XR := XR0) ((dens_seq (dens_for [] (den_rng1 (den_cons (den_cb den_max2 (den_cons (den_int 2) (den_cons (den_cb den_min2 (den_cons (den_cb den_lenS (den_cons (den_var 0) den_nil)) (den_cons (den_int 3) den_nil))) den_nil))) den_nil)) (dengs_name 1)
    (dens_seq (dens_set 2 [] (den_begun (den_cons (den_var 0) (den_cons (den_var 1) den_nil))))
    (dens_seq (dens_set 3 [] (den_call (den_cons (den_var 2) (den_cons (den_op den_addU (den_int 1) (den_draw (den_cons (den_var 2) (den_cons (den_int 3) den_nil)))) (den_cons (den_int 4) (den_cons (den_int 3) den_nil))))))
    (dens_seq (dens_set 4 [] (den_call (den_cons (den_op den_ix (den_var 3) (den_int 0)) (den_cons (den_op den_ix (den_var 3) (den_int 1)) den_nil))))
    (dens_for [] (den_rng1 (den_cons (den_draw (den_cons (den_var 2) (den_cons (den_int 11) den_nil))) den_nil)) (dengs_name 5)
    (dens_seq (dens_unp [3, 4] [] rfl (den_call (den_cons (den_var 2) (den_cons (den_var 3) (den_cons (den_var 4) den_nil)))))
    (dens_seq (dens_if [] (den_or (den_test (den_op den_ne (den_op den_ix (den_var 3) (den_int 1)) (den_call (den_cons (den_op den_ix (den_var 3) (den_int 1)) den_nil)))) (den_test (den_op den_ne (DenN.e (den_lc (den_iseq (den_op den_ix (den_var 3) (den_int 1))) (den_gname 7) rfl (den_test (den_op den_gt (den_cb den_max1 (den_cons (den_var 7) den_nil)) (den_int 3))) (den_var 7))) (DenN.e (den_lst den_nil)))))
    (dens_ret [] (den_bl false))
    dens_skip)
    (dens_forK 4 (dengs_name 6)
    (dens_if [] (den_test (den_op den_ne (den_call (den_cons (den_op den_ix (den_var 3) (den_int 1)) (den_cons (den_var 6) den_nil))) (den_dget (den_var 4) (den_var 6))))
    (dens_ret [] (den_bl false))
    dens_skip)))))))))
    (dens_ret [] (den_bl true)))) h
end
theorem all_mk {l : PySem.W.OpenLaw} {w : World} {K : PySem.W.Frag} {h : Heap} {mg : Str → Option Value} {fa : Addr} (X : K.In h) (G : h.Ns mainGlobals mg) (hfa : mg "law" = some (.ref fa))
    {f0 : Addr} {od0 an0 : Option Addr} {sl0 : Array (Option Value)} {oc0 kV0 dc0 pm0 cd0 ct0 : Value}
    {f1 : Addr} {od1 an1 : Option Addr} {sl1 : Array (Option Value)} {oc1 kV1 dc1 pm1 cd1 ct1 : Value}
    {f2 : Addr} {od2 an2 : Option Addr} {sl2 : Array (Option Value)} {oc2 kV2 dc2 pm2 cd2 ct2 : Value}
    {f3 : Addr} {od3 an3 : Option Addr} {sl3 : Array (Option Value)} {oc3 kV3 dc3 pm3 cd3 ct3 : Value}
    {f4 : Addr} {od4 an4 : Option Addr} {sl4 : Array (Option Value)} {oc4 kV4 dc4 pm4 cd4 ct4 : Value}
    {f5 : Addr} {od5 an5 : Option Addr} {sl5 : Array (Option Value)} {oc5 kV5 dc5 pm5 cd5 ct5 : Value}
    {f6 : Addr} {od6 an6 : Option Addr} {sl6 : Array (Option Value)} {oc6 kV6 dc6 pm6 cd6 ct6 : Value}
    {f7 : Addr} {od7 an7 : Option Addr} {sl7 : Array (Option Value)} {oc7 kV7 dc7 pm7 cd7 ct7 : Value}
    {f8 : Addr} {od8 an8 : Option Addr} {sl8 : Array (Option Value)} {oc8 kV8 dc8 pm8 cd8 ct8 : Value}
    {f9 : Addr} {od9 an9 : Option Addr} {sl9 : Array (Option Value)} {oc9 kV9 dc9 pm9 cd9 ct9 : Value}
    {f10 : Addr} {od10 an10 : Option Addr} {sl10 : Array (Option Value)} {oc10 kV10 dc10 pm10 cd10 ct10 : Value}
    {f11 : Addr} {od11 an11 : Option Addr} {sl11 : Array (Option Value)} {oc11 kV11 dc11 pm11 cd11 ct11 : Value}
    {f12 : Addr} {od12 an12 : Option Addr} {sl12 : Array (Option Value)} {oc12 kV12 dc12 pm12 cd12 ct12 : Value}
    {f13 : Addr} {od13 an13 : Option Addr} {sl13 : Array (Option Value)} {oc13 kV13 dc13 pm13 cd13 ct13 : Value}
    {f14 : Addr} {od14 an14 : Option Addr} {sl14 : Array (Option Value)} {oc14 kV14 dc14 pm14 cd14 ct14 : Value}
    {f15 : Addr} {od15 an15 : Option Addr} {sl15 : Array (Option Value)} {oc15 kV15 dc15 pm15 cd15 ct15 : Value}
    {f16 : Addr} {od16 an16 : Option Addr} {sl16 : Array (Option Value)} {oc16 kV16 dc16 pm16 cd16 ct16 : Value}
    {f17 : Addr} {od17 an17 : Option Addr} {sl17 : Array (Option Value)} {oc17 kV17 dc17 pm17 cd17 ct17 : Value}
    {f18 : Addr} {od18 an18 : Option Addr} {sl18 : Array (Option Value)} {oc18 kV18 dc18 pm18 cd18 ct18 : Value}
    {f19 : Addr} {od19 an19 : Option Addr} {sl19 : Array (Option Value)} {oc19 kV19 dc19 pm19 cd19 ct19 : Value}
    {f20 : Addr} {od20 an20 : Option Addr} {sl20 : Array (Option Value)} {oc20 kV20 dc20 pm20 cd20 ct20 : Value}
    {f21 : Addr} {od21 an21 : Option Addr} {sl21 : Array (Option Value)} {oc21 kV21 dc21 pm21 cd21 ct21 : Value}
    {f22 : Addr} {od22 an22 : Option Addr} {sl22 : Array (Option Value)} {oc22 kV22 dc22 pm22 cd22 ct22 : Value}
    {f23 : Addr} {od23 an23 : Option Addr} {sl23 : Array (Option Value)} {oc23 kV23 dc23 pm23 cd23 ct23 : Value}
    {f24 : Addr} {od24 an24 : Option Addr} {sl24 : Array (Option Value)} {oc24 kV24 dc24 pm24 cd24 ct24 : Value}
    {t_MOST_EXPONENT : Tok}
    {t_MOST_GENERATORS : Tok}
    (a0 : PySem.W.nsIn K mainGlobals "_law_begun" = some (some (.ref f0))) (l0 : K.lookup f0 = some ⟨oc0, od0, .func (PySem.W.fnOf "_law_begun" "_law_begun" (defArgs s__law_begun) (defBody s__law_begun) (defScope s__law_begun) .none kV0 dc0 pm0 an0 cd0 ct0), sl0⟩) (c0 : PySem.W.codeIn K cd0 "_law_begun" = true) (k0 : PySem.W.keepIn K (.ref f0) = true)
    (a1 : PySem.W.nsIn K mainGlobals "_law_draw" = some (some (.ref f1))) (l1 : K.lookup f1 = some ⟨oc1, od1, .func (PySem.W.fnOf "_law_draw" "_law_draw" (defArgs s__law_draw) (defBody s__law_draw) (defScope s__law_draw) .none kV1 dc1 pm1 an1 cd1 ct1), sl1⟩) (c1 : PySem.W.codeIn K cd1 "_law_draw" = true) (k1 : PySem.W.keepIn K (.ref f1) = true)
    (a2 : PySem.W.nsIn K mainGlobals "_law_divides" = some (some (.ref f2))) (l2 : K.lookup f2 = some ⟨oc2, od2, .func (PySem.W.fnOf "_law_divides" "_law_divides" (defArgs s__law_divides) (defBody s__law_divides) (defScope s__law_divides) .none kV2 dc2 pm2 an2 cd2 ct2), sl2⟩) (c2 : PySem.W.codeIn K cd2 "_law_divides" = true) (k2 : PySem.W.keepIn K (.ref f2) = true)
    (a3 : PySem.W.nsIn K mainGlobals "_law_least" = some (some (.ref f3))) (l3 : K.lookup f3 = some ⟨oc3, od3, .func (PySem.W.fnOf "_law_least" "_law_least" (defArgs s__law_least) (defBody s__law_least) (defScope s__law_least) .none kV3 dc3 pm3 an3 cd3 ct3), sl3⟩) (c3 : PySem.W.codeIn K cd3 "_law_least" = true) (k3 : PySem.W.keepIn K (.ref f3) = true)
    (a4 : PySem.W.nsIn K mainGlobals "_law_in" = some (some (.ref f4))) (l4 : K.lookup f4 = some ⟨oc4, od4, .func (PySem.W.fnOf "_law_in" "_law_in" (defArgs s__law_in) (defBody s__law_in) (defScope s__law_in) .none kV4 dc4 pm4 an4 cd4 ct4), sl4⟩) (c4 : PySem.W.codeIn K cd4 "_law_in" = true) (k4 : PySem.W.keepIn K (.ref f4) = true)
    (a5 : PySem.W.nsIn K mainGlobals "_law_monomial" = some (some (.ref f5))) (l5 : K.lookup f5 = some ⟨oc5, od5, .func (PySem.W.fnOf "_law_monomial" "_law_monomial" (defArgs s__law_monomial) (defBody s__law_monomial) (defScope s__law_monomial) .none kV5 dc5 pm5 an5 cd5 ct5), sl5⟩) (c5 : PySem.W.codeIn K cd5 "_law_monomial" = true) (k5 : PySem.W.keepIn K (.ref f5) = true)
    (a6 : PySem.W.nsIn K mainGlobals "_law_ideal" = some (some (.ref f6))) (l6 : K.lookup f6 = some ⟨oc6, od6, .func (PySem.W.fnOf "_law_ideal" "_law_ideal" (defArgs s__law_ideal) (defBody s__law_ideal) (defScope s__law_ideal) .none kV6 dc6 pm6 an6 cd6 ct6), sl6⟩) (c6 : PySem.W.codeIn K cd6 "_law_ideal" = true) (k6 : PySem.W.keepIn K (.ref f6) = true)
    (a7 : PySem.W.nsIn K mainGlobals "_law_box" = some (some (.ref f7))) (l7 : K.lookup f7 = some ⟨oc7, od7, .func (PySem.W.fnOf "_law_box" "_law_box" (defArgs s__law_box) (defBody s__law_box) (defScope s__law_box) .none kV7 dc7 pm7 an7 cd7 ct7), sl7⟩) (c7 : PySem.W.codeIn K cd7 "_law_box" = true) (k7 : PySem.W.keepIn K (.ref f7) = true)
    (a8 : PySem.W.nsIn K mainGlobals "_law_table" = some (some (.ref f8))) (l8 : K.lookup f8 = some ⟨oc8, od8, .func (PySem.W.fnOf "_law_table" "_law_table" (defArgs s__law_table) (defBody s__law_table) (defScope s__law_table) .none kV8 dc8 pm8 an8 cd8 ct8), sl8⟩) (c8 : PySem.W.codeIn K cd8 "_law_table" = true) (k8 : PySem.W.keepIn K (.ref f8) = true)
    (a9 : PySem.W.nsIn K mainGlobals "divides" = some (some (.ref f9))) (l9 : K.lookup f9 = some ⟨oc9, od9, .func (PySem.W.fnOf "divides" "divides" (defArgs s_divides) (defBody s_divides) (defScope s_divides) .none kV9 dc9 pm9 an9 cd9 ct9), sl9⟩) (c9 : PySem.W.codeIn K cd9 "divides" = true) (k9 : PySem.W.keepIn K (.ref f9) = true)
    (a10 : PySem.W.nsIn K mainGlobals "least_ones" = some (some (.ref f10))) (l10 : K.lookup f10 = some ⟨oc10, od10, .func (PySem.W.fnOf "least_ones" "least_ones" (defArgs s_least_ones) (defBody s_least_ones) (defScope s_least_ones) .none kV10 dc10 pm10 an10 cd10 ct10), sl10⟩) (c10 : PySem.W.codeIn K cd10 "least_ones" = true) (k10 : PySem.W.keepIn K (.ref f10) = true)
    (a11 : PySem.W.nsIn K mainGlobals "made" = some (some (.ref f11))) (l11 : K.lookup f11 = some ⟨oc11, od11, .func (PySem.W.fnOf "made" "made" (defArgs s_made) (defBody s_made) (defScope s_made) .none kV11 dc11 pm11 an11 cd11 ct11), sl11⟩) (c11 : PySem.W.codeIn K cd11 "made" = true) (k11 : PySem.W.keepIn K (.ref f11) = true)
    (a12 : PySem.W.nsIn K mainGlobals "sum_of" = some (some (.ref f12))) (l12 : K.lookup f12 = some ⟨oc12, od12, .func (PySem.W.fnOf "sum_of" "sum_of" (defArgs s_sum_of) (defBody s_sum_of) (defScope s_sum_of) .none kV12 dc12 pm12 an12 cd12 ct12), sl12⟩) (c12 : PySem.W.codeIn K cd12 "sum_of" = true) (k12 : PySem.W.keepIn K (.ref f12) = true)
    (a13 : PySem.W.nsIn K mainGlobals "lcm_of" = some (some (.ref f13))) (l13 : K.lookup f13 = some ⟨oc13, od13, .func (PySem.W.fnOf "lcm_of" "lcm_of" (defArgs s_lcm_of) (defBody s_lcm_of) (defScope s_lcm_of) .none kV13 dc13 pm13 an13 cd13 ct13), sl13⟩) (c13 : PySem.W.codeIn K cd13 "lcm_of" = true) (k13 : PySem.W.keepIn K (.ref f13) = true)
    (a14 : PySem.W.nsIn K mainGlobals "meet_of" = some (some (.ref f14))) (l14 : K.lookup f14 = some ⟨oc14, od14, .func (PySem.W.fnOf "meet_of" "meet_of" (defArgs s_meet_of) (defBody s_meet_of) (defScope s_meet_of) .none kV14 dc14 pm14 an14 cd14 ct14), sl14⟩) (c14 : PySem.W.codeIn K cd14 "meet_of" = true) (k14 : PySem.W.keepIn K (.ref f14) = true)
    (a15 : PySem.W.nsIn K mainGlobals "cut" = some (some (.ref f15))) (l15 : K.lookup f15 = some ⟨oc15, od15, .func (PySem.W.fnOf "cut" "cut" (defArgs s_cut) (defBody s_cut) (defScope s_cut) .none kV15 dc15 pm15 an15 cd15 ct15), sl15⟩) (c15 : PySem.W.codeIn K cd15 "cut" = true) (k15 : PySem.W.keepIn K (.ref f15) = true)
    (a16 : PySem.W.nsIn K mainGlobals "colon_by" = some (some (.ref f16))) (l16 : K.lookup f16 = some ⟨oc16, od16, .func (PySem.W.fnOf "colon_by" "colon_by" (defArgs s_colon_by) (defBody s_colon_by) (defScope s_colon_by) .none kV16 dc16 pm16 an16 cd16 ct16), sl16⟩) (c16 : PySem.W.codeIn K cd16 "colon_by" = true) (k16 : PySem.W.keepIn K (.ref f16) = true)
    (a17 : PySem.W.nsIn K mainGlobals "saturated" = some (some (.ref f17))) (l17 : K.lookup f17 = some ⟨oc17, od17, .func (PySem.W.fnOf "saturated" "saturated" (defArgs s_saturated) (defBody s_saturated) (defScope s_saturated) .none kV17 dc17 pm17 an17 cd17 ct17), sl17⟩) (c17 : PySem.W.codeIn K cd17 "saturated" = true) (k17 : PySem.W.keepIn K (.ref f17) = true)
    (a18 : PySem.W.nsIn K mainGlobals "radical_of" = some (some (.ref f18))) (l18 : K.lookup f18 = some ⟨oc18, od18, .func (PySem.W.fnOf "radical_of" "radical_of" (defArgs s_radical_of) (defBody s_radical_of) (defScope s_radical_of) .none kV18 dc18 pm18 an18 cd18 ct18), sl18⟩) (c18 : PySem.W.codeIn K cd18 "radical_of" = true) (k18 : PySem.W.keepIn K (.ref f18) = true)
    (a19 : PySem.W.nsIn K mainGlobals "permuted" = some (some (.ref f19))) (l19 : K.lookup f19 = some ⟨oc19, od19, .func (PySem.W.fnOf "permuted" "permuted" (defArgs s_permuted) (defBody s_permuted) (defScope s_permuted) .none kV19 dc19 pm19 an19 cd19 ct19), sl19⟩) (c19 : PySem.W.codeIn K cd19 "permuted" = true) (k19 : PySem.W.keepIn K (.ref f19) = true)
    (a20 : PySem.W.nsIn K mainGlobals "_law_of" = some (some (.ref f20))) (l20 : K.lookup f20 = some ⟨oc20, od20, .func (PySem.W.fnOf "_law_of" "_law_of" (defArgs s__law_of) (defBody s__law_of) (defScope s__law_of) .none kV20 dc20 pm20 an20 cd20 ct20), sl20⟩) (c20 : PySem.W.codeIn K cd20 "_law_of" = true) (k20 : PySem.W.keepIn K (.ref f20) = true)
    (a21 : PySem.W.nsIn K mainGlobals "_law_moved" = some (some (.ref f21))) (l21 : K.lookup f21 = some ⟨oc21, od21, .func (PySem.W.fnOf "_law_moved" "_law_moved" (defArgs s__law_moved) (defBody s__law_moved) (defScope s__law_moved) .none kV21 dc21 pm21 an21 cd21 ct21), sl21⟩) (c21 : PySem.W.codeIn K cd21 "_law_moved" = true) (k21 : PySem.W.keepIn K (.ref f21) = true)
    (a22 : PySem.W.nsIn K mainGlobals "_law_listing" = some (some (.ref f22))) (l22 : K.lookup f22 = some ⟨oc22, od22, .func (PySem.W.fnOf "_law_listing" "_law_listing" (defArgs s__law_listing) (defBody s__law_listing) (defScope s__law_listing) .none kV22 dc22 pm22 an22 cd22 ct22), sl22⟩) (c22 : PySem.W.codeIn K cd22 "_law_listing" = true) (k22 : PySem.W.keepIn K (.ref f22) = true)
    (a23 : PySem.W.nsIn K mainGlobals "_law_done" = some (some (.ref f23))) (l23 : K.lookup f23 = some ⟨oc23, od23, .func (PySem.W.fnOf "_law_done" "_law_done" (defArgs s__law_done) (defBody s__law_done) (defScope s__law_done) .none kV23 dc23 pm23 an23 cd23 ct23), sl23⟩) (c23 : PySem.W.codeIn K cd23 "_law_done" = true) (k23 : PySem.W.keepIn K (.ref f23) = true)
    (a24 : PySem.W.nsIn K mainGlobals "law" = some (some (.ref f24))) (l24 : K.lookup f24 = some ⟨oc24, od24, .func (PySem.W.fnOf "law" "law" (defArgs s_law) (defBody s_law) (defScope s_law) .none kV24 dc24 pm24 an24 cd24 ct24), sl24⟩) (c24 : PySem.W.codeIn K cd24 "law" = true) (k24 : PySem.W.keepIn K (.ref f24) = true)
    (z_any : PySem.W.nsIn K mainGlobals "any" = some none)
    (z_int : PySem.W.nsIn K mainGlobals "int" = some none)
    (z_len : PySem.W.nsIn K mainGlobals "len" = some none)
    (z_list : PySem.W.nsIn K mainGlobals "list" = some none)
    (z_max : PySem.W.nsIn K mainGlobals "max" = some none)
    (z_min : PySem.W.nsIn K mainGlobals "min" = some none)
    (z_range : PySem.W.nsIn K mainGlobals "range" = some none)
    (z_set : PySem.W.nsIn K mainGlobals "set" = some none)
    (z_sorted : PySem.W.nsIn K mainGlobals "sorted" = some none)
    (z_sum : PySem.W.nsIn K mainGlobals "sum" = some none)
    (z_tuple : PySem.W.nsIn K mainGlobals "tuple" = some none)
    (z_zip : PySem.W.nsIn K mainGlobals "zip" = some none)
    (c_MOST_EXPONENT : PySem.W.nsIn K mainGlobals "MOST_EXPONENT" = some (some (.int 60 t_MOST_EXPONENT)))
    (c_MOST_GENERATORS : PySem.W.nsIn K mainGlobals "MOST_GENERATORS" = some (some (.int 60 t_MOST_GENERATORS)))
    : ∃ fd : FuncData, (∀ (s : Shared) (v : Value), BindsTo s fd ⟨[v], []⟩ [("script", v)]) ∧ ∀ base : Heap, K.In base → base.Ns mainGlobals mg → FnOk l.prog w K mg base CX0 6 fa fd ["script"] (spD XR0 1 (m_law K)) := by
  have e := hfa.symm.trans (PySem.W.mg_of X G a24)
  cases e
  have F0 := fun_mk (st := s__law_begun) l0 c0 k0
  have B0 := F0.binds (ps := ["script", "k"]) fun _ _ _ _ _ _ us hl => match us, hl with | [_, _], _ => rfl
  have F1 := fun_mk (st := s__law_draw) l1 c1 k1
  have B1 := F1.binds (ps := ["m", "below"]) fun _ _ _ _ _ _ us hl => match us, hl with | [_, _], _ => rfl
  have F2 := fun_mk (st := s__law_divides) l2 c2 k2
  have B2 := F2.binds (ps := ["a", "b"]) fun _ _ _ _ _ _ us hl => match us, hl with | [_, _], _ => rfl
  have F3 := fun_mk (st := s__law_least) l3 c3 k3
  have B3 := F3.binds (ps := ["monomials"]) fun _ _ _ _ _ _ us hl => match us, hl with | [_], _ => rfl
  have F4 := fun_mk (st := s__law_in) l4 c4 k4
  have B4 := F4.binds (ps := ["generators", "b"]) fun _ _ _ _ _ _ us hl => match us, hl with | [_, _], _ => rfl
  have F5 := fun_mk (st := s__law_monomial) l5 c5 k5
  have B5 := F5.binds (ps := ["m", "n", "top"]) fun _ _ _ _ _ _ us hl => match us, hl with | [_, _, _], _ => rfl
  have F6 := fun_mk (st := s__law_ideal) l6 c6 k6
  have B6 := F6.binds (ps := ["m", "n", "count", "top"]) fun _ _ _ _ _ _ us hl => match us, hl with | [_, _, _, _], _ => rfl
  have F7 := fun_mk (st := s__law_box) l7 c7 k7
  have B7 := F7.binds (ps := ["tops"]) fun _ _ _ _ _ _ us hl => match us, hl with | [_], _ => rfl
  have F8 := fun_mk (st := s__law_table) l8 c8 k8
  have B8 := F8.binds (ps := ["n", "rows"]) fun _ _ _ _ _ _ us hl => match us, hl with | [_, _], _ => rfl
  have F9 := fun_mk (st := s_divides) l9 c9 k9
  have B9 := F9.binds (ps := ["a", "b"]) fun _ _ _ _ _ _ us hl => match us, hl with | [_, _], _ => rfl
  have F10 := fun_mk (st := s_least_ones) l10 c10 k10
  have B10 := F10.binds (ps := ["monomials"]) fun _ _ _ _ _ _ us hl => match us, hl with | [_], _ => rfl
  have F11 := fun_mk (st := s_made) l11 c11 k11
  have B11 := F11.binds (ps := ["n", "monomials"]) fun _ _ _ _ _ _ us hl => match us, hl with | [_, _], _ => rfl
  have F12 := fun_mk (st := s_sum_of) l12 c12 k12
  have B12 := F12.binds (ps := ["a", "b"]) fun _ _ _ _ _ _ us hl => match us, hl with | [_, _], _ => rfl
  have F13 := fun_mk (st := s_lcm_of) l13 c13 k13
  have B13 := F13.binds (ps := ["a", "b"]) fun _ _ _ _ _ _ us hl => match us, hl with | [_, _], _ => rfl
  have F14 := fun_mk (st := s_meet_of) l14 c14 k14
  have B14 := F14.binds (ps := ["a", "b"]) fun _ _ _ _ _ _ us hl => match us, hl with | [_, _], _ => rfl
  have F15 := fun_mk (st := s_cut) l15 c15 k15
  have B15 := F15.binds (ps := ["a", "b"]) fun _ _ _ _ _ _ us hl => match us, hl with | [_, _], _ => rfl
  have F16 := fun_mk (st := s_colon_by) l16 c16 k16
  have B16 := F16.binds (ps := ["ideal", "monomial"]) fun _ _ _ _ _ _ us hl => match us, hl with | [_, _], _ => rfl
  have F17 := fun_mk (st := s_saturated) l17 c17 k17
  have B17 := F17.binds (ps := ["ideal", "variable"]) fun _ _ _ _ _ _ us hl => match us, hl with | [_, _], _ => rfl
  have F18 := fun_mk (st := s_radical_of) l18 c18 k18
  have B18 := F18.binds (ps := ["ideal"]) fun _ _ _ _ _ _ us hl => match us, hl with | [_], _ => rfl
  have F19 := fun_mk (st := s_permuted) l19 c19 k19
  have B19 := F19.binds (ps := ["ideal", "listing"]) fun _ _ _ _ _ _ us hl => match us, hl with | [_, _], _ => rfl
  have F20 := fun_mk (st := s__law_of) l20 c20 k20
  have B20 := F20.binds (ps := ["m", "some"]) fun _ _ _ _ _ _ us hl => match us, hl with | [_, _], _ => rfl
  have F21 := fun_mk (st := s__law_moved) l21 c21 k21
  have B21 := F21.binds (ps := ["table", "word", "data"]) fun _ _ _ _ _ _ us hl => match us, hl with | [_, _, _], _ => rfl
  have F22 := fun_mk (st := s__law_listing) l22 c22 k22
  have B22 := F22.binds (ps := ["m", "n"]) fun _ _ _ _ _ _ us hl => match us, hl with | [_, _], _ => rfl
  have F23 := fun_mk (st := s__law_done) l23 c23 k23
  have B23 := F23.binds (ps := ["m", "ideal", "table"]) fun _ _ _ _ _ _ us hl => match us, hl with | [_, _, _], _ => rfl
  have F24 := fun_mk (st := s_law) l24 c24 k24
  have B24 := F24.binds (ps := ["script"]) fun _ _ _ _ _ _ us hl => match us, hl with | [_], _ => rfl
  exact ⟨_, fun s v => .of_eq rfl, fun base _ _ => ok_law (K := K) (mg := mg) (base := base) ⟨f0, _, F0, PySem.W.mg_of X G a0, B0, f1, _, F1, PySem.W.mg_of X G a1, B1, f2, _, F2, PySem.W.mg_of X G a2, B2, f3, _, F3, PySem.W.mg_of X G a3, B3, f4, _, F4, PySem.W.mg_of X G a4, B4, f5, _, F5, PySem.W.mg_of X G a5, B5, f6, _, F6, PySem.W.mg_of X G a6, B6, f7, _, F7, PySem.W.mg_of X G a7, B7, f8, _, F8, PySem.W.mg_of X G a8, B8, f9, _, F9, PySem.W.mg_of X G a9, B9, f10, _, F10, PySem.W.mg_of X G a10, B10, f11, _, F11, PySem.W.mg_of X G a11, B11, f12, _, F12, PySem.W.mg_of X G a12, B12, f13, _, F13, PySem.W.mg_of X G a13, B13, f14, _, F14, PySem.W.mg_of X G a14, B14, f15, _, F15, PySem.W.mg_of X G a15, B15, f16, _, F16, PySem.W.mg_of X G a16, B16, f17, _, F17, PySem.W.mg_of X G a17, B17, f18, _, F18, PySem.W.mg_of X G a18, B18, f19, _, F19, PySem.W.mg_of X G a19, B19, f20, _, F20, PySem.W.mg_of X G a20, B20, f21, _, F21, PySem.W.mg_of X G a21, B21, f22, _, F22, PySem.W.mg_of X G a22, B22, f23, _, F23, PySem.W.mg_of X G a23, B23, fa, _, F24, PySem.W.mg_of X G a24, B24, PySem.W.mg_none_of X G z_any, PySem.W.mg_none_of X G z_int, PySem.W.mg_none_of X G z_len, PySem.W.mg_none_of X G z_list, PySem.W.mg_none_of X G z_max, PySem.W.mg_none_of X G z_min, PySem.W.mg_none_of X G z_range, PySem.W.mg_none_of X G z_set, PySem.W.mg_none_of X G z_sorted, PySem.W.mg_none_of X G z_sum, PySem.W.mg_none_of X G z_tuple, PySem.W.mg_none_of X G z_zip, t_MOST_EXPONENT, PySem.W.mg_of X G c_MOST_EXPONENT, t_MOST_GENERATORS, PySem.W.mg_of X G c_MOST_GENERATORS⟩⟩
end K98
namespace K98
open PySem Dn
def tT (ms : List (List Int)) : D := .tup (ms.map tupI)
def tL (ms : List (List Int)) : D := .lst (ms.map tupI)
def divB (a b : List Int) : Bool := (a.zip b).all fun p => decide (p.1 ≤ p.2)
def bDiv : SEnv → Dr Out := gIfS [] (gB (g2 dGt (gV 2) (gV 3))) (gRet [] (gC (.bl false))) gSkip
theorem divides_go : ∀ (ps : List (Int × Int)) (x y s2 s3 : SV), let r := forGo (stTup [2, 3]) bDiv (ps.map fun p => D.tup [.int p.1, .int p.2]) [x, y, s2, s3]
    (ps.all (fun p => decide (p.1 ≤ p.2)) = true ∧ ∃ s2' s3', r = .ret (.nx [x, y, s2', s3'])) ∨ (ps.all (fun p => decide (p.1 ≤ p.2)) = false ∧ r = .ret (.ret (.bl false)))
  | [], x, y, s2, s3 => .inl ⟨rfl, s2, s3, rfl⟩
  | (p, q) :: ps, x, y, s2, s3 => by
    have ih := divides_go ps x y (.fr (.int p)) (.fr (.int q))
    show (_ ∧ ∃ s2' s3', (if decide (q < p) = true then Dr.ret (Out.ret (.bl false)) else .ret (.nx [x, y, .fr (.int p), .fr (.int q)])).bind (loopOut (forGo (stTup [2, 3]) bDiv (ps.map fun p => D.tup [.int p.1, .int p.2]))) = _) ∨
      (_ ∧ (if decide (q < p) = true then Dr.ret (Out.ret (.bl false)) else .ret (.nx [x, y, .fr (.int p), .fr (.int q)])).bind (loopOut (forGo (stTup [2, 3]) bDiv (ps.map fun p => D.tup [.int p.1, .int p.2]))) = _)
    by_cases c : q < p
    · rw [if_pos (decide_eq_true c)]
      refine .inr ⟨?_, rfl⟩
      rw [List.all_cons, decide_eq_false (by omega)]
      rfl
    · rw [if_neg (by simpa using c), List.all_cons, decide_eq_true (by omega), Bool.true_and]
      exact ih
theorem e_divides (a b : List Int) : m_divides [tupI a, tupI b] = .ret (.bl (divB a b)) := by
  show ((forGo (stTup [2, 3]) bDiv (zipD (a.map D.int) (b.map D.int)) [.fr (tupI a), .fr (tupI b), .no, .no]).bind (seqOut (gRet [] (gC (.bl true))))).bind outD = _
  rw [zipD_ints]
  rcases divides_go (a.zip b) (.fr (tupI a)) (.fr (tupI b)) .no .no with ⟨h, s2, s3, e⟩ | ⟨h, e⟩
  · rw [e]
    unfold divB
    rw [h]
    rfl
  · rw [e]
    unfold divB
    rw [h]
    rfl
/-! ### least ones -/
def leastGo (found : List (List Int)) : List (List Int) → List (List Int)
  | [] => found
  | m :: ms => if found.any (fun o => divB o m) = true then leastGo found ms else leastGo (found ++ [m]) ms
def least (ms : List (List Int)) : List (List Int) := leastGo [] (sortU ms)
def bLeast : SEnv → Dr Out := gIfS [1] (gNot (gB (gCall dAny (Dn.gCons (gLc (gItems (gV 1)) (tgName 3) gYes (gCallK 2 m_divides (Dn.gCons (gV 3) (Dn.gCons (gV 2) Dn.gNil))) [3]) Dn.gNil)))) (gMeth 1 [] (Dn.gCons (gV 2) Dn.gNil) mAppend) gSkip
theorem least_step (x s3 : SV) (found : List (List Int)) (m : List Int) (hl : found.length < 1000000) :
    bLeast [x, .own (tL found), .fr (tupI m), s3] = .ret (.nx [x, .own (tL (if found.any (fun o => divB o m) = true then found else found ++ [m])), .fr (tupI m), s3]) := by
  have e2 : gLc (gItems (gV 1)) (tgName 3) gYes (gCallK 2 m_divides (Dn.gCons (gV 3) (Dn.gCons (gV 2) Dn.gNil))) [3] (lend [1] [x, .own (tL found), .fr (tupI m), s3]) = .ret (.lst ((found.map fun o => divB o m).map D.bl)) := by
    rw [List.map_map]
    exact glc_all tupI (fun o => D.bl (divB o m)) found (by omega) rfl fun o _ => ⟨_, rfl, e_divides o m⟩
  have e3 : (gNot (gB (gCall dAny (Dn.gCons (gLc (gItems (gV 1)) (tgName 3) gYes (gCallK 2 m_divides (Dn.gCons (gV 3) (Dn.gCons (gV 2) Dn.gNil))) [3]) Dn.gNil)))) (lend [1] [x, .own (tL found), .fr (tupI m), s3]) = .ret (!(found.any fun o => divB o m)) := by
    unfold gNot gB
    rw [call1 e2, any_bls, List.any_map]
    rfl
  unfold bLeast gIfS
  rw [e3]
  by_cases c : found.any (fun o => divB o m) = true
  · rw [if_pos c, c]
    rfl
  · have c' : found.any (fun o => divB o m) = false := by simpa using c
    rw [if_neg c, c']
    show (match mAppend (found.map tupI) [tupI m] with
      | some z => Dr.ret (Out.nx ((if z.2 = true then [x, SV.own (tL found), .fr (tupI m), s3] else freeze [] [x, SV.own (tL found), .fr (tupI m), s3]).set 1 (.own (.lst z.1))))
      | none => Dr.fail) = _
    rw [app_tup _ _ (by rw [List.length_map]; exact hl), imm_tupI, show found.map tupI ++ [tupI m] = (found ++ [m]).map tupI by rw [List.map_append]; rfl]
    rfl
theorem leastGo_len : ∀ (ms found : List (List Int)), (leastGo found ms).length ≤ found.length + ms.length
  | [], found => Nat.le_refl _
  | m :: ms, found => by
    unfold leastGo
    by_cases c : found.any (fun o => divB o m) = true
    · rw [if_pos c]
      have := leastGo_len ms found
      rw [List.length_cons]
      omega
    · rw [if_neg c]
      have := leastGo_len ms (found ++ [m])
      rw [List.length_append] at this
      rw [List.length_cons]
      simp only [List.length_cons, List.length_nil] at this
      omega
theorem least_go (x s3 : SV) : ∀ (ms found : List (List Int)) (s2 : SV), found.length + ms.length < 1000000 →
    ∃ s2', forGo (stName 2) bLeast (ms.map tupI) [x, .own (tL found), s2, s3] = .ret (.nx [x, .own (tL (leastGo found ms)), s2', s3])
  | [], found, s2, _ => ⟨s2, rfl⟩
  | m :: ms, found, s2, h => by
    rw [List.length_cons] at h
    show ∃ s2', (bLeast [x, .own (tL found), .fr (tupI m), s3]).bind (loopOut (forGo (stName 2) bLeast (ms.map tupI))) = _
    rw [least_step x s3 found m (by omega)]
    unfold leastGo
    by_cases c : found.any (fun o => divB o m) = true
    · rw [if_pos c, if_pos c]
      exact least_go x s3 ms found _ (by omega)
    · rw [if_neg c, if_neg c]
      exact least_go x s3 ms (found ++ [m]) _ (by rw [List.length_append, List.length_singleton]; omega)
theorem insU_len (k : List Int) : ∀ xs : List (List Int), (insU k xs).length ≤ xs.length + 1
  | [] => Nat.le_refl _
  | x :: xs => by
    unfold insU
    split
    · simp
    · split
      · simp
      · have := insU_len k xs
        simp only [List.length_cons]
        omega
theorem sortU_len : ∀ xs : List (List Int), (sortU xs).length ≤ xs.length
  | [] => Nat.le_refl _
  | x :: xs => by
    have := sortU_len xs
    have := insU_len x (sortU xs)
    show (insU x (sortU xs)).length ≤ xs.length + 1
    omega
theorem e_least_ones (ms : List (List Int)) (h1 : ms.length < 64) (h2 : okTups ms = true) : m_least_ones [tL ms] = .ret (tL (least ms)) := by
  have e := sortU_eq (f := gV 0) (ρ := lend [] [.fr (tL ms), .own (.lst []), .no, .no]) ms (.inl rfl) h1 h2
  show ((((gSortU (Dn.gCons (gV 0) Dn.gNil) (lend [] [.fr (tL ms), .own (.lst []), .no, .no])).bind itemsD).bind fun ds => forGo (stName 2) bLeast ds [.fr (tL ms), .own (.lst []), .no, .no]).bind (seqOut (gRetV 1))).bind outD = _
  rw [e]
  obtain ⟨s2, e2⟩ := least_go (.fr (tL ms)) .no (sortU ms) [] .no (by have := sortU_len ms; simp only [List.length_nil]; omega)
  show ((forGo (stName 2) bLeast ((sortU ms).map tupI) [.fr (tL ms), .own (tL []), .no, .no]).bind (seqOut (gRetV 1))).bind outD = _
  rw [e2]
  rfl
end K98
namespace K98
open PySem Dn
def ideal (n : Int) (gs : List (List Int)) : D := .tup [.int n, tT gs]
theorem ix0 {f : Ev → Dr D} {ρ : Ev} {n : Int} {gs : List (List Int)} (h : f ρ = .ret (ideal n gs)) : g2 dIx f (gC (.int 0)) ρ = .ret (.int n) := (op2 (e := .int 0) h rfl).trans rfl
theorem ix1 {f : Ev → Dr D} {ρ : Ev} {n : Int} {gs : List (List Int)} (h : f ρ = .ret (ideal n gs)) : g2 dIx f (gC (.int 1)) ρ = .ret (tT gs) := (op2 (e := .int 1) h rfl).trans rfl
/-! ### made -/
theorem e_made (n : Int) (ms : List (List Int)) (h1 : ms.length < 64) (h2 : okTups ms = true) (h3 : (least ms).length ≤ 60) (h4 : ∀ m ∈ least ms, ∃ x xs, m = x :: xs ∧ xs.foldl max x ≤ 60) :
    m_made [.int n, tL ms] = .ret (ideal n (least ms)) := by
  refine run_ret ?_
  refine (seq_nx (set0 (callK1 (d := tL ms) rfl |>.trans (e_least_ones ms h1 h2)))).trans ?_
  refine (seq_nx ((ifF (gb_eq (b := false) ?_)).trans rfl)).trans ?_
  · show Dr.ret (D.bl (decide ((60 : Int) < ((least ms).map tupI).length))) = _
    rw [List.length_map, decide_eq_false (by omega)]
  · obtain ⟨ρ2, e, s3, eρ⟩ := for_skip (tg := stName 3) (body := gIfS [] (gB (g2 dGt (gCall dMax1 (Dn.gCons (gV 3) Dn.gNil)) (gC (.int 60)))) gNever gSkip) (fun ρ => ∃ s3, ρ = [.fr (.int n), .fr (tL ms), .fr (tL (least ms)), s3]) ((least ms).map tupI) [.fr (.int n), .fr (tL ms), .fr (tL (least ms)), .no] ⟨_, rfl⟩ (fun d hd ρ ⟨s3, e⟩ => by
      subst e
      obtain ⟨m, hm, rfl⟩ := List.mem_map.mp hd
      obtain ⟨x, xs, rfl, hx⟩ := h4 m hm
      refine ⟨_, rfl, _, (ifF (gb_eq (b := false) ?_)).trans rfl, _, rfl⟩
      rw [op2 ((call1 (d := tupI (x :: xs)) rfl).trans (max1_ints x xs)) rfl]
      show Dr.ret (D.bl (decide ((60 : Int) < xs.foldl max x))) = _
      rw [decide_eq_false (by omega)])
    subst eρ
    refine (seq_nx ((for0 rfl).trans e)).trans ?_
    exact ret_eq (tup2 rfl (call1 (d := tL (least ms)) rfl))
theorem e_sum {n n' : Int} {a b : List (List Int)} {d : D} (h : a.length + b.length ≤ 1000000) (e : m_made [.int n, tL (a ++ b)] = .ret d) : m_sum_of [ideal n a, ideal n' b] = .ret d := by
  refine run_ret (ret_eq ((callK2 (e := tL (a ++ b)) (ix0 rfl) ?_).trans e))
  refine (call1 (d := tT (a ++ b)) ?_).trans rfl
  refine (op2 (ix1 rfl) (ix1 rfl)).trans ?_
  show (if (a.map tupI).length + (b.map tupI).length ≤ 1000000 then Dr.ret (D.tup (a.map tupI ++ b.map tupI)) else Dr.fail) = _
  rw [if_pos (by rw [List.length_map, List.length_map]; exact h), ← List.map_append]
  rfl
def mx (i j : Int) : Int := if j > i then j else i
def mn (i j : Int) : Int := if j < i then j else i
def lcmL (a b : List Int) : List Int := (a.zip b).map fun p => mx p.1 p.2
def cutL (a b : List Int) : List Int := (a.zip b).map fun p => mx (p.1 - p.2) 0
theorem zip_items {f g : Ev → Dr D} {ρ : Ev} {a b : List Int} (h1 : f ρ = .ret (tupI a)) (h2 : g ρ = .ret (tupI b)) : gZip (Dn.gCons f (Dn.gCons g Dn.gNil)) ρ = .ret ((a.zip b).map fun p => D.tup [.int p.1, .int p.2]) := by
  show ((f ρ).bind fun d => ((g ρ).bind fun e => .ret [e]).bind fun ds => .ret (d :: ds)).bind _ = _
  rw [h1, h2, ← zipD_ints]
  rfl
theorem e_lcm (a b : List Int) (h : a.length ≤ 1000000) : m_lcm_of [tupI a, tupI b] = .ret (tupI (lcmL a b)) := by
  refine run_ret (ret_eq ((call1 (d := .lst ((lcmL a b).map D.int)) ?_).trans rfl))
  unfold lcmL
  rw [List.map_map]
  exact glc_all (fun p : Int × Int => D.tup [.int p.1, .int p.2]) (fun p => D.int (mx p.1 p.2)) (a.zip b) (by rw [List.length_zip]; omega) (zip_items rfl rfl) fun p _ => ⟨_, rfl, (call2 (d := .int p.1) (e := .int p.2) rfl rfl).trans rfl⟩
theorem e_cut (a b : List Int) (h : a.length ≤ 1000000) : m_cut [tupI a, tupI b] = .ret (tupI (cutL a b)) := by
  refine run_ret (ret_eq ((call1 (d := .lst ((cutL a b).map D.int)) ?_).trans rfl))
  unfold cutL
  rw [List.map_map]
  exact glc_all (fun p : Int × Int => D.tup [.int p.1, .int p.2]) (fun p => D.int (mx (p.1 - p.2) 0)) (a.zip b) (by rw [List.length_zip]; omega) (zip_items rfl rfl) fun p _ => ⟨_, rfl, (call2 (d := .int (p.1 - p.2)) (e := .int 0) ((op2 (d := .int p.1) (e := .int p.2) rfl rfl).trans rfl) rfl).trans rfl⟩
theorem e_colon {n : Int} {a : List (List Int)} {m : List Int} {d : D} (h : a.length ≤ 1000000) (hl : ∀ g ∈ a, g.length ≤ 1000000) (e : m_made [.int n, tL (a.map fun g => cutL g m)] = .ret d) : m_colon_by [ideal n a, tupI m] = .ret d := by
  refine run_ret (ret_eq ((callK2 (e := tL (a.map fun g => cutL g m)) (ix0 rfl) ?_).trans e))
  unfold tL
  rw [List.map_map]
  exact glc_all tupI (fun g => tupI (cutL g m)) a h (items1 (.inr (.inl (ix1 rfl)))) fun g hg => ⟨_, rfl, (callK2 (d := tupI g) (e := tupI m) rfl rfl).trans (e_cut g m (hl g hg))⟩
def radL (a : List Int) : List Int := a.map fun e => mn e 1
theorem e_radical {n : Int} {a : List (List Int)} {d : D} (h : a.length ≤ 1000000) (hl : ∀ g ∈ a, g.length ≤ 1000000) (e : m_made [.int n, tL (a.map radL)] = .ret d) : m_radical_of [ideal n a] = .ret d := by
  refine run_ret (ret_eq ((callK2 (e := tL (a.map radL)) (ix0 rfl) ?_).trans e))
  unfold tL
  rw [List.map_map]
  refine glc_all tupI (fun g => tupI (radL g)) a h (items1 (.inr (.inl (ix1 rfl)))) fun g hg => ⟨_, rfl, (call1 (d := .lst ((radL g).map D.int)) ?_).trans rfl⟩
  unfold radL
  rw [List.map_map]
  exact glc_all D.int (fun e => D.int (mn e 1)) g (hl g hg) (items1 (.inr (.inl rfl))) fun x _ => ⟨_, rfl, (call2 (d := .int x) (e := .int 1) rfl rfl).trans rfl⟩
def permL (a : List Int) (l : List Nat) : List Int := l.map fun j => a.getD j 0
def lisD (l : List Nat) : D := .ftup (l.map fun j : Nat => D.int (j : Int))
theorem ix_nat {f g : Ev → Dr D} {ρ : Ev} {a : List Int} {j : Nat} (h : f ρ = .ret (tupI a)) (h2 : g ρ = .ret (.int j)) (hj : j < a.length) : g2 dIx f g ρ = .ret (.int (a.getD j 0)) := by
  rw [op2 h h2]
  show (match L2.atI (a.map D.int) (j : Int) with
    | some d => Dr.ret d
    | none => Dr.fail) = _
  rw [atI_map D.int a j hj, List.getD_eq_getElem?_getD, List.getElem?_eq_getElem hj]
  rfl
theorem e_permuted {n : Int} {a : List (List Int)} {l : List Nat} {d : D} (h : a.length ≤ 1000000) (h' : l.length ≤ 1000000) (hl : ∀ g ∈ a, ∀ j ∈ l, j < g.length) (e : m_made [.int n, tL (a.map fun g => permL g l)] = .ret d) : m_permuted [ideal n a, lisD l] = .ret d := by
  refine run_ret (ret_eq ((callK2 (e := tL (a.map fun g => permL g l)) (ix0 rfl) ?_).trans e))
  unfold tL
  rw [List.map_map]
  refine glc_all tupI (fun g => tupI (permL g l)) a h (items1 (.inr (.inl (ix1 rfl)))) fun g hg => ⟨_, rfl, (call1 (d := .lst ((permL g l).map D.int)) ?_).trans rfl⟩
  unfold permL
  rw [List.map_map]
  exact glc_all (fun j : Nat => D.int (j : Int)) (fun j => D.int (g.getD j 0)) l h' (items1 (.inr (.inr rfl))) fun j hj => ⟨_, rfl, ix_nat rfl rfl (hl g hg j hj)⟩
def satL (a : List Int) (v : Nat) : List Int := a.take v ++ [0] ++ a.drop (v + 1)
theorem sl_to {f : Ev → Dr D} {ρ : Ev} {a : List Int} {g : Ev → Dr D} {v : Nat} (h : f ρ = .ret (tupI a)) (h2 : g ρ = .ret (.int v)) : gSl f gNoPart (gPart g) ρ = .ret (tupI (a.take v)) := by
  unfold gSl gNoPart gPart
  rw [h, h2]
  show Dr.ret (D.tup (cutD (a.map D.int) none (some (v : Int)))) = _
  unfold cutD
  rw [HT.sIx_none, HT.sIx_nat, List.drop_zero, Nat.sub_zero, ← List.map_take]
  congr 2
  refine congrArg (List.map D.int) ?_
  rw [List.length_map]
  by_cases c : v ≤ a.length
  · rw [Nat.min_eq_left c]
  · rw [Nat.min_eq_right (by omega), List.take_of_length_le (by omega), List.take_of_length_le (by omega)]
theorem sl_from {f : Ev → Dr D} {ρ : Ev} {a : List Int} {g : Ev → Dr D} {v : Nat} (h : f ρ = .ret (tupI a)) (h2 : g ρ = .ret (.int v)) : gSl f (gPart g) gNoPart ρ = .ret (tupI (a.drop v)) := by
  unfold gSl gNoPart gPart
  rw [h, h2]
  show Dr.ret (D.tup (cutD (a.map D.int) (some (v : Int)) none)) = _
  unfold cutD
  rw [HT.sIx_none, HT.sIx_nat, ← List.map_drop, ← List.map_take]
  congr 2
  refine congrArg (List.map D.int) ?_
  rw [List.length_map]
  by_cases c : v ≤ a.length
  · rw [Nat.min_eq_left c, List.take_of_length_le (by rw [List.length_drop]; omega)]
  · rw [Nat.min_eq_right (by omega), List.drop_of_length_le (Nat.le_refl _), List.drop_of_length_le (by omega), List.take_nil]
theorem add_tup {f g : Ev → Dr D} {ρ : Ev} {a b : List Int} (h : f ρ = .ret (tupI a)) (h2 : g ρ = .ret (tupI b)) (hl : a.length + b.length ≤ 1000000) : g2 dAdd f g ρ = .ret (tupI (a ++ b)) := by
  rw [op2 h h2]
  show (if (a.map D.int).length + (b.map D.int).length ≤ 1000000 then Dr.ret (D.tup (a.map D.int ++ b.map D.int)) else Dr.fail) = _
  rw [if_pos (by rw [List.length_map, List.length_map]; exact hl), ← List.map_append]
  rfl
theorem e_saturated {n : Int} {a : List (List Int)} {v : Nat} {d : D} (h : a.length ≤ 1000000) (hl : ∀ g ∈ a, g.length ≤ 100000) (e : m_made [.int n, tL (a.map fun g => satL g v)] = .ret d) : m_saturated [ideal n a, .int v] = .ret d := by
  refine run_ret (ret_eq ((callK2 (e := tL (a.map fun g => satL g v)) (ix0 rfl) ?_).trans e))
  unfold tL
  rw [List.map_map]
  refine glc_all tupI (fun g => tupI (satL g v)) a h (items1 (.inr (.inl (ix1 rfl)))) fun g hg => ⟨_, rfl, ?_⟩
  have := hl g hg
  refine add_tup (add_tup (sl_to (v := v) rfl rfl) (tup1 (d := .int 0) rfl) ?_) (sl_from (v := v + 1) rfl ?_) ?_
  · simp only [List.length_take, List.length_singleton]
    omega
  · refine (op2 (d := .int v) (e := .int 1) rfl rfl).trans ?_
    rfl
  · simp only [List.length_append, List.length_take, List.length_singleton, List.length_drop]
    omega
end K98
namespace K98
open PySem Dn
/-! ## the law's own side -/
theorem nat_ints (l : List Nat) : l.map (fun i : Nat => D.int (i : Int)) = (l.map fun i : Nat => (i : Int)).map D.int := by
  rw [List.map_map] <;> rfl
theorem divB_range {a b : List Int} (h : a.length = b.length) : decide (((List.range a.length).filter fun k => decide (b.getD k 0 < a.getD k 0)).map (fun i : Nat => (i : Int)) = []) = divB a b := by
  unfold divB
  rw [Bool.eq_iff_iff, decide_eq_true_eq, List.map_eq_nil_iff, List.filter_eq_nil_iff, List.all_eq_true]
  constructor
  · intro hh p hp
    obtain ⟨i, hi⟩ := List.mem_iff_getElem?.mp hp
    rw [List.getElem?_zip_eq_some] at hi
    have h1 := (List.getElem?_eq_some_iff.mp hi.1)
    obtain ⟨l1, e1⟩ := h1
    obtain ⟨l2, e2⟩ := List.getElem?_eq_some_iff.mp hi.2
    have := hh i (List.mem_range.mpr l1)
    rw [List.getD_eq_getElem?_getD, List.getD_eq_getElem?_getD, hi.1, hi.2] at this
    simp only [Option.getD_some, decide_eq_true_eq] at this
    exact decide_eq_true (by omega)
  · intro hh k hk
    have h1 := List.mem_range.mp hk
    have h2 : k < b.length := by omega
    have := hh (a[k], b[k]) (List.mem_iff_getElem?.mpr ⟨k, by rw [List.getElem?_zip_eq_some]; exact ⟨List.getElem?_eq_getElem h1, List.getElem?_eq_getElem h2⟩⟩)
    simp only [decide_eq_true_eq] at this
    rw [List.getD_eq_getElem?_getD, List.getD_eq_getElem?_getD, List.getElem?_eq_getElem h1, List.getElem?_eq_getElem h2]
    simp only [Option.getD_some, decide_eq_true_eq]
    omega
theorem len_tup {f : Ev → Dr D} {ρ : Ev} {a : List Int} (h : f ρ = .ret (tupI a)) : gCall dLen (Dn.gCons f Dn.gNil) ρ = .ret (.int a.length) := by
  rw [call1 h]
  show Dr.ret (D.int (a.map D.int).length) = _
  rw [List.length_map]
theorem e_ldiv {a b : List Int} (h : a.length = b.length) (hl : a.length ≤ 1000000) : m__law_divides [tupI a, tupI b] = .ret (.bl (divB a b)) := by
  refine run_ret (ret_eq ((op2 (d := (eL eI).e (((List.range a.length).filter fun k => decide (b.getD k 0 < a.getD k 0)).map fun i : Nat => (i : Int))) (e := (eL eI).e []) ?_ rfl).trans ?_))
  · show _ = Dr.ret (D.lst ((((List.range a.length).filter fun k => decide (b.getD k 0 < a.getD k 0)).map fun i : Nat => (i : Int)).map D.int))
    rw [← nat_ints]
    refine glc_eq (fun i : Nat => D.int (i : Int)) (fun k => decide (b.getD k 0 < a.getD k 0)) (fun i : Nat => D.int (i : Int)) (List.range a.length) (by rw [List.length_range]; exact hl) (rng1 (len_tup rfl) hl) fun k hk => ⟨_, rfl, gb_eq ?_, fun _ => rfl⟩
    have hk := List.mem_range.mp hk
    exact (op2 (ix_nat (a := a) (j := k) rfl rfl hk) (ix_nat (a := b) (j := k) rfl rfl (by omega))).trans rfl
  · rw [dEq_enc (eL eI) (by decide), divB_range h]
theorem e_lin {gs : List (List Int)} {b : List Int} (h : ∀ a ∈ gs, a.length = b.length) (hl : b.length ≤ 1000000) (hg : gs.length ≤ 1000000) : m__law_in [tT gs, tupI b] = .ret (.bl (gs.any fun a => divB a b)) := by
  refine run_ret (ret_eq ((op2 (d := (eL (eT eI)).e (gs.filter fun a => divB a b)) (e := (eL (eT eI)).e []) ?_ rfl).trans ?_))
  · exact glc_eq tupI (fun a => divB a b) tupI gs hg (items1 (.inr (.inl rfl))) fun a ha => ⟨_, rfl, gb_eq ((callK2 (d := tupI a) (e := tupI b) rfl rfl).trans (e_ldiv (h a ha) (by rw [h a ha]; exact hl))), fun _ => rfl⟩
  · rw [dNe_enc (eL (eT eI)) (by decide)]
    congr 2
    rw [Bool.eq_iff_iff, Bool.not_eq_true', decide_eq_false_iff_not, List.filter_eq_nil_iff, List.any_eq_true]
    constructor
    · intro h
      refine Classical.byContradiction fun z => h fun a ha e => z ⟨a, ha, e⟩
    · rintro ⟨a, ha, e⟩ h
      exact h a ha e
def lleast (ms : List (List Int)) : List (List Int) := (sortU ms).filter fun a => decide ((sortU ms).filter (fun b => decide (b ≠ a) && divB b a) = [])
theorem e_lleast {ms : List (List Int)} {n : Nat} {d : D} (hd : d = tL ms ∨ d = tT ms) (h : ∀ a ∈ ms, a.length = n) (hn : n ≤ 1000000) (h1 : ms.length < 64) (h2 : okTups ms = true) : m__law_least [d] = .ret (tT (lleast ms)) := by
  have ls := sortU_len ms
  refine run_ret ?_
  refine (seq_nx (set0 (d := tL (sortU ms)) (sortU_eq ms (by rcases hd with rfl | rfl; exact .inl rfl; exact .inr rfl) h1 h2))).trans ?_
  refine ret_eq ((call1 (d := tL (lleast ms)) ?_).trans rfl)
  refine glc_eq tupI (fun a => decide ((sortU ms).filter (fun b => decide (b ≠ a) && divB b a) = [])) tupI (sortU ms) (by omega) (items1 (.inl rfl)) fun a ha => ⟨_, rfl, gb_eq ?_, fun _ => rfl⟩
  refine (op2 (d := (eL (eT eI)).e ((sortU ms).filter (fun b => decide (b ≠ a) && divB b a))) (e := (eL (eT eI)).e []) ?_ rfl).trans (dEq_enc (eL (eT eI)) (by decide) _ _)
  refine glc_eq tupI (fun b => decide (b ≠ a) && divB b a) tupI (sortU ms) (by omega) (items1 (.inl rfl)) fun b hb => ⟨_, rfl, ?_, fun _ => rfl⟩
  have ea := h a (mem_sortU.mp ha)
  have eb := h b (mem_sortU.mp hb)
  have e1 : (gB (g2 dNe (gV 3) (gV 2))) (List.set (wipeE (List.set (wipeE (lend [] [.fr d, .fr (tL (sortU ms)), .no, .no]) [2]) 2 (some (tupI a))) [3]) 3 (some (tupI b))) = .ret (!decide (b = a)) :=
    gb_eq ((op2 (d := (eT eI).e b) (e := (eT eI).e a) rfl rfl).trans (dNe_enc (eT eI) (by decide) b a))
  show (_ : Dr Bool).bind _ = _
  refine (congrArg (fun t => Dr.bind t _) e1).trans ?_
  show (if (!decide (b = a)) = true then _ else _) = _
  by_cases c : b = a
  · rw [if_neg (by simpa using c)]
    simp [c]
  · rw [if_pos (by simpa using c)]
    refine (gb_eq ((callK2 (d := tupI b) (e := tupI a) rfl rfl).trans (e_ldiv (by omega) (by omega)))).trans ?_
    simp [c]
end K98
namespace K98
open PySem Dn
/-! ## what is drawn -/
def GoodM (n : Nat) (top : Int) (a : List Int) : Prop := a.length = n ∧ ∀ x ∈ a, 0 ≤ x ∧ x ≤ top
theorem rng_items {f : Ev → Dr D} {ρ : Ev} {n : Nat} (h : f ρ = .ret (.int n)) (hn : n ≤ 1000000) : gRng1 (Dn.gCons f Dn.gNil) ρ = .ret ((List.range n).map fun i : Nat => D.int i) := rng1 h hn
theorem ok_monomial (n top : Nat) (hn : n ≤ 1000) (ht : top ≤ 1000) : Ok (2 * n) (m__law_monomial [.drw, .int n, .int top]) fun d => ∃ a, d = tupI a ∧ GoodM n top a := by
  refine Ok.run (Ok.rt ?_)
  rw [← Nat.add_zero (2 * n)]
  refine Ok.call1 (P := fun d => ∃ ys, d = .lst ys ∧ ys.length = n ∧ ∀ y ∈ ys, ∃ x : Int, y = .int x ∧ 0 ≤ x ∧ x ≤ top) ?_ fun d ⟨ys, e, hl, hy⟩ => ?_
  · have := Ok.glc (c := 2) (fi := gRng1 (Dn.gCons (gV 1) Dn.gNil)) (tg := tgName 3) (fe := gIf (gB (g2 dGt (gDraw (Dn.gCons (gV 0) (Dn.gCons (gC (.int 3)) Dn.gNil))) (gC (.int 0)))) (gDraw (Dn.gCons (gV 0) (Dn.gCons (g2 dAdd (gV 2) (gC (.int 1))) Dn.gNil))) (gC (.int 0))) (vs := [3])
      (ρ := lend [] (begun 4 [.drw, .int n, .int top])) (fun y => ∃ x : Int, y = .int x ∧ 0 ≤ x ∧ x ≤ top) ((List.range n).map fun i : Nat => D.int i) (by rw [List.length_map, List.length_range]; omega) (rng1 rfl (by omega)) fun d hd => ⟨_, rfl, ?_⟩
    · rw [List.length_map, List.length_range] at this
      exact this
    · show Ok (1 + 1) ((gB (g2 dGt (gDraw (Dn.gCons (gV 0) (Dn.gCons (gC (.int 3)) Dn.gNil))) (gC (.int 0))) _).bind _) _
      refine Ok.bind (Q := fun _ => True) ?_ fun b _ => ?_
      · have : gB (g2 dGt (gDraw (Dn.gCons (gV 0) (Dn.gCons (gC (.int 3)) Dn.gNil))) (gC (.int 0))) (List.set (wipeE (lend [] (begun 4 [.drw, .int n, .int top])) [3]) 3 (some d)) = Dr.draw 3 fun r => .ret (decide ((0 : Int) < r)) := by
          unfold gB g2
          rw [draw_eq (b := 3) rfl rfl]
          rfl
        rw [this]
        exact Ok.draw (k := 0) (by decide) (by decide) fun r _ _ => Ok.ret trivial
      · show Ok 1 (if b = true then _ else _) _
        cases b with
        | true =>
          rw [if_pos rfl]
          refine (Ok.drawn (b := (top : Int) + 1) rfl rfl (by omega) (by omega)).mono (Nat.le_refl _) fun d ⟨r, h1, e⟩ => ⟨r, e, by omega, by omega⟩
        | false =>
          rw [if_neg Bool.false_ne_true]
          exact Ok.ret ⟨0, rfl, by omega, by omega⟩
  · subst e
    obtain ⟨a, ea, ha⟩ := map_of (enc := D.int) hy
    subst ea
    exact Ok.ret ⟨a, rfl, by rw [← hl, List.length_map], ha⟩
theorem ok_okT {n : Nat} {top : Int} {ms : List (List Int)} (hn : 0 < n) (h : ∀ a ∈ ms, GoodM n top a) : okTups ms = true := by
  unfold okTups
  rw [List.all_eq_true]
  intro k hk
  have e : (ms.headD [0]).length = n := by
    cases ms with
    | nil => cases hk
    | cons m ms => exact (h m List.mem_cons_self).1
  rw [e, (h k hk).1, decide_eq_true rfl, decide_eq_true hn, Bool.true_and, Bool.true_and, List.all_eq_true]
  exact fun x hx => decide_eq_true ((h k hk).2 x hx).1
theorem mem_lleast {ms : List (List Int)} {a : List Int} (h : a ∈ lleast ms) : a ∈ ms := mem_sortU.mp (List.mem_filter.mp h).1
theorem lleast_len (ms : List (List Int)) : (lleast ms).length ≤ ms.length := Nat.le_trans (List.length_filter_le _ _) (sortU_len ms)
theorem ok_ideal (n count top : Nat) (hn : 0 < n) (hn2 : n ≤ 1000) (hc : count < 60) (ht : top ≤ 1000) : Ok (1 + 2 * n * count) (m__law_ideal [.drw, .int n, .int count, .int top]) fun d => ∃ gs, d = ideal n gs ∧ gs.length ≤ count ∧ ∀ a ∈ gs, GoodM n top a := by
  refine Ok.run ?_
  rw [← Nat.add_zero (1 + 2 * n * count)]
  refine Ok.seq (P := fun ρ' => ∃ ms : List (List Int), ρ' = [.fr .drw, .fr (.int n), .fr (.int count), .fr (.int top), .fr (tL ms), .no, .no] ∧ ms.length ≤ count ∧ ∀ a ∈ ms, GoodM n top a) ?_ fun ρ' ⟨ms, e, hl, hg⟩ => ?_
  · refine (Ok.set0 (Q := fun d => ∃ ms : List (List Int), d = tL ms ∧ ms.length ≤ count ∧ ∀ a ∈ ms, GoodM n top a) ?_).mono (Nat.le_refl _) fun o ⟨ρ', e, d, e2, ms, e3, h1, h2⟩ => ⟨ρ', e, ms, by rw [e2, e3]; rfl, h1, h2⟩
    refine (Ok.drawnLc (c := 2 * n) (b := count + 1) (f := gV 0) (g := g2 dAdd (gV 2) (gC (.int 1))) (fe := gCallK 3 m__law_monomial (Dn.gCons (gV 0) (Dn.gCons (gV 1) (Dn.gCons (gV 3) Dn.gNil)))) (tg := tgName 5) (vs := [5]) (ρ := lend [] (begun 7 [.drw, .int n, .int count, .int top])) (fun y => ∃ a, y = tupI a ∧ GoodM n top a) rfl rfl (by omega) (by omega) fun d => ⟨_, rfl, ?_⟩).mono (by rw [Nat.add_sub_cancel]; exact Nat.le_refl _) fun d ⟨ys, e, h1, h2⟩ => ?_
    · rw [callK3 (d := .drw) (e := .int n) (c := .int top) rfl rfl rfl]
      exact ok_monomial n top hn2 ht
    · obtain ⟨ms, e2, hm⟩ := map_of (enc := tupI) (p := fun a => GoodM n top a) h2
      refine ⟨ms, by rw [e, e2]; rfl, ?_, hm⟩
      rw [e2, List.length_map] at h1
      omega
  · subst e
    refine Ok.rt (Ok.of_eq (a := ideal n (lleast (ms.filter fun a => decide (0 < a.sum)))) ?_ ⟨_, rfl, ?_, ?_⟩)
    · refine tup2 rfl ((callK1 (d := tL (ms.filter fun a => decide (0 < a.sum))) ?_).trans (e_lleast (n := n) (.inl rfl) (fun a ha => (hg a (List.mem_filter.mp ha).1).1) (by omega) (Nat.lt_of_le_of_lt (List.length_filter_le _ _) (by omega)) (ok_okT hn fun a ha => hg a (List.mem_filter.mp ha).1)))
      exact glc_eq tupI (fun a => decide (0 < a.sum)) tupI ms (by omega) (items1 (.inl rfl)) fun a _ => ⟨_, rfl, gb_eq ((op2 (e := .int 0) ((call1 (d := tupI a) rfl).trans (sum_ints a)) rfl).trans rfl), fun _ => rfl⟩
    · exact Nat.le_trans (lleast_len _) (Nat.le_trans (List.length_filter_le _ _) hl)
    · exact fun a ha => hg a (List.mem_filter.mp (mem_lleast ha)).1
end K98
namespace K98
open PySem Dn
def bx : Nat → List (List Int)
  | 0 => [[]]
  | n + 1 => (bx n).flatMap fun a => [a ++ [0], a ++ [1], a ++ [2], a ++ [3]]
theorem box1 : m__law_box [.tup [.int 3]] = .ret (tL (bx 1)) := rfl
theorem box2 : m__law_box [.tup [.int 3, .int 3]] = .ret (tL (bx 2)) := rfl
theorem box3 : m__law_box [.tup [.int 3, .int 3, .int 3]] = .ret (tL (bx 3)) := rfl
theorem bx_in : ∀ (n : Nat) (c : List Int), c.length = n → (∀ x ∈ c, 0 ≤ x ∧ x ≤ 3) → c ∈ bx n
  | 0, c, h, _ => by
    rw [List.length_eq_zero_iff.mp h]
    exact List.mem_cons_self
  | n + 1, c, h, hx => by
    have hc : c ≠ [] := fun z => by
      rw [z] at h
      cases h
    have e := List.dropLast_concat_getLast hc
    have ih := bx_in n c.dropLast (by rw [List.length_dropLast]; omega) fun x m => hx x ((List.dropLast_sublist c).subset m)
    have hl := hx _ (List.getLast_mem hc)
    refine List.mem_flatMap.mpr ⟨_, ih, ?_⟩
    have : c.getLast hc = 0 ∨ c.getLast hc = 1 ∨ c.getLast hc = 2 ∨ c.getLast hc = 3 := by omega
    rcases this with z | z | z | z <;> rw [z] at e <;> simp [e]
theorem bx_good : ∀ (n : Nat) (c : List Int), c ∈ bx n → c.length = n ∧ ∀ x ∈ c, 0 ≤ x ∧ x ≤ 3
  | 0, c, h => by
    rcases List.mem_singleton.mp h with rfl
    exact ⟨rfl, fun x m => nomatch m⟩
  | n + 1, c, h => by
    obtain ⟨a, ha, hc⟩ := List.mem_flatMap.mp h
    obtain ⟨h1, h2⟩ := bx_good n a ha
    have : ∃ k : Int, c = a ++ [k] ∧ 0 ≤ k ∧ k ≤ 3 := by
      simp only [List.mem_cons, List.not_mem_nil, or_false] at hc
      rcases hc with rfl | rfl | rfl | rfl
      · exact ⟨0, rfl, by decide, by decide⟩
      · exact ⟨1, rfl, by decide, by decide⟩
      · exact ⟨2, rfl, by decide, by decide⟩
      · exact ⟨3, rfl, by decide, by decide⟩
    obtain ⟨k, rfl, k0, k1⟩ := this
    refine ⟨by rw [List.length_append, h1]; rfl, fun x m => ?_⟩
    rcases List.mem_append.mp m with m | m
    · exact h2 x m
    · rcases List.mem_singleton.mp m with rfl
      exact ⟨k0, k1⟩
theorem bx_nd {n : Nat} (h : n ≤ 3) : (bx n).Nodup ∧ (bx n).length ≤ 64 := by
  have : n = 0 ∨ n = 1 ∨ n = 2 ∨ n = 3 := by omega
  rcases this with rfl | rfl | rfl | rfl <;> decide +kernel
/-! ### tables -/
def dt (cs : List (List Int)) (f : List Int → Bool) : D := .dT cs (cs.map fun c => .bl (f c))
theorem dPut_dt {cs : List (List Int)} {f : List Int → Bool} {c : List Int} (h : c ∉ cs) (hl : cs.length < 1000000) : dPut (dt cs f) (tupI c) (.bl (f c)) = some (dt (cs ++ [c]) f) := by
  show (match intsD (c.map D.int) with
    | some q => if cs.length < 1000000 then some (D.dT (putK' cs q) (putV' cs (cs.map fun c => D.bl (f c)) q (.bl (f c)))) else none
    | none => none) = _
  rw [intsD_map]
  show (if cs.length < 1000000 then some (D.dT (putK' cs c) (putV' cs (cs.map fun c => D.bl (f c)) c (.bl (f c)))) else none) = _
  rw [if_pos hl]
  unfold putK' putV' dt
  rw [if_neg h, if_neg h, List.map_append]
  rfl
theorem lookG_map {f : List Int → Bool} {c : List Int} : ∀ {cs : List (List Int)}, c ∈ cs → lookG cs (cs.map fun c => D.bl (f c)) c = some (.bl (f c))
  | k :: cs, h => by
    show (if k = c then some (D.bl (f k)) else lookG cs (cs.map fun c => D.bl (f c)) c) = _
    by_cases e : k = c
    · rw [if_pos e, e]
    · rw [if_neg e]
      exact lookG_map ((List.mem_cons.mp h).resolve_left fun z => e z.symm)
theorem dGet_dt {cs : List (List Int)} {f : List Int → Bool} {c : List Int} (h : c ∈ cs) : dGet (dt cs f) (tupI c) = .ret (.bl (f c)) := by
  show (match (intsD (c.map D.int)).map fun q => lookG cs (cs.map fun c => D.bl (f c)) q with
    | some (some v) => Dr.ret v
    | _ => Dr.fail) = _
  rw [intsD_map, Option.map_some, lookG_map h]
theorem dput_eq {i : Nat} {fv fk : Ev → Dr D} {ρ : SEnv} {d k : D} {b : Bool} (h : ρ[i]? = some (.own d)) (h1 : fv (lend [] ρ) = .ret (.bl b)) (h2 : fk (lend [] ρ) = .ret k) :
    gDPut i [] fv fk ρ = match dPut d k (.bl b) with
      | some d' => .ret (.nx (ρ.set i (.own d')))
      | none => .fail := by
  unfold gDPut
  rw [h]
  show (fv (lend [] ρ)).bind _ = _
  rw [h1]
  show (fk (lend [] ρ)).bind _ = _
  rw [h2]
  rfl
theorem put_loop {tg : STg} {body : SEnv → Dr Out} (mk : D → SV → SEnv) (f : List Int → Bool) : ∀ (cs done : List (List Int)) (s : SV), (done ++ cs).Nodup → (done ++ cs).length < 1000000 →
    (∀ c ∈ cs, ∀ d s, tg (tupI c) (mk d s) = some (mk d (.fr (tupI c)))) → (∀ c ∈ cs, ∀ d, body (mk d (.fr (tupI c))) = match dPut d (tupI c) (.bl (f c)) with
      | some d' => .ret (.nx (mk d' (.fr (tupI c))))
      | none => .fail) → ∃ s', forGo tg body (cs.map tupI) (mk (dt done f) s) = .ret (.nx (mk (dt (done ++ cs) f) s'))
  | [], done, s, _, _, _, _ => ⟨s, by rw [List.append_nil]; rfl⟩
  | c :: cs, done, s, nd, hl, ht, hb => by
    have e : done ++ c :: cs = (done ++ [c]) ++ cs := by simp
    obtain ⟨s', ih⟩ := put_loop mk f cs (done ++ [c]) (.fr (tupI c)) (by rw [← e]; exact nd) (by rw [← e]; exact hl) (fun x m => ht x (List.mem_cons_of_mem _ m)) fun x m => hb x (List.mem_cons_of_mem _ m)
    refine ⟨s', ?_⟩
    show (match tg (tupI c) (mk (dt done f) s) with
      | none => Dr.fail
      | some ρ' => (body ρ').bind (loopOut (forGo tg body (cs.map tupI)))) = _
    rw [ht c List.mem_cons_self]
    show (body _).bind _ = _
    have hc : c ∉ done := fun m => (List.nodup_append.mp nd).2.2 c m c List.mem_cons_self rfl
    rw [hb c List.mem_cons_self, dPut_dt hc (by rw [List.length_append] at hl; omega), e]
    exact ih
def inn (gs : List (List Int)) (c : List Int) : Bool := gs.any fun a => divB a c
theorem e_table {n : Nat} {gs : List (List Int)} (h1 : 1 ≤ n) (h3 : n ≤ 3) (hg : ∀ a ∈ gs, a.length = n) (hl : gs.length ≤ 1000000) : m__law_table [.int n, tT gs] = .ret (dt (bx n) (inn gs)) := by
  have hbox : gItems (gCallK 1 m__law_box (Dn.gCons (g2 dMul (Dn.gTup (Dn.gCons (gC (.int 3)) Dn.gNil)) (gV 0)) Dn.gNil)) (lend [] [.fr (.int n), .fr (tT gs), .own (.dT [] []), .no]) = .ret ((bx n).map tupI) := by
    have : n = 1 ∨ n = 2 ∨ n = 3 := by omega
    rcases this with rfl | rfl | rfl
    · exact items1 (.inl ((callK1 (d := .tup [.int 3]) rfl).trans box1))
    · exact items1 (.inl ((callK1 (d := .tup [.int 3, .int 3]) rfl).trans box2))
    · exact items1 (.inl ((callK1 (d := .tup [.int 3, .int 3, .int 3]) rfl).trans box3))
  obtain ⟨nd, bl⟩ := bx_nd h3
  obtain ⟨s', e⟩ := put_loop (tg := stName 3) (body := gDPut 2 [] (gCallK 2 m__law_in (Dn.gCons (gV 1) (Dn.gCons (gV 3) Dn.gNil))) (gV 3)) (fun d s => [.fr (.int n), .fr (tT gs), .own d, s]) (inn gs) (bx n) [] .no (by simpa using nd) (by simp only [List.nil_append]; omega) (fun c _ d s => rfl) fun c hc d =>
    dput_eq rfl ((callK2 (d := tT gs) (e := tupI c) rfl rfl).trans (e_lin (fun a ha => by rw [hg a ha, (bx_good n c hc).1]) (by rw [(bx_good n c hc).1]; omega) hl)) rfl
  show (gSeq _ _ _).bind outD = _
  refine (congrArg (fun t => Dr.bind t outD) (seq_nx (ρ' := [.fr (.int n), .fr (tT gs), .own (.dT [] []), .no]) rfl)).trans ?_
  refine (congrArg (fun t => Dr.bind t outD) (seq_nx ((for0 hbox).trans e))).trans ?_
  rfl
end K98
namespace K98
open PySem Dn
theorem dEq_str {x y : Str} (hx : PyData.canLay0 (.str x) = true) (hy : PyData.canLay0 (.str y) = true) : dEq (.str x) (.str y) = .ret (.bl (x == y)) := by
  have sh : ∀ z : Str, PyData.canLay0 (.str z) = true → SeqAt.shaped (.str z) = true := fun z h => by
    show (PyData.canLay0 (.str z) && decide (PyData.depth (.str z) ≤ 64)) = true
    rw [h]
    rfl
  show (if SeqAt.shaped (.str x) = true ∧ SeqAt.shaped (.str y) = true then Dr.ret (x == y) else Dr.fail).bind _ = _
  rw [if_pos ⟨sh x hx, sh y hy⟩]
  rfl
theorem wT {i : Nat} {ρ : Ev} {x : Str} (h : gV i ρ = .ret (.str x)) (hx : PyData.canLay0 (.str x) = true := by decide +kernel) : gB (g2 dEq (gV i) (gC (.str x))) ρ = .ret true :=
  gb_eq ((op2 h rfl).trans ((dEq_str hx hx).trans (by rw [beq_self_eq_true])))
theorem wF {i : Nat} {ρ : Ev} {x y : Str} (h : gV i ρ = .ret (.str x)) (hx : PyData.canLay0 (.str x) = true := by decide +kernel) (hy : PyData.canLay0 (.str y) = true := by decide +kernel) (hn : (x == y) = false := by decide +kernel) : gB (g2 dEq (gV i) (gC (.str y))) ρ = .ret false :=
  gb_eq ((op2 h rfl).trans ((dEq_str hx hy).trans (by rw [hn])))
/-! ### tables led along -/
def bMoved : SEnv → Dr Out :=
    (gIfS [] (gB (g2 dEq (gV 1) (gC (.str "sum"))))
    (gDPut 3 [] (gOrV (g2 dGet (gV 0) (gV 4)) (g2 dGet (gV 2) (gV 4))) (gV 4))
    (gIfS [] (gB (g2 dEq (gV 1) (gC (.str "meet"))))
    (gDPut 3 [] (gAndV (g2 dGet (gV 0) (gV 4)) (g2 dGet (gV 2) (gV 4))) (gV 4))
    (gIfS [] (gB (g2 dEq (gV 1) (gC (.str "colon"))))
    (gDPut 3 [] (g2 dGet (gV 0) (gCall dTupleOf (Dn.gCons (gLc (gRng1 (Dn.gCons (gCall dLen (Dn.gCons (gV 4) Dn.gNil)) Dn.gNil)) (tgName 5) gYes (gCall dMin2 (Dn.gCons (gC (.int 3)) (Dn.gCons (g2 dAdd (g2 dIx (gV 4) (gV 5)) (g2 dIx (gV 2) (gV 5))) Dn.gNil))) [5]) Dn.gNil))) (gV 4))
    (gIfS [] (gB (g2 dEq (gV 1) (gC (.str "radical"))))
    (gDPut 3 [] (g2 dGet (gV 0) (gCall dTupleOf (Dn.gCons (gLc (gItems (gV 4)) (tgName 6) gYes (gIf (gB (g2 dGt (gV 6) (gC (.int 0)))) (gC (.int 3)) (gC (.int 0))) [6]) Dn.gNil))) (gV 4))
    (gIfS [] (gB (g2 dEq (gV 1) (gC (.str "saturated"))))
    (gDPut 3 [] (g2 dGet (gV 0) (gCall dTupleOf (Dn.gCons (gLc (gRng1 (Dn.gCons (gCall dLen (Dn.gCons (gV 4) Dn.gNil)) Dn.gNil)) (tgName 5) gYes (gIf (gB (g2 dEq (gV 5) (gV 2))) (gC (.int 3)) (g2 dIx (gV 4) (gV 5))) [5]) Dn.gNil))) (gV 4))
    (gDPut 3 [] (g2 dGet (gV 0) (gCall dTupleOf (Dn.gCons (gLc (gRng1 (Dn.gCons (gCall dLen (Dn.gCons (gV 4) Dn.gNil)) Dn.gNil)) (tgName 5) gYes (g2 dIx (gV 4) (gTIdx (gV 2) (gV 5))) [5]) Dn.gNil))) (gV 4)))))))
theorem e_moved {cs : List (List Int)} {t f : List Int → Bool} {w : Str} {data : D} (nd : cs.Nodup) (hl : cs.length < 1000000)
    (hb : ∀ c ∈ cs, ∀ d, bMoved [.fr (dt cs t), .fr (.str w), .fr data, .own d, .fr (tupI c), .no, .no] = match dPut d (tupI c) (.bl (f c)) with
      | some d' => .ret (.nx [.fr (dt cs t), .fr (.str w), .fr data, .own d', .fr (tupI c), .no, .no])
      | none => .fail) : m__law_moved [dt cs t, .str w, data] = .ret (dt cs f) := by
  obtain ⟨s', e⟩ := put_loop (tg := stName 4) (body := bMoved) (fun d s => [.fr (dt cs t), .fr (.str w), .fr data, .own d, s, .no, .no]) f cs [] .no (by simpa using nd) (by simpa using hl) (fun c _ d s => rfl) hb
  show (gSeq _ _ _).bind outD = _
  refine (congrArg (fun t => Dr.bind t outD) (seq_nx (ρ' := [.fr (dt cs t), .fr (.str w), .fr data, .own (.dT [] []), .no, .no, .no]) rfl)).trans ?_
  refine (congrArg (fun t => Dr.bind t outD) (seq_nx (ρ' := [.fr (dt cs t), .fr (.str w), .fr data, .own (dt cs f), s', .no, .no]) ?_)).trans ?_
  · show noexc (forGo (stName 4) bMoved (cs.map tupI) [.fr (dt cs t), .fr (.str w), .fr data, .own (.dT [] []), .no, .no, .no]) = _
    exact congrArg noexc e
  · rfl
theorem get_t {i j : Nat} {ρ : Ev} {cs : List (List Int)} {t : List Int → Bool} {c : List Int} (h : gV i ρ = .ret (dt cs t)) {f : Ev → Dr D} (h2 : f ρ = .ret (tupI c)) (hc : c ∈ cs) : g2 dGet (gV i) f ρ = .ret (.bl (t c)) := (op2 h h2).trans (dGet_dt hc)
theorem m_sum {cs : List (List Int)} {t u : List Int → Bool} (nd : cs.Nodup) (hl : cs.length < 1000000) : m__law_moved [dt cs t, .str "sum", dt cs u] = .ret (dt cs fun c => t c || u c) := e_moved nd hl fun c hc d => by
  refine (ifT (wT rfl)).trans (dput_eq (d := d) rfl ?_ rfl)
  show (g2 dGet (gV 0) (gV 4) _).bind _ = _
  refine (congrArg (fun x => Dr.bind x _) (get_t (j := 0) (cs := cs) (t := t) (c := c) rfl rfl hc)).trans ?_
  show (if t c = true then Dr.ret (D.bl true) else _) = _
  cases h : t c with
  | true => rfl
  | false => exact (get_t (j := 0) (cs := cs) (t := u) (c := c) rfl rfl hc)
theorem m_meet {cs : List (List Int)} {t u : List Int → Bool} (nd : cs.Nodup) (hl : cs.length < 1000000) : m__law_moved [dt cs t, .str "meet", dt cs u] = .ret (dt cs fun c => t c && u c) := e_moved nd hl fun c hc d => by
  refine (ifF (wF rfl)).trans ((ifT (wT rfl)).trans (dput_eq (d := d) rfl ?_ rfl))
  show (g2 dGet (gV 0) (gV 4) _).bind _ = _
  refine (congrArg (fun x => Dr.bind x _) (get_t (j := 0) (cs := cs) (t := t) (c := c) rfl rfl hc)).trans ?_
  show (if t c = true then _ else Dr.ret (D.bl false)) = _
  cases h : t c with
  | false => rfl
  | true => exact (get_t (j := 0) (cs := cs) (t := u) (c := c) rfl rfl hc)
/-- what the table is asked at -/
def atColon (m c : List Int) : List Int := (List.range c.length).map fun j => mn 3 (c.getD j 0 + m.getD j 0)
def atRad (c : List Int) : List Int := c.map fun e => if (0 : Int) < e then 3 else 0
def atSat (v : Nat) (c : List Int) : List Int := (List.range c.length).map fun j => if j = v then 3 else c.getD j 0
def atPerm (l : List Nat) (c : List Int) : List Int := (List.range c.length).map fun j => c.getD (l.idxOf j) 0
theorem m_colon {cs : List (List Int)} {t : List Int → Bool} {m : List Int} (nd : cs.Nodup) (hl : cs.length < 1000000) (hm : ∀ c ∈ cs, c.length = m.length ∧ c.length ≤ 1000 ∧ atColon m c ∈ cs) : m__law_moved [dt cs t, .str "colon", tupI m] = .ret (dt cs fun c => t (atColon m c)) := e_moved nd hl fun c hc d => by
  obtain ⟨h1, h2, h3⟩ := hm c hc
  refine (ifF (wF rfl)).trans ((ifF (wF rfl)).trans ((ifT (wT rfl)).trans (dput_eq (d := d) rfl (get_t (j := 0) (cs := cs) (t := t) (c := atColon m c) rfl ?_ h3) rfl)))
  refine (call1 (d := .lst ((atColon m c).map D.int)) ?_).trans rfl
  unfold atColon
  rw [List.map_map]
  refine glc_all (fun j : Nat => D.int (j : Int)) (fun j => D.int (mn 3 (c.getD j 0 + m.getD j 0))) (List.range c.length) (by rw [List.length_range]; omega) (rng1 (len_tup rfl) (by omega)) fun j hj => ⟨_, rfl, ?_⟩
  have hj := List.mem_range.mp hj
  exact (call2 (d := .int 3) (e := .int (c.getD j 0 + m.getD j 0)) rfl ((op2 (ix_nat (a := c) (j := j) rfl rfl hj) (ix_nat (a := m) (j := j) rfl rfl (by omega))).trans rfl)).trans rfl
theorem m_rad {cs : List (List Int)} {t : List Int → Bool} (nd : cs.Nodup) (hl : cs.length < 1000000) (hm : ∀ c ∈ cs, c.length ≤ 1000 ∧ atRad c ∈ cs) : m__law_moved [dt cs t, .str "radical", .non] = .ret (dt cs fun c => t (atRad c)) := e_moved nd hl fun c hc d => by
  obtain ⟨h2, h3⟩ := hm c hc
  refine (ifF (wF rfl)).trans ((ifF (wF rfl)).trans ((ifF (wF rfl)).trans ((ifT (wT rfl)).trans (dput_eq (d := d) rfl (get_t (j := 0) (cs := cs) (t := t) (c := atRad c) rfl ?_ h3) rfl))))
  refine (call1 (d := .lst ((atRad c).map D.int)) ?_).trans rfl
  unfold atRad
  rw [List.map_map]
  refine glc_all D.int (fun e => D.int (if (0 : Int) < e then 3 else 0)) c (by omega) (items1 (.inr (.inl rfl))) fun e _ => ⟨_, rfl, ?_⟩
  show (gB _ _).bind _ = _
  refine (congrArg (fun x => Dr.bind x _) (gb_eq (b := decide ((0 : Int) < e)) rfl)).trans ?_
  show (if decide ((0 : Int) < e) = true then _ else _) = _
  by_cases h : (0 : Int) < e
  · rw [if_pos (decide_eq_true h), if_pos h]
    rfl
  · rw [if_neg (by simpa using h), if_neg h]
    rfl
theorem m_sat {cs : List (List Int)} {t : List Int → Bool} {v : Nat} (nd : cs.Nodup) (hl : cs.length < 1000000) (hm : ∀ c ∈ cs, c.length ≤ 1000 ∧ atSat v c ∈ cs) : m__law_moved [dt cs t, .str "saturated", .int v] = .ret (dt cs fun c => t (atSat v c)) := e_moved nd hl fun c hc d => by
  obtain ⟨h2, h3⟩ := hm c hc
  refine (ifF (wF rfl)).trans ((ifF (wF rfl)).trans ((ifF (wF rfl)).trans ((ifF (wF rfl)).trans ((ifT (wT rfl)).trans (dput_eq (d := d) rfl (get_t (j := 0) (cs := cs) (t := t) (c := atSat v c) rfl ?_ h3) rfl)))))
  refine (call1 (d := .lst ((atSat v c).map D.int)) ?_).trans rfl
  unfold atSat
  rw [List.map_map]
  refine glc_all (fun j : Nat => D.int (j : Int)) (fun j => D.int (if j = v then 3 else c.getD j 0)) (List.range c.length) (by rw [List.length_range]; omega) (rng1 (len_tup rfl) (by omega)) fun j hj => ⟨_, rfl, ?_⟩
  have hj := List.mem_range.mp hj
  show (gB _ _).bind _ = _
  refine (congrArg (fun x => Dr.bind x _) (gb_eq (b := decide ((j : Int) = (v : Int))) ((op2 (d := eI.e (j : Int)) (e := eI.e (v : Int)) rfl rfl).trans (dEq_enc eI (by decide) _ _)))).trans ?_
  show (if decide ((j : Int) = (v : Int)) = true then _ else _) = _
  by_cases h : j = v
  · rw [if_pos (decide_eq_true (by rw [h])), if_pos h]
    rfl
  · rw [if_neg (by rw [decide_eq_true_eq]; omega), if_neg h]
    exact ix_nat (a := c) (j := j) rfl rfl hj
theorem tidx {f g : Ev → Dr D} {ρ : Ev} {l : List Nat} {j : Nat} (h : f ρ = .ret (lisD l)) (h2 : g ρ = .ret (.int j)) (hj : j ∈ l) : gTIdx f g ρ = .ret (.int (l.idxOf j : Nat)) := by
  show (f ρ).bind _ = _
  rw [h]
  show (g ρ).bind _ = _
  rw [h2]
  show (match intsD (l.map fun j : Nat => D.int (j : Int)) with
    | some ns => if (j : Int) ∈ ns then Dr.ret (D.int ((ns.idxOf (j : Int) : Nat) : Int)) else .fail
    | none => .fail) = _
  rw [nat_ints, intsD_map]
  show (if (j : Int) ∈ l.map (fun i : Nat => (i : Int)) then Dr.ret (D.int (((l.map fun i : Nat => (i : Int)).idxOf (j : Int) : Nat) : Int)) else .fail) = _
  rw [if_pos (List.mem_map.mpr ⟨j, hj, rfl⟩)]
  congr 3
  clear h h2
  induction l with
  | nil => rfl
  | cons k l ih =>
    rw [List.map_cons, List.idxOf_cons, List.idxOf_cons]
    by_cases e : k = j
    · simp [e]
    · have : ((k : Int) == (j : Int)) = false := by
        rw [beq_eq_false_iff_ne]
        omega
      have e2 : (k == j) = false := by simpa using e
      rw [this, e2]
      simp only [cond_false]
      rw [ih ((List.mem_cons.mp hj).resolve_left fun z => e z.symm)]
theorem m_perm {cs : List (List Int)} {t : List Int → Bool} {l : List Nat} (nd : cs.Nodup) (hl : cs.length < 1000000) (hm : ∀ c ∈ cs, c.length ≤ 1000 ∧ (∀ j, j < c.length → j ∈ l) ∧ l.length = c.length ∧ atPerm l c ∈ cs) : m__law_moved [dt cs t, .str "permuted", lisD l] = .ret (dt cs fun c => t (atPerm l c)) := e_moved nd hl fun c hc d => by
  obtain ⟨h2, h4, h5, h3⟩ := hm c hc
  refine (ifF (wF rfl)).trans ((ifF (wF rfl)).trans ((ifF (wF rfl)).trans ((ifF (wF rfl)).trans ((ifF (wF rfl)).trans (dput_eq (d := d) rfl (get_t (j := 0) (cs := cs) (t := t) (c := atPerm l c) rfl ?_ h3) rfl)))))
  refine (call1 (d := .lst ((atPerm l c).map D.int)) ?_).trans rfl
  unfold atPerm
  rw [List.map_map]
  refine glc_all (fun j : Nat => D.int (j : Int)) (fun j => D.int (c.getD (l.idxOf j) 0)) (List.range c.length) (by rw [List.length_range]; omega) (rng1 (len_tup rfl) (by omega)) fun j hj => ⟨_, rfl, ?_⟩
  have hj := List.mem_range.mp hj
  exact ix_nat (a := c) (j := l.idxOf j) rfl (tidx rfl rfl (h4 j hj)) (by rw [← h5]; exact List.idxOf_lt_length_of_mem (h4 j hj))
end K98
namespace K98
open PySem Dn
theorem ok_of {ds : List D} (h0 : 0 < ds.length) (h1 : ds.length < 1000000) : Ok 1 (m__law_of [.drw, .lst ds]) fun d => ∃ (i : Nat) (h : i < ds.length), d = ds[i] := by
  refine Ok.run (Ok.rt ?_)
  have e : g2 dIx (gV 1) (gDraw (Dn.gCons (gV 0) (Dn.gCons (gCall dLen (Dn.gCons (gV 1) Dn.gNil)) Dn.gNil))) (lend [] (begun 2 [.drw, .lst ds])) = (gDraw (Dn.gCons (gV 0) (Dn.gCons (gCall dLen (Dn.gCons (gV 1) Dn.gNil)) Dn.gNil)) (lend [] (begun 2 [.drw, .lst ds]))).bind (dIx (.lst ds)) := rfl
  rw [e, draw_eq (b := (ds.length : Int)) rfl rfl]
  refine Ok.draw (k := 0) (by omega) (by omega) fun r r0 r1 => ?_
  obtain ⟨i, rfl⟩ := Int.eq_ofNat_of_zero_le r0
  have hi : i < ds.length := by omega
  show Ok 0 (match L2.atI ds (i : Int) with
    | some d => Dr.ret d
    | none => Dr.fail) _
  rw [L2.atI_nat (List.getElem?_eq_getElem hi)]
  exact Ok.ret ⟨i, hi, rfl⟩
def natD (i : Nat) : D := .int (i : Int)
def bList : SEnv → Dr Out := gSeq (gSet 5 [] (gCallK 2 m__law_of (Dn.gCons (gV 0) (Dn.gCons (gV 2) Dn.gNil))))
    (gSeq (gSet 2 [] (gLc (gItems (gV 2)) (tgName 6) (gB (g2 dNe (gV 6) (gV 5))) (gV 6) [6]))
    (gMeth 3 [] (Dn.gCons (gV 5) Dn.gNil) mAppend))
theorem list_step {n : Nat} {left found : List Nat} {s4 s5 s6 : SV} (hl : 0 < left.length) (h1 : left.length < 1000000) (h2 : found.length < 1000000) :
    Ok 1 (bList [.fr .drw, .fr (.int n), .fr (.lst (left.map natD)), .own (.lst (found.map natD)), s4, s5, s6]) fun o => ∃ one ∈ left, o = .nx [.fr .drw, .fr (.int n), .fr (.lst ((left.filter fun x => decide (x ≠ one)).map natD)), .own (.lst ((found ++ [one]).map natD)), s4, .fr (natD one), s6] := by
  rw [← Nat.add_zero 1]
  refine Ok.seq (P := fun ρ' => ∃ one ∈ left, ρ' = [.fr .drw, .fr (.int n), .fr (.lst (left.map natD)), .own (.lst (found.map natD)), s4, .fr (natD one), s6]) ?_ fun ρ' ⟨one, ho, e⟩ => ?_
  · refine (Ok.set0 (Q := fun d => ∃ one ∈ left, d = natD one) ?_).mono (Nat.le_refl _) fun o ⟨ρ', e, d, e2, one, ho, e3⟩ => ⟨ρ', e, one, ho, by rw [e2, e3]; rfl⟩
    rw [callK2 (d := .drw) (e := .lst (left.map natD)) rfl rfl]
    refine (ok_of (by rw [List.length_map]; exact hl) (by rw [List.length_map]; exact h1)).mono (Nat.le_refl _) fun d ⟨i, hi, e⟩ => ?_
    rw [List.length_map] at hi
    exact ⟨left[i], List.getElem_mem hi, by rw [e, List.getElem_map]⟩
  · subst e
    refine Ok.of_eq ?_ ⟨one, ho, rfl⟩
    refine (seq_nx (set0 (d := .lst ((left.filter fun x => decide (x ≠ one)).map natD)) ?_)).trans ?_
    · refine glc_eq natD (fun x => decide (x ≠ one)) natD left (by omega) (items1 (.inl rfl)) fun x _ => ⟨_, rfl, gb_eq ?_, fun _ => rfl⟩
      refine (op2 (d := eI.e (x : Int)) (e := eI.e (one : Int)) rfl rfl).trans ((dNe_enc eI (by decide) _ _).trans ?_)
      congr 2
      by_cases c : x = one
      · simp [c]
      · have : ¬ ((x : Int) = (one : Int)) := by omega
        simp [c]
        exact this
    · show (match mAppend (found.map natD) [natD one] with
        | some z => Dr.ret (Out.nx ((if z.2 = true then _ else freeze [] _).set 3 (.own (.lst z.1))))
        | none => Dr.fail) = _
      rw [app_tup _ _ (by rw [List.length_map]; exact h2), show found.map natD ++ [natD one] = (found ++ [one]).map natD by rw [List.map_append]; rfl]
      rfl
theorem ok_listing (n : Nat) (hn : n ≤ 1000) : Ok n (m__law_listing [.drw, .int n]) fun d => ∃ l : List Nat, d = lisD l ∧ l.Perm (List.range n) := by
  refine Ok.run ?_
  have e1 : gParN 2 3 [] (gLstRg1 (gV 1)) (Dn.gLst Dn.gNil) (begun 7 [.drw, .int n]) = .ret (.nx [.fr .drw, .fr (.int n), .fr (.lst ((List.range n).map natD)), .own (.lst (([] : List Nat).map natD)), .no, .no, .no]) := by
    have : gLstRg1 (gV 1) (lend [] (begun 7 [.drw, .int n])) = .ret (.lst ((List.range n).map natD)) := by
      show (if -1000000 ≤ (n : Int) ∧ (n : Int) ≤ 1000000 then Dr.ret (D.lst (rangeD 0 (n : Int).toNat)) else Dr.fail) = _
      rw [if_pos ⟨by omega, by omega⟩]
      unfold rangeD natD
      simp
    show (gLstRg1 (gV 1) (lend [] (begun 7 [.drw, .int n]))).bind _ = _
    rw [this]
    rfl
  show Ok n (gSeq _ _ (begun 7 [.drw, .int n])) _
  rw [seq_nx e1]
  rw [← Nat.add_zero n]
  refine Ok.seq (P := fun ρ' => ∃ (l : List Nat) (s2 s4 s5 s6 : SV), ρ' = [.fr .drw, .fr (.int n), s2, .own (.lst (l.map natD)), s4, s5, s6] ∧ l.Perm (List.range n)) ?_ fun ρ' ⟨l, s2, s4, s5, s6, e, hp⟩ => ?_
  · rw [for0 (rng1 rfl (by omega))]
    have key := Ok.for (c := 1) (tg := stName 4) (body := bList) (R := fun o => ∃ ρ', o = .nx ρ' ∧ ∃ (l : List Nat) (s2 s4 s5 s6 : SV), ρ' = [.fr .drw, .fr (.int n), s2, .own (.lst (l.map natD)), s4, s5, s6] ∧ l.Perm (List.range n))
      (fun i ρ => ∃ (left found : List Nat) (s4 s5 s6 : SV), ρ = [.fr .drw, .fr (.int n), .fr (.lst (left.map natD)), .own (.lst (found.map natD)), s4, s5, s6] ∧ (found ++ left).Perm (List.range n) ∧ found.length = i) ((List.range n).map fun i : Nat => D.int i) 0 _ ⟨List.range n, [], .no, .no, .no, rfl, List.Perm.refl _, rfl⟩
      (fun j d ρ hd ⟨left, found, s4, s5, s6, e, hp, hl⟩ => ?_) (fun ρ ⟨left, found, s4, s5, s6, e, hp, hl⟩ => ?_)
    · rw [List.length_map, List.length_range, Nat.one_mul] at key
      exact key
    · subst e
      refine ⟨_, rfl, ?_⟩
      have hj : j < n := by
        have := (List.getElem?_eq_some_iff.mp hd).1
        rw [List.length_map, List.length_range] at this
        exact this
      have hlen := hp.length_eq
      rw [List.length_append, List.length_range] at hlen
      refine (list_step (by omega) (by omega) (by omega)).mono (Nat.le_refl _) fun o ⟨one, ho, e⟩ => ?_
      subst e
      refine ⟨_, _, _, _, _, rfl, ?_, by rw [List.length_append, hl]; rfl⟩
      have nd : left.Nodup := (List.nodup_append.mp (hp.nodup_iff.mpr List.nodup_range)).2.1
      have ef : (left.filter fun x => decide (x ≠ one)) = left.erase one := by
        rw [nd.erase_eq_filter]
        congr 1
        funext x
        by_cases c : x = one <;> simp [c]
      rw [ef, List.append_assoc]
      refine List.Perm.trans ?_ hp
      exact List.Perm.append_left _ (List.perm_cons_erase ho).symm
    · have hlen := hp.length_eq
      rw [List.length_append, List.length_range] at hlen
      rw [List.length_map, List.length_range] at hl
      have : left = [] := List.length_eq_zero_iff.mp (by omega)
      subst this
      rw [List.append_nil] at hp
      exact ⟨_, rfl, found, _, s4, s5, s6, e, hp⟩
  · subst e
    exact Ok.rt (Ok.of_eq (a := lisD l) ((call1 (d := .lst (l.map natD)) rfl).trans rfl) ⟨l, rfl, hp⟩)
end K98
namespace K98
open PySem Dn
/-! ## the mathematics -/
theorem divB_iff {a b : List Int} {n : Nat} (ha : a.length = n) (hb : b.length = n) : divB a b = true ↔ ∀ i, i < n → a.getD i 0 ≤ b.getD i 0 := by
  unfold divB
  rw [List.all_eq_true]
  constructor
  · intro h i hi
    have := h (a[i]'(by omega), b[i]'(by omega)) (List.mem_iff_getElem?.mpr ⟨i, by rw [List.getElem?_zip_eq_some]; exact ⟨List.getElem?_eq_getElem (by omega), List.getElem?_eq_getElem (by omega)⟩⟩)
    rw [List.getD_eq_getElem?_getD, List.getD_eq_getElem?_getD, List.getElem?_eq_getElem (by omega), List.getElem?_eq_getElem (by omega)]
    simpa using this
  · intro h p hp
    obtain ⟨i, hi⟩ := List.mem_iff_getElem?.mp hp
    rw [List.getElem?_zip_eq_some] at hi
    obtain ⟨l1, e1⟩ := List.getElem?_eq_some_iff.mp hi.1
    have := h i (by omega)
    rw [List.getD_eq_getElem?_getD, List.getD_eq_getElem?_getD, hi.1, hi.2] at this
    simpa using this
theorem div_refl (a : List Int) : divB a a = true := (divB_iff rfl rfl).mpr fun _ _ => Int.le_refl _
theorem div_trans {a b c : List Int} {n : Nat} (ha : a.length = n) (hb : b.length = n) (hc : c.length = n) (h1 : divB a b = true) (h2 : divB b c = true) : divB a c = true :=
  (divB_iff ha hc).mpr fun i hi => Int.le_trans ((divB_iff ha hb).mp h1 i hi) ((divB_iff hb hc).mp h2 i hi)
theorem div_lex : ∀ {a b : List Int}, a.length = b.length → divB a b = true → a = b ∨ HT.lexLt a b = true
  | [], [], _, _ => .inl rfl
  | x :: a, y :: b, hl, h => by
    unfold divB at h
    rw [List.zip_cons_cons, List.all_cons, Bool.and_eq_true, decide_eq_true_eq] at h
    obtain ⟨h1, h2⟩ := h
    have h1 : x ≤ y := h1
    rcases div_lex (by simpa using hl) h2 with e | e
    · subst e
      by_cases c : x = y
      · exact .inl (by rw [c])
      · refine .inr ?_
        rw [HT.lexLt_cons, if_neg c]
        exact decide_eq_true (by omega)
    · refine .inr ?_
      rw [HT.lexLt_cons]
      by_cases c : x = y
      · rw [if_pos c]
        exact e
      · rw [if_neg c]
        exact decide_eq_true (by omega)
/-! ### least ones -/
def NC (l : List (List Int)) : Prop := ∀ a ∈ l, ∀ b ∈ l, divB a b = true → a = b
theorem lg_mem : ∀ {ms found : List (List Int)} {a : List Int}, a ∈ leastGo found ms → a ∈ found ∨ a ∈ ms
  | [], found, a, h => .inl h
  | m :: ms, found, a, h => by
    unfold leastGo at h
    split at h
    · rcases lg_mem h with h | h
      · exact .inl h
      · exact .inr (List.mem_cons_of_mem _ h)
    · rcases lg_mem h with h | h
      · rcases List.mem_append.mp h with h | h
        · exact .inl h
        · rcases List.mem_singleton.mp h with rfl
          exact .inr List.mem_cons_self
      · exact .inr (List.mem_cons_of_mem _ h)
theorem lg_keep : ∀ {ms found : List (List Int)} {a : List Int}, a ∈ found → a ∈ leastGo found ms
  | [], found, a, h => h
  | m :: ms, found, a, h => by
    unfold leastGo
    split
    · exact lg_keep h
    · exact lg_keep (List.mem_append_left _ h)
theorem lg_cover : ∀ {ms found : List (List Int)} {m : List Int}, m ∈ ms → ∃ o ∈ leastGo found ms, divB o m = true
  | x :: ms, found, m, h => by
    unfold leastGo
    rcases List.mem_cons.mp h with rfl | h
    · split
      · rename_i c
        obtain ⟨o, ho, hd⟩ := List.any_eq_true.mp c
        exact ⟨o, lg_keep ho, hd⟩
      · exact ⟨m, lg_keep (List.mem_append_right _ List.mem_cons_self), div_refl m⟩
    · split
      · exact lg_cover h
      · exact lg_cover h
theorem lg_nc {n : Nat} : ∀ {ms found : List (List Int)}, (∀ a ∈ found, a.length = n) → (∀ a ∈ ms, a.length = n) → NC found → Asc found → Asc ms → (∀ f ∈ found, ∀ m ∈ ms, HT.lexLt f m = true) → NC (leastGo found ms) ∧ Asc (leastGo found ms)
  | [], found, _, _, h, h2, _, _ => ⟨h, h2⟩
  | m :: ms, found, hf, hm, nc, as, am, lt => by
    unfold leastGo
    obtain ⟨a1, a2⟩ := List.pairwise_cons.mp am
    split
    · exact lg_nc hf (fun a h => hm a (List.mem_cons_of_mem _ h)) nc as a2 fun f h x hx => lt f h x (List.mem_cons_of_mem _ hx)
    · rename_i c
      have c : ∀ f ∈ found, divB f m = false := fun f h => by
        cases e : divB f m with
        | false => rfl
        | true => exact absurd (List.any_eq_true.mpr ⟨f, h, e⟩) c
      refine lg_nc (fun a h => ?_) (fun a h => hm a (List.mem_cons_of_mem _ h)) (fun a ha b hb d => ?_) ?_ a2 fun f h x hx => ?_
      · rcases List.mem_append.mp h with h | h
        · exact hf a h
        · rcases List.mem_singleton.mp h with rfl
          exact hm a List.mem_cons_self
      · rcases List.mem_append.mp ha with ha' | ha'
        · rcases List.mem_append.mp hb with hb' | hb'
          · exact nc a ha' b hb' d
          · rcases List.mem_singleton.mp hb' with rfl
            rw [c a ha'] at d
            cases d
        · rcases List.mem_singleton.mp ha' with rfl
          rcases List.mem_append.mp hb with hb' | hb'
          · rcases div_lex (by rw [hm a List.mem_cons_self, hf b hb']) d with e | e
            · exact e
            · have := lex_trans e (lt b hb' a List.mem_cons_self)
              rw [lex_irr] at this
              cases this
          · rcases List.mem_singleton.mp hb' with rfl
            rfl
      · refine List.pairwise_append.mpr ⟨as, List.pairwise_singleton _ _, fun a ha b hb => ?_⟩
        rcases List.mem_singleton.mp hb with rfl
        exact lt a ha b List.mem_cons_self
      · rcases List.mem_append.mp h with h | h
        · exact lt f h x (List.mem_cons_of_mem _ hx)
        · rcases List.mem_singleton.mp h with rfl
          exact a1 x hx
theorem least_mem {ms : List (List Int)} {a : List Int} (h : a ∈ least ms) : a ∈ ms := by
  rcases lg_mem h with h | h
  · cases h
  · exact mem_sortU.mp h
theorem least_nc {ms : List (List Int)} {n : Nat} (h : ∀ a ∈ ms, a.length = n) : NC (least ms) ∧ Asc (least ms) :=
  lg_nc (n := n) (fun a h => nomatch h) (fun a ha => h a (mem_sortU.mp ha)) (fun a h => nomatch h) List.Pairwise.nil (asc_sortU ms) fun f h => nomatch h
theorem least_in {ms : List (List Int)} {n : Nat} {c : List Int} (h : ∀ a ∈ ms, a.length = n) (hc : c.length = n) : inn (least ms) c = inn ms c := by
  unfold inn
  rw [Bool.eq_iff_iff, List.any_eq_true, List.any_eq_true]
  constructor
  · rintro ⟨a, ha, d⟩
    exact ⟨a, least_mem ha, d⟩
  · rintro ⟨a, ha, d⟩
    obtain ⟨o, ho, d2⟩ := lg_cover (found := []) (mem_sortU.mpr ha)
    exact ⟨o, ho, div_trans (h o (least_mem ho)) (h a ha) hc d2 d⟩
theorem lleast_id {gs : List (List Int)} (h1 : NC gs) (h2 : Asc gs) : lleast gs = gs := by
  have e : sortU gs = gs := asc_unique (asc_sortU gs) h2 fun x => mem_sortU
  unfold lleast
  rw [e, List.filter_eq_self]
  intro a ha
  rw [decide_eq_true_eq, List.filter_eq_nil_iff]
  intro b hb hd
  rw [Bool.and_eq_true, decide_eq_true_eq] at hd
  exact hd.1 (h1 b hb a ha hd.2)
theorem nodup_len : ∀ {l m : List (List Int)}, l.Nodup → (∀ x ∈ l, x ∈ m) → l.length ≤ m.length
  | [], m, _, _ => Nat.zero_le _
  | x :: l, m, nd, h => by
    obtain ⟨n1, n2⟩ := List.nodup_cons.mp nd
    have hx := h x List.mem_cons_self
    have ih := nodup_len (l := l) (m := m.erase x) n2 fun y hy => by
      have : y ≠ x := fun e => n1 (e ▸ hy)
      exact (List.mem_erase_of_ne this).mpr (h y (List.mem_cons_of_mem _ hy))
    rw [List.length_erase_of_mem hx] at ih
    have := List.length_pos_of_mem hx
    rw [List.length_cons]
    omega
theorem nc_len {gs : List (List Int)} {n : Nat} (h1 : NC gs) (h2 : Asc gs) (hn : 1 ≤ n) (hn3 : n ≤ 3) (hg : ∀ a ∈ gs, GoodM n 3 a) : gs.length ≤ 16 := by
  have nd : (gs.map List.tail).Nodup := by
    refine List.pairwise_map.mpr (List.Pairwise.imp_of_mem ?_ h2)
    intro a b ha hb lt e
    have la := (hg a ha).1
    have lb := (hg b hb).1
    cases a with
    | nil => simp at la; omega
    | cons x a =>
      cases b with
      | nil => simp at lb; omega
      | cons y b =>
        have e : a = b := e
        subst e
        have key : ∀ (x y : Int), x ≤ y → divB (x :: a) (y :: a) = true := fun x y h => by
          show (decide (x ≤ y) && divB a a) = true
          rw [decide_eq_true h, div_refl]
          rfl
        have : x :: a = y :: a := by
          rcases Int.le_total x y with h | h
          · exact h1 _ ha _ hb (key x y h)
          · exact (h1 _ hb _ ha (key y x h)).symm
        rw [this, lex_irr] at lt
        cases lt
  have := nodup_len nd (m := bx (n - 1)) fun x hx => by
    obtain ⟨a, ha, rfl⟩ := List.mem_map.mp hx
    refine bx_in (n - 1) _ ?_ fun z hz => (hg a ha).2 z (List.mem_of_mem_tail hz)
    rw [List.length_tail, (hg a ha).1]
  rw [List.length_map] at this
  have e : n = 1 ∨ n = 2 ∨ n = 3 := by omega
  rcases e with rfl | rfl | rfl
  · exact Nat.le_trans this (by decide)
  · exact Nat.le_trans this (by decide)
  · exact Nat.le_trans this (by decide)
end K98
namespace K98
open PySem Dn
theorem getD_of {l : List Int} {i : Nat} {x : Int} (h : l[i]? = some x) : l.getD i 0 = x := by
  rw [List.getD_eq_getElem?_getD, h]
  rfl
theorem getD_at {l : List Int} {i : Nat} (h : i < l.length) : l[i]? = some (l.getD i 0) := by
  rw [List.getD_eq_getElem?_getD, List.getElem?_eq_getElem h]
  rfl
theorem getD_mem {l : List Int} {i : Nat} (h : i < l.length) : l.getD i 0 ∈ l := List.mem_of_getElem? (getD_at h)
theorem getD_zip {a b : List Int} {f : Int × Int → Int} {i : Nat} (h1 : i < a.length) (h2 : i < b.length) : ((a.zip b).map f).getD i 0 = f (a.getD i 0, b.getD i 0) := by
  refine getD_of ?_
  have e : (a.zip b)[i]? = some (a.getD i 0, b.getD i 0) := List.getElem?_zip_eq_some.mpr ⟨getD_at h1, getD_at h2⟩
  rw [List.getElem?_map, e]
  rfl
theorem getD_map {a : List Int} {f : Int → Int} {i : Nat} (h1 : i < a.length) : (a.map f).getD i 0 = f (a.getD i 0) := by
  refine getD_of ?_
  rw [List.getElem?_map, getD_at h1]
  rfl
theorem getD_range {n : Nat} {f : Nat → Int} {i : Nat} (h1 : i < n) : ((List.range n).map f).getD i 0 = f i := by
  refine getD_of ?_
  rw [List.getElem?_map, List.getElem?_range h1]
  rfl
theorem div_congr {a b c d : List Int} {n : Nat} (ha : a.length = n) (hb : b.length = n) (hc : c.length = n) (hd : d.length = n) (h : ∀ i, i < n → (a.getD i 0 ≤ b.getD i 0 ↔ c.getD i 0 ≤ d.getD i 0)) : divB a b = divB c d := by
  rw [Bool.eq_iff_iff, divB_iff ha hb, divB_iff hc hd]
  exact ⟨fun z i hi => (h i hi).mp (z i hi), fun z i hi => (h i hi).mpr (z i hi)⟩
theorem at_bd {n : Nat} {top : Int} {a : List Int} (h : GoodM n top a) {i : Nat} (hi : i < n) : 0 ≤ a.getD i 0 ∧ a.getD i 0 ≤ top := h.2 _ (getD_mem (by rw [h.1]; exact hi))
theorem good_of {n : Nat} {top : Int} {a : List Int} (h1 : a.length = n) (h2 : ∀ i, i < n → 0 ≤ a.getD i 0 ∧ a.getD i 0 ≤ top) : GoodM n top a := ⟨h1, fun x hx => by
  obtain ⟨i, hi⟩ := List.mem_iff_getElem?.mp hx
  have := h2 i (by rw [← h1]; exact (List.getElem?_eq_some_iff.mp hi).1)
  rw [getD_of hi] at this
  exact this⟩
variable {n : Nat} {a b c m : List Int}
/-! colon -/
theorem cut_good (ha : GoodM n 3 a) (hm : GoodM n 2 m) : GoodM n 3 (cutL a m) := good_of (by unfold cutL; rw [List.length_map, List.length_zip, ha.1, hm.1, Nat.min_self]) fun i hi => by
  unfold cutL
  rw [getD_zip (by rw [ha.1]; exact hi) (by rw [hm.1]; exact hi)]
  have h1 := at_bd ha hi
  have h2 := at_bd hm hi
  unfold mx
  split <;> omega
theorem colon_good (hc : GoodM n 3 c) (hm : GoodM n 2 m) : GoodM n 3 (atColon m c) := good_of (by unfold atColon; rw [List.length_map, List.length_range, hc.1]) fun i hi => by
  unfold atColon
  rw [getD_range (by rw [hc.1]; exact hi)]
  have h1 := at_bd hc hi
  have h2 := at_bd hm hi
  unfold mn
  split <;> omega
theorem colon_div (ha : GoodM n 3 a) (hm : GoodM n 2 m) (hc : GoodM n 3 c) : divB (cutL a m) c = divB a (atColon m c) := div_congr (cut_good ha hm).1 hc.1 ha.1 (colon_good hc hm).1 fun i hi => by
  unfold cutL atColon
  rw [getD_zip (by rw [ha.1]; exact hi) (by rw [hm.1]; exact hi), getD_range (by rw [hc.1]; exact hi)]
  have h1 := at_bd ha hi
  have h2 := at_bd hm hi
  have h3 := at_bd hc hi
  unfold mx mn
  constructor
  · intro h
    split at h <;> split <;> omega
  · intro h
    split at h <;> split <;> omega
/-! radical -/
theorem rad_good (ha : GoodM n 3 a) : GoodM n 3 (radL a) := good_of (by unfold radL; rw [List.length_map, ha.1]) fun i hi => by
  unfold radL
  rw [getD_map (by rw [ha.1]; exact hi)]
  have h1 := at_bd ha hi
  unfold mn
  split <;> omega
theorem atRad_good (hc : GoodM n 3 c) : GoodM n 3 (atRad c) := good_of (by unfold atRad; rw [List.length_map, hc.1]) fun i hi => by
  unfold atRad
  rw [getD_map (by rw [hc.1]; exact hi)]
  split <;> omega
theorem rad_div (ha : GoodM n 3 a) (hc : GoodM n 3 c) : divB (radL a) c = divB a (atRad c) := div_congr (rad_good ha).1 hc.1 ha.1 (atRad_good hc).1 fun i hi => by
  unfold radL atRad
  rw [getD_map (by rw [ha.1]; exact hi), getD_map (by rw [hc.1]; exact hi)]
  have h1 := at_bd ha hi
  have h3 := at_bd hc hi
  unfold mn
  constructor
  · intro h
    split at h <;> split <;> omega
  · intro h
    split at h <;> split <;> omega
/-! saturated -/
theorem sat_get {v i : Nat} (hv : v < a.length) (hi : i < a.length) : (satL a v).getD i 0 = if i = v then 0 else a.getD i 0 := by
  refine getD_of ?_
  unfold satL
  have hl : (a.take v).length = v := by
    rw [List.length_take]
    omega
  by_cases h : i < v
  · rw [if_neg (by omega), List.append_assoc, List.getElem?_append_left (by omega), List.getElem?_take, if_pos h, getD_at hi]
  · by_cases e : i = v
    · rw [if_pos e, List.append_assoc, List.getElem?_append_right (by omega), hl, e, Nat.sub_self]
      rfl
    · rw [if_neg e, List.getElem?_append_right (by rw [List.length_append, hl]; simp only [List.length_singleton]; omega), List.length_append, hl, List.getElem?_drop]
      have : v + 1 + (i - (v + [(0 : Int)].length)) = i := by
        simp only [List.length_singleton]
        omega
      rw [this, getD_at hi]
theorem sat_good {v : Nat} (ha : GoodM n 3 a) (hv : v < n) : GoodM n 3 (satL a v) := good_of (by
    have := ha.1
    unfold satL
    simp only [List.length_append, List.length_take, List.length_singleton, List.length_drop]
    omega) fun i hi => by
  rw [sat_get (by rw [ha.1]; exact hv) (by rw [ha.1]; exact hi)]
  have h1 := at_bd ha hi
  split <;> omega
theorem atSat_good {v : Nat} (hc : GoodM n 3 c) : GoodM n 3 (atSat v c) := good_of (by unfold atSat; rw [List.length_map, List.length_range, hc.1]) fun i hi => by
  unfold atSat
  rw [getD_range (by rw [hc.1]; exact hi)]
  have h1 := at_bd hc hi
  split <;> omega
theorem sat_div {v : Nat} (ha : GoodM n 3 a) (hv : v < n) (hc : GoodM n 3 c) : divB (satL a v) c = divB a (atSat v c) := div_congr (sat_good ha hv).1 hc.1 ha.1 (atSat_good hc).1 fun i hi => by
  unfold atSat
  rw [sat_get (by rw [ha.1]; exact hv) (by rw [ha.1]; exact hi), getD_range (by rw [hc.1]; exact hi)]
  have h1 := at_bd ha hi
  have h3 := at_bd hc hi
  by_cases e : i = v
  · rw [if_pos e, if_pos e]
    omega
  · rw [if_neg e, if_neg e]
/-! permuted -/
theorem perm_get {l : List Nat} {i : Nat} (hi : i < l.length) : (permL a l).getD i 0 = a.getD l[i] 0 := by
  refine getD_of ?_
  unfold permL
  rw [List.getElem?_map, List.getElem?_eq_getElem hi]
  rfl
theorem perm_good {l : List Nat} (ha : GoodM n 3 a) (hl : l.Perm (List.range n)) : GoodM n 3 (permL a l) := by
  have hlen : l.length = n := by
    have := hl.length_eq
    rwa [List.length_range] at this
  refine good_of (by unfold permL; rw [List.length_map, hlen]) fun i hi => ?_
  rw [perm_get (by omega)]
  exact at_bd ha (List.mem_range.mp (hl.mem_iff.mp (List.getElem_mem (by omega))))
theorem atPerm_good {l : List Nat} (hc : GoodM n 3 c) (hl : l.Perm (List.range n)) : GoodM n 3 (atPerm l c) := by
  have hlen : l.length = n := by
    have := hl.length_eq
    rwa [List.length_range] at this
  refine good_of (by unfold atPerm; rw [List.length_map, List.length_range, hc.1]) fun i hi => ?_
  unfold atPerm
  rw [getD_range (by rw [hc.1]; exact hi)]
  refine at_bd hc ?_
  rw [← hlen]
  exact List.idxOf_lt_length_of_mem (hl.mem_iff.mpr (List.mem_range.mpr hi))
theorem perm_div {l : List Nat} (ha : GoodM n 3 a) (hl : l.Perm (List.range n)) (hc : GoodM n 3 c) : divB (permL a l) c = divB a (atPerm l c) := by
  have hlen : l.length = n := by
    have := hl.length_eq
    rwa [List.length_range] at this
  rw [Bool.eq_iff_iff, divB_iff (perm_good ha hl).1 hc.1, divB_iff ha.1 (atPerm_good hc hl).1]
  constructor
  · intro h j hj
    have hm : j ∈ l := hl.mem_iff.mpr (List.mem_range.mpr hj)
    have hx := List.idxOf_lt_length_of_mem hm
    have := h (l.idxOf j) (by omega)
    rw [perm_get hx, List.getElem_idxOf] at this
    unfold atPerm
    rw [getD_range (by rw [hc.1]; exact hj)]
    exact this
  · intro h i hi
    have hi' : i < l.length := by omega
    have hm : l[i] < n := List.mem_range.mp (hl.mem_iff.mp (List.getElem_mem hi'))
    have := h l[i] hm
    unfold atPerm at this
    rw [getD_range (by rw [hc.1]; exact hm)] at this
    have nd : l.Nodup := hl.nodup_iff.mpr List.nodup_range
    rw [nd.idxOf_getElem i hi'] at this
    rw [perm_get hi']
    exact this
/-! meet -/
theorem lcm_good (ha : GoodM n 3 a) (hb : GoodM n 3 b) : GoodM n 3 (lcmL a b) := good_of (by unfold lcmL; rw [List.length_map, List.length_zip, ha.1, hb.1, Nat.min_self]) fun i hi => by
  unfold lcmL
  rw [getD_zip (by rw [ha.1]; exact hi) (by rw [hb.1]; exact hi)]
  have h1 := at_bd ha hi
  have h2 := at_bd hb hi
  unfold mx
  split <;> omega
theorem lcm_div (ha : GoodM n 3 a) (hb : GoodM n 3 b) (hc : GoodM n 3 c) : divB (lcmL a b) c = (divB a c && divB b c) := by
  rw [Bool.eq_iff_iff, Bool.and_eq_true, divB_iff (lcm_good ha hb).1 hc.1, divB_iff ha.1 hc.1, divB_iff hb.1 hc.1]
  have key : ∀ i, i < n → (lcmL a b).getD i 0 = mx (a.getD i 0) (b.getD i 0) := fun i hi => by
    unfold lcmL
    rw [getD_zip (by rw [ha.1]; exact hi) (by rw [hb.1]; exact hi)]
  constructor
  · intro h
    refine ⟨fun i hi => ?_, fun i hi => ?_⟩
    · have := h i hi
      rw [key i hi] at this
      unfold mx at this
      split at this <;> omega
    · have := h i hi
      rw [key i hi] at this
      unfold mx at this
      split at this <;> omega
  · rintro ⟨h1, h2⟩ i hi
    have := h1 i hi
    have := h2 i hi
    rw [key i hi]
    unfold mx
    split <;> omega
theorem inn_map {gs : List (List Int)} {f : List Int → List Int} {c c' : List Int} (h : ∀ a ∈ gs, divB (f a) c = divB a c') : inn (gs.map f) c = inn gs c' := by
  unfold inn
  rw [List.any_map, Bool.eq_iff_iff, List.any_eq_true, List.any_eq_true]
  constructor
  · rintro ⟨a, ha, e⟩
    exact ⟨a, ha, by rw [← h a ha]; exact e⟩
  · rintro ⟨a, ha, e⟩
    exact ⟨a, ha, by show divB (f a) c = true; rw [h a ha]; exact e⟩
def meetL (a b : List (List Int)) : List (List Int) := a.flatMap fun x => b.map fun y => lcmL x y
theorem inn_meet {a b : List (List Int)} {n : Nat} {c : List Int} (ha : ∀ x ∈ a, GoodM n 3 x) (hb : ∀ x ∈ b, GoodM n 3 x) (hc : GoodM n 3 c) : inn (meetL a b) c = (inn a c && inn b c) := by
  unfold inn meetL
  rw [Bool.eq_iff_iff, Bool.and_eq_true, List.any_eq_true, List.any_eq_true, List.any_eq_true]
  constructor
  · rintro ⟨z, hz, e⟩
    obtain ⟨x, hx, hz⟩ := List.mem_flatMap.mp hz
    obtain ⟨y, hy, rfl⟩ := List.mem_map.mp hz
    rw [lcm_div (ha x hx) (hb y hy) hc, Bool.and_eq_true] at e
    exact ⟨⟨x, hx, e.1⟩, y, hy, e.2⟩
  · rintro ⟨⟨x, hx, e1⟩, y, hy, e2⟩
    exact ⟨_, List.mem_flatMap.mpr ⟨x, hx, List.mem_map.mpr ⟨y, hy, rfl⟩⟩, by rw [lcm_div (ha x hx) (hb y hy) hc, e1, e2]; rfl⟩
theorem meet_len (a b : List (List Int)) : (meetL a b).length = a.length * b.length := by
  unfold meetL
  induction a with
  | nil => simp
  | cons x a ih =>
    rw [List.flatMap_cons, List.length_append, ih, List.length_map, List.length_cons, Nat.add_mul, Nat.one_mul, Nat.add_comm]
end K98
namespace K98
open PySem Dn
theorem e_meet {n n' : Int} {a b : List (List Int)} {d : D} (h : a.length * b.length < 1000000) (hl : ∀ g ∈ a, g.length ≤ 1000000) (e : m_made [.int n, tL (meetL a b)] = .ret d) : m_meet_of [ideal n a, ideal n' b] = .ret d := by
  refine run_ret (ret_eq ((callK2 (e := tL (meetL a b)) (ix0 rfl) ?_).trans e))
  have : (meetL a b).map tupI = a.flatMap fun x => b.map fun y => tupI (lcmL x y) := by
    unfold meetL
    rw [List.map_flatMap]
    congr 1
    funext x
    rw [List.map_map]
    rfl
  unfold tL
  rw [this]
  exact glc2_eq tupI tupI a b (fun x y => tupI (lcmL x y)) h (items1 (.inr (.inl (ix1 rfl)))) fun x hx => ⟨_, rfl, items1 (.inr (.inl (ix1 rfl))), fun y hy => ⟨_, rfl, (callK2 (d := tupI x) (e := tupI y) rfl rfl).trans (e_lcm x y (hl x hx))⟩⟩
/-- what holds of an ideal in n variables -/
structure St (n : Nat) (gs : List (List Int)) : Prop where
  n1 : 1 ≤ n
  n3 : n ≤ 3
  good : ∀ a ∈ gs, GoodM n 3 a
  few : gs.length ≤ 16
theorem St.ln {n : Nat} {gs : List (List Int)} (s : St n gs) : ∀ a ∈ gs, a.length = n := fun a h => (s.good a h).1
theorem foldl_max_le {m : Int} : ∀ {xs : List Int} {x : Int}, x ≤ m → (∀ y ∈ xs, y ≤ m) → xs.foldl max x ≤ m
  | [], x, h, _ => h
  | y :: xs, x, h, hs => foldl_max_le (x := max x y) (by have := hs y List.mem_cons_self; omega) fun z hz => hs z (List.mem_cons_of_mem _ hz)
theorem made_ok {n : Nat} {ms : List (List Int)} (h1 : 1 ≤ n) (h3 : n ≤ 3) (hg : ∀ a ∈ ms, GoodM n 3 a) (hl : ms.length < 64) :
    m_made [.int n, tL ms] = .ret (ideal n (least ms)) ∧ St n (least ms) ∧ NC (least ms) ∧ Asc (least ms) ∧ ∀ c, c.length = n → inn (least ms) c = inn ms c := by
  obtain ⟨nc, as⟩ := least_nc (n := n) fun a h => (hg a h).1
  have few := nc_len nc as h1 h3 fun a h => hg a (least_mem h)
  refine ⟨e_made n ms hl (ok_okT (n := n) h1 hg) (by omega) fun m hm => ?_, ⟨h1, h3, fun a h => hg a (least_mem h), few⟩, nc, as, fun c hc => least_in (fun a h => (hg a h).1) hc⟩
  obtain ⟨l1, l2⟩ := hg m (least_mem hm)
  cases m with
  | nil =>
    simp at l1
    omega
  | cons x xs => exact ⟨x, xs, rfl, Int.le_trans (foldl_max_le (m := 3) (l2 x List.mem_cons_self).2 fun y hy => (l2 y (List.mem_cons_of_mem _ hy)).2) (by decide)⟩
/-- what one operation leaves -/
def Res (n : Nat) (d : D) : Prop := ∃ gs t, d = .tup [ideal n gs, dt (bx n) t] ∧ St n gs ∧ NC gs ∧ Asc gs ∧ ∀ c ∈ bx n, t c = inn gs c
theorem res_of {n : Nat} {ms : List (List Int)} {t : List Int → Bool} (h1 : 1 ≤ n) (h3 : n ≤ 3) (hg : ∀ a ∈ ms, GoodM n 3 a) (hl : ms.length < 64) (ht : ∀ c ∈ bx n, t c = inn ms c) : Res n (.tup [ideal n (least ms), dt (bx n) t]) := by
  obtain ⟨_, h, nc, as, e⟩ := made_ok h1 h3 hg hl
  exact ⟨_, _, rfl, h, nc, as, fun c hc => by rw [ht c hc, e c (bx_good n c hc).1]⟩
def wordsL : List D := [.str "sum", .str "meet", .str "colon", .str "radical", .str "saturated", .str "permuted", .str "sum", .str "meet"]
theorem ok_done {n : Nat} {gs : List (List Int)} {t : List Int → Bool} (s : St n gs) (ht : ∀ c ∈ bx n, t c = inn gs c) : Ok 100 (m__law_done [.drw, ideal n gs, dt (bx n) t]) (Res n) := by
  obtain ⟨nd, bl⟩ := bx_nd s.n3
  have n1 := s.n1
  have n3 := s.n3
  have gB3 : ∀ c ∈ bx n, GoodM n 3 c := fun c hc => bx_good n c hc
  have hn2 : n ≤ 1000 := by omega
  refine (Ok.run (k := 1 + ((1 + 2 * n * 3) + 10)) ?_).mono (by omega) fun _ q => q
  show Ok _ (gSeq _ _ (begun 9 [.drw, ideal n gs, dt (bx n) t])) _
  rw [seq_nx (set0 (d := .int n) (ix0 rfl))]
  refine Ok.seq (P := fun ρ' => ∃ (i : Nat) (h : i < 8), ρ' = [.fr .drw, .fr (ideal n gs), .fr (dt (bx n) t), .fr (.int n), .fr (wordsL[i]'h), .no, .no, .no, .no]) ?_ fun ρ' ⟨i, hi, e⟩ => ?_
  · refine (Ok.set0 (Q := fun d => ∃ (i : Nat) (h : i < 8), d = wordsL[i]'h) ?_).mono (Nat.le_refl _) fun o ⟨ρ', e, d, e2, i, h, e3⟩ => ⟨ρ', e, i, h, by rw [e2, e3]; rfl⟩
    rw [callK2 (d := .drw) (e := .lst wordsL) rfl rfl]
    exact ok_of (ds := wordsL) (by decide) (by decide)
  subst e
  refine Ok.seq (P := fun ρ' => ∃ os, ρ' = [.fr .drw, .fr (ideal n gs), .fr (dt (bx n) t), .fr (.int n), .fr (wordsL[i]'hi), .fr (ideal n os), .no, .no, .no] ∧ os.length ≤ 3 ∧ ∀ a ∈ os, GoodM n 3 a) ?_ fun ρ' ⟨os, e, ol, og⟩ => ?_
  · refine (Ok.set0 (Q := fun d => ∃ os, d = ideal n os ∧ os.length ≤ 3 ∧ ∀ a ∈ os, GoodM n 3 a) ?_).mono (Nat.le_refl _) fun o ⟨ρ', e, d, e2, os, e3, h1, h2⟩ => ⟨ρ', e, os, by rw [e2, e3]; rfl, h1, h2⟩
    have key := ok_ideal n 3 3 n1 hn2 (by decide) (by decide)
    rw [← Nat.zero_add (1 + 2 * n * 3)]
    exact Ok.callK4 (k := 0) (P := fun d => d = .int n) (a := .drw) (c := .int 3) (d := .int 3) rfl (Ok.ret rfl) rfl rfl fun b e => by
      subst e
      exact key
  subst e
  have hot : m__law_table [.int n, tT os] = .ret (dt (bx n) (inn os)) := e_table n1 n3 (fun a h => (og a h).1) (by omega)
  have few := s.few
  have tail : ∀ {w : Str} (x : D), gCallK 2 m__law_table (Dn.gCons (gV 3) (Dn.gCons (g2 dIx (gV 5) (gC (.int 1))) Dn.gNil)) (lend [] [.fr .drw, .fr (ideal n gs), .fr (dt (bx n) t), .fr (.int n), .fr (.str w), .fr (ideal n os), .no, .no, .no]) = .ret (dt (bx n) (inn os)) := fun x => (callK2 (d := .int n) (e := tT os) rfl (ix1 rfl)).trans hot
  have w_sum : ∀ (h : SEnv → Dr Out), gSeq (gIfS [] (gB (g2 dEq (gV 4) (gC (.str "sum"))))
    (gRet [] (Dn.gTup (Dn.gCons (gCallK 2 m_sum_of (Dn.gCons (gV 1) (Dn.gCons (gV 5) Dn.gNil))) (Dn.gCons (gCallK 3 m__law_moved (Dn.gCons (gV 2) (Dn.gCons (gV 4) (Dn.gCons (gCallK 2 m__law_table (Dn.gCons (gV 3) (Dn.gCons (g2 dIx (gV 5) (gC (.int 1))) Dn.gNil))) Dn.gNil)))) Dn.gNil))))
    gSkip) h [.fr .drw, .fr (ideal n gs), .fr (dt (bx n) t), .fr (.int n), .fr (.str "sum"), .fr (ideal n os), .no, .no, .no] = .ret (.ret (.tup [ideal n (least (gs ++ os)), dt (bx n) fun c => t c || inn os c])) := fun h => by
    refine seq_ret ((ifT (wT rfl)).trans (ret_eq (tup2 ?_ ?_)))
    · exact (callK2 (d := ideal n gs) (e := ideal n os) rfl rfl).trans (e_sum (by omega) (made_ok n1 n3 (ms := gs ++ os) (fun a ha => by
        rcases List.mem_append.mp ha with ha | ha
        · exact s.good a ha
        · exact og a ha) (by rw [List.length_append]; omega)).1)
    · exact (callK3 (d := dt (bx n) t) (e := .str "sum") (c := dt (bx n) (inn os)) rfl rfl (tail .non)).trans (m_sum nd (by omega))
  have r_sum : Res n (.tup [ideal n (least (gs ++ os)), dt (bx n) fun c => t c || inn os c]) := res_of n1 n3 (fun a ha => by
        rcases List.mem_append.mp ha with ha | ha
        · exact s.good a ha
        · exact og a ha) (by rw [List.length_append]; omega) fun c hc => by
    rw [ht c hc]
    unfold inn
    rw [List.any_append]
  have gm : ∀ a ∈ meetL gs os, GoodM n 3 a := fun a ha => by
    obtain ⟨x, hx, ha⟩ := List.mem_flatMap.mp ha
    obtain ⟨y, hy, rfl⟩ := List.mem_map.mp ha
    exact lcm_good (s.good x hx) (og y hy)
  have lm : (meetL gs os).length < 64 := by
    rw [meet_len]
    have := Nat.mul_le_mul few ol
    omega
  have r_meet : Res n (.tup [ideal n (least (meetL gs os)), dt (bx n) fun c => t c && inn os c]) := res_of n1 n3 gm lm fun c hc => by
    rw [ht c hc, inn_meet s.good og (gB3 c hc)]
  have w_meet : ∀ (h : SEnv → Dr Out), gSeq (gIfS [] (gB (g2 dEq (gV 4) (gC (.str "meet"))))
    (gRet [] (Dn.gTup (Dn.gCons (gCallK 2 m_meet_of (Dn.gCons (gV 1) (Dn.gCons (gV 5) Dn.gNil))) (Dn.gCons (gCallK 3 m__law_moved (Dn.gCons (gV 2) (Dn.gCons (gV 4) (Dn.gCons (gCallK 2 m__law_table (Dn.gCons (gV 3) (Dn.gCons (g2 dIx (gV 5) (gC (.int 1))) Dn.gNil))) Dn.gNil)))) Dn.gNil))))
    gSkip) h [.fr .drw, .fr (ideal n gs), .fr (dt (bx n) t), .fr (.int n), .fr (.str "meet"), .fr (ideal n os), .no, .no, .no] = .ret (.ret (.tup [ideal n (least (meetL gs os)), dt (bx n) fun c => t c && inn os c])) := fun h => by
    refine seq_ret ((ifT (wT rfl)).trans (ret_eq (tup2 ?_ ?_)))
    · exact (callK2 (d := ideal n gs) (e := ideal n os) rfl rfl).trans (e_meet (by have := Nat.mul_le_mul few ol; omega) (fun g hg => by rw [s.ln g hg]; omega) (made_ok n1 n3 gm lm).1)
    · exact (callK3 (d := dt (bx n) t) (e := .str "meet") (c := dt (bx n) (inn os)) rfl rfl (tail .non)).trans (m_meet nd (by omega))
  have l16 : gs.length < 64 := by omega
  rcases (show i = 0 ∨ i = 1 ∨ i = 2 ∨ i = 3 ∨ i = 4 ∨ i = 5 ∨ i = 6 ∨ i = 7 by omega) with rfl | rfl | rfl | rfl | rfl | rfl | rfl | rfl
  · exact Ok.of_eq (w_sum _) ⟨_, rfl, r_sum⟩
  · exact Ok.of_eq ((skip (wF rfl)).trans (w_meet _)) ⟨_, rfl, r_meet⟩
  · -- colon
    show Ok 10 (gSeq _ _ [.fr .drw, .fr (ideal n gs), .fr (dt (bx n) t), .fr (.int n), .fr (.str "colon"), .fr (ideal n os), .no, .no, .no]) _
    rw [skip (wF rfl)]
    show Ok 10 (gSeq _ _ [.fr .drw, .fr (ideal n gs), .fr (dt (bx n) t), .fr (.int n), .fr (.str "colon"), .fr (ideal n os), .no, .no, .no]) _
    rw [skip (wF rfl)]
    refine Ok.left (ifT (wT rfl)) ?_
    refine (Ok.seq (k := 2 * n) (j := 0) (P := fun ρ' => ∃ m, ρ' = [.fr .drw, .fr (ideal n gs), .fr (dt (bx n) t), .fr (.int n), .fr (.str "colon"), .fr (ideal n os), .fr (tupI m), .no, .no] ∧ GoodM n 2 m) ?_ fun ρ' ⟨m, e, hm⟩ => ?_).mono (by omega) fun _ q => q
    · refine (Ok.set0 (Q := fun d => ∃ m, d = tupI m ∧ GoodM n 2 m) ?_).mono (Nat.le_refl _) fun o ⟨ρ', e, d, e2, m, e3, hm⟩ => ⟨ρ', e, m, by rw [e2, e3]; rfl, hm⟩
      rw [callK3 (d := .drw) (e := .int n) (c := .int 2) rfl rfl rfl]
      exact ok_monomial n 2 hn2 (by decide)
    · subst e
      refine Ok.of_eq (ret_eq (tup2 (d := ideal n (least (gs.map fun g => cutL g m))) (e := dt (bx n) fun c => t (atColon m c)) ?_ ?_)) ⟨_, rfl, ?_⟩
      · exact (callK2 (d := ideal n gs) (e := tupI m) rfl rfl).trans (e_colon (by omega) (fun g hg => by rw [s.ln g hg]; omega) (made_ok n1 n3 (fun a ha => by
          obtain ⟨g, hg, rfl⟩ := List.mem_map.mp ha
          exact cut_good (s.good g hg) hm) (by rw [List.length_map]; exact l16)).1)
      · exact (callK3 (d := dt (bx n) t) (e := .str "colon") (c := tupI m) rfl rfl rfl).trans (m_colon nd (by omega) fun c hc => ⟨by rw [(gB3 c hc).1, hm.1], by rw [(gB3 c hc).1]; omega, bx_in n _ (colon_good (gB3 c hc) hm).1 (colon_good (gB3 c hc) hm).2⟩)
      · refine res_of n1 n3 (fun a ha => ?_) (by rw [List.length_map]; exact l16) fun c hc => ?_
        · obtain ⟨g, hg, rfl⟩ := List.mem_map.mp ha
          exact cut_good (s.good g hg) hm
        · rw [ht _ (bx_in n _ (colon_good (gB3 c hc) hm).1 (colon_good (gB3 c hc) hm).2), inn_map fun a ha => colon_div (s.good a ha) hm (gB3 c hc)]
  · -- radical
    refine Ok.of_eq ((skip (wF rfl)).trans ((skip (wF rfl)).trans ((skip (wF rfl)).trans (seq_ret ((ifT (wT rfl)).trans (ret_eq (tup2 (d := ideal n (least (gs.map radL))) (e := dt (bx n) fun c => t (atRad c)) ?_ ?_))))))) ⟨_, rfl, ?_⟩
    · exact (callK1 (d := ideal n gs) rfl).trans (e_radical (by omega) (fun g hg => by rw [s.ln g hg]; omega) (made_ok n1 n3 (fun a ha => by
        obtain ⟨g, hg, rfl⟩ := List.mem_map.mp ha
        exact rad_good (s.good g hg)) (by rw [List.length_map]; exact l16)).1)
    · exact (callK3 (d := dt (bx n) t) (e := .str "radical") (c := .non) rfl rfl rfl).trans (m_rad nd (by omega) fun c hc => ⟨by rw [(gB3 c hc).1]; omega, bx_in n _ (atRad_good (gB3 c hc)).1 (atRad_good (gB3 c hc)).2⟩)
    · refine res_of n1 n3 (fun a ha => ?_) (by rw [List.length_map]; exact l16) fun c hc => ?_
      · obtain ⟨g, hg, rfl⟩ := List.mem_map.mp ha
        exact rad_good (s.good g hg)
      · rw [ht _ (bx_in n _ (atRad_good (gB3 c hc)).1 (atRad_good (gB3 c hc)).2), inn_map fun a ha => rad_div (s.good a ha) (gB3 c hc)]
  · -- saturated
    show Ok 10 (gSeq _ _ [.fr .drw, .fr (ideal n gs), .fr (dt (bx n) t), .fr (.int n), .fr (.str "saturated"), .fr (ideal n os), .no, .no, .no]) _
    rw [skip (wF rfl)]
    show Ok 10 (gSeq _ _ [.fr .drw, .fr (ideal n gs), .fr (dt (bx n) t), .fr (.int n), .fr (.str "saturated"), .fr (ideal n os), .no, .no, .no]) _
    rw [skip (wF rfl)]
    show Ok 10 (gSeq _ _ [.fr .drw, .fr (ideal n gs), .fr (dt (bx n) t), .fr (.int n), .fr (.str "saturated"), .fr (ideal n os), .no, .no, .no]) _
    rw [skip (wF rfl)]
    show Ok 10 (gSeq _ _ [.fr .drw, .fr (ideal n gs), .fr (dt (bx n) t), .fr (.int n), .fr (.str "saturated"), .fr (ideal n os), .no, .no, .no]) _
    rw [skip (wF rfl)]
    refine Ok.left (ifT (wT rfl)) ?_
    refine (Ok.seq (k := 1) (j := 0) (P := fun ρ' => ∃ v : Nat, ρ' = [.fr .drw, .fr (ideal n gs), .fr (dt (bx n) t), .fr (.int n), .fr (.str "saturated"), .fr (ideal n os), .no, .fr (.int v), .no] ∧ v < n) ?_ fun ρ' ⟨v, e, hv⟩ => ?_).mono (by omega) fun _ q => q
    · refine (Ok.set0 (Q := fun d => ∃ v : Nat, d = .int v ∧ v < n) ?_).mono (Nat.le_refl _) fun o ⟨ρ', e, d, e2, v, e3, hv⟩ => ⟨ρ', e, v, by rw [e2, e3]; rfl, hv⟩
      exact (Ok.drawn (b := (n : Int)) rfl rfl (by omega) (by omega)).mono (Nat.le_refl _) fun d ⟨r, h1, e⟩ => ⟨r, e, by omega⟩
    · subst e
      refine Ok.of_eq (ret_eq (tup2 (d := ideal n (least (gs.map fun g => satL g v))) (e := dt (bx n) fun c => t (atSat v c)) ?_ ?_)) ⟨_, rfl, ?_⟩
      · exact (callK2 (d := ideal n gs) (e := .int v) rfl rfl).trans (e_saturated (by omega) (fun g hg => by rw [s.ln g hg]; omega) (made_ok n1 n3 (fun a ha => by
          obtain ⟨g, hg, rfl⟩ := List.mem_map.mp ha
          exact sat_good (s.good g hg) hv) (by rw [List.length_map]; exact l16)).1)
      · exact (callK3 (d := dt (bx n) t) (e := .str "saturated") (c := .int v) rfl rfl rfl).trans (m_sat nd (by omega) fun c hc => ⟨by rw [(gB3 c hc).1]; omega, bx_in n _ (atSat_good (gB3 c hc)).1 (atSat_good (gB3 c hc)).2⟩)
      · refine res_of n1 n3 (fun a ha => ?_) (by rw [List.length_map]; exact l16) fun c hc => ?_
        · obtain ⟨g, hg, rfl⟩ := List.mem_map.mp ha
          exact sat_good (s.good g hg) hv
        · rw [ht _ (bx_in n _ (atSat_good (gB3 c hc)).1 (atSat_good (gB3 c hc)).2), inn_map fun a ha => sat_div (s.good a ha) hv (gB3 c hc)]
  · -- permuted
    show Ok 10 (gSeq _ _ [.fr .drw, .fr (ideal n gs), .fr (dt (bx n) t), .fr (.int n), .fr (.str "permuted"), .fr (ideal n os), .no, .no, .no]) _
    rw [skip (wF rfl)]
    show Ok 10 (gSeq _ _ [.fr .drw, .fr (ideal n gs), .fr (dt (bx n) t), .fr (.int n), .fr (.str "permuted"), .fr (ideal n os), .no, .no, .no]) _
    rw [skip (wF rfl)]
    show Ok 10 (gSeq _ _ [.fr .drw, .fr (ideal n gs), .fr (dt (bx n) t), .fr (.int n), .fr (.str "permuted"), .fr (ideal n os), .no, .no, .no]) _
    rw [skip (wF rfl)]
    show Ok 10 (gSeq _ _ [.fr .drw, .fr (ideal n gs), .fr (dt (bx n) t), .fr (.int n), .fr (.str "permuted"), .fr (ideal n os), .no, .no, .no]) _
    rw [skip (wF rfl)]
    show Ok 10 (gSeq _ _ [.fr .drw, .fr (ideal n gs), .fr (dt (bx n) t), .fr (.int n), .fr (.str "permuted"), .fr (ideal n os), .no, .no, .no]) _
    rw [skip (wF rfl)]
    refine (Ok.seq (k := n) (j := 0) (P := fun ρ' => ∃ l : List Nat, ρ' = [.fr .drw, .fr (ideal n gs), .fr (dt (bx n) t), .fr (.int n), .fr (.str "permuted"), .fr (ideal n os), .no, .no, .fr (lisD l)] ∧ l.Perm (List.range n)) ?_ fun ρ' ⟨l, e, hp⟩ => ?_).mono (by omega) fun _ q => q
    · refine (Ok.set0 (Q := fun d => ∃ l : List Nat, d = lisD l ∧ l.Perm (List.range n)) ?_).mono (Nat.le_refl _) fun o ⟨ρ', e, d, e2, l, e3, hp⟩ => ⟨ρ', e, l, by rw [e2, e3]; rfl, hp⟩
      rw [callK2 (d := .drw) (e := .int n) rfl rfl]
      exact ok_listing n hn2
    · subst e
      have hlen : l.length = n := by
        have := hp.length_eq
        rwa [List.length_range] at this
      refine Ok.rt (Ok.of_eq (tup2 (d := ideal n (least (gs.map fun g => permL g l))) (e := dt (bx n) fun c => t (atPerm l c)) ?_ ?_) ?_)
      · exact (callK2 (d := ideal n gs) (e := lisD l) rfl rfl).trans (e_permuted (by omega) (by omega) (fun g hg j hj => by rw [s.ln g hg]; exact List.mem_range.mp (hp.mem_iff.mp hj)) (made_ok n1 n3 (fun a ha => by
          obtain ⟨g, hg, rfl⟩ := List.mem_map.mp ha
          exact perm_good (s.good g hg) hp) (by rw [List.length_map]; exact l16)).1)
      · exact (callK3 (d := dt (bx n) t) (e := .str "permuted") (c := lisD l) rfl rfl rfl).trans (m_perm nd (by omega) fun c hc => ⟨by rw [(gB3 c hc).1]; omega, fun j hj => hp.mem_iff.mpr (List.mem_range.mpr (by rw [← (gB3 c hc).1]; exact hj)), by rw [hlen, (gB3 c hc).1], bx_in n _ (atPerm_good (gB3 c hc) hp).1 (atPerm_good (gB3 c hc) hp).2⟩)
      · refine res_of n1 n3 (fun a ha => ?_) (by rw [List.length_map]; exact l16) fun c hc => ?_
        · obtain ⟨g, hg, rfl⟩ := List.mem_map.mp ha
          exact perm_good (s.good g hg) hp
        · rw [ht _ (bx_in n _ (atPerm_good (gB3 c hc) hp).1 (atPerm_good (gB3 c hc) hp).2), inn_map fun a ha => perm_div (s.good a ha) hp (gB3 c hc)]
  · exact Ok.of_eq (w_sum _) ⟨_, rfl, r_sum⟩
  · exact Ok.of_eq ((skip (wF rfl)).trans (w_meet _)) ⟨_, rfl, r_meet⟩
end K98
namespace K98
open PySem Dn
def bIn : SEnv → Dr Out := (gSeq (gUnp [3, 4] [] (gCallK 3 m__law_done (Dn.gCons (gV 2) (Dn.gCons (gV 3) (Dn.gCons (gV 4) Dn.gNil)))))
    (gSeq (gIfS [] (gOr (gB (g2 dNe (g2 dIx (gV 3) (gC (.int 1))) (gCallK 1 m__law_least (Dn.gCons (g2 dIx (gV 3) (gC (.int 1))) Dn.gNil)))) (gB (g2 dNe (gLc (gItems (g2 dIx (gV 3) (gC (.int 1)))) (tgName 7) (gB (g2 dGt (gCall dMax1 (Dn.gCons (gV 7) Dn.gNil)) (gC (.int 3)))) (gV 7) [7]) (Dn.gLst Dn.gNil))))
    (gRet [] (gC (.bl false)))
    gSkip)
    (gForK 4 (stName 6)
    (gIfS [] (gB (g2 dNe (gCallK 2 m__law_in (Dn.gCons (g2 dIx (gV 3) (gC (.int 1))) (Dn.gCons (gV 6) Dn.gNil))) (g2 dGet (gV 4) (gV 6))))
    (gRet [] (gC (.bl false)))
    gSkip))))
noncomputable def bOut (K : PySem.W.Frag) : SEnv → Dr Out := (gSeq (gSet 2 [] (gBegun K (Dn.gCons (gV 0) (Dn.gCons (gV 1) Dn.gNil))))
    (gSeq (gSet 3 [] (gCallK 4 m__law_ideal (Dn.gCons (gV 2) (Dn.gCons (g2 dAdd (gC (.int 1)) (gDraw (Dn.gCons (gV 2) (Dn.gCons (gC (.int 3)) Dn.gNil)))) (Dn.gCons (gC (.int 4)) (Dn.gCons (gC (.int 3)) Dn.gNil))))))
    (gSeq (gSet 4 [] (gCallK 2 m__law_table (Dn.gCons (g2 dIx (gV 3) (gC (.int 0))) (Dn.gCons (g2 dIx (gV 3) (gC (.int 1))) Dn.gNil))))
    (gFor [] (gRng1 (Dn.gCons (gDraw (Dn.gCons (gV 2) (Dn.gCons (gC (.int 11)) Dn.gNil))) Dn.gNil)) (stName 5)
    bIn))))
theorem frz_no {ls : List Nat} {i : Nat} {s : SV} (h : ls.contains i = false) : frz1 ls i s = s := by
  cases s with
  | own d => exact if_neg (by rw [h]; exact Bool.false_ne_true)
  | _ => rfl
theorem inner_ok {n : Nat} {gs : List (List Int)} {t : List Int → Bool} {x k s5 s6 s7 : SV} (s : St n gs) (ht : ∀ c ∈ bx n, t c = inn gs c) :
    Ok 100 (bIn [x, k, .fr .drw, .fr (ideal n gs), .fr (dt (bx n) t), s5, s6, s7]) fun o => ∃ gs' t' s6', o = .nx [x, k, .fr .drw, .fr (ideal n gs'), .fr (dt (bx n) t'), s5, s6', s7] ∧ St n gs' ∧ ∀ c ∈ bx n, t' c = inn gs' c := by
  rw [← Nat.add_zero 100]
  refine Ok.seq (P := fun ρ' => ∃ gs t, ρ' = [x, k, .fr .drw, .fr (ideal n gs), .fr (dt (bx n) t), s5, s6, s7] ∧ St n gs ∧ NC gs ∧ Asc gs ∧ ∀ c ∈ bx n, t c = inn gs c) ?_ fun ρ' ⟨gs, t, e, s, nc, as, ht⟩ => ?_
  · show Ok 100 ((gCallK 3 m__law_done (Dn.gCons (gV 2) (Dn.gCons (gV 3) (Dn.gCons (gV 4) Dn.gNil))) _).bind _) _
    rw [callK3 (d := .drw) (e := ideal n gs) (c := dt (bx n) t) rfl rfl rfl, ← Nat.add_zero 100]
    refine Ok.bind (j := 0) (ok_done s ht) fun d ⟨gs, t, e, s, nc, as, ht⟩ => ?_
    subst e
    show Ok 0 (match setNames [3, 4] [ideal n gs, dt (bx n) t] (if imms [ideal n gs, dt (bx n) t] = true then _ else freeze [] _) with
      | some ρ' => Dr.ret (Out.nx ρ')
      | none => Dr.fail) _
    rw [freeze_nil, ite_self]
    exact Ok.ret ⟨_, rfl, gs, t, rfl, s, nc, as, ht⟩
  · subst e
    have hn : n ≤ 1000000 := by have := s.n3; omega
    have few := s.few
    have e1 : m__law_least [tT gs] = .ret (tT gs) := by
      rw [e_lleast (n := n) (.inr rfl) s.ln hn (by omega) (ok_okT (n := n) s.n1 s.good), lleast_id nc as]
    have e2 : gs.filter (fun a => decide ((3 : Int) < a.tail.foldl max (a.headD 0))) = [] := by
      rw [List.filter_eq_nil_iff]
      intro a ha
      rw [decide_eq_true_eq]
      have g := s.good a ha
      have n1 := s.n1
      cases a with
      | nil =>
        have := g.1
        simp at this
        omega
      | cons y ys =>
        have : (y :: ys).tail.foldl max ((y :: ys).headD 0) ≤ 3 := foldl_max_le (g.2 y List.mem_cons_self).2 fun z hz => (g.2 z (List.mem_cons_of_mem _ hz)).2
        omega
    have hc : (gOr (gB (g2 dNe (g2 dIx (gV 3) (gC (.int 1))) (gCallK 1 m__law_least (Dn.gCons (g2 dIx (gV 3) (gC (.int 1))) Dn.gNil)))) (gB (g2 dNe (gLc (gItems (g2 dIx (gV 3) (gC (.int 1)))) (tgName 7) (gB (g2 dGt (gCall dMax1 (Dn.gCons (gV 7) Dn.gNil)) (gC (.int 3)))) (gV 7) [7]) (Dn.gLst Dn.gNil)))) (lend [] [x, k, .fr .drw, .fr (ideal n gs), .fr (dt (bx n) t), s5, s6, s7]) = .ret false := by
      show (gB _ _).bind _ = _
      refine (congrArg (fun z => Dr.bind z _) (gb_eq (b := !decide (gs = gs)) ((op2 (d := (eT (eT eI)).e gs) (e := (eT (eT eI)).e gs) (ix1 rfl) ((callK1 (d := tT gs) (ix1 rfl)).trans e1)).trans (dNe_enc (eT (eT eI)) (by decide) _ _)))).trans ?_
      rw [decide_eq_true rfl]
      refine gb_eq ((op2 (d := (eL (eT eI)).e (gs.filter fun a => decide ((3 : Int) < a.tail.foldl max (a.headD 0)))) (e := (eL (eT eI)).e []) ?_ rfl).trans ((dNe_enc (eL (eT eI)) (by decide) _ _).trans (by rw [e2]; rfl)))
      refine glc_eq tupI (fun a => decide ((3 : Int) < a.tail.foldl max (a.headD 0))) tupI gs (by omega) (items1 (.inr (.inl (ix1 rfl)))) fun a ha => ⟨_, rfl, gb_eq ?_, fun _ => rfl⟩
      have g := s.good a ha
      have n1 := s.n1
      cases a with
      | nil =>
        have := g.1
        simp at this
        omega
      | cons y ys => exact (op2 (e := .int 3) ((call1 (d := tupI (y :: ys)) rfl).trans (max1_ints y ys)) rfl).trans rfl
    obtain ⟨ρ2, ef, s6', e6⟩ := for_skip (tg := stName 6) (body := gIfS [] (gB (g2 dNe (gCallK 2 m__law_in (Dn.gCons (g2 dIx (gV 3) (gC (.int 1))) (Dn.gCons (gV 6) Dn.gNil))) (g2 dGet (gV 4) (gV 6)))) (gRet [] (gC (.bl false))) gSkip)
      (fun ρ => ∃ s6', ρ = [x, k, .fr .drw, .fr (ideal n gs), .fr (dt (bx n) t), s5, s6', s7]) ((bx n).map tupI) [x, k, .fr .drw, .fr (ideal n gs), .fr (dt (bx n) t), s5, s6, s7] ⟨s6, rfl⟩ (fun d hd ρ ⟨s6', e⟩ => by
        subst e
        obtain ⟨c, hcb, rfl⟩ := List.mem_map.mp hd
        have gc := bx_good n c hcb
        refine ⟨_, rfl, _, (ifF (gb_eq (b := !decide (inn gs c = t c)) ?_ |>.trans (by rw [ht c hcb, decide_eq_true rfl]; rfl))).trans rfl, _, rfl⟩
        exact (op2 (d := eB.e (inn gs c)) (e := eB.e (t c)) ((callK2 (d := tT gs) (e := tupI c) (ix1 rfl) rfl).trans (e_lin (fun a ha => by rw [s.ln a ha, gc.1]) (by rw [gc.1]; exact hn) (by omega))) ((op2 (d := dt (bx n) t) (e := tupI c) rfl rfl).trans (dGet_dt hcb))).trans (dNe_enc eB (by decide) _ _))
    subst e6
    have hfr : freeze [4] [x, k, .fr .drw, .fr (ideal n gs), .fr (dt (bx n) t), s5, s6, s7] = [x, k, .fr .drw, .fr (ideal n gs), .fr (dt (bx n) t), s5, s6, s7] := by
      show [frz1 [4] 0 x, frz1 [4] 1 k, .fr .drw, .fr (ideal n gs), .fr (dt (bx n) t), frz1 [4] 5 s5, frz1 [4] 6 s6, frz1 [4] 7 s7] = _
      rw [frz_no rfl, frz_no rfl, frz_no rfl, frz_no rfl, frz_no rfl]
    refine Ok.of_eq (a := .nx [x, k, .fr .drw, .fr (ideal n gs), .fr (dt (bx n) t), s5, s6', s7]) ?_ ⟨gs, t, s6', rfl, s, ht⟩
    refine (skip hc).trans ?_
    show (match (freeze [4] [x, k, .fr .drw, .fr (ideal n gs), .fr (dt (bx n) t), s5, s6, s7])[4]? with
      | some (.fr d) => match keysD d with
        | some ds => noexc (forGo _ _ ds (freeze [4] [x, k, .fr .drw, .fr (ideal n gs), .fr (dt (bx n) t), s5, s6, s7]))
        | none => Dr.fail
      | _ => Dr.fail) = _
    rw [hfr]
    exact congrArg noexc ef
theorem out_ok {K : PySem.W.Frag} {ns : List Int} {k s2 s3 s4 s5 s6 s7 : SV} {i : Nat} (hn : ns.length ≤ 63) (hi : i ≤ 3) (hk : k = .fr (.int i)) :
    Ok 2000 (bOut K [.fr (.opq K ns), k, s2, s3, s4, s5, s6, s7]) fun o => ∃ s1 s2 s3 s4 s5 s6 s7, o = .nx [.fr (.opq K ns), s1, s2, s3, s4, s5, s6, s7] := by
  subst hk
  refine (Ok.seq (k := 1) (j := 100 + (0 + (1 + 1000))) (P := fun ρ' => ρ' = [.fr (.opq K ns), .fr (.int i), .fr .drw, s3, s4, s5, s6, s7]) ?_ fun ρ' e => ?_).mono (by omega) fun _ q => q
  · refine (Ok.set0 (Q := fun d => d = .drw) ?_).mono (Nat.le_refl _) fun o ⟨ρ', e, d, e2, e3⟩ => ⟨ρ', e, by rw [e2, e3]; rfl⟩
    rw [begun_eq (ns := ns) (k := i) rfl rfl (by omega) (by omega) (by omega)]
    exact Ok.draw (k := 0) (by decide) (by decide) fun r _ _ => Ok.ret rfl
  subst e
  refine Ok.seq (P := fun ρ' => ∃ n gs, ρ' = [.fr (.opq K ns), .fr (.int i), .fr .drw, .fr (ideal (n : Nat) gs), s4, s5, s6, s7] ∧ St n gs) ?_ fun ρ' ⟨n, gs, e, s⟩ => ?_
  · refine (Ok.set0 (Q := fun d => ∃ (n : Nat) (gs : List (List Int)), d = ideal n gs ∧ St n gs) ?_).mono (Nat.le_refl _) fun o ⟨ρ', e, d, e2, n, gs, e3, s⟩ => ⟨ρ', e, n, gs, by rw [e2, e3]; rfl, s⟩
    refine (Ok.callK4 (k := 1) (j := 50) (P := fun d => ∃ n : Nat, d = .int n ∧ 1 ≤ n ∧ n ≤ 3) (a := .drw) (c := .int 4) (d := .int 3) rfl ?_ rfl rfl fun b ⟨n, e, h1, h3⟩ => ?_).mono (by omega) fun _ q => q
    · show Ok 1 ((gC (.int 1) _).bind fun x => (gDraw (Dn.gCons (gV 2) (Dn.gCons (gC (.int 3)) Dn.gNil)) _).bind fun y => dAdd x y) _
      rw [draw_eq (b := 3) rfl rfl]
      exact Ok.draw (k := 0) (by decide) (by decide) fun r r0 r1 => Ok.ret ⟨(1 + r).toNat, by rw [Int.toNat_of_nonneg (by omega)], by omega, by omega⟩
    · subst e
      exact (ok_ideal n 4 3 h1 (by omega) (by decide) (by decide)).mono (by omega) fun d ⟨gs, e, hl, hg⟩ => ⟨n, gs, e, ⟨h1, h3, hg, by omega⟩⟩
  subst e
  have few := s.few
  have n3 := s.n3
  refine Ok.seq (P := fun ρ' => ρ' = [.fr (.opq K ns), .fr (.int i), .fr .drw, .fr (ideal n gs), .fr (dt (bx n) (inn gs)), s5, s6, s7]) (Ok.of_eq (set0 (d := dt (bx n) (inn gs)) ((callK2 (d := .int n) (e := tT gs) (ix0 rfl) (ix1 rfl)).trans (e_table s.n1 s.n3 s.ln (by omega)))) ⟨_, rfl, rfl⟩) fun ρ' e => ?_
  subst e
  show Ok (1 + 1000) ((gRng1 (Dn.gCons (gDraw (Dn.gCons (gV 2) (Dn.gCons (gC (.int 11)) Dn.gNil))) Dn.gNil) _).bind _) _
  have e1 : gRng1 (Dn.gCons (gDraw (Dn.gCons (gV 2) (Dn.gCons (gC (.int 11)) Dn.gNil))) Dn.gNil) (lend [] [.fr (.opq K ns), .fr (.int i), .fr .drw, .fr (ideal n gs), .fr (dt (bx n) (inn gs)), s5, s6, s7]) = .draw 11 fun r => if -1000000 ≤ r ∧ r ≤ 1000000 then .ret (rangeD 0 r.toNat) else .fail := by
    show ((gDraw (Dn.gCons (gV 2) (Dn.gCons (gC (.int 11)) Dn.gNil)) _).bind fun d => .ret [d]).bind _ = _
    rw [draw_eq (b := 11) rfl rfl]
    rfl
  rw [e1, Dr.bind_draw, Nat.add_comm]
  refine Ok.draw (by decide) (by decide) fun r r0 r1 => ?_
  rw [if_pos ⟨by omega, by omega⟩]
  show Ok 1000 (forGo (stName 5) bIn (rangeD 0 r.toNat) (freeze [] _)) _
  rw [freeze_nil]
  have hr : (rangeD 0 r.toNat).length = r.toNat := by
    unfold rangeD
    rw [List.length_map, List.length_range]
  refine (Ok.for (c := 100) (R := fun o => ∃ s1 s2 s3 s4 s5 s6 s7, o = .nx [.fr (.opq K ns), s1, s2, s3, s4, s5, s6, s7]) (fun _ ρ => ∃ gs t s5 s6, ρ = [.fr (.opq K ns), .fr (.int i), .fr .drw, .fr (ideal n gs), .fr (dt (bx n) t), s5, s6, s7] ∧ St n gs ∧ ∀ c ∈ bx n, t c = inn gs c) (rangeD 0 r.toNat) 0 _ ⟨gs, inn gs, s5, s6, rfl, s, fun _ _ => rfl⟩
    (fun j d ρ _ ⟨gs, t, s5, s6, e, s, ht⟩ => ?_) (fun ρ ⟨gs, t, s5, s6, e, s, ht⟩ => by
      subst e
      exact ⟨_, _, _, _, _, _, _, rfl⟩)).mono (by rw [hr]; omega) fun _ q => q
  subst e
  exact ⟨_, rfl, (inner_ok s ht).mono (Nat.le_refl _) fun o ⟨gs, t, s6, e, s, ht⟩ => by
    subst e
    exact ⟨gs, t, _, s6, rfl, s, ht⟩⟩
theorem holds (EX : Nat → Dn.XD → Prop) (K : PySem.W.Frag) (ns : List Int) (hn : ns.length ≤ 63) : Dn.AllN EX 1000000000 (m_law K [.opq K ns]) (fun _ d => d = .bl true) := by
  have key : Ok 10000 (m_law K [.opq K ns]) fun d => d = .bl true := by
    refine Ok.run ?_
    rw [← Nat.add_zero 10000]
    refine Ok.seq (g := gFor [] _ (stName 1) (bOut K)) (P := fun _ => True) ?_ fun ρ' _ => Ok.rt (Ok.ret rfl)
    have e : ∃ j : Nat, 2 ≤ j ∧ j ≤ 3 ∧ (gRng1 (Dn.gCons (gCall dMax2 (Dn.gCons (gC (.int 2)) (Dn.gCons (gCall dMin2 (Dn.gCons (gCall (dLenS K) (Dn.gCons (gV 0) Dn.gNil)) (Dn.gCons (gC (.int 3)) Dn.gNil))) Dn.gNil))) Dn.gNil)) (lend [] (begun 8 [.opq K ns])) = .ret ((List.range j).map fun i : Nat => D.int i) := by
      have l1 : gCall (dLenS K) (Dn.gCons (gV 0) Dn.gNil) (lend [] (begun 8 [.opq K ns])) = .ret (.int ns.length) := lenS_eq rfl
      refine ⟨(mx 2 (mn ns.length 3)).toNat, ?_, ?_, rng1 ?_ ?_⟩
      · unfold mx mn
        split <;> split <;> omega
      · unfold mx mn
        split <;> split <;> omega
      · rw [Int.toNat_of_nonneg (by unfold mx mn; split <;> split <;> omega)]
        exact (call2 (d := .int 2) (e := .int (mn ns.length 3)) rfl ((call2 (d := .int ns.length) (e := .int 3) l1 rfl).trans rfl)).trans rfl
      · unfold mx mn
        split <;> split <;> omega
    obtain ⟨j, j2, j3, e⟩ := e
    rw [for0 e]
    refine (Ok.for (c := 2000) (R := fun o => ∃ ρ', o = .nx ρ' ∧ True) (fun _ ρ => ∃ s1 s2 s3 s4 s5 s6 s7, ρ = [.fr (.opq K ns), s1, s2, s3, s4, s5, s6, s7]) _ 0 _ ⟨_, _, _, _, _, _, _, rfl⟩ (fun i d ρ hd ⟨s1, s2, s3, s4, s5, s6, s7, e⟩ => ?_) (fun ρ _ => ⟨ρ, rfl, trivial⟩)).mono (by rw [List.length_map, List.length_range]; omega) fun _ q => q
    subst e
    rw [List.getElem?_map] at hd
    obtain ⟨i', hi, rfl⟩ := Option.map_eq_some_iff.mp hd
    have hlt := (List.getElem?_eq_some_iff.mp hi).1
    rw [List.length_range] at hlt
    rw [List.getElem?_range hlt] at hi
    cases hi
    refine ⟨_, rfl, (out_ok hn (i := i) (by omega) rfl).mono (Nat.le_refl _) fun o ⟨s1, s2, s3, s4, s5, s6, s7, e⟩ => ?_⟩
    subst e
    exact ⟨_, _, _, _, _, _, _, rfl⟩
  exact (key EX 1000000000 (by decide) (by decide)).q fun _ _ h => h.2.2
end K98
open PySem PySem.W PyProof.Rows
set_option maxHeartbeats 0 in
theorem PySem.Challenge.cw_jointneeds_k98_whole_rows_of_operations_holds : PySem.Challenge.rw_jointneeds_k98_whole_rows_of_operations.Holds := by
  w_on; o_law; k_head; (case hw => w_witness2)
  k_fill
  refine L2.walk_of (l := PySem.Challenge.rw_jointneeds_k98_whole_rows_of_operations) (n := 63) (k := 6) (x := "script") (CX := fun _ => L2.CX0) (sp := fun w => Dn.spD Dn.XR0 1 (K98.m_law _)) rfl (by decide) rfl ⟨rfl, by decide, by decide⟩ (fun w h Y => PySem.W.kIn_of Y) ?F (fun _ _ a ns hl hO hS => Dn.law_sp hO hS (fun EX => K98.holds EX _ ns hl)) (fun _ _ _ _ _ h => h)
  case F =>
    intro w mg fa h KX G hmg
    refine' K98.all_mk KX G hmg ?a0 ?l0 ?c0 ?k0 ?a1 ?l1 ?c1 ?k1 ?a2 ?l2 ?c2 ?k2 ?a3 ?l3 ?c3 ?k3 ?a4 ?l4 ?c4 ?k4 ?a5 ?l5 ?c5 ?k5 ?a6 ?l6 ?c6 ?k6 ?a7 ?l7 ?c7 ?k7 ?a8 ?l8 ?c8 ?k8 ?a9 ?l9 ?c9 ?k9 ?a10 ?l10 ?c10 ?k10 ?a11 ?l11 ?c11 ?k11 ?a12 ?l12 ?c12 ?k12 ?a13 ?l13 ?c13 ?k13 ?a14 ?l14 ?c14 ?k14 ?a15 ?l15 ?c15 ?k15 ?a16 ?l16 ?c16 ?k16 ?a17 ?l17 ?c17 ?k17 ?a18 ?l18 ?c18 ?k18 ?a19 ?l19 ?c19 ?k19 ?a20 ?l20 ?c20 ?k20 ?a21 ?l21 ?c21 ?k21 ?a22 ?l22 ?c22 ?k22 ?a23 ?l23 ?c23 ?k23 ?a24 ?l24 ?c24 ?k24 ?z_any ?z_int ?z_len ?z_list ?z_max ?z_min ?z_range ?z_set ?z_sorted ?z_sum ?z_tuple ?z_zip ?c_MOST_EXPONENT ?c_MOST_GENERATORS
    (case a0 => k_is); (case l0 => k_is); (case c0 => k_is); (case k0 => k_is); (case a1 => k_is); (case l1 => k_is); (case c1 => k_is); (case k1 => k_is); (case a2 => k_is); (case l2 => k_is); (case c2 => k_is); (case k2 => k_is); (case a3 => k_is); (case l3 => k_is); (case c3 => k_is); (case k3 => k_is); (case a4 => k_is); (case l4 => k_is); (case c4 => k_is); (case k4 => k_is); (case a5 => k_is); (case l5 => k_is); (case c5 => k_is); (case k5 => k_is); (case a6 => k_is); (case l6 => k_is); (case c6 => k_is); (case k6 => k_is); (case a7 => k_is); (case l7 => k_is); (case c7 => k_is); (case k7 => k_is); (case a8 => k_is); (case l8 => k_is); (case c8 => k_is); (case k8 => k_is); (case a9 => k_is); (case l9 => k_is); (case c9 => k_is); (case k9 => k_is); (case a10 => k_is); (case l10 => k_is); (case c10 => k_is); (case k10 => k_is); (case a11 => k_is); (case l11 => k_is); (case c11 => k_is); (case k11 => k_is); (case a12 => k_is); (case l12 => k_is); (case c12 => k_is); (case k12 => k_is); (case a13 => k_is); (case l13 => k_is); (case c13 => k_is); (case k13 => k_is); (case a14 => k_is); (case l14 => k_is); (case c14 => k_is); (case k14 => k_is); (case a15 => k_is); (case l15 => k_is); (case c15 => k_is); (case k15 => k_is); (case a16 => k_is); (case l16 => k_is); (case c16 => k_is); (case k16 => k_is); (case a17 => k_is); (case l17 => k_is); (case c17 => k_is); (case k17 => k_is); (case a18 => k_is); (case l18 => k_is); (case c18 => k_is); (case k18 => k_is); (case a19 => k_is); (case l19 => k_is); (case c19 => k_is); (case k19 => k_is); (case a20 => k_is); (case l20 => k_is); (case c20 => k_is); (case k20 => k_is); (case a21 => k_is); (case l21 => k_is); (case c21 => k_is); (case k21 => k_is); (case a22 => k_is); (case l22 => k_is); (case c22 => k_is); (case k22 => k_is); (case a23 => k_is); (case l23 => k_is); (case c23 => k_is); (case k23 => k_is); (case a24 => k_is); (case l24 => k_is); (case c24 => k_is); (case k24 => k_is); (case z_any => k_is); (case z_int => k_is); (case z_len => k_is); (case z_list => k_is); (case z_max => k_is); (case z_min => k_is); (case z_range => k_is); (case z_set => k_is); (case z_sorted => k_is); (case z_sum => k_is); (case z_tuple => k_is); (case z_zip => k_is); (case c_MOST_EXPONENT => k_is); (case c_MOST_GENERATORS => k_is)
