import PyProof.Rows.All
import Wide.All
import OpenK.AllK
import Wide.FinOn
import HandS.ForMost
import HandS.Wide
import HandS.Walk
import HandS.Zip
import HandS.Flow
import HandS.TupAny
import KE.GoesMore
import HandS.TupMul
import HandS.Style
import HandS.Defaults
import HandS.HeadHook1
import HandS.HeadHook2
import HandS.HeadEnd
import HandS.Head0
import HandS.Head1
import HandS.Head2
import HandS.IsInst
import PySem.Challenge.RW_wholesworn_k69_whole_groups_left_and_how
set_option Elab.async false
set_option linter.all false
set_option maxRecDepth 100000
set_option maxHeartbeats 0
/-! M0: pure data D, what stands at an address, small stores, steps of the heap. -/
namespace M
open PySem PySem.Spec PyProof.Rows L2
abbrev Frag := PySem.W.Frag
abbrev St := L2.St

/-- pure data; ref: a place of the small store (never within data) -/
inductive D where
  | non | bl (b : Bool) | int (i : Int) | str (x : Str) | tup (xs : List D) | lst (xs : List D) | dct (ks vs : List D) | iset (xs : List Int) | rd (xs : List D) | ref (n : Nat)

/-- what changes: a list, a dict, a set of ints -/
inductive Ob where
  | lst (xs : List D) | dct (ks vs : List D) | iset (xs : List Int)

def kD : Key → D
  | .inl i => .int i
  | .inr x => .str x
def DctO (ks : List D) (vs : List V) (o : HO) : Prop :=
  (∃ kk : List Key, ks = kk.map kD ∧ kk.length = vs.length ∧ o = .dK (kk.zip vs)) ∨
  (∃ kk : List (List Key), ks = kk.map (fun l => D.tup (l.map kD)) ∧ kk.length = vs.length ∧ o = .dT (kk.zip vs))
def SetO (xs : List Int) (o : HO) : Prop := xs.Nodup ∧ o = .set (fun i => decide (i ∈ xs)) xs.length
def WrL (K : Frag) (a : Addr) (xs : List V) : Prop :=
  ∃ (o : Obj) (its : Array Value) (n : Nat), K.lookup a = some o ∧ o.cls = .type "list" ∧ o.dict = none ∧ o.data = .seq its n ∧ its.size ≤ sizeLine ∧ Vals xs its.toList
/-- a list that is the caller's (the script) or the module's own -/
def RdL (K : Frag) (H : Hp) (a : Addr) (xs : List V) : Prop := (∃ o, H a = some (.frz o (.lst xs))) ∨ WrL K a xs
theorem RdL.sq {K : Frag} {H : Hp} {a : Addr} {xs : List V} (h : RdL K H a xs) : SqL K H a xs := h.elim (fun ⟨o, q⟩ => .inl (.inr ⟨o, q⟩)) .inr

mutual
def Rep (K : Frag) (H : Hp) (B : Addr → Prop) : D → V → Prop
  | .non, v => v = .non
  | .bl b, v => v = .bl b
  | .int i, v => v = .int i
  | .str x, v => v = .str x
  | .tup xs, v => ∃ a vs, v = .ref a ∧ SqT K H a vs ∧ RepL K H B xs vs
  | .lst xs, v => ∃ a vs, v = .ref a ∧ ¬ B a ∧ H a = some (.lst vs) ∧ RepL K H B xs vs
  | .dct ks ds, v => ∃ a o vs, v = .ref a ∧ ¬ B a ∧ H a = some o ∧ DctO ks vs o ∧ RepL K H B ds vs
  | .iset xs, v => ∃ a o, v = .ref a ∧ ¬ B a ∧ H a = some o ∧ SetO xs o
  | .rd xs, v => ∃ a vs, v = .ref a ∧ RdL K H a vs ∧ RepL K H B xs vs
  | .ref _, _ => False
def RepL (K : Frag) (H : Hp) (B : Addr → Prop) : List D → List V → Prop
  | [], vs => vs = []
  | d :: ds, vs => ∃ v r, vs = v :: r ∧ Rep K H B d v ∧ RepL K H B ds r
end

/-- what a step of the heap keeps -/
structure Stb (H H' : Hp) (B B' : Addr → Prop) : Prop where
  k : ∀ a o, ¬ B a → H a = some o → H' a = some o
  b : ∀ a, ¬ B a → H a ≠ none → ¬ B' a
  t : ∀ a vs, H a = some (.tup vs) → H' a = some (.tup vs)
  f : ∀ a o u, H a = some (.frz o u) → H' a = some (.frz o u)
theorem Stb.at {H H' : Hp} {B B' : Addr → Prop} (s : Stb H H' B B') {a : Addr} {u : HO} (nb : ¬ B a) (h : H a = some u) : ¬ B' a ∧ H' a = some u := ⟨s.b a nb (by rw [h]; simp), s.k a u nb h⟩
theorem RdL.stb {K : Frag} {H H' : Hp} {B B' : Addr → Prop} (s : Stb H H' B B') {a : Addr} {vs : List V} (h : RdL K H a vs) : RdL K H' a vs := h.elim (fun ⟨o, q⟩ => .inl ⟨o, s.f a o _ q⟩) .inr
theorem SqT.stb {K : Frag} {H H' : Hp} {B B' : Addr → Prop} (s : Stb H H' B B') {a : Addr} {vs : List V} (h : SqT K H a vs) : SqT K H' a vs := by
  rcases h with (h | ⟨o, h⟩) | h
  · exact .inl (.inl (s.t a vs h))
  · exact .inl (.inr ⟨o, s.f a o _ h⟩)
  · exact .inr h
mutual
theorem Rep.stb {K : Frag} {H H' : Hp} {B B' : Addr → Prop} (s : Stb H H' B B') : ∀ {d : D} {v : V}, Rep K H B d v → Rep K H' B' d v
  | .non, _, h => h
  | .bl _, _, h => h
  | .int _, _, h => h
  | .str _, _, h => h
  | .tup xs, v, h => by
    obtain ⟨a, vs, e, q, r⟩ := h
    exact ⟨a, vs, e, SqT.stb s q, RepL.stb s r⟩
  | .lst xs, v, h => by
    obtain ⟨a, vs, e, nb, q, r⟩ := h
    have z := s.at nb q
    exact ⟨a, vs, e, z.1, z.2, RepL.stb s r⟩
  | .dct ks ds, v, h => by
    obtain ⟨a, o, vs, e, nb, q, c, r⟩ := h
    have z := s.at nb q
    exact ⟨a, o, vs, e, z.1, z.2, c, RepL.stb s r⟩
  | .iset xs, v, h => by
    obtain ⟨a, o, e, nb, q, c⟩ := h
    have z := s.at nb q
    exact ⟨a, o, e, z.1, z.2, c⟩
  | .rd xs, v, h => by
    obtain ⟨a, vs, e, q, r⟩ := h
    exact ⟨a, vs, e, RdL.stb s q, RepL.stb s r⟩
  | .ref _, _, h => h.elim
theorem RepL.stb {K : Frag} {H H' : Hp} {B B' : Addr → Prop} (s : Stb H H' B B') : ∀ {ds : List D} {vs : List V}, RepL K H B ds vs → RepL K H' B' ds vs
  | [], _, h => h
  | d :: ds, vs, h => by
    obtain ⟨v, r, e, p, q⟩ := h
    exact ⟨v, r, e, Rep.stb s p, RepL.stb s q⟩
end
section
variable {K : Frag} {H : Hp} {B : Addr → Prop}
theorem RepL.length : ∀ {ds : List D} {vs : List V}, RepL K H B ds vs → vs.length = ds.length
  | [], vs, h => by
    have e : vs = [] := h
    subst e
    rfl
  | d :: ds, vs, h => by
    obtain ⟨v, r, e, p, q⟩ := h
    subst e
    simp [RepL.length q]
theorem RepL.get : ∀ {ds : List D} {vs : List V} {i : Nat} {d : D}, RepL K H B ds vs → ds[i]? = some d → ∃ v, vs[i]? = some v ∧ Rep K H B d v
  | [], _, i, d, h, e => by simp at e
  | x :: ds, vs, 0, d, h, e => by
    obtain ⟨v, r, e1, p, q⟩ := h
    subst e1
    simp at e
    subst e
    exact ⟨v, rfl, p⟩
  | x :: ds, vs, i + 1, d, h, e => by
    obtain ⟨v, r, e1, p, q⟩ := h
    subst e1
    obtain ⟨u, h1, h2⟩ := RepL.get (i := i) (d := d) q (by simpa using e)
    exact ⟨u, by simpa using h1, h2⟩
theorem RepL.getV : ∀ {ds : List D} {vs : List V} {i : Nat} {v : V}, RepL K H B ds vs → vs[i]? = some v → ∃ d, ds[i]? = some d ∧ Rep K H B d v := fun {ds vs i v} h e => by
  have hl := h.length
  have hi : i < vs.length := (List.getElem?_eq_some_iff.mp e).1
  have hd : ds[i]? = some (ds[i]'(by omega)) := List.getElem?_eq_getElem (by omega)
  obtain ⟨u, h1, h2⟩ := h.get hd
  rw [e] at h1
  cases h1
  exact ⟨_, hd, h2⟩
theorem RepL.append : ∀ {ds es : List D} {vs us : List V}, RepL K H B ds vs → RepL K H B es us → RepL K H B (ds ++ es) (vs ++ us)
  | [], es, vs, us, h, h' => by
    have e : vs = [] := h
    subst e
    exact h'
  | d :: ds, es, vs, us, h, h' => by
    obtain ⟨v, r, e, p, q⟩ := h
    subst e
    exact ⟨v, r ++ us, rfl, p, RepL.append q h'⟩
theorem RepL.nil : RepL K H B [] [] := rfl
theorem RepL.cons {d : D} {ds : List D} {v : V} {vs : List V} (p : Rep K H B d v) (q : RepL K H B ds vs) : RepL K H B (d :: ds) (v :: vs) := ⟨v, vs, rfl, p, q⟩
theorem RepL.one {d : D} {v : V} (p : Rep K H B d v) : RepL K H B [d] [v] := .cons p .nil
theorem RepL.take : ∀ {ds : List D} {vs : List V} (n : Nat), RepL K H B ds vs → RepL K H B (ds.take n) (vs.take n)
  | _, _, 0, _ => by rw [List.take_zero, List.take_zero]; exact .nil
  | [], vs, n + 1, h => by
    have e : vs = [] := h
    subst e
    exact .nil
  | d :: ds, vs, n + 1, h => by
    obtain ⟨v, r, e, p, q⟩ := h
    subst e
    exact .cons p (RepL.take n q)
theorem RepL.drop : ∀ {ds : List D} {vs : List V} (n : Nat), RepL K H B ds vs → RepL K H B (ds.drop n) (vs.drop n)
  | _, _, 0, h => h
  | [], vs, n + 1, h => by
    have e : vs = [] := h
    subst e
    exact .nil
  | d :: ds, vs, n + 1, h => by
    obtain ⟨v, r, e, p, q⟩ := h
    subst e
    exact RepL.drop n q
theorem RepL.set : ∀ {ds : List D} {vs : List V} (n : Nat) {d : D} {v : V}, RepL K H B ds vs → Rep K H B d v → RepL K H B (ds.set n d) (vs.set n v)
  | [], vs, n, d, v, h, p => by
    have e : vs = [] := h
    subst e
    exact .nil
  | x :: ds, vs, 0, d, v, h, p => by
    obtain ⟨u, r, e, p', q⟩ := h
    subst e
    exact .cons p q
  | x :: ds, vs, n + 1, d, v, h, p => by
    obtain ⟨u, r, e, p', q⟩ := h
    subst e
    exact .cons p' (RepL.set n q p)
theorem RepL.reverse : ∀ {ds : List D} {vs : List V}, RepL K H B ds vs → RepL K H B ds.reverse vs.reverse
  | [], vs, h => by
    have e : vs = [] := h
    subst e
    exact .nil
  | x :: ds, vs, h => by
    obtain ⟨u, r, e, p', q⟩ := h
    subst e
    rw [List.reverse_cons, List.reverse_cons]
    exact (RepL.reverse q).append (.one p')
theorem RepL.eraseIdx : ∀ {ds : List D} {vs : List V} (n : Nat), RepL K H B ds vs → RepL K H B (ds.eraseIdx n) (vs.eraseIdx n)
  | [], vs, n, h => by
    have e : vs = [] := h
    subst e
    exact .nil
  | x :: ds, vs, 0, h => by
    obtain ⟨u, r, e, p', q⟩ := h
    subst e
    exact q
  | x :: ds, vs, n + 1, h => by
    obtain ⟨u, r, e, p', q⟩ := h
    subst e
    exact .cons p' (RepL.eraseIdx n q)
theorem RepL.flatrep : ∀ {ds : List D} {vs : List V} (n : Nat), RepL K H B ds vs → RepL K H B (List.replicate n ds).flatten (List.replicate n vs).flatten
  | _, _, 0, _ => .nil
  | ds, vs, n + 1, h => by
    rw [List.replicate_succ, List.replicate_succ, List.flatten_cons, List.flatten_cons]
    exact h.append (RepL.flatrep n h)
theorem RepL.ints : ∀ {ns : List Int}, RepL K H B (ns.map D.int) (ns.map V.int)
  | [] => .nil
  | n :: ns => .cons rfl RepL.ints
theorem RepL.ints_eq : ∀ {ns : List Int} {vs : List V}, RepL K H B (ns.map D.int) vs → vs = ns.map V.int
  | [], vs, h => h
  | n :: ns, vs, h => by
    obtain ⟨u, r, e, p', q⟩ := h
    subst e
    rw [show u = V.int n from p', RepL.ints_eq q]
    rfl
theorem RepL.bls_eq : ∀ {ns : List Bool} {vs : List V}, RepL K H B (ns.map D.bl) vs → vs = ns.map V.bl
  | [], vs, h => h
  | n :: ns, vs, h => by
    obtain ⟨u, r, e, p', q⟩ := h
    subst e
    rw [show u = V.bl n from p', RepL.bls_eq q]
    rfl
end

/-! ### small stores -/
def nth {α : Type} : List (Option α) → Nat → Option α
  | [], _ => none
  | x :: _, 0 => x
  | _ :: xs, n + 1 => nth xs n
def put {α : Type} : List (Option α) → Nat → Option α → List (Option α)
  | [], _, _ => []
  | _ :: xs, 0, y => y :: xs
  | x :: xs, n + 1, y => x :: put xs n y
theorem nth_get {α : Type} : ∀ {l : List (Option α)} {n : Nat} {x : α}, nth l n = some x → l[n]? = some (some x)
  | [], n, x, h => by cases h
  | y :: l, 0, x, h => by
    have e : y = some x := h
    subst e
    rfl
  | y :: l, n + 1, x, h => by
    have z := nth_get (l := l) (n := n) (x := x) h
    simpa using z
theorem nth_of_get {α : Type} : ∀ {l : List (Option α)} {n : Nat} {x : α}, l[n]? = some (some x) → nth l n = some x
  | [], n, x, h => by simp at h
  | y :: l, 0, x, h => by
    have e : y = some x := by simpa using h
    subst e
    rfl
  | y :: l, n + 1, x, h => nth_of_get (l := l) (n := n) (x := x) (by simpa using h)
theorem nth_lt {α : Type} {l : List (Option α)} {n : Nat} {x : α} (h : nth l n = some x) : n < l.length := (List.getElem?_eq_some_iff.mp (nth_get h)).1
theorem put_length {α : Type} : ∀ (l : List (Option α)) (n : Nat) (y : Option α), (put l n y).length = l.length
  | [], _, _ => rfl
  | _ :: _, 0, _ => rfl
  | _ :: l, n + 1, y => by simp [put, put_length l n y]
theorem nth_put_same {α : Type} : ∀ {l : List (Option α)} {n : Nat} {y : Option α}, n < l.length → nth (put l n y) n = y
  | [], n, y, h => by simp at h
  | x :: l, 0, y, h => rfl
  | x :: l, n + 1, y, h => nth_put_same (l := l) (n := n) (by simpa using h)
theorem nth_put_ne {α : Type} : ∀ {l : List (Option α)} {n m : Nat} {y : Option α}, m ≠ n → nth (put l n y) m = nth l m
  | [], n, m, y, h => rfl
  | x :: l, 0, 0, y, h => absurd rfl h
  | x :: l, 0, m + 1, y, h => rfl
  | x :: l, n + 1, 0, y, h => rfl
  | x :: l, n + 1, m + 1, y, h => nth_put_ne (l := l) (n := n) (m := m) (fun e => h (by rw [e]))
theorem nth_app_lt {α : Type} : ∀ {l r : List (Option α)} {n : Nat}, n < l.length → nth (l ++ r) n = nth l n
  | [], r, n, h => by simp at h
  | x :: l, r, 0, h => rfl
  | x :: l, r, n + 1, h => nth_app_lt (l := l) (r := r) (n := n) (by simpa using h)
theorem nth_app_ge {α : Type} : ∀ {l r : List (Option α)} {n : Nat}, nth (l ++ r) (l.length + n) = nth r n
  | [], r, n => by simp [nth]
  | x :: l, r, n => by
    have e : (x :: l).length + n = (l.length + n) + 1 := by simp; omega
    rw [e]
    exact nth_app_ge (l := l) (r := r) (n := n)
theorem nth_app_one {α : Type} {l : List (Option α)} {y : Option α} {n : Nat} {x : α} (h : nth (l ++ [y]) n = some x) : nth l n = some x ∨ (n = l.length ∧ y = some x) := by
  by_cases hn : n < l.length
  · rw [nth_app_lt hn] at h
    exact .inl h
  · have hl := nth_lt h
    have e : n = l.length + 0 := by simp at hl; omega
    rw [e, nth_app_ge] at h
    exact .inr ⟨e, h⟩

abbrev Sto := List (Option Ob)
abbrev Env := List (Option D)
def Liv (ρ : List Addr) (st : Sto) (a : Addr) : Prop := ∃ n o, nth st n = some o ∧ ρ[n]? = some a
def Blk (Fr : Addr → Prop) (ρ : List Addr) (st : Sto) (a : Addr) : Prop := Fr a ∨ Liv ρ st a
def ObR (K : Frag) (H : Hp) (B : Addr → Prop) : Ob → HO → Prop
  | .lst xs, o => ∃ vs, o = .lst vs ∧ RepL K H B xs vs
  | .dct ks ds, o => ∃ vs, RepL K H B ds vs ∧ DctO ks vs o
  | .iset xs, o => SetO xs o
def Mu : HO → Prop
  | .tup _ => False
  | .frz _ _ => False
  | _ => True
theorem ObR.mu {K : Frag} {H : Hp} {B : Addr → Prop} {o : Ob} {h : HO} (r : ObR K H B o h) : Mu h := by
  cases o with
  | lst xs => obtain ⟨vs, e, _⟩ := r; subst e; trivial
  | dct ks ds =>
    obtain ⟨vs, _, c⟩ := r
    rcases c with ⟨_, _, _, e⟩ | ⟨_, _, _, e⟩ <;> subst e <;> trivial
  | iset xs => obtain ⟨_, e⟩ := r; subst e; trivial
theorem ObR.stb {K : Frag} {H H' : Hp} {B B' : Addr → Prop} (s : Stb H H' B B') {o : Ob} {h : HO} (r : ObR K H B o h) : ObR K H' B' o h := by
  cases o with
  | lst xs => obtain ⟨vs, e, q⟩ := r; exact ⟨vs, e, RepL.stb s q⟩
  | dct ks ds => obtain ⟨vs, q, c⟩ := r; exact ⟨vs, RepL.stb s q, c⟩
  | iset xs => exact r

structure Gs (K : Frag) (H : Hp) (Fr : Addr → Prop) (ρ : List Addr) (st : Sto) : Prop where
  len : ρ.length = st.length
  ob : ∀ n o, nth st n = some o → ∃ a h, ρ[n]? = some a ∧ H a = some h ∧ ObR K H (Blk Fr ρ st) o h
  frm : ∀ a, Fr a → ∃ o, H a = some o ∧ Mu o
  dis : ∀ n a o, nth st n = some o → ρ[n]? = some a → ¬ Fr a
  inj : ∀ n m a o o', nth st n = some o → nth st m = some o' → ρ[n]? = some a → ρ[m]? = some a → n = m

section
variable {K : Frag} {H H' H1 H2 : Hp} {Fr : Addr → Prop} {ρ ρ' ρ1 ρ2 : List Addr} {st st' st1 st2 : Sto}
theorem Gs.blk (g : Gs K H Fr ρ st) {a : Addr} (b : Blk Fr ρ st a) : ∃ o, H a = some o ∧ Mu o := by
  rcases b with b | ⟨n, o, e1, e2⟩
  · exact g.frm a b
  · obtain ⟨a', h, r1, r2, r3⟩ := g.ob n o e1
    rw [e2] at r1
    cases r1
    exact ⟨h, r2, r3.mu⟩
/-- a step that the heap and the store take -/
structure Step (K : Frag) (Fr : Addr → Prop) (H : Hp) (ρ : List Addr) (st : Sto) (H' : Hp) (ρ' : List Addr) (st' : Sto) : Prop where
  g : Gs K H' Fr ρ' st'
  pre : ∃ l, ρ' = ρ ++ l
  keep : ∀ a o, H a = some o → ¬ Liv ρ st a → H' a = some o
  live : ∀ a, Liv ρ' st' a → Liv ρ st a ∨ H a = none
theorem Step.refl (g : Gs K H Fr ρ st) : Step K Fr H ρ st H ρ st := ⟨g, ⟨[], by simp⟩, fun _ _ e _ => e, fun _ h => .inl h⟩
theorem Step.trans (a : Step K Fr H ρ st H1 ρ1 st1) (b : Step K Fr H1 ρ1 st1 H2 ρ2 st2) : Step K Fr H ρ st H2 ρ2 st2 where
  g := b.g
  pre := by
    obtain ⟨l, e⟩ := a.pre
    obtain ⟨l', e'⟩ := b.pre
    exact ⟨l ++ l', by rw [e', e, List.append_assoc]⟩
  keep := fun c o e n => b.keep c o (a.keep c o e n) fun z => (a.live c z).elim n fun z' => by rw [e] at z'; cases z'
  live := fun c z => by
    rcases b.live c z with z | z
    · exact a.live c z
    · by_cases l : Liv ρ st c
      · exact .inl l
      · refine .inr ?_
        cases q : H c with
        | none => rfl
        | some o => rw [a.keep c o q l] at z; cases z
theorem Step.stb (g : Gs K H Fr ρ st) (s : Step K Fr H ρ st H' ρ' st') : Stb H H' (Blk Fr ρ st) (Blk Fr ρ' st') where
  k := fun a o nb e => s.keep a o e fun z => nb (.inr z)
  b := fun a nb ne z => by
    rcases z with z | z
    · exact nb (.inl z)
    · rcases s.live a z with z | z
      · exact nb (.inr z)
      · exact ne z
  t := fun a vs e => s.keep a _ e fun z => by
    obtain ⟨o, e', m⟩ := g.blk (.inr z)
    rw [e] at e'; cases e'; exact m
  f := fun a o u e => s.keep a _ e fun z => by
    obtain ⟨o', e', m⟩ := g.blk (.inr z)
    rw [e] at e'; cases e'; exact m
end

/-- a value that may be a place of the store -/
def RepU (K : Frag) (H : Hp) (B : Addr → Prop) (ρ : List Addr) : D → V → Prop
  | .ref n, v => ∃ a, ρ[n]? = some a ∧ v = .ref a
  | d, v => Rep K H B d v
def RepUL (K : Frag) (H : Hp) (B : Addr → Prop) (ρ : List Addr) : List D → List V → Prop
  | [], vs => vs = []
  | d :: ds, vs => ∃ v r, vs = v :: r ∧ RepU K H B ρ d v ∧ RepUL K H B ρ ds r
def EnvR (K : Frag) (H : Hp) (B : Addr → Prop) (ρ : List Addr) : Env → St → Prop
  | [], σ => σ = []
  | x :: xs, σ => ∃ y ys, σ = y :: ys ∧ (∀ d, x = some d → ∃ v, y = some v ∧ RepU K H B ρ d v) ∧ EnvR K H B ρ xs ys
section
variable {K : Frag} {H H' : Hp} {B B' : Addr → Prop} {ρ ρ' : List Addr}
theorem RepU.of {d : D} {v : V} (h : Rep K H B d v) : RepU K H B ρ d v := by
  cases d with
  | ref n => exact h.elim
  | _ => exact h
theorem RepU.stb (s : Stb H H' B B') (p : ∃ l, ρ' = ρ ++ l) {d : D} {v : V} (h : RepU K H B ρ d v) : RepU K H' B' ρ' d v := by
  cases d with
  | ref n =>
    obtain ⟨a, e, e'⟩ := h
    obtain ⟨l, rfl⟩ := p
    exact ⟨a, by rw [List.getElem?_append_left (List.getElem?_eq_some_iff.mp e).1]; exact e, e'⟩
  | _ => exact Rep.stb s h
theorem RepUL.stb (s : Stb H H' B B') (p : ∃ l, ρ' = ρ ++ l) : ∀ {ds : List D} {vs : List V}, RepUL K H B ρ ds vs → RepUL K H' B' ρ' ds vs
  | [], _, h => h
  | d :: ds, vs, h => by
    obtain ⟨v, r, e, x, y⟩ := h
    exact ⟨v, r, e, x.stb s p, RepUL.stb s p y⟩
theorem RepUL.length : ∀ {ds : List D} {vs : List V}, RepUL K H B ρ ds vs → vs.length = ds.length
  | [], vs, h => by
    have e : vs = [] := h
    subst e
    rfl
  | d :: ds, vs, h => by
    obtain ⟨v, r, e, p, q⟩ := h
    subst e
    simp [RepUL.length q]
theorem RepUL.of : ∀ {ds : List D} {vs : List V}, RepL K H B ds vs → RepUL K H B ρ ds vs
  | [], _, h => h
  | d :: ds, vs, h => by
    obtain ⟨v, r, e, x, y⟩ := h
    exact ⟨v, r, e, .of x, RepUL.of y⟩
theorem EnvR.stb (s : Stb H H' B B') (p : ∃ l, ρ' = ρ ++ l) : ∀ {env : Env} {σ : St}, EnvR K H B ρ env σ → EnvR K H' B' ρ' env σ
  | [], _, h => h
  | x :: env, σ, h => by
    obtain ⟨y, ys, e, q, r⟩ := h
    refine ⟨y, ys, e, fun d hd => ?_, EnvR.stb s p r⟩
    obtain ⟨v, e1, e2⟩ := q d hd
    exact ⟨v, e1, e2.stb s p⟩
theorem EnvR.nth : ∀ {env : Env} {σ : St} {i : Nat} {d : D}, EnvR K H B ρ env σ → nth env i = some d → ∃ v, σ[i]? = some (some v) ∧ RepU K H B ρ d v
  | [], _, _, _, _, e => by cases e
  | x :: env, σ, 0, d, h, e => by
    obtain ⟨y, ys, e1, q, r⟩ := h
    subst e1
    obtain ⟨v, e1, e2⟩ := q d e
    exact ⟨v, by simp [e1], e2⟩
  | x :: env, σ, i + 1, d, h, e => by
    obtain ⟨y, ys, e1, q, r⟩ := h
    subst e1
    obtain ⟨v, h1, h2⟩ := EnvR.nth (i := i) (d := d) r e
    exact ⟨v, by simpa using h1, h2⟩
theorem EnvR.put : ∀ {env : Env} {σ : St} {i : Nat} {d : D} {v : V}, EnvR K H B ρ env σ → RepU K H B ρ d v → EnvR K H B ρ (put env i (some d)) (σ.set i (some v))
  | [], σ, _, _, _, h, _ => by
    have e : σ = [] := h
    subst e
    rfl
  | x :: env, σ, 0, d, v, h, r => by
    obtain ⟨y, ys, e1, q, r'⟩ := h
    subst e1
    exact ⟨some v, ys, rfl, fun d' e => by cases e; exact ⟨v, rfl, r⟩, r'⟩
  | x :: env, σ, i + 1, d, v, h, r => by
    obtain ⟨y, ys, e1, q, r'⟩ := h
    subst e1
    exact ⟨y, _, rfl, q, EnvR.put r' r⟩
theorem EnvR.clear : ∀ {env : Env} {σ : St} {i : Nat}, EnvR K H B ρ env σ → EnvR K H B ρ (M.put env i none) (σ.set i none)
  | [], σ, _, h => by
    have e : σ = [] := h
    subst e
    rfl
  | x :: env, σ, 0, h => by
    obtain ⟨y, ys, e1, q, r'⟩ := h
    subst e1
    exact ⟨none, ys, rfl, (fun d' e => by cases e), r'⟩
  | x :: env, σ, i + 1, h => by
    obtain ⟨y, ys, e1, q, r'⟩ := h
    subst e1
    exact ⟨y, _, rfl, q, EnvR.clear r'⟩
theorem EnvR.length : ∀ {env : Env} {σ : St}, EnvR K H B ρ env σ → σ.length = env.length
  | [], σ, h => by
    have e : σ = [] := h
    subst e
    rfl
  | x :: env, σ, h => by
    obtain ⟨y, ys, e1, q, r'⟩ := h
    subst e1
    simp [EnvR.length r']
end

/-! ### the steps one takes -/
section
variable {K : Frag} {H : Hp} {Fr : Addr → Prop} {ρ : List Addr} {st : Sto}
/-- a new thing that nobody may change (a tuple, a list that is made and left) -/
theorem Step.new (g : Gs K H Fr ρ st) {p : Addr} {o : HO} (hp : H p = none) : Step K Fr H ρ st (upd H p o) ρ st := by
  have np : ∀ a, Blk Fr ρ st a → a ≠ p := fun a b e => by
    obtain ⟨o', e', _⟩ := g.blk b
    rw [e, hp] at e'; cases e'
  have s : Stb H (upd H p o) (Blk Fr ρ st) (Blk Fr ρ st) := ⟨fun a u _ e => by rw [upd_ne (ne_of_none e hp)]; exact e, fun _ nb _ => nb, fun a u e => by rw [upd_ne (ne_of_none e hp)]; exact e, fun a u v e => by rw [upd_ne (ne_of_none e hp)]; exact e⟩
  refine ⟨⟨g.len, fun n u e => ?_, fun a f => ?_, g.dis, g.inj⟩, ⟨[], by simp⟩, fun a u e _ => by rw [upd_ne (ne_of_none e hp)]; exact e, fun _ z => .inl z⟩
  · obtain ⟨a, h, r1, r2, r3⟩ := g.ob n u e
    exact ⟨a, h, r1, by rw [upd_ne (ne_of_none r2 hp)]; exact r2, r3.stb s⟩
  · obtain ⟨u, e, m⟩ := g.frm a f
    exact ⟨u, by rw [upd_ne (ne_of_none e hp)]; exact e, m⟩
theorem Gs.notBlk (g : Gs K H Fr ρ st) {p : Addr} (hp : H p = none) : ¬ Blk Fr ρ st p := fun b => by
  obtain ⟨o', e', _⟩ := g.blk b
  rw [hp] at e'; cases e'
theorem liv_app {ρ : List Addr} {st : Sto} {p a : Addr} {x : Option Ob} (hl : ρ.length = st.length) (h : Liv (ρ ++ [p]) (st ++ [x]) a) : Liv ρ st a ∨ (a = p ∧ x ≠ none) := by
  obtain ⟨n, o, e1, e2⟩ := h
  rcases nth_app_one e1 with e | ⟨rfl, rfl⟩
  · have hn := nth_lt e
    rw [List.getElem?_append_left (by omega)] at e2
    exact .inl ⟨n, o, e, e2⟩
  · rw [← hl, List.getElem?_append_right (Nat.le_refl _)] at e2
    simp at e2
    exact .inr ⟨e2.symm, by simp⟩
theorem liv_app_of {ρ : List Addr} {st : Sto} {p a : Addr} {x : Option Ob} (hl : ρ.length = st.length) (h : Liv ρ st a) : Liv (ρ ++ [p]) (st ++ [x]) a := by
  obtain ⟨n, o, e1, e2⟩ := h
  have hn := nth_lt e1
  exact ⟨n, o, by rw [nth_app_lt hn]; exact e1, by rw [List.getElem?_append_left (by omega)]; exact e2⟩
/-- a new thing of one's own, at the store's next place -/
theorem Step.alloc (g : Gs K H Fr ρ st) {p : Addr} {h : HO} {o : Ob} (hp : H p = none) (r : ObR K H (Blk Fr ρ st) o h) : Step K Fr H ρ st (upd H p h) (ρ ++ [p]) (st ++ [some o]) := by
  have npB : ¬ Blk Fr ρ st p := g.notBlk hp
  have nn : ∀ {a u}, H a = some u → (upd H p h) a = some u := fun {a u} e => by rw [upd_ne (ne_of_none e hp)]; exact e
  have s : Stb H (upd H p h) (Blk Fr ρ st) (Blk Fr (ρ ++ [p]) (st ++ [some o])) := by
    refine ⟨fun a u _ e => nn e, fun a nb ne z => ?_, fun a u e => nn e, fun a u v e => nn e⟩
    rcases z with z | z
    · exact nb (.inl z)
    · rcases liv_app g.len z with z | ⟨z, _⟩
      · exact nb (.inr z)
      · rw [z] at ne; exact ne hp
  refine ⟨⟨by simp [g.len], fun n u e => ?_, fun a f => ?_, fun n a u e1 e2 f => ?_, fun n m a u u' e1 e2 e3 e4 => ?_⟩, ⟨[p], rfl⟩, fun a u e _ => nn e, fun a z => ?_⟩
  · rcases nth_app_one e with e | ⟨rfl, e'⟩
    · obtain ⟨a, k, r1, r2, r3⟩ := g.ob n u e
      exact ⟨a, k, by rw [List.getElem?_append_left (List.getElem?_eq_some_iff.mp r1).1]; exact r1, nn r2, r3.stb s⟩
    · cases e'
      exact ⟨p, h, by rw [← g.len]; simp, upd_same, r.stb s⟩
  · obtain ⟨u, e, m⟩ := g.frm a f
    exact ⟨u, nn e, m⟩
  · rcases nth_app_one e1 with e | ⟨rfl, e⟩
    · have hn := nth_lt e
      rw [List.getElem?_append_left (by rw [g.len]; exact hn)] at e2
      exact g.dis n a u e e2 f
    · rw [← g.len] at e2
      have z : p = a := by simpa using e2
      exact npB (.inl (by rw [z]; exact f))
  · have key : ∀ {n m : Nat} {u u' : Ob}, nth st n = some u → m = st.length → (ρ ++ [p])[n]? = some a → (ρ ++ [p])[m]? = some a → False := fun {n m u u'} q1 q2 q3 q4 => by
      have hn := nth_lt q1
      rw [List.getElem?_append_left (by rw [g.len]; exact hn)] at q3
      rw [q2, ← g.len] at q4
      have z : p = a := by simpa using q4
      exact npB (.inr ⟨n, u, q1, by rw [z]; exact q3⟩)
    rcases nth_app_one e1 with f1 | ⟨rfl, f1⟩ <;> rcases nth_app_one e2 with f2 | ⟨h2, f2⟩
    · rw [List.getElem?_append_left (by rw [g.len]; exact nth_lt f1)] at e3
      rw [List.getElem?_append_left (by rw [g.len]; exact nth_lt f2)] at e4
      exact g.inj n m a u u' f1 f2 e3 e4
    · exact (key (u' := u) f1 h2 e3 e4).elim
    · exact (key (u' := u) f2 rfl e4 e3).elim
    · exact h2.symm
  · rcases liv_app g.len z with z | ⟨z, _⟩
    · exact .inl z
    · exact .inr (by rw [z]; exact hp)
theorem liv_put {ρ : List Addr} {st : Sto} {n : Nat} {o : Ob} {x : Option Ob} (h0 : nth st n = some o) {a : Addr} (h : Liv ρ (put st n x) a) : Liv ρ st a := by
  obtain ⟨m, u, e1, e2⟩ := h
  by_cases e : m = n
  · subst e
    exact ⟨m, o, h0, e2⟩
  · rw [nth_put_ne e] at e1
    exact ⟨m, u, e1, e2⟩
theorem liv_put_of {ρ : List Addr} {st : Sto} {n : Nat} {o x : Ob} (h0 : nth st n = some o) {a : Addr} (h : Liv ρ st a) : Liv ρ (put st n (some x)) a := by
  obtain ⟨m, u, e1, e2⟩ := h
  by_cases e : m = n
  · subst e
    exact ⟨m, x, nth_put_same (nth_lt h0), e2⟩
  · exact ⟨m, u, by rw [nth_put_ne e]; exact e1, e2⟩
/-- one's own thing is changed -/
theorem Step.write (g : Gs K H Fr ρ st) {n : Nat} {p : Addr} {h : HO} {o o' : Ob} (h0 : nth st n = some o) (hp : ρ[n]? = some p) (r : ObR K H (Blk Fr ρ st) o' h) : Step K Fr H ρ st (upd H p h) ρ (put st n (some o')) := by
  have lp : Liv ρ st p := ⟨n, o, h0, hp⟩
  have nn : ∀ {a u}, H a = some u → ¬ Liv ρ st a → (upd H p h) a = some u := fun {a u} e nl => by rw [upd_ne (fun z => nl (by rw [z]; exact lp))]; exact e
  have lv : ∀ a, Liv ρ (put st n (some o')) a → Liv ρ st a := fun a z => liv_put h0 z
  have ntf : ∀ {a u}, H a = some u → ¬ Mu u → (upd H p h) a = some u := fun {a u} e m => nn e fun z => by
    obtain ⟨w, e', m'⟩ := g.blk (.inr z)
    rw [e] at e'; cases e'; exact m m'
  have s : Stb H (upd H p h) (Blk Fr ρ st) (Blk Fr ρ (put st n (some o'))) :=
    ⟨fun a u nb e => nn e fun z => nb (.inr z), fun a nb _ z => nb (z.elim .inl fun z => .inr (lv a z)), fun a u e => ntf e (fun z => z), fun a u v e => ntf e (fun z => z)⟩
  refine ⟨⟨by rw [put_length]; exact g.len, fun m u e => ?_, fun a f => ?_, fun m a u e1 e2 f => ?_, fun m m' a u u' e1 e2 e3 e4 => ?_⟩, ⟨[], by simp⟩, fun a u e nl => nn e nl, fun a z => .inl (lv a z)⟩
  · by_cases hm : m = n
    · subst hm
      rw [nth_put_same (nth_lt h0)] at e
      cases e
      exact ⟨p, h, hp, upd_same, r.stb s⟩
    · rw [nth_put_ne hm] at e
      obtain ⟨a, k, r1, r2, r3⟩ := g.ob m u e
      refine ⟨a, k, r1, ?_, r3.stb s⟩
      rw [upd_ne]
      · exact r2
      · intro z
        rw [z] at r1
        exact hm (g.inj m n p u o e h0 r1 hp)
  · obtain ⟨u, e, m⟩ := g.frm a f
    refine ⟨u, ?_, m⟩
    rw [upd_ne]
    · exact e
    · intro z
      rw [z] at f
      exact g.dis n p o h0 hp f
  · obtain ⟨m2, u2, q1, q2⟩ := lv a ⟨m, u, e1, e2⟩
    exact g.dis m2 a u2 q1 q2 f
  · have lift : ∀ {m u}, nth (put st n (some o')) m = some u → ∃ u', nth st m = some u' := fun {m u} e => by
      by_cases hm : m = n
      · subst hm; exact ⟨o, h0⟩
      · rw [nth_put_ne hm] at e; exact ⟨u, e⟩
    obtain ⟨v, f1⟩ := lift e1
    obtain ⟨v', f2⟩ := lift e2
    exact g.inj m m' a v v' f1 f2 e3 e4
/-- one's own thing is let go (it stays as it is, or nobody asks) -/
theorem Step.drop (g : Gs K H Fr ρ st) {st' : Sto} (hl : st'.length = st.length) (hs : ∀ n o, nth st' n = some o → nth st n = some o) : Step K Fr H ρ st H ρ st' := by
  have lv : ∀ a, Liv ρ st' a → Liv ρ st a := fun a ⟨n, o, e1, e2⟩ => ⟨n, o, hs n o e1, e2⟩
  have s : Stb H H (Blk Fr ρ st) (Blk Fr ρ st') := ⟨fun a u _ e => e, fun a nb _ z => nb (z.elim .inl fun z => .inr (lv a z)), fun _ _ e => e, fun _ _ _ e => e⟩
  refine ⟨⟨by rw [hl]; exact g.len, fun n u e => ?_, g.frm, fun n a u e1 e2 => g.dis n a u (hs n u e1) e2, fun n m a u u' e1 e2 => g.inj n m a u u' (hs n u e1) (hs m u' e2)⟩, ⟨[], by simp⟩, fun a u e _ => e, fun a z => .inl (lv a z)⟩
  obtain ⟨a, k, r1, r2, r3⟩ := g.ob n u (hs n u e)
  exact ⟨a, k, r1, r2, r3.stb s⟩
end
end M

/-! M1: judgements of expressions, tests, argument lists; operators. -/
namespace M
open PySem PySem.Spec PyProof.Rows L2

abbrev WK := D → Sto → Prop
abbrev WE := Env → Sto → WK → Prop
abbrev WT := Env → Sto → (Bool → Sto → Prop) → Prop
abbrev WA := Env → Sto → (List D → Sto → Prop) → Prop

/-- either way -/
@[irreducible] def ifB (k : Bool) (A B : Prop) : Prop := (k = true → A) ∧ (k = false → B)
theorem ifB.of {k : Bool} {A B : Prop} (h : k = true → A) (h' : k = false → B) : ifB k A B := by
  unfold ifB
  exact ⟨h, h'⟩
theorem ifB_pos {k : Bool} {A B : Prop} (h : k = true) : ifB k A B = A := by
  unfold ifB
  subst h
  simp
theorem ifB_neg {k : Bool} {A B : Prop} (h : ¬ k = true) : ifB k A B = B := by
  unfold ifB
  cases k with
  | true => exact absurd rfl h
  | false => simp
theorem ifB_t {A B : Prop} (h : A) : ifB true A B := by rw [ifB_pos rfl]; exact h
theorem ifB_f {A B : Prop} (h : B) : ifB false A B := by rw [ifB_neg Bool.false_ne_true]; exact h
section
variable (K : Frag) (Fr : Addr → Prop) (H : Hp) (ρ : List Addr) (st : Sto)
def FinE (Q : VK) : WK := fun d st' => ∀ ρ' v H', Step K Fr H ρ st H' ρ' st' → RepU K H' (Blk Fr ρ' st') ρ' d v → Q v H'
def FinT (Q : Bool → Hp → Prop) : Bool → Sto → Prop := fun b st' => ∀ ρ' H', Step K Fr H ρ st H' ρ' st' → Q b H'
def FinA (Q : List V → Hp → Prop) : List D → Sto → Prop := fun ds st' => ∀ ρ' vs H', Step K Fr H ρ st H' ρ' st' → RepUL K H' (Blk Fr ρ' st') ρ' ds vs → Q vs H'
end
def LE (K : Frag) (w : WE) : TE := fun σ H Q => ∃ Fr ρ env st, Gs K H Fr ρ st ∧ EnvR K H (Blk Fr ρ st) ρ env σ ∧ w env st (FinE K Fr H ρ st Q)
def LT (K : Frag) (w : WT) : TT := fun σ H Q => ∃ Fr ρ env st, Gs K H Fr ρ st ∧ EnvR K H (Blk Fr ρ st) ρ env σ ∧ w env st (FinT K Fr H ρ st Q)
def LA (K : Frag) (w : WA) : TA := fun σ H Q => ∃ Fr ρ env st, Gs K H Fr ρ st ∧ EnvR K H (Blk Fr ρ st) ρ env σ ∧ w env st (FinA K Fr H ρ st Q)
structure EX (X : Cx) (e : Expr) (w : WE) : Prop where
  run : PE X e (LE X.K w)
  mono : ∀ env st Q Q', (∀ d s, Q d s → Q' d s) → w env st Q → w env st Q'
structure TX (X : Cx) (e : Expr) (w : WT) : Prop where
  run : PT X e (LT X.K w)
  mono : ∀ env st Q Q', (∀ d s, Q d s → Q' d s) → w env st Q → w env st Q'
structure TWX (X : Cx) (e : Expr) (w : WT) : Prop where
  run : PW X e (LT X.K w)
  mono : ∀ env st Q Q', (∀ d s, Q d s → Q' d s) → w env st Q → w env st Q'
structure AX (X : Cx) (es : List Expr) (w : WA) : Prop where
  run : PA X es (LA X.K w)
  mono : ∀ env st Q Q', (∀ d s, Q d s → Q' d s) → w env st Q → w env st Q'

theorem _root_.L2.PE.imp {X : Cx} {e : Expr} {t t' : TE} (p : PE X e t) (h : ∀ σ H Q, t' σ H Q → t σ H Q) : PE X e t' := ⟨fun pins s σ H Q I q => p.run pins s σ H Q I (h _ _ _ q)⟩
theorem _root_.L2.PT.imp {X : Cx} {e : Expr} {t t' : TT} (p : PT X e t) (h : ∀ σ H Q, t' σ H Q → t σ H Q) : PT X e t' := ⟨fun pins s σ H Q I q => p.run pins s σ H Q I (h _ _ _ q)⟩
theorem _root_.L2.PW.imp {X : Cx} {e : Expr} {t t' : TT} (p : PW X e t) (h : ∀ σ H Q, t' σ H Q → t σ H Q) : PW X e t' := ⟨fun wh pins s σ H Q I q => p.run wh pins s σ H Q I (h _ _ _ q)⟩
theorem _root_.L2.PA.imp {X : Cx} {e : List Expr} {t t' : TA} (p : PA X e t) (h : ∀ σ H Q, t' σ H Q → t σ H Q) : PA X e t' := ⟨fun pos pins s σ H Q I q => p.run pos pins s σ H Q I (h _ _ _ q)⟩
theorem TWX.tx {X : Cx} {e : Expr} {w : WT} (h : TWX X e w) : TX X e w := ⟨h.run.pt, h.mono⟩

section
variable {K : Frag} {Fr : Addr → Prop} {H H1 H2 : Hp} {ρ ρ1 ρ2 : List Addr} {st st1 st2 : Sto} {env : Env} {σ : St}
theorem EnvR.step (g : Gs K H Fr ρ st) (s : Step K Fr H ρ st H1 ρ1 st1) (E : EnvR K H (Blk Fr ρ st) ρ env σ) : EnvR K H1 (Blk Fr ρ1 st1) ρ1 env σ := E.stb (s.stb g) s.pre
theorem RepU.step (g : Gs K H Fr ρ st) (s : Step K Fr H ρ st H1 ρ1 st1) {d : D} {v : V} (E : RepU K H (Blk Fr ρ st) ρ d v) : RepU K H1 (Blk Fr ρ1 st1) ρ1 d v := E.stb (s.stb g) s.pre
theorem RepUL.step (g : Gs K H Fr ρ st) (s : Step K Fr H ρ st H1 ρ1 st1) {d : List D} {v : List V} (E : RepUL K H (Blk Fr ρ st) ρ d v) : RepUL K H1 (Blk Fr ρ1 st1) ρ1 d v := E.stb (s.stb g) s.pre
theorem FinE.step {Q : VK} (s : Step K Fr H ρ st H1 ρ1 st1) {d : D} {st2 : Sto} (h : FinE K Fr H ρ st Q d st2) : FinE K Fr H1 ρ1 st1 Q d st2 := fun ρ' v H' s' r => h ρ' v H' (s.trans s') r
theorem FinT.step {Q : Bool → Hp → Prop} (s : Step K Fr H ρ st H1 ρ1 st1) {d : Bool} {st2 : Sto} (h : FinT K Fr H ρ st Q d st2) : FinT K Fr H1 ρ1 st1 Q d st2 := fun ρ' H' s' => h ρ' H' (s.trans s')
theorem FinA.step {Q : List V → Hp → Prop} (s : Step K Fr H ρ st H1 ρ1 st1) {d : List D} {st2 : Sto} (h : FinA K Fr H ρ st Q d st2) : FinA K Fr H1 ρ1 st1 Q d st2 := fun ρ' v H' s' r => h ρ' v H' (s.trans s') r
/-- an answer that needs no step -/
theorem FinE.now {Q : VK} {d : D} {v : V} (g : Gs K H Fr ρ st) (h : FinE K Fr H ρ st Q d st) (r : RepU K H (Blk Fr ρ st) ρ d v) : Q v H := h ρ v H (.refl g) r
theorem FinT.now {Q : Bool → Hp → Prop} {b : Bool} (g : Gs K H Fr ρ st) (h : FinT K Fr H ρ st Q b st) : Q b H := h ρ H (.refl g)
end

/-! ### names, constants -/
def wVar (i : Nat) : WE := fun env st Q => match nth env i with
  | some d => Q d st
  | none => False
def wC (d : D) : WE := fun _ st Q => Q d st
section
variable {X : Cx}
theorem ex_varP {i : Nat} {e : Expr} (h : PE X e (tVar i)) : EX X e (wVar i) := by
  refine ⟨h.imp fun σ H Q ⟨Fr, ρ, env, st, g, E, hw⟩ => ?_, fun env st Q Q' hQ h => ?_⟩
  · unfold wVar at hw
    split at hw
    · rename_i d e
      obtain ⟨v, e1, r⟩ := E.nth e
      exact ⟨v, e1, hw.now g r⟩
    · exact hw.elim
  · unfold wVar at h ⊢
    split at h
    · exact hQ _ _ h
    · exact h.elim
theorem ex_cP {e : Expr} {d : D} {v : V} (h : PE X e (tC v)) (r : ∀ K H B, Rep K H B d v) : EX X e (wC d) :=
  ⟨h.imp fun σ H Q ⟨Fr, ρ, env, st, g, E, hw⟩ => hw.now g (.of (r _ _ _)), fun _ _ _ _ hQ h => hQ _ _ h⟩
theorem xv (i : Nat) {x : Str} {pos : Pos} (hN : X.N[i]? = some x := by rfl) (hv : Vis X.env.scope x := by first | exact Or.inl rfl | exact Or.inr (Or.inl rfl) | exact Or.inr (Or.inr rfl)) (hd : (x == ("__debug__" : Str)) = false := by decide)
    (hcd : (x == ("__classdict__" : Str)) = false := by decide) : EX X (.Name x pos) (wVar i) := ex_varP (pe_var hN hv hd hcd)
theorem xint {i j pos} : EX X (.Constant (.int i) j pos) (wC (.int i)) := ex_cP pe_int fun _ _ _ => rfl
theorem xbl {b j pos} : EX X (.Constant (.bool b) j pos) (wC (.bl b)) := ex_cP pe_bl fun _ _ _ => rfl
theorem xnon {j pos} : EX X (.Constant .none j pos) (wC .non) := ex_cP pe_non fun _ _ _ => rfl
theorem xstr {x j pos} : EX X (.Constant (.str x) j pos) (wC (.str x)) := ex_cP pe_str fun _ _ _ => rfl
theorem xglob {x : Str} {i : Int} {t : Tok} {pos : Pos} (hm : X.mg x = some (.int i t)) (hg : Gl X x := by rfl) (hd : (x == ("__debug__" : Str)) = false := by decide) : EX X (.Name x pos) (wC (.int i)) := ex_cP (pe_glob hg hm (v := .int i) ⟨t, rfl⟩ hd) fun _ _ _ => rfl
theorem xglobS {x y : Str} {t : Tok} {pos : Pos} (hm : X.mg x = some (.str y t)) (hg : Gl X x := by rfl) (hd : (x == ("__debug__" : Str)) = false := by decide) : EX X (.Name x pos) (wC (.str y)) := ex_cP (pe_glob hg hm (v := .str y) ⟨t, rfl⟩ hd) fun _ _ _ => rfl
end

/-! ### operators -/
abbrev W2 := D → D → Sto → WK → Prop
abbrev W1 := D → Sto → WK → Prop
def LO (K : Frag) (w : W2) : R2 := fun x y H Q => ∃ Fr ρ st a b, Gs K H Fr ρ st ∧ RepU K H (Blk Fr ρ st) ρ a x ∧ RepU K H (Blk Fr ρ st) ρ b y ∧ w a b st (FinE K Fr H ρ st Q)
structure OpM (X : Cx) (f : Value → Value → Sem Value) (w : W2) : Prop where
  run : OpR X f (LO X.K w)
  mono : ∀ a b st Q Q', (∀ d s, Q d s → Q' d s) → w a b st Q → w a b st Q'
def LU (K : Frag) (w : W1) : V → Hp → VK → Prop := fun x H Q => ∃ Fr ρ st a, Gs K H Fr ρ st ∧ RepU K H (Blk Fr ρ st) ρ a x ∧ w a st (FinE K Fr H ρ st Q)
structure UnM (X : Cx) (f : Value → Sem Value) (w : W1) : Prop where
  run : UnR X f (LU X.K w)
  mono : ∀ a st Q Q', (∀ d s, Q d s → Q' d s) → w a st Q → w a st Q'
theorem _root_.L2.OpR.imp {X : Cx} {f : Value → Value → Sem Value} {r r' : R2} (h : OpR X f r) (i : ∀ x y H Q, r' x y H Q → r x y H Q) : OpR X f r' := fun pins s σ H x y v u Q I a b q => h pins s σ H x y v u Q I a b (i _ _ _ _ q)
def wOp (w : W2) (wa wb : WE) : WE := fun env st Q => wa env st fun a st1 => wb env st1 fun b st2 => w a b st2 Q
def wUn (w : W1) (wa : WE) : WE := fun env st Q => wa env st fun a st1 => w a st1 Q
section
variable {X : Cx} {a b c : Expr} {wa wb wc : WE} {w w' : W2} {pos : Pos}
theorem LE.op (ma : ∀ env st Q Q', (∀ d s, Q d s → Q' d s) → wa env st Q → wa env st Q') (mb : ∀ env st Q Q', (∀ d s, Q d s → Q' d s) → wb env st Q → wb env st Q') (mw : ∀ a b st Q Q', (∀ d s, Q d s → Q' d s) → w a b st Q → w a b st Q')
    {K : Frag} {σ : St} {H : Hp} {Q : VK} (h : LE K (wOp w wa wb) σ H Q) : tOp (LO K w) (LE K wa) (LE K wb) σ H Q := by
  obtain ⟨Fr, ρ, env, st, g, E, hw⟩ := h
  refine ⟨Fr, ρ, env, st, g, E, ma _ _ _ _ (fun d s q => ?_) hw⟩
  intro ρ1 v H1 S1 r1
  refine ⟨Fr, ρ1, env, s, S1.g, E.step g S1, mb _ _ _ _ (fun d2 s2 q2 => ?_) q⟩
  intro ρ2 v2 H2 S2 r2
  exact ⟨Fr, ρ2, s2, d, d2, S2.g, r1.step S1.g S2, r2, mw _ _ _ _ _ (fun d3 s3 q3 => FinE.step S2 (FinE.step S1 q3)) q2⟩
theorem xop {op : Operator} (ho : OpM X (binaryOp op) w) (ha : EX X a wa) (hb : EX X b wb) : EX X (.BinOp a op b pos) (wOp w wa wb) :=
  ⟨(pe_op ho.run ha.run hb.run).imp fun σ H Q h => h.op ha.mono hb.mono ho.mono, fun env st Q Q' hQ h => ha.mono _ _ _ _ (fun d s q => hb.mono _ _ _ _ (fun d2 s2 q2 => ho.mono _ _ _ _ _ hQ q2) q) h⟩
theorem xun {op : UnaryOp} {w : W1} (ho : UnM X (unaryOp op) w) (ha : EX X a wa) : EX X (.UnaryOp op a pos) (wUn w wa) := by
  refine ⟨(pe_un ho.run ha.run).imp fun σ H Q ⟨Fr, ρ, env, st, g, E, hw⟩ => ?_, fun env st Q Q' hQ h => ha.mono _ _ _ _ (fun d s q => ho.mono _ _ _ _ hQ q) h⟩
  refine ⟨Fr, ρ, env, st, g, E, ha.mono _ _ _ _ (fun d s q => ?_) hw⟩
  intro ρ1 v H1 S1 r1
  exact ⟨Fr, ρ1, s, d, S1.g, r1, ho.mono _ _ _ _ (fun d3 s3 q3 => FinE.step S1 q3) q⟩
/-- a comparison -/
theorem xcmp {op : CmpOp} (ho : OpM X (compareOp op) w) (ha : EX X a wa) (hb : EX X b wb) (hm : behindInMarks op b = false := by first | exact nomark _ | rfl) : EX X (.Compare a [op] [b] pos) (wOp w wa wb) :=
  ⟨(pe_cmpR ho.run ha.run hb.run hm).imp fun σ H Q h => h.op ha.mono hb.mono ho.mono, fun env st Q Q' hQ h => ha.mono _ _ _ _ (fun d s q => hb.mono _ _ _ _ (fun d2 s2 q2 => ho.mono _ _ _ _ _ hQ q2) q) h⟩
def kBl (Q : Bool → Sto → Prop) : WK := fun d st => match d with
  | .bl b => Q b st
  | _ => False
theorem kBl.mono {Q Q' : Bool → Sto → Prop} (h : ∀ b s, Q b s → Q' b s) : ∀ d s, kBl Q d s → kBl Q' d s := fun d s q => by
  cases d <;> first | exact h _ _ q | exact q.elim
theorem kBl.fin {K : Frag} {Fr : Addr → Prop} {H : Hp} {ρ : List Addr} {st : Sto} {Q : Bool → Hp → Prop} {d : D} {s : Sto} (h : kBl (FinT K Fr H ρ st Q) d s) : FinE K Fr H ρ st (fun x H' => ∃ k, x = .bl k ∧ Q k H') d s := fun ρ' v H' S r => by
  cases d <;> first
    | exact h.elim
    | exact ⟨_, r, h ρ' H' S⟩
def wTst (w : WE) : WT := fun env st Q => w env st (kBl Q)
theorem tx_of {e : Expr} {w : WE} {t : TE} (mono : ∀ env st Q Q', (∀ d s, Q d s → Q' d s) → w env st Q → w env st Q') (h : PT X e (tTest t)) (i : ∀ σ H Q, LE X.K w σ H Q → t σ H Q) : TX X e (wTst w) := by
  refine ⟨h.imp fun σ H Q ⟨Fr, ρ, env, st, g, E, hw⟩ => ?_, fun env st Q Q' hQ h => mono _ _ _ _ (kBl.mono hQ) h⟩
  exact i _ _ _ ⟨Fr, ρ, env, st, g, E, mono _ _ _ _ (fun d s q => q.fin) hw⟩
theorem tcmp {op : CmpOp} (ho : OpM X (compareOp op) w) (ha : EX X a wa) (hb : EX X b wb) (hm : behindInMarks op b = false := by first | exact nomark _ | rfl) : TX X (.Compare a [op] [b] pos) (wTst (wOp w wa wb)) :=
  tx_of (xcmp (pos := pos) ho ha hb hm).mono (pt_cmpR ho.run ha.run hb.run hm) fun σ H Q h => h.op ha.mono hb.mono ho.mono
/-- any expression whose value is a flag -/
theorem tval {e : Expr} {w : WE} (h : EX X e w) (he : ∀ whole, isTrue e X.env whole = (do let v ← whole; standAt e.pos; holding [v] (truthy v)) := by intro _; rfl) : TX X e (wTst w) :=
  tx_of h.mono (pt_val h.run he) fun σ H Q q => q
/-- a op1 b op2 c -/
def wChain (w w' : W2) (wa wb wc : WE) : WE := fun env st Q => wa env st fun a st1 => wb env st1 fun b st2 => w a b st2 (kBl fun k st3 =>
  ifB k (wc env st3 fun c st4 => w' b c st4 Q) (Q (.bl false) st3))
theorem wChain.mono (ma : ∀ env st Q Q', (∀ d s, Q d s → Q' d s) → wa env st Q → wa env st Q') (mb : ∀ env st Q Q', (∀ d s, Q d s → Q' d s) → wb env st Q → wb env st Q') (mc : ∀ env st Q Q', (∀ d s, Q d s → Q' d s) → wc env st Q → wc env st Q')
    (mw : ∀ a b st Q Q', (∀ d s, Q d s → Q' d s) → w a b st Q → w a b st Q') (mw' : ∀ a b st Q Q', (∀ d s, Q d s → Q' d s) → w' a b st Q → w' a b st Q') : ∀ env st Q Q', (∀ d s, Q d s → Q' d s) → wChain w w' wa wb wc env st Q → wChain w w' wa wb wc env st Q' := by
  intro env st Q Q' hQ h
  refine ma _ _ _ _ (fun d s q => mb _ _ _ _ (fun d2 s2 q2 => mw _ _ _ _ _ (kBl.mono fun k s3 q3 => ?_) q2) q) h
  by_cases hk : k = true
  · skip
    rw [ifB_pos hk] at q3 ⊢
    exact mc _ _ _ _ (fun d4 s4 q4 => mw' _ _ _ _ _ hQ q4) q3
  · skip
    rw [ifB_neg hk] at q3 ⊢
    exact hQ _ _ q3
theorem LE.chain (ma : ∀ env st Q Q', (∀ d s, Q d s → Q' d s) → wa env st Q → wa env st Q') (mb : ∀ env st Q Q', (∀ d s, Q d s → Q' d s) → wb env st Q → wb env st Q') (mc : ∀ env st Q Q', (∀ d s, Q d s → Q' d s) → wc env st Q → wc env st Q')
    (mw : ∀ a b st Q Q', (∀ d s, Q d s → Q' d s) → w a b st Q → w a b st Q') (mw' : ∀ a b st Q Q', (∀ d s, Q d s → Q' d s) → w' a b st Q → w' a b st Q')
    {K : Frag} {σ : St} {H : Hp} {Q : VK} (h : LE K (wChain w w' wa wb wc) σ H Q) : tChain (LO K w) (LO K w') (LE K wa) (LE K wb) (LE K wc) σ H Q := by
  obtain ⟨Fr, ρ, env, st, g, E, hw⟩ := h
  refine ⟨Fr, ρ, env, st, g, E, ma _ _ _ _ (fun d s q => ?_) hw⟩
  intro ρ1 v H1 S1 r1
  refine ⟨Fr, ρ1, env, s, S1.g, E.step g S1, mb _ _ _ _ (fun d2 s2 q2 => ?_) q⟩
  intro ρ2 v2 H2 S2 r2
  refine ⟨Fr, ρ2, s2, d, d2, S2.g, r1.step S1.g S2, r2, mw _ _ _ _ _ (fun d3 s3 q3 => ?_) q2⟩
  intro ρ3 v3 H3 S3 r3
  cases d3 <;> first
    | exact q3.elim
    | skip
  rename_i k
  refine ⟨k, r3, ?_⟩
  have q3' : ifB k _ _ := q3
  cases k with
  | true =>
    rw [ifB_pos rfl] at q3'; rw [if_pos rfl]
    refine ⟨Fr, ρ3, env, s3, S3.g, E.step g (S1.trans (S2.trans S3)), mc _ _ _ _ (fun d4 s4 q4 => ?_) q3'⟩
    intro ρ4 v4 H4 S4 r4
    exact ⟨Fr, ρ4, s4, d2, d4, S4.g, r2.step S2.g (S3.trans S4), r4, mw' _ _ _ _ _ (fun d5 s5 q5 => FinE.step (S1.trans (S2.trans (S3.trans S4))) q5) q4⟩
  | false =>
    rw [ifB_neg Bool.false_ne_true] at q3'; rw [if_neg Bool.false_ne_true]
    exact q3' ρ3 _ H3 (S1.trans (S2.trans S3)) (.of (show Rep _ _ _ (.bl false) _ from rfl))
theorem xchain {op op' : CmpOp} (ho : OpM X (compareOp op) w) (ho' : OpM X (compareOp op') w') (ha : EX X a wa) (hb : EX X b wb) (hc : EX X c wc) (hm : lastMarks [op, op'] [b, c] = false := by with_unfolding_all rfl) :
    EX X (.Compare a [op, op'] [b, c] pos) (wChain w w' wa wb wc) :=
  ⟨(pe_chain ho.run ho'.run ha.run hb.run hc.run hm).imp fun σ H Q h => h.chain ha.mono hb.mono hc.mono ho.mono ho'.mono, wChain.mono ha.mono hb.mono hc.mono ho.mono ho'.mono⟩
theorem tchain {op op' : CmpOp} (ho : OpM X (compareOp op) w) (ho' : OpM X (compareOp op') w') (ha : EX X a wa) (hb : EX X b wb) (hc : EX X c wc) (hm : lastMarks [op, op'] [b, c] = false := by with_unfolding_all rfl) :
    TX X (.Compare a [op, op'] [b, c] pos) (wTst (wChain w w' wa wb wc)) :=
  tx_of (wChain.mono ha.mono hb.mono hc.mono ho.mono ho'.mono) (pt_chain ho.run ho'.run ha.run hb.run hc.run hm) fun σ H Q h => h.chain ha.mono hb.mono hc.mono ho.mono ho'.mono

/-! ### and, or, not, if -/
def wAndT (s t : WT) : WT := fun env st Q => s env st fun k st1 => ifB k (t env st1 Q) (Q false st1)
def wOrT (s t : WT) : WT := fun env st Q => s env st fun k st1 => ifB k (Q true st1) (t env st1 Q)
def wNotT (s : WT) : WT := fun env st Q => s env st fun k st1 => Q (!k) st1
variable {s t : WT} {rest : List Expr}
theorem tand1 (ha : TX X a s) : TWX X (.BoolOp .And [a] pos) s := ⟨pw_and1 ha.run, ha.mono⟩
theorem tor1 (ha : TX X a s) : TWX X (.BoolOp .Or [a] pos) s := ⟨pw_or1 ha.run, ha.mono⟩
theorem tand (ha : TX X a s) (hb : TWX X (.BoolOp .And (b :: rest) pos) t) : TWX X (.BoolOp .And (a :: b :: rest) pos) (wAndT s t) := by
  refine ⟨(pw_and ha.run hb.run).imp fun σ H Q ⟨Fr, ρ, env, st, g, E, hw⟩ => ?_, fun env st Q Q' hQ h => ha.mono _ _ _ _ (fun k s1 q => ?_) h⟩
  · refine ⟨Fr, ρ, env, st, g, E, ha.mono _ _ _ _ (fun k s1 q => ?_) hw⟩
    intro ρ1 H1 S1
    cases k with
    | true =>
      rw [ifB_pos rfl] at q; rw [if_pos rfl]
      exact ⟨Fr, ρ1, env, s1, S1.g, E.step g S1, hb.mono _ _ _ _ (fun d3 s3 q3 => FinT.step S1 q3) q⟩
    | false =>
      rw [ifB_neg Bool.false_ne_true] at q; rw [if_neg Bool.false_ne_true]
      exact q ρ1 H1 S1
  · by_cases hk : k = true
    · rw [ifB_pos hk] at q ⊢; exact hb.mono _ _ _ _ hQ q
    · rw [ifB_neg hk] at q ⊢; exact hQ _ _ q
theorem tor (ha : TX X a s) (hb : TWX X (.BoolOp .Or (b :: rest) pos) t) : TWX X (.BoolOp .Or (a :: b :: rest) pos) (wOrT s t) := by
  refine ⟨(pw_or ha.run hb.run).imp fun σ H Q ⟨Fr, ρ, env, st, g, E, hw⟩ => ?_, fun env st Q Q' hQ h => ha.mono _ _ _ _ (fun k s1 q => ?_) h⟩
  · refine ⟨Fr, ρ, env, st, g, E, ha.mono _ _ _ _ (fun k s1 q => ?_) hw⟩
    intro ρ1 H1 S1
    cases k with
    | true =>
      rw [ifB_pos rfl] at q; rw [if_pos rfl]
      exact q ρ1 H1 S1
    | false =>
      rw [ifB_neg Bool.false_ne_true] at q; rw [if_neg Bool.false_ne_true]
      exact ⟨Fr, ρ1, env, s1, S1.g, E.step g S1, hb.mono _ _ _ _ (fun d3 s3 q3 => FinT.step S1 q3) q⟩
  · by_cases hk : k = true
    · rw [ifB_pos hk] at q ⊢; exact hQ _ _ q
    · rw [ifB_neg hk] at q ⊢; exact hb.mono _ _ _ _ hQ q
theorem tnot (ha : TX X a s) : TX X (.UnaryOp .Not a pos) (wNotT s) := by
  refine ⟨(pt_not ha.run).imp fun σ H Q ⟨Fr, ρ, env, st, g, E, hw⟩ => ?_, fun env st Q Q' hQ h => ha.mono _ _ _ _ (fun k s1 q => hQ _ _ q) h⟩
  exact ⟨Fr, ρ, env, st, g, E, ha.mono _ _ _ _ (fun k s1 q ρ1 H1 S1 => q ρ1 H1 S1) hw⟩
/-- .. as values, the items but the last flags -/
def wAndV (wa wb : WE) : WE := fun env st Q => wa env st (kBl fun k st1 => ifB k (wb env st1 Q) (Q (.bl false) st1))
def wOrV (wa wb : WE) : WE := fun env st Q => wa env st (kBl fun k st1 => ifB k (Q (.bl true) st1) (wb env st1 Q))
def wNotV (wa : WE) : WE := fun env st Q => wa env st (kBl fun k st1 => Q (.bl (!k)) st1)
theorem xone {op} (ha : EX X a wa) : EX X (.BoolOp op [a] pos) wa := ⟨pe_one ha.run, ha.mono⟩
theorem xand (ha : EX X a wa) (hb : EX X (.BoolOp .And (b :: rest) pos) wb) : EX X (.BoolOp .And (a :: b :: rest) pos) (wAndV wa wb) := by
  refine ⟨(pe_and ha.run hb.run).imp fun σ H Q ⟨Fr, ρ, env, st, g, E, hw⟩ => ?_, fun env st Q Q' hQ h => ha.mono _ _ _ _ (kBl.mono fun k s1 q => ?_) h⟩
  · refine ⟨Fr, ρ, env, st, g, E, ha.mono _ _ _ _ (fun d s1 q => ?_) hw⟩
    intro ρ1 v H1 S1 r1
    cases d <;> first
      | exact q.elim
      | skip
    rename_i k
    refine ⟨k, r1, ?_⟩
    have q' : ifB k _ _ := q
    cases k with
    | true =>
      rw [ifB_pos rfl] at q'; rw [if_pos rfl]
      exact ⟨Fr, ρ1, env, s1, S1.g, E.step g S1, hb.mono _ _ _ _ (fun d3 s3 q3 => FinE.step S1 q3) q'⟩
    | false =>
      rw [ifB_neg Bool.false_ne_true] at q'; rw [if_neg Bool.false_ne_true]
      exact q' ρ1 _ H1 S1 (.of (show Rep _ _ _ (.bl false) _ from rfl))
  · by_cases hk : k = true
    · rw [ifB_pos hk] at q ⊢; exact hb.mono _ _ _ _ hQ q
    · rw [ifB_neg hk] at q ⊢; exact hQ _ _ q
theorem xor (ha : EX X a wa) (hb : EX X (.BoolOp .Or (b :: rest) pos) wb) : EX X (.BoolOp .Or (a :: b :: rest) pos) (wOrV wa wb) := by
  refine ⟨(pe_or ha.run hb.run).imp fun σ H Q ⟨Fr, ρ, env, st, g, E, hw⟩ => ?_, fun env st Q Q' hQ h => ha.mono _ _ _ _ (kBl.mono fun k s1 q => ?_) h⟩
  · refine ⟨Fr, ρ, env, st, g, E, ha.mono _ _ _ _ (fun d s1 q => ?_) hw⟩
    intro ρ1 v H1 S1 r1
    cases d <;> first
      | exact q.elim
      | skip
    rename_i k
    refine ⟨k, r1, ?_⟩
    have q' : ifB k _ _ := q
    cases k with
    | true =>
      rw [ifB_pos rfl] at q'; rw [if_pos rfl]
      exact q' ρ1 _ H1 S1 (.of (show Rep _ _ _ (.bl true) _ from rfl))
    | false =>
      rw [ifB_neg Bool.false_ne_true] at q'; rw [if_neg Bool.false_ne_true]
      exact ⟨Fr, ρ1, env, s1, S1.g, E.step g S1, hb.mono _ _ _ _ (fun d3 s3 q3 => FinE.step S1 q3) q'⟩
  · by_cases hk : k = true
    · rw [ifB_pos hk] at q ⊢; exact hQ _ _ q
    · rw [ifB_neg hk] at q ⊢; exact hb.mono _ _ _ _ hQ q
theorem xnot (ha : EX X a wa) : EX X (.UnaryOp .Not a pos) (wNotV wa) := by
  refine ⟨(pe_not ha.run).imp fun σ H Q ⟨Fr, ρ, env, st, g, E, hw⟩ => ?_, fun env st Q Q' hQ h => ha.mono _ _ _ _ (kBl.mono fun k s1 q => hQ _ _ q) h⟩
  refine ⟨Fr, ρ, env, st, g, E, ha.mono _ _ _ _ (fun d s1 q => ?_) hw⟩
  intro ρ1 v H1 S1 r1
  cases d <;> first
    | exact q.elim
    | skip
  rename_i k
  exact ⟨k, r1, q ρ1 _ H1 S1 (.of (show Rep _ _ _ (.bl (!k)) _ from rfl))⟩
def wIf (t : WT) (wa wb : WE) : WE := fun env st Q => t env st fun k st1 => ifB k (wa env st1 Q) (wb env st1 Q)
theorem xif (hc : TX X c s) (ha : EX X a wa) (hb : EX X b wb) : EX X (.IfExp c a b pos) (wIf s wa wb) := by
  refine ⟨(pe_ifExp hc.run ha.run hb.run).imp fun σ H Q ⟨Fr, ρ, env, st, g, E, hw⟩ => ?_, fun env st Q Q' hQ h => hc.mono _ _ _ _ (fun k s1 q => ?_) h⟩
  · refine ⟨Fr, ρ, env, st, g, E, hc.mono _ _ _ _ (fun k s1 q => ?_) hw⟩
    intro ρ1 H1 S1
    cases k with
    | true =>
      rw [ifB_pos rfl] at q; rw [if_pos rfl]
      exact ⟨Fr, ρ1, env, s1, S1.g, E.step g S1, ha.mono _ _ _ _ (fun d3 s3 q3 => FinE.step S1 q3) q⟩
    | false =>
      rw [ifB_neg Bool.false_ne_true] at q; rw [if_neg Bool.false_ne_true]
      exact ⟨Fr, ρ1, env, s1, S1.g, E.step g S1, hb.mono _ _ _ _ (fun d3 s3 q3 => FinE.step S1 q3) q⟩
  · by_cases hk : k = true
    · rw [ifB_pos hk] at q ⊢; exact ha.mono _ _ _ _ hQ q
    · rw [ifB_neg hk] at q ⊢; exact hb.mono _ _ _ _ hQ q
end

/-! ### argument lists -/
def wNil : WA := fun _ st Q => Q [] st
def wCons (we : WE) (wr : WA) : WA := fun env st Q => we env st fun d st1 => wr env st1 fun ds st2 => Q (d :: ds) st2
section
variable {X : Cx} {e : Expr} {es : List Expr} {we : WE} {wr : WA}
theorem anil : AX X [] wNil := ⟨pa_nil.imp fun σ H Q ⟨Fr, ρ, env, st, g, E, hw⟩ => hw ρ [] H (.refl g) rfl, fun _ _ _ _ hQ h => hQ _ _ h⟩
theorem acons (ha : EX X e we) (hr : AX X es wr) (hs : starEach (e :: es) X.env = (false, eval e X.env) :: starEach es X.env := by rfl) : AX X (e :: es) (wCons we wr) := by
  refine ⟨(pa_cons ha.run hr.run hs).imp fun σ H Q ⟨Fr, ρ, env, st, g, E, hw⟩ => ?_, fun env st Q Q' hQ h => ha.mono _ _ _ _ (fun d s q => hr.mono _ _ _ _ (fun ds s2 q2 => hQ _ _ q2) q) h⟩
  refine ⟨Fr, ρ, env, st, g, E, ha.mono _ _ _ _ (fun d s q => ?_) hw⟩
  intro ρ1 v H1 S1 r1
  refine ⟨Fr, ρ1, env, s, S1.g, E.step g S1, hr.mono _ _ _ _ (fun ds s2 q2 => ?_) q⟩
  intro ρ2 vs H2 S2 r2
  exact q2 ρ2 _ H2 (S1.trans S2) ⟨v, vs, rfl, r1.step S1.g S2, r2⟩
end
end M

/-! M2: statements, targets, loops, comprehensions. -/
namespace M
open PySem PySem.Spec PyProof.Rows L2

/-- what is wanted behind a statement -/
structure EndM where
  nx : Env → Sto → Prop
  rt : WK
  bk : Env → Sto → Prop := fun _ _ => False
  ct : Env → Sto → Prop := fun _ _ => False
abbrev WS := EndM → Env → Sto → Prop
abbrev WN := Env → Sto → Prop
structure EndM.le (D D' : EndM) : Prop where
  nx : ∀ e s, D.nx e s → D'.nx e s
  rt : ∀ d s, D.rt d s → D'.rt d s
  bk : ∀ e s, D.bk e s → D'.bk e s
  ct : ∀ e s, D.ct e s → D'.ct e s
theorem EndM.le.refl (D : EndM) : D.le D := ⟨fun _ _ h => h, fun _ _ h => h, fun _ _ h => h, fun _ _ h => h⟩
section
variable (K : Frag) (Fr : Addr → Prop) (H : Hp) (ρ : List Addr) (st : Sto)
def FinN (Q : St → Hp → Prop) : WN := fun env st' => ∀ ρ' σ' H', Step K Fr H ρ st H' ρ' st' → EnvR K H' (Blk Fr ρ' st') ρ' env σ' → Q σ' H'
def FinD (D : Ends) : EndM := ⟨FinN K Fr H ρ st D.nx, FinE K Fr H ρ st D.rt, FinN K Fr H ρ st D.bk, FinN K Fr H ρ st D.ct⟩
end
def LS (K : Frag) (w : WS) : TS := fun D σ H => ∃ Fr ρ env st, Gs K H Fr ρ st ∧ EnvR K H (Blk Fr ρ st) ρ env σ ∧ w (FinD K Fr H ρ st D) env st
structure SX (X : Cx) (s : Stmt) (w : WS) : Prop where
  run : PS X s (LS X.K w)
  mono : ∀ D D', D.le D' → ∀ env st, w D env st → w D' env st
structure SXs (X : Cx) (s : List Stmt) (w : WS) : Prop where
  run : PSs X s (LS X.K w)
  mono : ∀ D D', D.le D' → ∀ env st, w D env st → w D' env st
theorem _root_.L2.PS.imp {X : Cx} {e : Stmt} {t t' : TS} (p : PS X e t) (h : ∀ D σ H, t' D σ H → t D σ H) : PS X e t' := ⟨fun pins s σ H D I q => p.run pins s σ H D I (h _ _ _ q)⟩
theorem _root_.L2.PSs.imp {X : Cx} {e : List Stmt} {t t' : TS} (p : PSs X e t) (h : ∀ D σ H, t' D σ H → t D σ H) : PSs X e t' := ⟨fun pins s σ H D I q => p.run pins s σ H D I (h _ _ _ q)⟩
section
variable {K : Frag} {Fr : Addr → Prop} {H H1 H2 : Hp} {ρ ρ1 ρ2 : List Addr} {st st1 st2 : Sto} {env : Env} {σ : St}
theorem FinN.step {Q : St → Hp → Prop} (s : Step K Fr H ρ st H1 ρ1 st1) {d : Env} {st2 : Sto} (h : FinN K Fr H ρ st Q d st2) : FinN K Fr H1 ρ1 st1 Q d st2 := fun ρ' v H' s' r => h ρ' v H' (s.trans s') r
theorem FinN.now {Q : St → Hp → Prop} {d : Env} {σ : St} (g : Gs K H Fr ρ st) (h : FinN K Fr H ρ st Q d st) (r : EnvR K H (Blk Fr ρ st) ρ d σ) : Q σ H := h ρ σ H (.refl g) r
theorem FinD.step {D : Ends} (s : Step K Fr H ρ st H1 ρ1 st1) : (FinD K Fr H ρ st D).le (FinD K Fr H1 ρ1 st1 D) := ⟨fun _ _ h => FinN.step s h, fun _ _ h => FinE.step s h, fun _ _ h => FinN.step s h, fun _ _ h => FinN.step s h⟩
end

/-! ### blocks and small statements -/
def wNext : WS := fun D env st => D.nx env st
def wSeq (t u : WS) : WS := fun D env st => t { D with nx := u D } env st
def wRet (w : WE) : WS := fun D env st => w env st D.rt
def wRetN : WS := fun D _ st => D.rt .non st
def wDrop (w : WE) : WS := fun D env st => w env st fun _ st' => D.nx env st'
def wIfS (c : WT) (t u : WS) : WS := fun D env st => c env st fun k st' => ifB k (t D env st') (u D env st')
def wBreak : WS := fun D env st => D.bk env st
def wCont : WS := fun D env st => D.ct env st
def wNever : WS := fun _ _ _ => False
section
variable {X : Cx} {s : Stmt} {ss rest : List Stmt} {t u : WS} {e : Expr} {w : WE} {pos : Pos}
theorem snil : SXs X [] wNext := ⟨pss_nil.imp fun D σ H ⟨Fr, ρ, env, st, g, E, hw⟩ => FinN.now g hw E, fun D D' l env st h => l.nx _ _ h⟩
theorem scons (h1 : SX X s t) (h2 : SXs X rest u) : SXs X (s :: rest) (wSeq t u) := by
  refine ⟨(pss_cons h1.run h2.run).imp fun D σ H ⟨Fr, ρ, env, st, g, E, hw⟩ => ?_, fun D D' l env st h => h1.mono { D with nx := u D } { D' with nx := u D' } ⟨fun e s q => h2.mono _ _ l _ _ q, l.rt, l.bk, l.ct⟩ _ _ h⟩
  refine ⟨Fr, ρ, env, st, g, E, h1.mono { FinD X.K Fr H ρ st D with nx := u (FinD X.K Fr H ρ st D) } (FinD X.K Fr H ρ st { D with nx := LS X.K u D }) ⟨fun e s q => ?_, fun _ _ h => h, fun _ _ h => h, fun _ _ h => h⟩ _ _ hw⟩
  intro ρ1 σ1 H1 S1 E1
  exact ⟨Fr, ρ1, e, s, S1.g, E1, h2.mono _ _ (FinD.step S1) _ _ q⟩
theorem sone (h1 : SX X s t) : SXs X [s] t := ⟨pss_one h1.run, h1.mono⟩
theorem spass : SX X (.Pass pos) wNext := ⟨ps_pass.imp fun D σ H ⟨Fr, ρ, env, st, g, E, hw⟩ => FinN.now g hw E, fun D D' l env st h => l.nx _ _ h⟩
theorem sbreak : SX X (.Break pos) wBreak := ⟨ps_break.imp fun D σ H ⟨Fr, ρ, env, st, g, E, hw⟩ => FinN.now g hw E, fun D D' l env st h => l.bk _ _ h⟩
theorem scont : SX X (.Continue pos) wCont := ⟨ps_continue.imp fun D σ H ⟨Fr, ρ, env, st, g, E, hw⟩ => FinN.now g hw E, fun D D' l env st h => l.ct _ _ h⟩
theorem snever : SX X s wNever := ⟨ps_never.imp fun D σ H ⟨Fr, ρ, env, st, g, E, hw⟩ => hw, fun D D' l env st h => h⟩
theorem sret (h : EX X e w) : SX X (.Return (some e) pos) (wRet w) := ⟨(ps_ret h.run).imp fun D σ H q => q, fun D D' l env st q => h.mono _ _ _ _ l.rt q⟩
theorem sretN : SX X (.Return none pos) wRetN := ⟨ps_retN.imp fun D σ H ⟨Fr, ρ, env, st, g, E, hw⟩ => FinE.now g hw (.of (show Rep _ _ _ .non _ from rfl)), fun D D' l env st h => l.rt _ _ h⟩
theorem sexpr (h : EX X e w) (hs : swapsWith e none pos.line X.env = pure false := by rfl) : SX X (.Expr e pos) (wDrop w) := by
  refine ⟨(ps_expr h.run hs).imp fun D σ H ⟨Fr, ρ, env, st, g, E, hw⟩ => ?_, fun D D' l env st q => h.mono _ _ _ _ (fun d s q => l.nx _ _ q) q⟩
  exact ⟨Fr, ρ, env, st, g, E, h.mono _ _ _ _ (fun d s q ρ1 v H1 S1 r1 => q ρ1 σ H1 S1 (E.step g S1)) hw⟩
theorem sif {c : Expr} {a b : List Stmt} {wc : WT} (hc : TX X c wc) (ha : SXs X a t) (hb : SXs X b u) : SX X (.If c a b pos) (wIfS wc t u) := by
  refine ⟨(ps_if hc.run ha.run hb.run).imp fun D σ H ⟨Fr, ρ, env, st, g, E, hw⟩ => ?_, fun D D' l env st q => hc.mono _ _ _ _ (fun k s q => ?_) q⟩
  · refine ⟨Fr, ρ, env, st, g, E, hc.mono _ _ _ _ (fun k s q => ?_) hw⟩
    intro ρ1 H1 S1
    cases k with
    | true =>
      rw [ifB_pos rfl] at q; rw [if_pos rfl]
      exact ⟨Fr, ρ1, env, s, S1.g, E.step g S1, ha.mono _ _ (FinD.step S1) _ _ q⟩
    | false =>
      rw [ifB_neg Bool.false_ne_true] at q; rw [if_neg Bool.false_ne_true]
      exact ⟨Fr, ρ1, env, s, S1.g, E.step g S1, hb.mono _ _ (FinD.step S1) _ _ q⟩
  · by_cases hk : k = true
    · rw [ifB_pos hk] at q ⊢; exact ha.mono _ _ l _ _ q
    · rw [ifB_neg hk] at q ⊢; exact hb.mono _ _ l _ _ q
end

/-! ### targets -/
abbrev WG := D → Env → Sto → WN → Prop
abbrev WGs := List D → Env → Sto → WN → Prop
def LG (K : Frag) (w : WG) : TG := fun v σ H Q => ∃ Fr ρ env st d, Gs K H Fr ρ st ∧ EnvR K H (Blk Fr ρ st) ρ env σ ∧ RepU K H (Blk Fr ρ st) ρ d v ∧ w d env st (FinN K Fr H ρ st Q)
def LGs (K : Frag) (w : WGs) : TGs := fun vs σ H Q => ∃ Fr ρ env st ds, Gs K H Fr ρ st ∧ EnvR K H (Blk Fr ρ st) ρ env σ ∧ RepUL K H (Blk Fr ρ st) ρ ds vs ∧ w ds env st (FinN K Fr H ρ st Q)
structure GX (X : Cx) (tg : Expr) (w : WG) : Prop where
  run : PG X tg (LG X.K w)
  mono : ∀ d env st Q Q', (∀ e s, Q e s → Q' e s) → w d env st Q → w d env st Q'
structure GXs (X : Cx) (tg : List Expr) (w : WGs) : Prop where
  run : PGs X tg (LGs X.K w)
  mono : ∀ d env st Q Q', (∀ e s, Q e s → Q' e s) → w d env st Q → w d env st Q'
theorem _root_.L2.PG.imp {X : Cx} {e : Expr} {t t' : TG} (p : PG X e t) (h : ∀ v σ H Q, t' v σ H Q → t v σ H Q) : PG X e t' := ⟨fun pins s σ H v u Q I r q => p.run pins s σ H v u Q I r (h _ _ _ _ q)⟩
theorem _root_.L2.PGs.imp {X : Cx} {e : List Expr} {t t' : TGs} (p : PGs X e t) (h : ∀ v σ H Q, t' v σ H Q → t v σ H Q) : PGs X e t' := ⟨fun pins s σ H v u Q I r q => p.run pins s σ H v u Q I r (h _ _ _ _ q)⟩
def gNm (i : Nat) : WG := fun d env st Q => Q (put env i (some d)) st
def gsNil : WGs := fun ds env st Q => match ds with
  | [] => Q env st
  | _ => False
def gsCons (t : WG) (u : WGs) : WGs := fun ds env st Q => match ds with
  | d :: r => t d env st fun e s => u r e s Q
  | _ => False
/-- the items of a list or a tuple that is read -/
def itemsOf (d : D) (st : Sto) : Option (List D) := match d with
  | .tup xs => some xs
  | .lst xs => some xs
  | .rd xs => some xs
  | .ref n => match nth st n with
    | some (.lst xs) => some xs
    | _ => none
  | _ => none
def gsTup (n : Nat) (t : WGs) : WG := fun d env st Q => match d with
  | .tup xs => xs.length = n ∧ t xs env st Q
  | _ => False
section
variable {X : Cx} {pos : Pos}
theorem gname {i : Nat} {x : Str} (hN : X.N.Nodup) (hi : X.N[i]? = some x) (hx : Loc X.env.scope x) (hf : X.fn x = true ∨ X.env.scope.names.lookup x = some .local := by first | exact .inl rfl | exact .inr rfl | assumption) : GX X (.Name x pos) (gNm i) :=
  ⟨(pg_name hN hi hx hf).imp fun v σ H Q ⟨Fr, ρ, env, st, d, g, E, r, hw⟩ => FinN.now g hw (E.put r), fun d env st Q Q' h q => h _ _ q⟩
theorem gsnil : GXs X [] gsNil := by
  refine ⟨pgs_nil.imp fun v σ H Q ⟨Fr, ρ, env, st, ds, g, E, r, hw⟩ => ?_, fun ds env st Q Q' h q => ?_⟩
  · cases ds with
    | nil =>
      have e : v = [] := r
      exact ⟨e, FinN.now g hw E⟩
    | cons d ds => exact hw.elim
  · cases ds with
    | nil => exact h _ _ q
    | cons d ds => exact q.elim
theorem gscons {e : Expr} {es : List Expr} {t : WG} {u : WGs} (h1 : GX X e t) (h2 : GXs X es u) (hs : (assignEach (e :: es) X.env).map (·.2) = assign e X.env :: (assignEach es X.env).map (·.2) := by rfl) : GXs X (e :: es) (gsCons t u) := by
  refine ⟨(pgs_cons h1.run h2.run hs).imp fun v σ H Q ⟨Fr, ρ, env, st, ds, g, E, r, hw⟩ => ?_, fun ds env st Q Q' h q => ?_⟩
  · cases ds with
    | nil => exact hw.elim
    | cons d ds =>
      obtain ⟨v', r', e, rv, rr⟩ := r
      refine ⟨v', r', e, Fr, ρ, env, st, d, g, E, rv, h1.mono _ _ _ _ _ (fun e1 s1 q => ?_) hw⟩
      intro ρ1 σ1 H1 S1 E1
      exact ⟨Fr, ρ1, e1, s1, ds, S1.g, E1, rr.step g S1, h2.mono _ _ _ _ _ (fun e2 s2 q2 => FinN.step S1 q2) q⟩
  · cases ds with
    | nil => exact q.elim
    | cons d ds => exact h1.mono _ _ _ _ _ (fun e s q => h2.mono _ _ _ _ _ h q) q
theorem gtup {es : List Expr} {k : Nat} {t : WGs} {n : Nat} (hc : X.calm = true) (h : GXs X es t) (hn : (assignEach es X.env).length = n := by rfl) (hst : (assignEach es X.env).findIdx? (·.1) = none := by rfl) : GX X (.Tuple es k pos) (gsTup n t) := by
  refine ⟨(pg_tup hc h.run hn hst).imp fun v σ H Q ⟨Fr, ρ, env, st, d, g, E, r, hw⟩ => ?_, fun d env st Q Q' h' q => ?_⟩
  · cases d <;> first
      | exact hw.elim
      | skip
    obtain ⟨a, vs, e, hq, rl⟩ := r
    obtain ⟨hl, hw⟩ := hw
    exact ⟨a, vs, e, hq, by rw [rl.length]; exact hl, Fr, ρ, env, st, _, g, E, .of rl, hw⟩
  · cases d <;> first
      | exact q.elim
      | exact ⟨q.1, h.mono _ _ _ _ _ h' q.2⟩
end

/-! ### assignments -/
def wAsg (w : WE) (g : WG) : WS := fun D env st => w env st fun d st' => g d env st' D.nx
section
variable {X : Cx} {e tg : Expr} {w : WE} {g : WG} {pos : Pos}
theorem LS.asg (hm : ∀ env st Q Q', (∀ d s, Q d s → Q' d s) → w env st Q → w env st Q') (gm : ∀ d env st Q Q', (∀ e s, Q e s → Q' e s) → g d env st Q → g d env st Q') {K : Frag} {D : Ends} {σ : St} {H : Hp} (h : LS K (wAsg w g) D σ H) : tAsg (LE K w) (LG K g) D σ H := by
  obtain ⟨Fr, ρ, env, st, g0, E, hw⟩ := h
  refine ⟨Fr, ρ, env, st, g0, E, hm _ _ _ _ (fun d s q => ?_) hw⟩
  intro ρ1 v H1 S1 r1
  exact ⟨Fr, ρ1, env, s, d, S1.g, E.step g0 S1, r1, gm _ _ _ _ _ (fun e2 s2 q2 => FinN.step S1 q2) q⟩
theorem wAsg.mono (hm : ∀ env st Q Q', (∀ d s, Q d s → Q' d s) → w env st Q → w env st Q') (gm : ∀ d env st Q Q', (∀ e s, Q e s → Q' e s) → g d env st Q → g d env st Q') : ∀ D D', D.le D' → ∀ env st, wAsg w g D env st → wAsg w g D' env st :=
  fun D D' l env st q => hm _ _ _ _ (fun d s q => gm _ _ _ _ _ l.nx q) q
theorem sasg (h : EX X e w) (hg : GX X tg g) (hs : swapsWithSole [tg] e pos.line X.env = pure false := by rfl) (hw : swappedStores [tg] e X.env = pure none := by rfl) (h1 : (assignEach [tg] X.env).map (·.2) = [assign tg X.env] := by rfl) : SX X (.Assign [tg] e pos) (wAsg w g) :=
  ⟨(ps_asg h.run hg.run hs hw h1).imp fun D σ H q => q.asg h.mono hg.mono, wAsg.mono h.mono hg.mono⟩
def wSet (i : Nat) (w : WE) : WS := fun D env st => w env st fun d st' => D.nx (put env i (some d)) st'
theorem sset {i : Nat} {x : Str} {pos' : Pos} (hN : X.N.Nodup) (hi : X.N[i]? = some x) (hx : Loc X.env.scope x) (h : EX X e w) (hs : swapsWith e (some (.Name x pos')) pos.line X.env = pure false := by rfl) (hf : X.fn x = true ∨ X.env.scope.names.lookup x = some .local := by first | exact .inl rfl | exact .inr rfl | assumption) :
    SX X (.Assign [.Name x pos'] e pos) (wSet i w) := by
  refine ⟨(ps_set hN hi hx h.run hs hf).imp fun D σ H ⟨Fr, ρ, env, st, g0, E, hw⟩ => ?_, fun D D' l env st q => h.mono _ _ _ _ (fun d s q => l.nx _ _ q) q⟩
  refine ⟨Fr, ρ, env, st, g0, E, h.mono _ _ _ _ (fun d s q => ?_) hw⟩
  intro ρ1 v H1 S1 r1
  exact q ρ1 _ H1 S1 ((E.step g0 S1).put r1)
/-- a, b = x, y: plain local names, stored from the right -/
def wPar (i j : Nat) (wa : WA) : WS := fun D env st => wa env st fun ds st' => match ds with
  | [a, b] => D.nx (put (put env i (some a)) j (some b)) st'
  | _ => False
theorem spar {i j : Nat} {x y : Str} {a b : Expr} {wa : WA} {px py pt : Pos} {kt k2 pt2} (hc : X.calm = true) (hN : X.N.Nodup) (hi : X.N[i]? = some x) (hj : X.N[j]? = some y) (hij : i ≠ j)
    (hx : X.env.scope.names.lookup x = some .local) (hy : X.env.scope.names.lookup y = some .local) (ha : AX X [a, b] wa)
    (hw : swappedStores [.Tuple [.Name x px, .Name y py] kt pt] (.Tuple [a, b] k2 pt2) X.env = pure (some [x, y]) := by rfl)
    (hs : swapsWithSole [.Tuple [.Name x px, .Name y py] kt pt] (.Tuple [a, b] k2 pt2) pos.line X.env = pure false := by rfl) :
    SX X (.Assign [.Tuple [.Name x px, .Name y py] kt pt] (.Tuple [a, b] k2 pt2) pos) (wPar i j wa) := by
  refine ⟨(ps_par hc hN hi hj hij hx hy ha.run hw hs).imp fun D σ H ⟨Fr, ρ, env, st, g0, E, hw⟩ => ?_, fun D D' l env st q => ha.mono _ _ _ _ (fun ds s q => ?_) q⟩
  · refine ⟨Fr, ρ, env, st, g0, E, ha.mono _ _ _ _ (fun ds s q => ?_) hw⟩
    intro ρ1 vs H1 S1 r1
    match ds, r1, q with
    | [], _, q => exact q.elim
    | [_], _, q => exact q.elim
    | [a, b], r1, q =>
      obtain ⟨v, r, e, rv, v2, r2, e2, rv2, e3⟩ := r1
      have e3' : r2 = [] := e3
      subst e3' e2 e
      exact ⟨v, v2, rfl, q ρ1 _ H1 S1 (((E.step g0 S1).put rv).put rv2)⟩
    | _ :: _ :: _ :: _, _, q => exact q.elim
  · match ds, q with
    | [], q => exact q.elim
    | [_], q => exact q.elim
    | [a, b], q => exact l.nx _ _ q
    | _ :: _ :: _ :: _, q => exact q.elim
/-- x op= e -/
def wAug (i : Nat) (w2 : W2) (w : WE) : WS := fun D env st => match nth env i with
  | some a => w env st fun b st1 => w2 a b st1 fun d st2 => D.nx (put env i (some d)) st2
  | none => False
theorem saug {i : Nat} {x : Str} {op : Operator} {w2 : W2} {pos' : Pos} (hN : X.N.Nodup) (hi : X.N[i]? = some x) (hx : Loc X.env.scope x) (ho : OpM X (inplaceOp op) w2) (h : EX X e w) (hf : X.fn x = true ∨ X.env.scope.names.lookup x = some .local := by first | exact .inl rfl | exact .inr rfl | assumption) :
    SX X (.AugAssign (.Name x pos') op e pos) (wAug i w2 w) := by
  refine ⟨(ps_aug hN hi hx h.run (ti := LO X.K w2) (fun pins s σ H x y v u Q I r1 r2 q => ho.run pins s σ H x y v u Q I r1 r2 q) hf).imp fun D σ H ⟨Fr, ρ, env, st, g0, E, hw⟩ => ?_, fun D D' l env st q => ?_⟩
  · unfold wAug at hw
    split at hw
    · rename_i a ea
      obtain ⟨v, ev, ra⟩ := E.nth ea
      refine ⟨v, ev, Fr, ρ, env, st, g0, E, h.mono _ _ _ _ (fun d s q => ?_) hw⟩
      intro ρ1 v1 H1 S1 r1
      refine ⟨Fr, ρ1, s, a, d, S1.g, ra.step g0 S1, r1, ho.mono _ _ _ _ _ (fun d2 s2 q2 => ?_) q⟩
      intro ρ2 v2 H2 S2 r2
      exact q2 ρ2 _ H2 (S1.trans S2) ((E.step g0 (S1.trans S2)).put r2)
    · exact hw.elim
  · unfold wAug at q ⊢
    split at q
    · exact h.mono _ _ _ _ (fun d s q => ho.mono _ _ _ _ _ (fun d2 s2 q2 => l.nx _ _ q2) q) q
    · exact q.elim
end

/-! ### while -/
def wWhile (c : WT) (b : WS) : WS := fun D env st => ∃ W : Nat → Env → Sto → Prop, (∃ m, W m env st) ∧ ∀ m env st, W m env st →
  c env st fun k st1 => ifB k (b { D with nx := fun e s => ∃ m', m' < m ∧ W m' e s, ct := fun e s => ∃ m', m' < m ∧ W m' e s, bk := D.nx } env st1) (D.nx env st1)
section
variable {X : Cx} {pos : Pos}
theorem swhile {c : Expr} {body : List Stmt} {wc : WT} {wb : WS} (hp : PassesOwn (model X.prog X.w) X.A X.env X.xe) (hc : TX X c wc) (hb : SXs X body wb) : SX X (.While c body [] pos) (wWhile wc wb) := by
  refine ⟨(ps_while hp hc.run hb.run).imp fun D σ H ⟨Fr, ρ, env, st, g, E, hw⟩ => ?_, fun D D' l env st ⟨W, h0, h1⟩ => ⟨W, h0, fun m env st h => hc.mono _ _ _ _ (fun k s q => ?_) (h1 m env st h)⟩⟩
  · obtain ⟨W, ⟨m0, w0⟩, turn⟩ := hw
    refine ⟨fun m σ' H' => ∃ ρ' env' st', Step X.K Fr H ρ st H' ρ' st' ∧ EnvR X.K H' (Blk Fr ρ' st') ρ' env' σ' ∧ W m env' st', ⟨m0, ρ, env, st, .refl g, E, w0⟩, ?_⟩
    rintro m σ1 H1 ⟨ρ1, env1, st1, S1, E1, w1⟩
    refine ⟨Fr, ρ1, env1, st1, S1.g, E1, hc.mono _ _ _ _ (fun k s q => ?_) (turn m env1 st1 w1)⟩
    intro ρ2 H2 S2
    cases k with
    | true =>
      rw [ifB_pos rfl] at q; rw [if_pos rfl]
      refine ⟨fun σ' H' => ∃ m', m' < m ∧ ∃ ρ' env' st', Step X.K Fr H ρ st H' ρ' st' ∧ EnvR X.K H' (Blk Fr ρ' st') ρ' env' σ' ∧ W m' env' st', fun σ' H' q => q, Fr, ρ2, env1, s, S2.g, E1.step S1.g S2, hb.mono _ _ ?_ _ _ q⟩
      refine ⟨fun e s q => ?_, fun d s q => FinE.step (S1.trans S2) q, fun e s q => FinN.step (S1.trans S2) q, fun e s q => ?_⟩
      · obtain ⟨m', hm, w'⟩ := q
        exact fun ρ3 σ3 H3 S3 E3 => ⟨m', hm, ρ3, e, s, S1.trans (S2.trans S3), E3, w'⟩
      · obtain ⟨m', hm, w'⟩ := q
        exact fun ρ3 σ3 H3 S3 E3 => ⟨m', hm, ρ3, e, s, S1.trans (S2.trans S3), E3, w'⟩
    | false =>
      rw [ifB_neg Bool.false_ne_true] at q; rw [if_neg Bool.false_ne_true]
      exact q ρ2 _ H2 (S1.trans S2) (E1.step S1.g S2)
  · by_cases hk : k = true
    · rw [ifB_pos hk] at q ⊢; exact hb.mono { D with nx := fun e s => ∃ m', m' < m ∧ W m' e s, ct := fun e s => ∃ m', m' < m ∧ W m' e s, bk := D.nx } { D' with nx := fun e s => ∃ m', m' < m ∧ W m' e s, ct := fun e s => ∃ m', m' < m ∧ W m' e s, bk := D'.nx } ⟨fun _ _ h => h, l.rt, l.nx, fun _ _ h => h⟩ _ _ q
    · rw [ifB_neg hk] at q ⊢; exact l.nx _ _ q
end

/-! ### what is walked -/
abbrev WI := Env → Sto → (List D → Sto → Prop) → Prop
/-- from H on: J gives these items, one by one -/
def Goes (K : Frag) (J : It) (items : List D) (H : Hp) (B : Addr → Prop) : Prop :=
  ∀ H2 B2, Stb H H2 B B2 →
    (∀ i (hi : i < items.length), J.go i H2 ∧ ∀ x H', J.yld i H2 x H' → (H' = H2 ∨ ∃ T xs, H2 T = none ∧ H' = upd H2 T (.tup xs)) ∧ Rep K H' B2 items[i] x) ∧ J.stop items.length H2
def LI (K : Frag) (w : WI) : TI := fun σ H R => ∃ Fr ρ env st, Gs K H Fr ρ st ∧ EnvR K H (Blk Fr ρ st) ρ env σ ∧ w env st fun items st' => ∀ ρ' H' J, Step K Fr H ρ st H' ρ' st' → Goes K J items H' (Blk Fr ρ' st') → R J H'
structure IX (X : Cx) (tg iter : Expr) (w : WI) : Prop where
  run : PI X tg iter (LI X.K w)
  mono : ∀ env st Q Q', (∀ d s, Q d s → Q' d s) → w env st Q → w env st Q'
theorem _root_.L2.PI.imp {X : Cx} {tg e : Expr} {t t' : TI} (p : PI X tg e t) (h : ∀ σ H Q, t' σ H Q → t σ H Q) : PI X tg e t' := ⟨fun pins s σ H Q I q => p.run pins s σ H Q I (h _ _ _ q)⟩

/-! ### for -/
def wForL (g : WG) (b : WS) (En : EndM) : List D → Env → Sto → Prop
  | [], env, st => En.nx env st
  | d :: ds, env, st => g d env st fun e s => b { En with nx := wForL g b En ds, ct := wForL g b En ds, bk := En.nx } e s
def wFor (wi : WI) (g : WG) (b : WS) : WS := fun En env st => wi env st fun items st' => wForL g b En items env st'
theorem wForL.mono {g : WG} {b : WS} (gm : ∀ d env st Q Q', (∀ e s, Q e s → Q' e s) → g d env st Q → g d env st Q') (bm : ∀ D D', D.le D' → ∀ env st, b D env st → b D' env st) {En En' : EndM} (l : En.le En') : ∀ items env st, wForL g b En items env st → wForL g b En' items env st
  | [], env, st, h => l.nx _ _ h
  | d :: ds, env, st, h => gm _ _ _ _ _ (fun e s q => bm { En with nx := wForL g b En ds, ct := wForL g b En ds, bk := En.nx } { En' with nx := wForL g b En' ds, ct := wForL g b En' ds, bk := En'.nx } ⟨fun e s q => wForL.mono gm bm l ds e s q, l.rt, l.nx, fun e s q => wForL.mono gm bm l ds e s q⟩ _ _ q) h
section
variable {X : Cx} {pos : Pos}
theorem sfor {tg iter : Expr} {body : List Stmt} {wi : WI} {g : WG} {wb : WS} (hp : PassesOwn (model X.prog X.w) X.A X.env X.xe) (hc : X.calm = true) (hi : IX X tg iter wi) (hg : GX X tg g) (hb : SXs X body wb)
    (hs : ∀ x, foldedSetIterable iter X.env x = pure x := by intro _; rfl) : SX X (.For tg iter body [] pos) (wFor wi g wb) := by
  refine ⟨(ps_for hp hc hi.run hg.run hb.run hs).imp fun D σ H ⟨Fr, ρ, env, st, g0, E, hw⟩ => ?_, fun D D' l env st q => hi.mono _ _ _ _ (fun items s q => wForL.mono hg.mono hb.mono l items env s q) q⟩
  refine ⟨Fr, ρ, env, st, g0, E, hi.mono _ _ _ _ (fun items s q => ?_) hw⟩
  intro ρ1 H1 J S1 G
  refine ⟨fun i m σ' H' => m = items.length - i ∧ i ≤ items.length ∧ ∃ ρ' env' st', Step X.K Fr H1 ρ1 s H' ρ' st' ∧ EnvR X.K H' (Blk Fr ρ' st') ρ' env' σ' ∧ wForL g wb (FinD X.K Fr H ρ st D) (items.drop i) env' st',
    ⟨items.length, by simp, Nat.zero_le _, ρ1, env, s, .refl S1.g, E.step g0 S1, q⟩, ?_⟩
  rintro i m σ2 H2 ⟨rfl, hi, ρ2, env2, st2, S2, E2, q2⟩
  obtain ⟨G1, G2⟩ := G H2 _ (S2.stb S1.g)
  by_cases hlt : i < items.length
  · obtain ⟨go, step⟩ := G1 i hlt
    refine .inr ⟨go, fun σ' H' => ∃ ρ' env' st', Step X.K Fr H1 ρ1 s H' ρ' st' ∧ EnvR X.K H' (Blk Fr ρ' st') ρ' env' σ' ∧ wForL g wb (FinD X.K Fr H ρ st D) (items.drop (i + 1)) env' st', fun σ' H' q => ⟨items.length - (i + 1), by omega, rfl, hlt, q⟩, fun x H3 y => ?_⟩
    obtain ⟨S3', r3⟩ := step x H3 y
    have S3 : Step X.K Fr H2 ρ2 st2 H3 ρ2 st2 := by
      rcases S3' with e | ⟨T, xs, hT, e⟩
      · rw [e]; exact .refl S2.g
      · rw [e]; exact .new S2.g hT
    rw [List.drop_eq_getElem_cons hlt] at q2
    refine ⟨Fr, ρ2, env2, st2, items[i], S3.g, E2.step S2.g S3, .of r3, hg.mono _ _ _ _ _ (fun e4 s4 q4 => ?_) q2⟩
    intro ρ4 σ4 H4 S4 E4
    refine ⟨Fr, ρ4, e4, s4, S4.g, E4, hb.mono _ _ ?_ _ _ q4⟩
    refine ⟨fun e s q ρ5 σ5 H5 S5 E5 => ⟨ρ5, e, s, S2.trans (S3.trans (S4.trans S5)), E5, q⟩, fun d s q => FinE.step (S1.trans (S2.trans (S3.trans S4))) q, fun e s q => FinN.step (S1.trans (S2.trans (S3.trans S4))) q,
      fun e s q ρ5 σ5 H5 S5 E5 => ⟨ρ5, e, s, S2.trans (S3.trans (S4.trans S5)), E5, q⟩⟩
  · have e : i = items.length := by omega
    subst e
    rw [List.drop_length] at q2
    exact .inl ⟨G2, q2 ρ2 σ2 H2 (S1.trans S2) E2⟩
end

/-! ### comprehensions -/
def wipeM (env : Env) : List Nat → Env
  | [] => env
  | v :: vs => put (wipeM env vs) v none
theorem EnvR.wipe {K : Frag} {H : Hp} {B : Addr → Prop} {ρ : List Addr} {env : Env} {σ : St} (E : EnvR K H B ρ env σ) : ∀ vs : List Nat, EnvR K H B ρ (wipeM env vs) (L2.wipe σ vs)
  | [] => E
  | v :: vs => (EnvR.wipe E vs).clear
/-- not a place of the store -/
def NR : D → Prop
  | .ref _ => False
  | _ => True
def NRL : List D → Prop
  | [] => True
  | d :: ds => NR d ∧ NRL ds
theorem RepU.pure {K : Frag} {H : Hp} {B : Addr → Prop} {ρ : List Addr} {d : D} {v : V} (n : NR d) (h : RepU K H B ρ d v) : Rep K H B d v := by
  cases d <;> first
    | exact n.elim
    | exact h
theorem RepUL.pure {K : Frag} {H : Hp} {B : Addr → Prop} {ρ : List Addr} : ∀ {ds : List D} {vs : List V}, NRL ds → RepUL K H B ρ ds vs → RepL K H B ds vs
  | [], _, _, h => h
  | d :: ds, vs, n, h => by
    obtain ⟨v, r, e, x, y⟩ := h
    exact ⟨v, r, e, x.pure n.1, RepUL.pure n.2 y⟩
theorem NRL.of {ds : List D} (h : ∀ d ∈ ds, NR d) : NRL ds := by
  induction ds with
  | nil => trivial
  | cons d ds ih => exact ⟨h d (by simp), ih fun x hx => h x (by simp [hx])⟩
theorem Rep.nr {K : Frag} {H : Hp} {B : Addr → Prop} {d : D} {v : V} (h : Rep K H B d v) : NR d := by
  cases d <;> first
    | exact h.elim
    | trivial
theorem wipe_wipe (σ : St) : ∀ vs ws : List Nat, (∀ v ∈ vs, v ∈ ws) → L2.wipe (L2.wipe σ ws) vs = L2.wipe σ ws := by
  intro vs ws h
  induction vs with
  | nil => rfl
  | cons v vs ih =>
    show (L2.wipe (L2.wipe σ ws) vs).set v none = _
    rw [ih fun x hx => h x (by simp [hx])]
    have hv : v ∈ ws := h v (by simp)
    clear ih h
    induction ws with
    | nil => simp at hv
    | cons w ws ihw =>
      show ((L2.wipe σ ws).set w none).set v none = (L2.wipe σ ws).set w none
      by_cases e : v = w
      · subst e
        rw [List.set_set]
      · have hv' : v ∈ ws := by
          rcases List.mem_cons.mp hv with z | z
          · exact absurd z e
          · exact z
        rw [List.set_comm _ _ (Ne.symm e), ihw hv']
theorem wipe_set (σ : St) (v : Nat) (x : Option V) : ∀ vs : List Nat, v ∈ vs → L2.wipe (σ.set v x) vs = L2.wipe σ vs := by
  have comm : ∀ (ws : List Nat) (i : Nat) (y : Option V), i ∉ ws → L2.wipe (σ.set i y) ws = (L2.wipe σ ws).set i y := by
    intro ws i y h
    induction ws with
    | nil => rfl
    | cons w ws ih =>
      show (L2.wipe (σ.set i y) ws).set w none = ((L2.wipe σ ws).set w none).set i y
      rw [ih fun z => h (by simp [z]), List.set_comm _ _ (fun z => h (by simp [z]))]
  intro vs hv
  induction vs with
  | nil => simp at hv
  | cons w ws ih =>
    show (L2.wipe (σ.set v x) ws).set w none = (L2.wipe σ ws).set w none
    by_cases e : v ∈ ws
    · rw [ih e]
    · have e2 : v = w := by
        rcases List.mem_cons.mp hv with z | z
        · exact z
        · exact absurd z e
      subst e2
      rw [comm ws v x e, List.set_set]
/-- a comprehension's target: it stores its own names alone -/
structure GC (X : Cx) (tg : Expr) (vs : List Nat) (t : TG) (w : WG) : Prop where
  run : PG X tg t
  imp : ∀ Fr H ρ st env σ d v (Q : WN), Gs X.K H Fr ρ st → EnvR X.K H (Blk Fr ρ st) ρ env σ → Rep X.K H (Blk Fr ρ st) d v → w d env st Q →
    t v σ H fun σ2 H2 => L2.wipe σ2 vs = L2.wipe σ vs ∧ H2 = H ∧ ∃ env2, EnvR X.K H (Blk Fr ρ st) ρ env2 σ2 ∧ Q env2 st
  mono : ∀ d env st Q Q', (∀ e s, Q e s → Q' e s) → w d env st Q → w d env st Q'
structure GCs (X : Cx) (tg : List Expr) (vs : List Nat) (t : TGs) (w : WGs) : Prop where
  run : PGs X tg t
  imp : ∀ Fr H ρ st env σ ds us (Q : WN), Gs X.K H Fr ρ st → EnvR X.K H (Blk Fr ρ st) ρ env σ → RepL X.K H (Blk Fr ρ st) ds us → w ds env st Q →
    t us σ H fun σ2 H2 => L2.wipe σ2 vs = L2.wipe σ vs ∧ H2 = H ∧ ∃ env2, EnvR X.K H (Blk Fr ρ st) ρ env2 σ2 ∧ Q env2 st
  mono : ∀ d env st Q Q', (∀ e s, Q e s → Q' e s) → w d env st Q → w d env st Q'
  tm : ∀ us σ H (Q Q' : St → Hp → Prop), (∀ a b, Q a b → Q' a b) → t us σ H Q → t us σ H Q'
theorem gcname {X : Cx} {vs : List Nat} {i : Nat} {x : Str} {pos : Pos} (hN : X.N.Nodup) (hi : X.N[i]? = some x) (hx : Loc X.env.scope x) (hv : i ∈ vs) (hf : X.fn x = true ∨ X.env.scope.names.lookup x = some .local := by first | exact .inl rfl | exact .inr rfl | assumption) : GC X (.Name x pos) vs (gName i) (gNm i) :=
  ⟨pg_name hN hi hx hf, fun Fr H ρ st env σ d v Q g E r q => ⟨wipe_set σ i _ vs hv, rfl, _, E.put (.of r), q⟩, fun d env st Q Q' h q => h _ _ q⟩
theorem gcnil {X : Cx} {vs : List Nat} : GCs X [] vs gNil gsNil := by
  refine ⟨pgs_nil, fun Fr H ρ st env σ ds us Q g E r q => ?_, fun ds env st Q Q' h q => ?_, fun us σ H Q Q' h q => ⟨q.1, h _ _ q.2⟩⟩
  · cases ds with
    | nil => exact ⟨r, rfl, rfl, env, E, q⟩
    | cons d ds => exact q.elim
  · cases ds with
    | nil => exact h _ _ q
    | cons d ds => exact q.elim
theorem gccons {X : Cx} {vs : List Nat} {e : Expr} {es : List Expr} {i : Nat} {u : TGs} {w : WGs} (h1 : GC X e vs (gName i) (gNm i)) (h2 : GCs X es vs u w) (hv : i ∈ vs) (hs : (assignEach (e :: es) X.env).map (·.2) = assign e X.env :: (assignEach es X.env).map (·.2) := by rfl) :
    GCs X (e :: es) vs (gCons (gName i) u) (gsCons (gNm i) w) := by
  refine ⟨pgs_cons h1.run h2.run hs, fun Fr H ρ st env σ ds us Q g E r q => ?_, fun ds env st Q Q' h q => ?_, fun us σ H Q Q' h q => ?_⟩
  · cases ds with
    | nil => exact q.elim
    | cons d ds =>
      obtain ⟨v', r', e, rv, rr⟩ := r
      refine ⟨v', r', e, ?_⟩
      refine h2.tm _ _ _ _ _ (fun σ2 H2 q2 => ?_) (h2.imp Fr H ρ st _ _ ds r' Q g (E.put (.of rv)) rr q)
      exact ⟨q2.1.trans (wipe_set σ i _ vs hv), q2.2⟩
  · cases ds with
    | nil => exact q.elim
    | cons d ds => exact h2.mono _ _ _ _ _ h q
  · obtain ⟨v, r, e, q⟩ := q
    exact ⟨v, r, e, h2.tm _ _ _ _ _ h q⟩
theorem gctup {X : Cx} {vs : List Nat} {es : List Expr} {k : Nat} {pos : Pos} {t : TGs} {w : WGs} {n : Nat} (hc : X.calm = true) (h : GCs X es vs t w) (hn : (assignEach es X.env).length = n := by rfl) (hst : (assignEach es X.env).findIdx? (·.1) = none := by rfl) : GC X (.Tuple es k pos) vs (gTup X.K n t) (gsTup n w) := by
  refine ⟨pg_tup hc h.run hn hst, fun Fr H ρ st env σ d v Q g E r hw => ?_, fun d env st Q Q' h' q => ?_⟩
  · cases d <;> first
      | exact hw.elim
      | skip
    obtain ⟨a, us, e, hq, rl⟩ := r
    obtain ⟨hl, hw⟩ := hw
    exact ⟨a, us, e, hq, by rw [rl.length]; exact hl, h.imp Fr H ρ st env σ _ us Q g E rl hw⟩
  · cases d <;> first
      | exact q.elim
      | exact ⟨q.1, h.mono _ _ _ _ _ h' q.2⟩
/-- a comprehension's tests -/
structure TXs (X : Cx) (ifs : List Expr) (w : WT) : Prop where
  run : PTs X ifs (LT X.K w)
  mono : ∀ env st Q Q', (∀ d s, Q d s → Q' d s) → w env st Q → w env st Q'
def wYes : WT := fun _ st Q => Q true st
theorem tyes {X : Cx} : TXs X [] wYes := ⟨⟨fun pins s σ H Q I hw => pts_nil.run pins s σ H Q I (by
  obtain ⟨Fr, ρ, env, st, g, E, q⟩ := hw
  exact FinT.now g q)⟩, fun _ _ _ _ h q => h _ _ q⟩
theorem tsone {X : Cx} {c : Expr} {w : WT} (h : TX X c w) : TXs X [c] w := ⟨pts_one h.run, h.mono⟩
def wLcL (g : WG) (t : WT) (we : WE) (env : Env) (Q : WK) : List D → List D → Sto → Prop
  | [], acc, st => Q (.lst acc) st
  | d :: ds, acc, st => g d env st fun e1 s1 => t e1 s1 fun k s2 => ifB k (we e1 s2 fun y s3 => acc.length < 16777216 ∧ NR y ∧ wLcL g t we env Q ds (acc ++ [y]) s3) (wLcL g t we env Q ds acc s2)
def wLc (wi : WI) (g : WG) (t : WT) (we : WE) (vs : List Nat) : WE := fun env st Q => wi env st fun items st' => wLcL g t we (wipeM env vs) Q items [] st'
theorem wLcL.mono {g : WG} {t : WT} {we : WE} (gm : ∀ d env st Q Q', (∀ e s, Q e s → Q' e s) → g d env st Q → g d env st Q') (tm : ∀ env st Q Q', (∀ d s, Q d s → Q' d s) → t env st Q → t env st Q') (em : ∀ env st Q Q', (∀ d s, Q d s → Q' d s) → we env st Q → we env st Q')
    {env : Env} {Q Q' : WK} (h : ∀ d s, Q d s → Q' d s) : ∀ items acc st, wLcL g t we env Q items acc st → wLcL g t we env Q' items acc st
  | [], acc, st, q => h _ _ q
  | d :: ds, acc, st, q => gm _ _ _ _ _ (fun e1 s1 q1 => tm _ _ _ _ (fun k s2 q2 => by
      by_cases hk : k = true
      · rw [ifB_pos hk] at q2 ⊢; exact em _ _ _ _ (fun y s3 q3 => ⟨q3.1, q3.2.1, wLcL.mono gm tm em h ds _ s3 q3.2.2⟩) q2
      · rw [ifB_neg hk] at q2 ⊢; exact wLcL.mono gm tm em h ds _ s2 q2) q1) q
section
variable {K : Frag} {Fr : Addr → Prop} {H H1 : Hp} {ρ ρ1 : List Addr} {st st1 : Sto}
/-- one more thing that may not be touched -/
def Fr1 (Fr : Addr → Prop) (p : Addr) (a : Addr) : Prop := Fr a ∨ a = p
theorem Gs.block (g : Gs K H Fr ρ st) {p : Addr} {o : HO} (hp : H p = some o) (m : Mu o) (np : ¬ Blk Fr ρ st p) (nl : Stb H H (Blk Fr ρ st) (Blk (Fr1 Fr p) ρ st)) : Gs K H (Fr1 Fr p) ρ st :=
  ⟨g.len, fun n u e => by
    obtain ⟨a, h, r1, r2, r3⟩ := g.ob n u e
    exact ⟨a, h, r1, r2, r3.stb nl⟩, fun a f => f.elim (g.frm a) fun e => ⟨o, by rw [e]; exact hp, m⟩, fun n a u e1 e2 f => f.elim (g.dis n a u e1 e2) fun e => np (.inr ⟨n, u, e1, by rw [← e]; exact e2⟩), g.inj⟩
/-- .. let go again -/
theorem Gs.unblock (g : Gs K H (Fr1 Fr p) ρ st) : Gs K H Fr ρ st :=
  ⟨g.len, fun n u e => by
    obtain ⟨a, h, r1, r2, r3⟩ := g.ob n u e
    exact ⟨a, h, r1, r2, r3.stb ⟨fun _ _ _ e => e, fun a nb _ z => nb (z.elim (fun f => .inl (.inl f)) .inr), fun _ _ e => e, fun _ _ _ e => e⟩⟩, fun a f => g.frm a (.inl f), fun n a u e1 e2 f => g.dis n a u e1 e2 (.inl f), g.inj⟩
end
end M

/-! M3: list comprehensions; what is walked. -/
namespace M
open PySem PySem.Spec PyProof.Rows L2

section
variable {K : Frag} {Fr : Addr → Prop} {H H1 : Hp} {ρ ρ1 : List Addr} {st st1 : Sto}
theorem Gs.newFr (g : Gs K H Fr ρ st) {p : Addr} {o : HO} (hp : H p = none) (m : Mu o) : Gs K (upd H p o) (Fr1 Fr p) ρ st ∧ Stb H (upd H p o) (Blk Fr ρ st) (Blk (Fr1 Fr p) ρ st) := by
  have nn : ∀ {a u}, H a = some u → (upd H p o) a = some u := fun {a u} e => by rw [upd_ne (ne_of_none e hp)]; exact e
  have s : Stb H (upd H p o) (Blk Fr ρ st) (Blk (Fr1 Fr p) ρ st) := by
    refine ⟨fun a u _ e => nn e, fun a nb ne z => ?_, fun a u e => nn e, fun a u v e => nn e⟩
    rcases z with (z | z) | z
    · exact nb (.inl z)
    · rw [z] at ne; exact ne hp
    · exact nb (.inr z)
  refine ⟨⟨g.len, fun n u e => ?_, fun a f => ?_, fun n a u e1 e2 f => ?_, g.inj⟩, s⟩
  · obtain ⟨a, h, r1, r2, r3⟩ := g.ob n u e
    exact ⟨a, h, r1, nn r2, r3.stb s⟩
  · rcases f with f | f
    · obtain ⟨u, e, m'⟩ := g.frm a f
      exact ⟨u, nn e, m'⟩
    · exact ⟨o, by rw [f]; exact upd_same, m⟩
  · rcases f with f | f
    · exact g.dis n a u e1 e2 f
    · obtain ⟨a', h, r1, r2, _⟩ := g.ob n u e1
      rw [e2] at r1; cases r1
      rw [f, hp] at r2; cases r2
theorem Gs.poke (g : Gs K H Fr ρ st) {p : Addr} {o h0 : HO} (f : Fr p) (hp : H p = some h0) (m0 : Mu h0) (m : Mu o) : Gs K (upd H p o) Fr ρ st ∧ Stb H (upd H p o) (Blk Fr ρ st) (Blk Fr ρ st) := by
  have nn : ∀ {a u}, H a = some u → a ≠ p → (upd H p o) a = some u := fun {a u} e ne => by rw [upd_ne ne]; exact e
  have s : Stb H (upd H p o) (Blk Fr ρ st) (Blk Fr ρ st) := by
    refine ⟨fun a u nb e => nn e fun z => nb (.inl (by rw [z]; exact f)), fun a nb _ => nb, fun a u e => nn e fun z => ?_, fun a u v e => nn e fun z => ?_⟩
    · rw [z, hp] at e; cases e; exact m0
    · rw [z, hp] at e; cases e; exact m0
  refine ⟨⟨g.len, fun n u e => ?_, fun a fa => ?_, g.dis, g.inj⟩, s⟩
  · obtain ⟨a, h, r1, r2, r3⟩ := g.ob n u e
    exact ⟨a, h, r1, nn r2 fun z => g.dis n a u e r1 (by rw [z]; exact f), r3.stb s⟩
  · by_cases z : a = p
    · exact ⟨o, by rw [z]; exact upd_same, m⟩
    · obtain ⟨u, e, m'⟩ := g.frm a fa
      exact ⟨u, nn e z, m'⟩
theorem line_eq : sizeLine = 16777216 := sizeLine_eq
/-- where a comprehension stands: D its list -/
structure LcI (K : Frag) (Fr : Addr → Prop) (H1 : Hp) (ρ1 : List Addr) (st1 : Sto) (p : Addr) (env : Env) (σ : St) (acc : List D) (H : Hp) (ρ : List Addr) (st : Sto) : Prop where
  g : Gs K H (Fr1 Fr p) ρ st
  pre : ∃ l, ρ = ρ1 ++ l
  keep : ∀ a o, H1 a = some o → ¬ Liv ρ1 st1 a → H a = some o
  live : ∀ a, Liv ρ st a → Liv ρ1 st1 a ∨ H1 a = none
  lst : ∃ va, H p = some (.lst va) ∧ RepL K H (Blk (Fr1 Fr p) ρ st) acc va
  env : EnvR K H (Blk (Fr1 Fr p) ρ st) ρ env σ
variable {p : Addr} {env : Env} {σ : St} {acc : List D}
theorem LcI.stb (g1 : Gs K H1 Fr ρ1 st1) (hp : H1 p = none) (I : LcI K Fr H1 ρ1 st1 p env σ acc H ρ st) : Stb H1 H (Blk Fr ρ1 st1) (Blk (Fr1 Fr p) ρ st) where
  k := fun a o nb e => I.keep a o e fun z => nb (.inr z)
  b := fun a nb ne z => by
    rcases z with (z | z) | z
    · exact nb (.inl z)
    · rw [z] at ne; exact ne hp
    · rcases I.live a z with z | z
      · exact nb (.inr z)
      · exact ne z
  t := fun a vs e => I.keep a _ e fun z => by
    obtain ⟨o, e', m⟩ := g1.blk (.inr z)
    rw [e] at e'; cases e'; exact m
  f := fun a o u e => I.keep a _ e fun z => by
    obtain ⟨o', e', m⟩ := g1.blk (.inr z)
    rw [e] at e'; cases e'; exact m
theorem LcI.done (hp : H1 p = none) (g1 : Gs K H1 Fr ρ1 st1) (I : LcI K Fr H1 ρ1 st1 p env σ acc H ρ st) : Step K Fr H1 ρ1 st1 H ρ st ∧ RepU K H (Blk Fr ρ st) ρ (.lst acc) (.ref p) := by
  obtain ⟨va, e, r⟩ := I.lst
  have nb : ¬ Blk Fr ρ st p := fun z => by
    rcases z with z | ⟨n, o, e1, e2⟩
    · obtain ⟨o, e', _⟩ := g1.frm p z
      rw [hp] at e'; cases e'
    · exact I.g.dis n p o e1 e2 (.inr rfl)
  have s : Stb H H (Blk (Fr1 Fr p) ρ st) (Blk Fr ρ st) := ⟨fun _ _ _ e => e, fun a nb _ z => nb (z.elim (fun f => .inl (.inl f)) .inr), fun _ _ e => e, fun _ _ _ e => e⟩
  exact ⟨⟨I.g.unblock, I.pre, I.keep, I.live⟩, p, va, rfl, nb, e, RepL.stb s r⟩
/-- a step within -/
theorem LcI.step (I : LcI K Fr H1 ρ1 st1 p env σ acc H ρ st) {H' : Hp} {ρ' : List Addr} {st' : Sto} (s : Step K (Fr1 Fr p) H ρ st H' ρ' st') : LcI K Fr H1 ρ1 st1 p env σ acc H' ρ' st' where
  g := s.g
  pre := by
    obtain ⟨l, e⟩ := I.pre
    obtain ⟨l', e'⟩ := s.pre
    exact ⟨l ++ l', by rw [e', e, List.append_assoc]⟩
  keep := fun c o e n => s.keep c o (I.keep c o e n) fun z => (I.live c z).elim n fun z' => by rw [e] at z'; cases z'
  live := fun c z => by
    rcases s.live c z with z | z
    · exact I.live c z
    · by_cases l : Liv ρ1 st1 c
      · exact .inl l
      · refine .inr ?_
        cases q : H1 c with
        | none => rfl
        | some o => rw [I.keep c o q l] at z; cases z
  lst := by
    obtain ⟨va, e, r⟩ := I.lst
    refine ⟨va, s.keep p _ e fun z => ?_, RepL.stb (s.stb I.g) r⟩
    obtain ⟨n, o, e1, e2⟩ := z
    exact I.g.dis n p o e1 e2 (.inr rfl)
  env := EnvR.step I.g s I.env
/-- the next item is laid -/
theorem LcI.app (hp : H1 p = none) (I : LcI K Fr H1 ρ1 st1 p env σ acc H ρ st) {y : D} {v : V} (r : Rep K H (Blk (Fr1 Fr p) ρ st) y v) :
    ∃ va, H p = some (.lst va) ∧ va.length = acc.length ∧ LcI K Fr H1 ρ1 st1 p env σ (acc ++ [y]) (upd H p (.lst (va ++ [v]))) ρ st := by
  obtain ⟨va, e, ra⟩ := I.lst
  obtain ⟨g', s⟩ := I.g.poke (o := .lst (va ++ [v])) (.inr rfl) e trivial trivial
  exact ⟨va, e, ra.length, g', I.pre, fun a o e1 n => by rw [upd_ne (ne_of_none e1 hp)]; exact I.keep a o e1 n, I.live, ⟨_, upd_same, RepL.stb s (ra.append (.one r))⟩, I.env.stb s ⟨[], by simp⟩⟩
end

section
variable {X : Cx}
theorem LE.lc {tg iter : Expr} {wi : WI} {t : TG} {g : WG} {wt : WT} {we : WE} {vs : List Nat} (hi : IX X tg iter wi)
    (gi : ∀ Fr H ρ st env σ d v (Q : WN), Gs X.K H Fr ρ st → EnvR X.K H (Blk Fr ρ st) ρ env σ → Rep X.K H (Blk Fr ρ st) d v → g d env st Q →
      t v σ H fun σ2 H2 => L2.wipe σ2 vs = L2.wipe σ vs ∧ H2 = H ∧ ∃ env2, EnvR X.K H (Blk Fr ρ st) ρ env2 σ2 ∧ Q env2 st)
    (tm' : ∀ v σ H (Q Q' : St → Hp → Prop), (∀ a b, Q a b → Q' a b) → t v σ H Q → t v σ H Q')
    (gm : ∀ d env st Q Q', (∀ e s, Q e s → Q' e s) → g d env st Q → g d env st Q') (tm : ∀ env st Q Q', (∀ d s, Q d s → Q' d s) → wt env st Q → wt env st Q') (em : ∀ env st Q Q', (∀ d s, Q d s → Q' d s) → we env st Q → we env st Q')
    {σ : St} {H : Hp} {Q : VK} (h : LE X.K (wLc wi g wt we vs) σ H Q) : tLc (LI X.K wi) t (LT X.K wt) (LE X.K we) vs σ H Q := by
  obtain ⟨Fr, ρ, env, st, g0, E, hw⟩ := h
  refine ⟨Fr, ρ, env, st, g0, E, hi.mono _ _ _ _ (fun items s q => ?_) hw⟩
  intro ρ1 H1 J S1 G p hp
  refine ⟨fun i m H' => m = items.length - i ∧ i ≤ items.length ∧ ∃ ρ' st' acc, LcI X.K Fr H1 ρ1 s p (wipeM env vs) (L2.wipe σ vs) acc H' ρ' st' ∧ wLcL g wt we (wipeM env vs) (FinE X.K Fr H ρ st Q) (items.drop i) acc st', ?_, ?_⟩
  · obtain ⟨g1, s1⟩ := S1.g.newFr (o := .lst []) hp trivial
    exact ⟨items.length, by simp, Nat.zero_le _, ρ1, s, [], ⟨g1, ⟨[], by simp⟩, fun a o e _ => by rw [upd_ne (ne_of_none e hp)]; exact e, fun a z => .inl z, ⟨[], upd_same, rfl⟩, ((E.step g0 S1).wipe vs).stb s1 ⟨[], by simp⟩⟩, q⟩
  · rintro i m H2 ⟨rfl, hi, ρ2, st2, acc, I, q2⟩
    obtain ⟨G1, G2⟩ := G H2 _ (I.stb S1.g hp)
    by_cases hlt : i < items.length
    · obtain ⟨go, step⟩ := G1 i hlt
      refine .inr ⟨go, fun H' => ∃ ρ' st' acc, LcI X.K Fr H1 ρ1 s p (wipeM env vs) (L2.wipe σ vs) acc H' ρ' st' ∧ wLcL g wt we (wipeM env vs) (FinE X.K Fr H ρ st Q) (items.drop (i + 1)) acc st', fun H' z => ⟨items.length - (i + 1), by omega, rfl, hlt, z⟩, fun x H3 y => ?_⟩
      obtain ⟨S3', r3⟩ := step x H3 y
      have S3 : Step X.K (Fr1 Fr p) H2 ρ2 st2 H3 ρ2 st2 := by
        rcases S3' with e | ⟨T, xs, hT, e⟩
        · rw [e]; exact .refl I.g
        · rw [e]; exact .new I.g hT
      have I3 := I.step S3
      rw [List.drop_eq_getElem_cons hlt] at q2
      refine tm' _ _ _ _ _ (fun σ4 H4 q4 => ?_) (gi (Fr1 Fr p) H3 ρ2 st2 _ _ items[i] x _ I3.g I3.env r3 q2)
      obtain ⟨w4, e4, env4, E4, q4⟩ := q4
      subst e4
      refine ⟨by rw [w4]; exact wipe_wipe σ vs vs fun v h => h, Fr1 Fr p, ρ2, env4, st2, I3.g, E4, tm _ _ _ _ (fun k s5 q5 => ?_) q4⟩
      intro ρ5 H5 S5
      cases k with
      | true =>
        rw [ifB_pos rfl] at q5; rw [if_pos rfl]
        refine ⟨Fr1 Fr p, ρ5, env4, s5, S5.g, E4.step I3.g S5, em _ _ _ _ (fun y s6 q6 => ?_) q5⟩
        intro ρ6 v6 H6 S6 r6
        obtain ⟨hl, hn, q6⟩ := q6
        obtain ⟨va, ev, el, I7⟩ := ((I3.step S5).step S6).app hp (r6.pure hn)
        exact ⟨va, ev, by rw [el, line_eq]; exact hl, ρ6, s6, _, I7, q6⟩
      | false =>
        rw [ifB_neg Bool.false_ne_true] at q5; rw [if_neg Bool.false_ne_true]
        exact ⟨ρ5, s5, acc, I3.step S5, q5⟩
    · have e : i = items.length := by omega
      subst e
      rw [List.drop_length] at q2
      obtain ⟨S, r⟩ := I.done hp S1.g
      exact .inl ⟨G2, q2 ρ2 _ H2 (S1.trans S) r⟩
theorem wLc.mono {wi : WI} {g : WG} {wt : WT} {we : WE} {vs : List Nat} (im : ∀ env st Q Q', (∀ d s, Q d s → Q' d s) → wi env st Q → wi env st Q')
    (gm : ∀ d env st Q Q', (∀ e s, Q e s → Q' e s) → g d env st Q → g d env st Q') (tm : ∀ env st Q Q', (∀ d s, Q d s → Q' d s) → wt env st Q → wt env st Q') (em : ∀ env st Q Q', (∀ d s, Q d s → Q' d s) → we env st Q → we env st Q') :
    ∀ env st Q Q', (∀ d s, Q d s → Q' d s) → wLc wi g wt we vs env st Q → wLc wi g wt we vs env st Q' := fun env st Q Q' h q => im _ _ _ _ (fun items s q => wLcL.mono gm tm em h _ _ _ q) q
/-- a comprehension's target whose reading is monotone -/
structure GCm (X : Cx) (tg : Expr) (vs : List Nat) (t : TG) (w : WG) : Prop extends GC X tg vs t w where
  tm : ∀ v σ H (Q Q' : St → Hp → Prop), (∀ a b, Q a b → Q' a b) → t v σ H Q → t v σ H Q'
theorem gcn {X : Cx} {vs : List Nat} {i : Nat} {x : Str} {pos : Pos} (hN : X.N.Nodup) (hi : X.N[i]? = some x) (hx : Loc X.env.scope x) (hv : i ∈ vs := by decide) (hf : X.fn x = true ∨ X.env.scope.names.lookup x = some .local := by first | exact .inl rfl | exact .inr rfl | assumption) : GCm X (.Name x pos) vs (gName i) (gNm i) :=
  ⟨gcname hN hi hx hv hf, fun v σ H Q Q' h q => h _ _ q⟩
theorem gct {X : Cx} {vs : List Nat} {es : List Expr} {k : Nat} {pos : Pos} {t : TGs} {w : WGs} {n : Nat} (hc : X.calm = true) (h : GCs X es vs t w) (hn : (assignEach es X.env).length = n := by rfl) (hst : (assignEach es X.env).findIdx? (·.1) = none := by rfl) : GCm X (.Tuple es k pos) vs (gTup X.K n t) (gsTup n w) :=
  ⟨gctup hc h hn hst, fun v σ H Q Q' h' ⟨a, xs, e, hq, hl, q⟩ => ⟨a, xs, e, hq, hl, h.tm _ _ _ _ _ h' q⟩⟩
theorem xlc {elt tg iter : Expr} {ifs : List Expr} {scope : Scope} {own : List (Str × Nat)} {pos : Pos} {wi : WI} {t : TG} {g : WG} {wt : WT} {we : WE} (hc : X.calm = true) (hN : X.N.Nodup) (hi : IX X tg iter wi) (ok : BlkOk X.N X.env.scope scope own)
    (hg : ∀ (s : Shared) (H : Hp) (C : Addr) (cl : List (Str × Addr)) (fp : List Addr), GCm (X.blk s H scope (compEnvC scope cl C X.env) fp) tg (own.map (·.2)) t g)
    (ht : ∀ (s : Shared) (H : Hp) (C : Addr) (cl : List (Str × Addr)) (fp : List Addr), TXs (X.blk s H scope (compEnvC scope cl C X.env) fp) ifs wt)
    (he : ∀ (s : Shared) (H : Hp) (C : Addr) (cl : List (Str × Addr)) (fp : List Addr), EX (X.blk s H scope (compEnvC scope cl C X.env) fp) elt we) (hs : ∀ x, foldedSetIterable iter X.env x = pure x := by intro _; rfl) :
    EX X (.ListComp elt [⟨tg, iter, ifs, 0⟩] scope pos) (wLc wi g wt we (own.map (·.2))) := by
  refine ⟨(pe_lc (te := LE X.K we) (tt := LT X.K wt) hc hN hi.run ok (fun s H C cl fp => (hg s H C cl fp).run) (fun s H C cl fp => (ht s H C cl fp).run) (fun s H C cl fp => (he s H C cl fp).run) hs).imp fun σ H Q h => ?_, ?_⟩
  · have s0 : Shared := X.s_0
    exact LE.lc hi (hg X.s_0 X.H_0 0 [] []).imp (hg X.s_0 X.H_0 0 [] []).tm (hg X.s_0 X.H_0 0 [] []).mono (ht X.s_0 X.H_0 0 [] []).mono (he X.s_0 X.H_0 0 [] []).mono h
  · exact wLc.mono hi.mono (hg X.s_0 X.H_0 0 [] []).mono (ht X.s_0 X.H_0 0 [] []).mono (he X.s_0 X.H_0 0 [] []).mono
/-- name = [..] on one line, the name a local -/
theorem ssetLc {i : Nat} {y : Str} {py : Pos} {elt tg iter : Expr} {ifs : List Expr} {scope : Scope} {own : List (Str × Nat)} {pos spos : Pos} {wi : WI} {t : TG} {g : WG} {wt : WT} {we : WE} (hc : X.calm = true) (hN : X.N.Nodup) (hy : X.N[i]? = some y) (hyl : X.env.scope.names.lookup y = some .local)
    (hsw : swapsWith (.ListComp elt [⟨tg, iter, ifs, 0⟩] scope pos) (some (.Name y py)) spos.line X.env = pure true) (hi : IX X tg iter wi) (ok : BlkOk X.N X.env.scope scope own)
    (hg : ∀ (s : Shared) (H : Hp) (C : Addr) (cl : List (Str × Addr)) (fp : List Addr), GCm (X.blk s H scope (compEnvC scope cl C X.env) fp) tg (own.map (·.2)) t g)
    (ht : ∀ (s : Shared) (H : Hp) (C : Addr) (cl : List (Str × Addr)) (fp : List Addr), TXs (X.blk s H scope (compEnvC scope cl C X.env) fp) ifs wt)
    (he : ∀ (s : Shared) (H : Hp) (C : Addr) (cl : List (Str × Addr)) (fp : List Addr), EX (X.blk s H scope (compEnvC scope cl C X.env) fp) elt we) (hs : ∀ x, foldedSetIterable iter X.env x = pure x := by intro _; rfl) :
    SX X (.Assign [.Name y py] (.ListComp elt [⟨tg, iter, ifs, 0⟩] scope pos) spos) (wSet i (wLc wi g wt we (own.map (·.2)))) := by
  have mn := wLc.mono (vs := own.map (·.2)) hi.mono (hg X.s_0 X.H_0 0 [] []).mono (ht X.s_0 X.H_0 0 [] []).mono (he X.s_0 X.H_0 0 [] []).mono
  refine ⟨(ps_setLc (te := LE X.K we) (tt := LT X.K wt) hc hN hy hyl hsw hi.run ok (fun s H C cl fp => (hg s H C cl fp).run) (fun s H C cl fp => (ht s H C cl fp).run) (fun s H C cl fp => (he s H C cl fp).run) hs).imp fun D σ H h => ?_, fun D D' l env st q => mn _ _ _ _ (fun d s q => l.nx _ _ q) q⟩
  obtain ⟨Fr, ρ, env, st, g0, E, hw⟩ := h
  refine LE.lc hi (hg X.s_0 X.H_0 0 [] []).imp (hg X.s_0 X.H_0 0 [] []).tm (hg X.s_0 X.H_0 0 [] []).mono (ht X.s_0 X.H_0 0 [] []).mono (he X.s_0 X.H_0 0 [] []).mono (Q := fun x H1 => gName i x σ H1 D.nx) ⟨Fr, ρ, env, st, g0, E, mn _ _ _ _ (fun d s q => ?_) hw⟩
  intro ρ1 v H1 S1 r1
  exact q ρ1 _ H1 S1 ((E.step g0 S1).put r1)
end

/-! ### what is walked -/
section
variable {K : Frag} {H : Hp} {B : Addr → Prop}
theorem goes_list {a : Addr} {xs : List D} {vs : List V} (nb : ¬ B a) (h : H a = some (.lst vs)) (r : RepL K H B xs vs) : Goes K (Itl K a) xs H B := by
  intro H2 B2 s
  obtain ⟨_, h2⟩ := s.at nb h
  have r2 := RepL.stb s r
  have hl := r.length
  refine ⟨fun i hi => ⟨⟨vs, vs[i]'(by omega), .of h2, by simp⟩, fun x H' y => ?_⟩, ⟨vs, .of h2, by omega⟩⟩
  obtain ⟨e, y⟩ := y
  obtain ⟨d, e1, e2⟩ := r2.getV (y vs (.of h2))
  rw [List.getElem?_eq_getElem hi] at e1
  cases e1
  subst e
  exact ⟨.inl rfl, e2⟩
theorem goes_rd {a : Addr} {xs : List D} {vs : List V} (h : RdL K H a vs) (r : RepL K H B xs vs) : Goes K (Itl K a) xs H B := by
  intro H2 B2 s
  have h2 := (RdL.stb s h).sq
  have r2 := RepL.stb s r
  have hl := r.length
  refine ⟨fun i hi => ⟨⟨vs, vs[i]'(by omega), h2, by simp⟩, fun x H' y => ?_⟩, ⟨vs, h2, by omega⟩⟩
  obtain ⟨e, y⟩ := y
  obtain ⟨d, e1, e2⟩ := r2.getV (y vs h2)
  rw [List.getElem?_eq_getElem hi] at e1
  cases e1
  subst e
  exact ⟨.inl rfl, e2⟩
theorem goes_tup {a : Addr} {xs : List D} {vs : List V} (h : SqT K H a vs) (r : RepL K H B xs vs) : Goes K (Itt K a) xs H B := by
  intro H2 B2 s
  have h2 := SqT.stb s h
  have r2 := RepL.stb s r
  have hl := r.length
  refine ⟨fun i hi => ⟨⟨vs, vs[i]'(by omega), h2, by simp⟩, fun x H' y => ?_⟩, ⟨vs, h2, by omega⟩⟩
  obtain ⟨e, y⟩ := y
  obtain ⟨d, e1, e2⟩ := r2.getV (y vs h2)
  rw [List.getElem?_eq_getElem hi] at e1
  cases e1
  subst e
  exact ⟨.inl rfl, e2⟩
/-- lo, lo + c, .. (n of them) -/
def rangeD (lo c : Int) (n : Nat) : List D := (List.range n).map fun i => .int (lo + (i : Nat) * c)
theorem rangeD_length (lo c : Int) (n : Nat) : (rangeD lo c n).length = n := by simp [rangeD]
theorem rangeD_get {lo c : Int} {n i : Nat} (h : i < (rangeD lo c n).length) : (rangeD lo c n)[i] = .int (lo + (i : Nat) * c) := by simp [rangeD]
theorem goes_range {lo : Int} {n : Nat} : Goes K (Itr lo n) (rangeD lo 1 n) H B := by
  intro H2 B2 s
  refine ⟨fun i hi => ⟨by rw [rangeD_length] at hi; exact hi, fun x H' y => ?_⟩, by rw [rangeD_length]; exact Nat.le_refl _⟩
  obtain ⟨e, y⟩ := y
  rw [rangeD_get, Int.mul_one]
  exact ⟨.inl e, y⟩
theorem goes_rangeC {lo c : Int} {n : Nat} : Goes K (Itc lo c n) (rangeD lo c n) H B := by
  intro H2 B2 s
  refine ⟨fun i hi => ⟨by rw [rangeD_length] at hi; exact hi, fun x H' y => ?_⟩, by rw [rangeD_length]; exact Nat.le_refl _⟩
  obtain ⟨e, y⟩ := y
  rw [rangeD_get]
  exact ⟨.inl e, y⟩
/-- pairs -/
def zipD : List D → List D → List D
  | x :: xs, y :: ys => .tup [x, y] :: zipD xs ys
  | _, _ => []
theorem zipD_length : ∀ xs ys : List D, (zipD xs ys).length = min xs.length ys.length
  | [], ys => by simp [zipD]
  | x :: xs, [] => by simp [zipD]
  | x :: xs, y :: ys => by simp [zipD, zipD_length xs ys]
theorem zipD_get : ∀ {xs ys : List D} {i : Nat} (h : i < (zipD xs ys).length) {a b : D}, xs[i]? = some a → ys[i]? = some b → (zipD xs ys)[i] = .tup [a, b]
  | [], ys, i, h, _, _, _, _ => by simp [zipD] at h
  | x :: xs, [], i, h, _, _, _, _ => by simp [zipD] at h
  | x :: xs, y :: ys, 0, h, a, b, e1, e2 => by
    simp at e1 e2
    subst e1 e2
    rfl
  | x :: xs, y :: ys, i + 1, h, a, b, e1, e2 => by
    have h' : i < (zipD xs ys).length := by simpa [zipD] using h
    exact zipD_get (xs := xs) (ys := ys) h' (by simpa using e1) (by simpa using e2)
end
end M

/-! M4: what a for or a comprehension walks: lists, tuples, ranges, zip, enumerate, reversed. -/
namespace PySem
open Sem (wp)
open AutoSeq1 (wpAny_loadPart')
theorem m_enum_newT (l : Addr) (items : Array Value) (n : Nat) (dct : Option Addr) (sl : Array (Option Value)) :
    Meets (Builtin.«enumerate.__new__» ⟨[.type "enumerate", .ref l], []⟩) (fun _ R s => s.heap.get? l = some { cls := .type "tuple", dict := dct, data := .seq items n, slots := sl } ∧
      R (.ok (.ret (.ref (s.heap.push { cls := .type "tuple_iterator", data := .fields #[.ref l, .int 0 0] }).objs.size)))
        { s with heap := (s.heap.push { cls := .type "tuple_iterator", data := .fields #[.ref l, .int 0 0] }).push { cls := .type "enumerate", data := .fields #[.none, .bool false, .ref s.heap.objs.size, rawInt 0, .none, .none] } }) :=
  .of_wp fun prog w A R s h => by
    obtain ⟨hp, g, d, tk, os⟩ := s; obtain ⟨hl, h⟩ := h
    have hsub := sub_enumerate
    have hL : Heap.IsTuple (Shared.heap ⟨hp, g, d, tk, os⟩) l items := ⟨_, hl, rfl, n, rfl⟩
    wp_walk using wpAny_loadPart' hl
    refine wpAny_stack_any fun st => wpAny_pure ?_
    split
    · rename_i c _ _ _ _ _
      cases (c == Value.type "enumerate")
      · wp_walk using wpAny_loadPart' hl, wpAny_pyIter_tuple hL
        exact ⟨_, rfl, h⟩
      · wp_walk using wpAny_loadPart' hl, wpAny_pyIter_tuple hL
        exact ⟨_, rfl, h⟩
    · wp_walk using wpAny_loadPart' hl, wpAny_pyIter_tuple hL
      exact ⟨_, rfl, h⟩
section
variable {prog : Program} {w : World} {A : Around} {E : Value → Shared → Prop} {s : Shared}
theorem m_call_enumT {l : Addr} {items : Array Value} {Q : Value → Shared → Prop} (hL : s.heap.IsTuple l items)
    (h : ∀ h', IsEnum h' (s.heap.objs.size + 1) s.heap.objs.size 0 .none → h'.IsTupleIter s.heap.objs.size l 0 → h'.objs.size = s.heap.objs.size + 2 →
      (∀ b o, s.heap.get? b = some o → h'.get? b = some o) → Q (.ref (s.heap.objs.size + 1)) { s with heap := h' }) :
    wpAny (model prog w) A (call (.type "enumerate") [.ref l]) Q E s := by
  obtain ⟨⟨c, dct, dt, sl⟩, hl, hc, n, hd⟩ := hL
  replace hc : c = .type "tuple" := hc
  replace hd : dt = .seq items n := hd
  subst hc hd
  refine callType_new F.called_enumerate (by decide) (F.typeCall_enumerate_1 _) (F.newCall_enumerate_1 _) (fun obj => F.args_object_init_2 obj _) F.entry_enumerate_new
    (m_enum_newT l items n dct sl) ⟨hl, ?_⟩
  have hz : (s.heap.push { cls := .type "tuple_iterator", data := .fields #[.ref l, .int 0 0] }).objs.size = s.heap.objs.size + 1 := Heap.size_push ..
  show _ ∧ _
  rw [hz]
  have he : IsEnum ((s.heap.push { cls := .type "tuple_iterator", data := .fields #[.ref l, .int 0 0] }).push
      { cls := .type "enumerate", data := .fields #[.none, .bool false, .ref s.heap.objs.size, rawInt 0, .none, .none] }) (s.heap.objs.size + 1) s.heap.objs.size 0 .none := by
    have := Heap.get?_push_size (s.heap.push { cls := .type "tuple_iterator", data := .fields #[.ref l, .int 0 0] })
      (o := { cls := .type "enumerate", data := .fields #[.none, .bool false, .ref s.heap.objs.size, rawInt 0, .none, .none] }) rfl
    rw [hz] at this; exact this
  refine ⟨⟨_, he, rfl⟩, h _ he ⟨_, Heap.get?_push_of_some _ (Heap.get?_push_size _ rfl), rfl, rfl⟩ (by rw [Heap.size_push, hz]) fun b o x => Heap.get?_push_of_some _ (Heap.get?_push_of_some _ x)⟩
end
end PySem
namespace M
open PySem PySem.Spec PyProof.Rows L2

/-! ### enumerate(tuple) -/
def IteT (K : Frag) (a : Addr) : It :=
  ⟨fun i H => ∃ (xs : List V) (x : V), SqT K H a xs ∧ xs[i]? = some x, fun i H v H' => ∃ T x, v = .ref T ∧ H T = none ∧ H' = upd H T (.tup [.int (i : Nat), x]) ∧ ∀ xs, SqT K H a xs → xs[i]? = some x, fun i H => ∃ xs : List V, SqT K H a xs ∧ xs.length ≤ i⟩
theorem turn_enumT {P : Program} {w : World} {K : PySem.W.Frag} {elts : List Expr} {kk : Nat} {tpos : Pos} (a e it : Addr) :
    Turn P w K (.Tuple elts kk tpos) (IteT K a) [e, it] e (fun i h => (∃ old, IsEnum h e it ((i : Nat) : Int) old) ∧ h.IsTupleIter it a i ∧ e ≠ it) where
  mem := by simp
  obj := fun i h st b hb => by
    obtain ⟨⟨old, he⟩, ⟨o, ho, hc, hd⟩, _⟩ := st
    have e' : b = e ∨ b = it := by simpa using hb
    rcases e' with z | z
    · rw [z]; exact ⟨_, he, fun v q => nomatch q⟩
    · rw [z]; exact ⟨o, ho, fun v q => by rw [hd] at q; cases q⟩
  keep := fun i h h' st k => let ⟨⟨old, he⟩, hi, hne⟩ := st; ⟨⟨old, k e (by simp) _ he⟩, hi.at fun o q => k it (by simp) o q, hne⟩
  item := by
    intro X hP hw hK hc i pins s σ H E I hf st hg
    subst hP hw hK
    obtain ⟨⟨old, he⟩, hit, hne⟩ := st
    obtain ⟨xs, x, hq, hx⟩ := hg
    obtain ⟨its, rv, p, hz⟩ := I.tuple hq
    obtain ⟨u, hu, ru⟩ := rv.get hx
    have hel : e < s.heap.objs.size := Heap.lt_size he
    have hil : it < s.heap.objs.size := by obtain ⟨_, q, _⟩ := hit; exact Heap.lt_size q
    have hat : a ≠ it := by
      intro z
      obtain ⟨o, ho, hc', _⟩ := hit
      obtain ⟨o', ho', hc2, _⟩ := p
      rw [z, ho] at ho'; cases ho'
      rw [hc'] at hc2
      exact absurd hc2 (by decide)
    have hae : a ≠ e := by
      intro z
      obtain ⟨o', ho', hc2, _⟩ := p
      rw [z, he] at ho'; cases ho'
      exact absurd hc2 (by show ¬ (Value.type "enumerate" = Value.type "tuple"); decide +kernel)
    refine wpAny_pyNext_enum_itemD (Draws.tuple (prog := X.prog) (w := X.w) (A := X.A.in1) (I.ok.hd hc) it a hat its.toArray) he ⟨hit, p⟩ (i := i) (by
      have := (List.getElem?_eq_some_iff.mp hu).1
      simpa using this) hne (by simp [hne, hae.symm]) fun x' h' tk hP ho hit' hT hsz hk => ?_
    have ex : x' = u := by
      have z : its.toArray[i]? = some x' := hP
      rw [show its.toArray[i]? = some u by simpa using hu] at z
      exact (Option.some.inj z).symm
    subst ex
    refine ⟨_, rfl, wpAny_letOwnedTupleGo_enum (s := { s with heap := h', toks := tk + 1 }) ho fun h'' he' sb => ?_⟩
    have hT2 : h''.get? s.heap.objs.size = some { cls := .type "tuple", data := .seq #[.int i tk, x'] } := (sb.2 _ (Nat.ne_of_gt hel)).trans hT
    have new : ObjOk X.prog X.w (upd H s.heap.objs.size (.tup [.int (i : Nat), x])) h'' s.heap.objs.size (.tup [.int (i : Nat), x]) :=
      ⟨by show 2 ≤ sizeLine; decide, [.int i tk, x'], .cons ⟨_, rfl⟩ (.cons ru .nil), ⟨_, hT2, rfl, _, rfl⟩⟩
    have I1 : Inv X pins σ (upd H s.heap.objs.size (.tup [.int (i : Nat), x])) { s with heap := h'', toks := tk + 1 } :=
      I.turnedNew (ch := [e, it]) (fun b ob hb q => (sb.2 b (fun z => hb (by simp [z]))).trans (hk b ob (fun z => hb (by simp [z])) (fun z => hb (by simp [z])) q)) hf (Nat.le_refl _) new
    refine ⟨.ref s.heap.objs.size, _, I1, rfl, ⟨_, x, rfl, I.hok.fresh (Nat.le_refl _), rfl, fun ys hy => by rw [I.tuple_inj hy hq]; exact hx⟩, ⟨⟨x', ?_⟩, hit'.1.at fun o q => (sb.2 it (Ne.symm hne)).trans q, hne⟩, fun b hb => ?_⟩
    · have e1 : ((i + 1 : Nat) : Int) = (i : Int) + 1 := by omega
      rw [e1]; exact he'
    · have hb' : b < s.heap.objs.size := by
        have e' : b = e ∨ b = it := by simpa using hb
        rcases e' with z | z
        · rw [z]; exact hel
        · rw [z]; exact hil
      rw [upd_ne (Nat.ne_of_lt hb')]
      exact (hf b hb).1
  done := by
    intro X hP hw hK hc i pins s σ H E I hf st hg
    subst hP hw hK
    obtain ⟨⟨old, he⟩, hit, hne⟩ := st
    obtain ⟨xs, hq, hx⟩ := hg
    obtain ⟨its, rv, p, hz⟩ := I.tuple hq
    obtain ⟨f0, f1, f2, f3, f4, f5⟩ := hf it (by simp)
    have hl := rv.length
    have hT : s.TypeIs (.ref e) "enumerate" := ⟨_, he, rfl⟩
    unfold pyNext
    refine wpAny_bind (wpAny_attempt (wpAny_callSpecial?_slot (name := Str.ofString "__next__") hT F.slot_enumerate_next
      (wpAny_call_entry F.slot_enumerate_next hT F.entry_enumerate_next ?_ (F.args_enumerate_next_1 _))))
    show wpAny _ _ (field (.ref e) 2 >>= _) _ _ _
    refine wpAny_bind (wpAny_field he rfl (x := .ref it) rfl ?_)
    refine wpAny_bind (wpAny_nextOf_tuple_end (I.ok.hd hc) hit p (by simp; omega) fun h' x he' hx' => ?_)
    obtain ⟨o, ho, hcs⟩ := hx'
    refine wpAny_bind (wpAny_isInstance (T := "StopIteration") (b := true) ⟨o, ho, hcs⟩ isSubtype_stop ?_)
    exact wpAny_pure ⟨rfl, I.turned (t' := s.toks) (fun b o hb q => he' b o hb q) f0 f1 f3 f4 f5⟩
  self := fun A i s Q E st h => let ⟨⟨_, he⟩, _⟩ := st; wpAny_pyIter_enum he h
def iEnumA (K : Frag) (ta : TA) : TI := fun σ H R => ta σ H fun vs H1 => ∃ a xs, vs = [.ref a] ∧ ((SqL K H1 a xs ∧ R (Ite K a) H1) ∨ (SqT K H1 a xs ∧ R (IteT K a) H1))
theorem pi_enumA {X : Cx} {e : Expr} {ta : TA} {p pos tpos : Pos} {elts : List Expr} {kk : Nat} (hg : Gl X "enumerate") (hm : X.mg "enumerate" = none) (ha : PA X [e] ta) (hs : starEach [e] X.env = [(false, eval e X.env)] := by rfl) :
    PI X (.Tuple elts kk tpos) (.Call (.Name "enumerate" p) [e] [] pos) (iEnumA X.K ta) := by
  refine ⟨fun pins s σ H R I h => ?_⟩
  refine Call_ (ld_blt I hg hm boot_enumerate (PyProof.Rows.callWith_type1 (thn (ha.run pos pins s σ H _ I h) fun us s1 ⟨vs, H1, I1, r1, q1⟩ => ?_) hs rfl))
  obtain ⟨a, xs, ex, q1⟩ := q1
  subst ex
  cases r1 with
  | cons r rr =>
    cases rr
    cases r
    have fr : ∀ b ∈ [s1.heap.objs.size + 1, s1.heap.objs.size], FpOk X pins H1 b := fun b hb => by
      have e' : b = s1.heap.objs.size + 1 ∨ b = s1.heap.objs.size := by simpa using hb
      have hle : s1.heap.objs.size ≤ b := by
        rcases e' with z | z
        · rw [z]; exact Nat.le_add_right _ _
        · rw [z]; exact Nat.le_refl _
      exact I1.fpOk hle (I1.hok.fresh hle)
    rcases q1 with ⟨hq, q⟩ | ⟨hq, q⟩
    · obtain ⟨its, rv, p', hz⟩ := I1.list hq
      refine call_enumerate_list p'.isList fun h' he hit hsz hk => wpAny_pyIter_enum he ?_
      have I2 : Inv X pins σ H1 { s1 with heap := h' } := I1.kept (t' := s1.toks) hk
      exact ⟨s1.heap.objs.size + 1, [s1.heap.objs.size + 1, s1.heap.objs.size], _, _, H1, rfl, I2, turn_enum a (s1.heap.objs.size + 1) s1.heap.objs.size, ⟨⟨.none, he⟩, hit, Nat.succ_ne_self _⟩, fr, q⟩
    · obtain ⟨its, rv, p', hz⟩ := I1.tuple hq
      refine m_call_enumT (show s1.heap.IsTuple a its.toArray from p') fun h' he hit hsz hk => wpAny_pyIter_enum he ?_
      have I2 : Inv X pins σ H1 { s1 with heap := h' } := I1.kept (t' := s1.toks) hk
      exact ⟨s1.heap.objs.size + 1, [s1.heap.objs.size + 1, s1.heap.objs.size], _, _, H1, rfl, I2, turn_enumT a (s1.heap.objs.size + 1) s1.heap.objs.size, ⟨⟨.none, he⟩, hit, Nat.succ_ne_self _⟩, fr, q⟩

/-! ### what they give -/
section
variable {K : Frag} {H : Hp} {B : Addr → Prop}
theorem goes_pairs {J : It} {xs ys : List D} {vx vy : List V} (rx : RepL K H B xs vx) (ry : RepL K H B ys vy)
    (gx : ∀ H2 B2, Stb H H2 B B2 → ∀ i, i < (zipD xs ys).length → J.go i H2 ∧ ∀ x H', J.yld i H2 x H' → ∃ T a b, x = .ref T ∧ H2 T = none ∧ H' = upd H2 T (.tup [a, b]) ∧ vx[i]? = some a ∧ vy[i]? = some b)
    (gs : ∀ H2 B2, Stb H H2 B B2 → J.stop (zipD xs ys).length H2) : Goes K J (zipD xs ys) H B := by
  intro H2 B2 s
  refine ⟨fun i hi => ⟨(gx H2 B2 s i hi).1, fun x H' y => ?_⟩, gs H2 B2 s⟩
  obtain ⟨T, a, b, rfl, hT, rfl, ea, eb⟩ := (gx H2 B2 s i hi).2 x H' y
  refine ⟨.inr ⟨T, _, hT, rfl⟩, ?_⟩
  have s2 : Stb H2 (upd H2 T (.tup [a, b])) B2 B2 := ⟨fun c u _ e => by rw [upd_ne (ne_of_none e hT)]; exact e, fun _ nb _ => nb, fun c u e => by rw [upd_ne (ne_of_none e hT)]; exact e, fun c u v e => by rw [upd_ne (ne_of_none e hT)]; exact e⟩
  obtain ⟨dx, e1, r1⟩ := rx.getV ea
  obtain ⟨dy, e2, r2⟩ := ry.getV eb
  rw [zipD_get hi e1 e2]
  exact ⟨T, [a, b], rfl, .of upd_same, .cons (Rep.stb s2 (Rep.stb s r1)) (.one (Rep.stb s2 (Rep.stb s r2)))⟩
/-- a list as it stands, frozen or read-only -/
def StL (K : Frag) (H : Hp) (B : Addr → Prop) (a : Addr) (vs : List V) : Prop := (¬ B a ∧ H a = some (.lst vs)) ∨ RdL K H a vs
theorem StL.sq {a : Addr} {vs : List V} (h : StL K H B a vs) : SqL K H a vs := h.elim (fun q => .of q.2) RdL.sq
theorem StL.stb {H2 : Hp} {B2 : Addr → Prop} (s : Stb H H2 B B2) {a : Addr} {vs : List V} (h : StL K H B a vs) : StL K H2 B2 a vs := h.elim (fun q => .inl (s.at q.1 q.2)) fun q => .inr (RdL.stb s q)
theorem goes_zipL {a b : Addr} {xs ys : List D} {vx vy : List V} (ha : StL K H B a vx) (hb : StL K H B b vy) (rx : RepL K H B xs vx) (ry : RepL K H B ys vy) : Goes K (Itz K a b) (zipD xs ys) H B := by
  have lx := rx.length
  have ly := ry.length
  refine goes_pairs rx ry (fun H2 B2 s i hi => ?_) fun H2 B2 s => ?_
  · have h1 := (StL.stb s ha).sq
    have h2 := (StL.stb s hb).sq
    rw [zipD_length] at hi
    refine ⟨⟨vx, vy, vx[i]'(by omega), vy[i]'(by omega), h1, h2, by simp, by simp⟩, fun x H' ⟨T, u, v, e1, e2, e3, e4, e5⟩ => ⟨T, u, v, e1, e2, e3, e4 vx h1, e5 vy h2⟩⟩
  · rw [zipD_length]
    exact ⟨vx, vy, (StL.stb s ha).sq, (StL.stb s hb).sq, by omega⟩
theorem goes_zipT {a b : Addr} {xs ys : List D} {vx vy : List V} (ha : SqT K H a vx) (hb : SqT K H b vy) (rx : RepL K H B xs vx) (ry : RepL K H B ys vy) : Goes K (RZ.ItzT K a b) (zipD xs ys) H B := by
  have lx := rx.length
  have ly := ry.length
  refine goes_pairs rx ry (fun H2 B2 s i hi => ?_) fun H2 B2 s => ?_
  · have h1 := SqT.stb s ha
    have h2 := SqT.stb s hb
    rw [zipD_length] at hi
    refine ⟨⟨vx, vy, vx[i]'(by omega), vy[i]'(by omega), h1, h2, by simp, by simp⟩, fun x H' ⟨T, u, v, e1, e2, e3, e4, e5⟩ => ⟨T, u, v, e1, e2, e3, e4 vx h1, e5 vy h2⟩⟩
  · rw [zipD_length]
    exact ⟨vx, vy, SqT.stb s ha, SqT.stb s hb, by omega⟩
/-- (0, x), (1, y), .. -/
def enumD (xs : List D) : List D := zipD (rangeD 0 1 xs.length) xs
theorem repl_range (n : Nat) : RepL K H B (rangeD 0 1 n) ((List.range n).map fun i => V.int (i : Nat)) := by
  have : ∀ l : List Nat, RepL K H B (l.map fun i => D.int (0 + (i : Nat) * 1)) (l.map fun i => V.int (i : Nat)) := by
    intro l
    induction l with
    | nil => exact .nil
    | cons x l ih => exact .cons (show V.int _ = V.int _ by rw [Int.mul_one, Int.zero_add]) ih
  exact this _
theorem goes_enumL {a : Addr} {xs : List D} {vx : List V} (ha : StL K H B a vx) (rx : RepL K H B xs vx) : Goes K (Ite K a) (enumD xs) H B := by
  have lx := rx.length
  refine goes_pairs (repl_range _) rx (fun H2 B2 s i hi => ?_) fun H2 B2 s => ?_
  · have h1 := (StL.stb s ha).sq
    rw [zipD_length, rangeD_length, Nat.min_self] at hi
    refine ⟨⟨vx, vx[i]'(by omega), h1, by simp⟩, fun x H' ⟨T, u, e1, e2, e3, e4⟩ => ⟨T, _, u, e1, e2, e3, (by rw [List.getElem?_map, List.getElem?_range hi]; rfl), e4 vx h1⟩⟩
  · rw [zipD_length, rangeD_length]
    exact ⟨vx, (StL.stb s ha).sq, by omega⟩
theorem goes_enumT {a : Addr} {xs : List D} {vx : List V} (ha : SqT K H a vx) (rx : RepL K H B xs vx) : Goes K (IteT K a) (enumD xs) H B := by
  have lx := rx.length
  refine goes_pairs (repl_range _) rx (fun H2 B2 s i hi => ?_) fun H2 B2 s => ?_
  · have h1 := SqT.stb s ha
    rw [zipD_length, rangeD_length, Nat.min_self] at hi
    refine ⟨⟨vx, vx[i]'(by omega), h1, by simp⟩, fun x H' ⟨T, u, e1, e2, e3, e4⟩ => ⟨T, _, u, e1, e2, e3, (by rw [List.getElem?_map, List.getElem?_range hi]; rfl), e4 vx h1⟩⟩
  · rw [zipD_length, rangeD_length]
    exact ⟨vx, SqT.stb s ha, by omega⟩
end

/-! ### the rules -/
def iSeq (K : Frag) (tl : TE) : TI := fun σ H R => tl σ H fun x H1 => ∃ a, x = .ref a ∧ (((∃ xs, SqL K H1 a xs) ∧ R (Itl K a) H1) ∨ ((∃ xs, SqT K H1 a xs) ∧ R (Itt K a) H1))
theorem pi_seq {X : Cx} {tg l : Expr} {tl : TE} (hl : PE X l tl) : PI X tg l (iSeq X.K tl) := by
  refine ⟨fun pins s σ H R I h => ?_⟩
  refine thn (hl.run pins s σ H _ I h) fun v s1 ⟨x, H1, I1, r1, q1⟩ => ?_
  obtain ⟨a, e, q1⟩ := q1
  subst e
  cases r1
  rcases q1 with ⟨⟨xs, hq⟩, q⟩ | ⟨⟨xs, hq⟩, q⟩
  · obtain ⟨its, rv, p, hz⟩ := I1.list hq
    refine wpAny_pyIter_list p.isList ?_
    refine ⟨s1.heap.objs.size, [s1.heap.objs.size], _, _, H1, rfl, I1.kept (t' := s1.toks) fun b o e => Heap.get?_push_of_some _ e, turn_list a _, ⟨_, Heap.get?_push_size _ rfl, rfl, rfl⟩, fun b hb => ?_, q⟩
    have e : b = s1.heap.objs.size := by simpa using hb
    subst e
    exact I1.fpOk (Nat.le_refl _) (I1.hok.fresh (Nat.le_refl _))
  · obtain ⟨its, rv, p, hz⟩ := I1.tuple hq
    refine wpAny_pyIter_tuple (show s1.heap.IsTuple a its.toArray from p) ?_
    refine ⟨s1.heap.objs.size, [s1.heap.objs.size], _, _, H1, rfl, I1.kept (t' := s1.toks) fun b o e => Heap.get?_push_of_some _ e, turn_tuple a _, ⟨_, Heap.get?_push_size _ rfl, rfl, rfl⟩, fun b hb => ?_, q⟩
    have e : b = s1.heap.objs.size := by simpa using hb
    subst e
    exact I1.fpOk (Nat.le_refl _) (I1.hok.fresh (Nat.le_refl _))
/-- a list or a tuple that nobody changes -/
def kSeq (Q : List D → Sto → Prop) : WK := fun d st => match d with
  | .tup xs => Q xs st
  | .lst xs => Q xs st
  | .rd xs => Q xs st
  | _ => False
theorem kSeq.mono {Q Q' : List D → Sto → Prop} (h : ∀ b s, Q b s → Q' b s) : ∀ d s, kSeq Q d s → kSeq Q' d s := fun d s q => by
  cases d <;> first | exact h _ _ q | exact q.elim
def wSeqI (w : WE) : WI := fun env st Q => w env st (kSeq Q)
section
variable {X : Cx} {tg : Expr}
theorem ix_seq' {l : Expr} {w : WE} (h : EX X l w) : IX X tg l (wSeqI w) := by
  refine ⟨(pi_seq h.run).imp fun σ H R ⟨Fr, ρ, env, st, g, E, hw⟩ => ?_, fun env st Q Q' hQ q => h.mono _ _ _ _ (kSeq.mono hQ) q⟩
  refine ⟨Fr, ρ, env, st, g, E, h.mono _ _ _ _ (fun d s q => ?_) hw⟩
  intro ρ1 v H1 S1 r1
  cases d <;> first
    | exact q.elim
    | skip
  · obtain ⟨a, vs, e, hq, rl⟩ := r1
    exact ⟨a, e, .inr ⟨⟨vs, hq⟩, q ρ1 H1 _ S1 (goes_tup hq rl)⟩⟩
  · obtain ⟨a, vs, e, nb, hq, rl⟩ := r1
    exact ⟨a, e, .inl ⟨⟨vs, .of hq⟩, q ρ1 H1 _ S1 (goes_list nb hq rl)⟩⟩
  · obtain ⟨a, vs, e, hq, rl⟩ := r1
    exact ⟨a, e, .inl ⟨⟨vs, hq.sq⟩, q ρ1 H1 _ S1 (goes_rd hq rl)⟩⟩
def R62 (i : Int) : Prop := -(2 ^ 62) ≤ i ∧ i < 2 ^ 62
def wRng1 (w : WA) : WI := fun env st Q => w env st fun ds st' => match ds with
  | [.int j] => R62 j ∧ Q (rangeD 0 1 j.toNat) st'
  | _ => False
def wRng2 (w : WA) : WI := fun env st Q => w env st fun ds st' => match ds with
  | [.int i, .int j] => R62 i ∧ R62 j ∧ Q (rangeD i 1 (j - i).toNat) st'
  | _ => False
/-- how many turns a range with a step has -/
def rangeN (i j c : Int) : Nat := if 0 < c then ((j - i + c - 1) / c).toNat else ((i - j - c - 1) / (-c)).toNat
def wRng3 (w : WA) : WI := fun env st Q => w env st fun ds st' => match ds with
  | [.int i, .int j, .int c] => (R62 i ∧ R62 j ∧ c ≠ 0 ∧ c.natAbs < 1073741824) ∧ Q (rangeD i c (rangeN i j c)) st'
  | _ => False
theorem ix_range1 {a : Expr} {w : WA} {p pos : Pos} (hm : X.mg "range" = none) (ha : AX X [a] w) (hg : Gl X "range" := by rfl) (hs : starEach [a] X.env = [(false, eval a X.env)] := by rfl) : IX X tg (.Call (.Name "range" p) [a] [] pos) (wRng1 w) := by
  refine ⟨(pi_range1 hg hm ha.run hs).imp fun σ H R ⟨Fr, ρ, env, st, g, E, hw⟩ => ?_, fun env st Q Q' hQ q => ha.mono _ _ _ _ (fun ds s q => ?_) q⟩
  · refine ⟨Fr, ρ, env, st, g, E, ha.mono _ _ _ _ (fun ds s q => ?_) hw⟩
    intro ρ1 vs H1 S1 r1
    split at q
    · rename_i j
      obtain ⟨v, r, rfl, rv, e⟩ := r1
      have e' : r = [] := e
      subst e'
      obtain rfl : v = .int j := rv
      exact ⟨j, rfl, q.1.1, q.1.2, q.2 ρ1 H1 _ S1 goes_range⟩
    · exact q.elim
  · split at q
    · exact ⟨q.1, hQ _ _ q.2⟩
    · exact q.elim
theorem ix_range2 {a b : Expr} {w : WA} {p pos : Pos} (hm : X.mg "range" = none) (ha : AX X [a, b] w) (hg : Gl X "range" := by rfl) (hs : starEach [a, b] X.env = [(false, eval a X.env), (false, eval b X.env)] := by rfl) (hs2 : starEach [b] X.env = [(false, eval b X.env)] := by rfl) :
    IX X tg (.Call (.Name "range" p) [a, b] [] pos) (wRng2 w) := by
  refine ⟨(pi_range2 hg hm ha.run hs hs2).imp fun σ H R ⟨Fr, ρ, env, st, g, E, hw⟩ => ?_, fun env st Q Q' hQ q => ha.mono _ _ _ _ (fun ds s q => ?_) q⟩
  · refine ⟨Fr, ρ, env, st, g, E, ha.mono _ _ _ _ (fun ds s q => ?_) hw⟩
    intro ρ1 vs H1 S1 r1
    split at q
    · rename_i i j
      obtain ⟨v, r, rfl, rv, v2, r2, rfl, rv2, e⟩ := r1
      have e' : r2 = [] := e
      subst e'
      obtain rfl : v = .int i := rv
      obtain rfl : v2 = .int j := rv2
      exact ⟨i, j, rfl, ⟨q.1.1, q.1.2, q.2.1.1, q.2.1.2⟩, q.2.2 ρ1 H1 _ S1 goes_range⟩
    · exact q.elim
  · split at q
    · exact ⟨q.1, q.2.1, hQ _ _ q.2.2⟩
    · exact q.elim
def wZip (w : WA) : WI := fun env st Q => w env st fun ds st' => match ds with
  | [.lst xs, .lst ys] => Q (zipD xs ys) st'
  | [.tup xs, .tup ys] => Q (zipD xs ys) st'
  | _ => False
theorem ix_zip {e e2 : Expr} {w : WA} {p pos tpos : Pos} {elts : List Expr} {kk : Nat} (hm : X.mg "zip" = none) (ha : AX X [e, e2] w) (hg : Gl X "zip" := by rfl)
    (hs : starEach [e, e2] X.env = (false, eval e X.env) :: starEach [e2] X.env := by rfl) (hpl : (backTo pos (starEach [e2] X.env)).any (·.1) = false := by rfl) :
    IX X (.Tuple elts kk tpos) (.Call (.Name "zip" p) [e, e2] [] pos) (wZip w) := by
  refine ⟨(RZ.pi_zipA hg hm ha.run hs hpl).imp fun σ H R ⟨Fr, ρ, env, st, g, E, hw⟩ => ?_, fun env st Q Q' hQ q => ha.mono _ _ _ _ (fun ds s q => ?_) q⟩
  · refine ⟨Fr, ρ, env, st, g, E, ha.mono _ _ _ _ (fun ds s q => ?_) hw⟩
    intro ρ1 vs H1 S1 r1
    split at q
    · rename_i xs ys
      obtain ⟨v, r, rfl, ⟨a, va, rfl, nb, ea, ra⟩, v2, r2, rfl, ⟨b, vb, rfl, nb2, eb, rb⟩, e⟩ := r1
      have e' : r2 = [] := e
      subst e'
      exact ⟨a, b, va, vb, rfl, .inl ⟨.of ea, .of eb, q ρ1 H1 _ S1 (goes_zipL (.inl ⟨nb, ea⟩) (.inl ⟨nb2, eb⟩) ra rb)⟩⟩
    · rename_i xs ys
      obtain ⟨v, r, rfl, ⟨a, va, rfl, ea, ra⟩, v2, r2, rfl, ⟨b, vb, rfl, eb, rb⟩, e⟩ := r1
      have e' : r2 = [] := e
      subst e'
      exact ⟨a, b, va, vb, rfl, .inr ⟨ea, eb, q ρ1 H1 _ S1 (goes_zipT ea eb ra rb)⟩⟩
    · exact q.elim
  · split at q
    · exact hQ _ _ q
    · exact hQ _ _ q
    · exact q.elim
def wEnum (w : WA) : WI := fun env st Q => w env st fun ds st' => match ds with
  | [.lst xs] => Q (enumD xs) st'
  | [.tup xs] => Q (enumD xs) st'
  | _ => False
theorem ix_enum {e : Expr} {w : WA} {p pos tpos : Pos} {elts : List Expr} {kk : Nat} (hm : X.mg "enumerate" = none) (ha : AX X [e] w) (hg : Gl X "enumerate" := by rfl) (hs : starEach [e] X.env = [(false, eval e X.env)] := by rfl) :
    IX X (.Tuple elts kk tpos) (.Call (.Name "enumerate" p) [e] [] pos) (wEnum w) := by
  refine ⟨(pi_enumA hg hm ha.run hs).imp fun σ H R ⟨Fr, ρ, env, st, g, E, hw⟩ => ?_, fun env st Q Q' hQ q => ha.mono _ _ _ _ (fun ds s q => ?_) q⟩
  · refine ⟨Fr, ρ, env, st, g, E, ha.mono _ _ _ _ (fun ds s q => ?_) hw⟩
    intro ρ1 vs H1 S1 r1
    split at q
    · rename_i xs
      obtain ⟨v, r, rfl, ⟨a, va, rfl, nb, ea, ra⟩, e⟩ := r1
      have e' : r = [] := e
      subst e'
      exact ⟨a, va, rfl, .inl ⟨.of ea, q ρ1 H1 _ S1 (goes_enumL (.inl ⟨nb, ea⟩) ra)⟩⟩
    · rename_i xs
      obtain ⟨v, r, rfl, ⟨a, va, rfl, ea, ra⟩, e⟩ := r1
      have e' : r = [] := e
      subst e'
      exact ⟨a, va, rfl, .inr ⟨ea, q ρ1 H1 _ S1 (goes_enumT ea ra)⟩⟩
    · exact q.elim
  · split at q
    · exact hQ _ _ q
    · exact hQ _ _ q
    · exact q.elim
end
end M

/-! M5: operators on data, displays, items, slices, built-ins, methods. -/
namespace M
open PySem PySem.Spec PyProof.Rows L2

section
variable {K : Frag} {Fr : Addr → Prop} {H : Hp} {ρ : List Addr} {st : Sto} {Q : VK}
theorem FinE.newT {xs : List D} {vs : List V} (g : Gs K H Fr ρ st) (h : FinE K Fr H ρ st Q (.tup xs) st) (r : RepL K H (Blk Fr ρ st) xs vs) : ∀ p, H p = none → Q (.ref p) (upd H p (.tup vs)) := fun p hp =>
  h ρ _ _ (.new g hp) ⟨p, vs, rfl, .of upd_same, RepL.stb (Step.stb g (.new g hp)) r⟩
theorem FinE.newL {xs : List D} {vs : List V} (g : Gs K H Fr ρ st) (h : FinE K Fr H ρ st Q (.lst xs) st) (r : RepL K H (Blk Fr ρ st) xs vs) : ∀ p, H p = none → Q (.ref p) (upd H p (.lst vs)) := fun p hp =>
  h ρ _ _ (.new g hp) ⟨p, vs, rfl, g.notBlk hp, upd_same, RepL.stb (Step.stb g (.new g hp)) r⟩
/-- .. a list of one's own -/
theorem FinE.newR {xs : List D} {vs : List V} (g : Gs K H Fr ρ st) (h : FinE K Fr H ρ st Q (.ref st.length) (st ++ [some (.lst xs)])) (r : RepL K H (Blk Fr ρ st) xs vs) : ∀ p, H p = none → Q (.ref p) (upd H p (.lst vs)) := fun p hp =>
  h _ _ _ (.alloc g hp (o := .lst xs) ⟨vs, rfl, r⟩) ⟨p, by rw [← g.len]; simp, rfl⟩
theorem FinE.sc {d : D} {v : V} (g : Gs K H Fr ρ st) (h : FinE K Fr H ρ st Q d st) (r : Rep K H (Blk Fr ρ st) d v) : Q v H := h.now g (.of r)
end

/-! ### + - * // % -/
abbrev big : Nat := 16777216
def MulOk (i j : Int) : Prop := ((-(2 ^ 64) < i ∧ i < 2 ^ 64) ∨ (-(2 ^ 64) < j ∧ j < 2 ^ 64)) ∨ i.natAbs.log2 + j.natAbs.log2 < 1000000
def DivOk (j : Int) : Prop := 0 < j ∧ j.natAbs.log2 < 9000
theorem log2_le_of {n k : Nat} (h : n < 2 ^ (k + 1)) : n.log2 ≤ k := by
  by_cases h0 : n = 0
  · subst h0; simp
  · have := (Nat.log2_lt h0).mpr h
    omega
theorem DivOk.of {j : Int} (h : 0 < j) (h2 : j < 2 ^ 64) : DivOk j := ⟨h, by
  have : j.natAbs < 2 ^ (63 + 1) := by omega
  have := log2_le_of this
  omega⟩
theorem MulOk.l {i j : Int} (h : -(2 ^ 64) < i ∧ i < 2 ^ 64) : MulOk i j := .inl (.inl h)
theorem MulOk.r {i j : Int} (h : -(2 ^ 64) < j ∧ j < 2 ^ 64) : MulOk i j := .inl (.inr h)
def wAdd : W2 := fun a b st Q => match a, b with
  | .int i, .int j => Q (.int (i + j)) st
  | .tup xs, .tup ys => xs.length + ys.length ≤ big ∧ Q (.tup (xs ++ ys)) st
  | .lst xs, .lst ys => xs.length + ys.length ≤ big ∧ Q (.lst (xs ++ ys)) st
  | .str x, .str y => x.length + y.length ≤ big ∧ Q (.str (x ++ y)) st
  | _, _ => False
def wSub : W2 := fun a b st Q => match a, b with
  | .int i, .int j => Q (.int (i - j)) st
  | _, _ => False
def wMul : W2 := fun a b st Q => match a, b with
  | .int i, .int j => MulOk i j ∧ Q (.int (i * j)) st
  | .lst xs, .int k => ((-(2 ^ 63) ≤ k ∧ k < 2 ^ 63) ∧ xs.length * k.toNat ≤ big) ∧ Q (.lst (List.replicate k.toNat xs).flatten) st
  | .tup xs, .int k => ((xs ≠ [] ∧ 2 ≤ k ∧ k ≤ 1000) ∧ xs.length ≤ 1000) ∧ Q (.tup (List.replicate k.toNat xs).flatten) st
  | _, _ => False
def wDiv : W2 := fun a b st Q => match a, b with
  | .int i, .int j => DivOk j ∧ Q (.int (i / j)) st
  | _, _ => False
/-- // by a divisor of either sign -/
def wDivN : W2 := fun a b st Q => match a, b with
  | .int i, .int j => (j ≠ 0 ∧ j.natAbs < 1073741824) ∧ Q (.int (i.fdiv j)) st
  | _, _ => False
def wMod : W2 := fun a b st Q => match a, b with
  | .int i, .int j => 0 < j ∧ Q (.int (i % j)) st
  | _, _ => False
def wPow : W2 := fun a b st Q => match a, b with
  | .int i, .int j => (0 ≤ j ∧ j ≤ 1000000 ∧ i.natAbs < 2 ^ 64) ∧ Q (.int (i ^ j.toNat)) st
  | _, _ => False
def wShl : W2 := fun a b st Q => match a, b with
  | .int i, .int j => (0 ≤ j ∧ j ≤ 1000000 ∧ i.natAbs < 2 ^ 64) ∧ Q (.int (i * 2 ^ j.toNat)) st
  | _, _ => False
def wXor : W2 := fun a b st Q => match a, b with
  | .int i, .int j => Q (.int (Builtin.bitXor i j)) st
  | _, _ => False
def wNeg : W1 := fun a st Q => match a with
  | .int i => Q (.int (-i)) st
  | _ => False
section
variable {X : Cx}
theorem opm_of {f : Value → Value → Sem Value} {w : W2} (mono : ∀ a b st Q Q', (∀ d s, Q d s → Q' d s) → w a b st Q → w a b st Q')
    (h : ∀ (pins : List (Addr × Obj)) (s : Shared) (σ : St) (H : Hp) (x y : V) (v u : Value) (Q : VK) (Fr : Addr → Prop) (ρ : List Addr) (st : Sto) (a b : D), Inv X pins σ H s → RelV x v → RelV y u → Gs X.K H Fr ρ st → RepU X.K H (Blk Fr ρ st) ρ a x → RepU X.K H (Blk Fr ρ st) ρ b y →
      w a b st (FinE X.K Fr H ρ st Q) → wpAny (model X.prog X.w) X.A (f v u) (EP X pins σ Q) X.xe s) : OpM X f w :=
  ⟨fun pins s σ H x y v u Q I r1 r2 ⟨Fr, ρ, st, a, b, g, ra, rb, hw⟩ => h pins s σ H x y v u Q Fr ρ st a b I r1 r2 g ra rb hw, mono⟩
theorem m_big : (sizeLine : Nat) = big := sizeLine_eq
theorem o_add : OpM X (binaryOp .Add) wAdd := by
  refine opm_of (fun a b st Q Q' h q => ?_) fun pins s σ H x y v u Q Fr ρ st a b I r1 r2 g ra rb hw => ?_
  · unfold wAdd at q ⊢
    split at q <;> first
      | exact h _ _ q
      | exact ⟨q.1, h _ _ q.2⟩
      | exact q.elim
  · unfold wAdd at hw
    split at hw
    · rename_i i j
      obtain rfl : x = .int i := ra
      obtain rfl : y = .int j := rb
      exact op_add pins s σ H _ _ v u Q I r1 r2 ⟨i, j, rfl, rfl, hw.sc g rfl⟩
    · rename_i xs ys
      obtain ⟨p, vs, rfl, hp, rp⟩ := ra
      obtain ⟨q, us, rfl, hq, rq⟩ := rb
      have l1 := rp.length
      have l2 := rq.length
      refine op_catA pins s σ H _ _ v u Q I r1 r2 ⟨p, q, vs, us, rfl, rfl, hp, hq, by rw [m_big, l1, l2]; exact hw.1, fun e => ?_, fun n e => ?_, fun n1 n2 => ?_⟩
      · subst e
        have e2 : xs = [] := List.eq_nil_of_length_eq_zero l1.symm
        subst e2
        exact hw.2.sc g ⟨q, us, rfl, hq, rq⟩
      · subst e
        have e2 : ys = [] := List.eq_nil_of_length_eq_zero l2.symm
        subst e2
        have h2 := hw.2
        rw [List.append_nil] at h2
        exact h2.sc g ⟨p, vs, rfl, hp, rp⟩
      · exact hw.2.newT g (rp.append rq)
    · rename_i xs ys
      obtain ⟨p, vs, rfl, nb, hp, rp⟩ := ra
      obtain ⟨q, us, rfl, nb2, hq, rq⟩ := rb
      exact op_cat pins s σ H _ _ v u Q I r1 r2 ⟨p, q, vs, us, rfl, rfl, hp, hq, by rw [m_big, rp.length, rq.length]; exact hw.1, hw.2.newL g (rp.append rq)⟩
    · rename_i i j
      obtain rfl : x = .str i := ra
      obtain rfl : y = .str j := rb
      exact op_add_str pins s σ H _ _ v u Q I r1 r2 ⟨i, j, rfl, rfl, by rw [m_big]; exact hw.1, hw.2.sc g rfl⟩
    · exact hw.elim
theorem o_sub : OpM X (binaryOp .Sub) wSub := by
  refine opm_of (fun a b st Q Q' h q => ?_) fun pins s σ H x y v u Q Fr ρ st a b I r1 r2 g ra rb hw => ?_
  · unfold wSub at q ⊢
    split at q <;> first
      | exact h _ _ q
      | exact q.elim
  · unfold wSub at hw
    split at hw
    · rename_i i j
      obtain rfl : x = .int i := ra
      obtain rfl : y = .int j := rb
      exact op_sub pins s σ H _ _ v u Q I r1 r2 ⟨i, j, rfl, rfl, hw.sc g rfl⟩
    · exact hw.elim
theorem o_mul : OpM X (binaryOp .Mult) wMul := by
  refine opm_of (fun a b st Q Q' h q => ?_) fun pins s σ H x y v u Q Fr ρ st a b I r1 r2 g ra rb hw => ?_
  · unfold wMul at q ⊢
    split at q <;> first
      | exact ⟨q.1, h _ _ q.2⟩
      | exact q.elim
  · unfold wMul at hw
    split at hw
    · rename_i i j
      obtain rfl : x = .int i := ra
      obtain rfl : y = .int j := rb
      rcases hw.1 with c | c
      · exact op_mul pins s σ H _ _ v u Q I r1 r2 ⟨i, j, rfl, rfl, c, hw.2.sc g rfl⟩
      · exact op_mulW pins s σ H _ _ v u Q I r1 r2 ⟨i, j, rfl, rfl, c, hw.2.sc g rfl⟩
    · rename_i xs k
      obtain ⟨p, vs, rfl, nb, hp, rp⟩ := ra
      obtain rfl : y = .int k := rb
      exact op_rep pins s σ H _ _ v u Q I r1 r2 ⟨p, k, vs, rfl, rfl, hp, hw.1.1.1, hw.1.1.2, by rw [m_big, rp.length]; exact hw.1.2, hw.2.newL g (rp.flatrep _)⟩
    · rename_i xs k
      obtain ⟨p, vs, rfl, hp, rp⟩ := ra
      obtain rfl : y = .int k := rb
      refine op_repT pins s σ H _ _ v u Q I r1 r2 ⟨p, k, vs, rfl, rfl, hp, fun e => hw.1.1.1 ?_, hw.1.1.2.1, hw.1.1.2.2, by rw [rp.length]; exact hw.1.2, hw.2.newT g (rp.flatrep _)⟩
      subst e
      exact List.eq_nil_of_length_eq_zero rp.length.symm
    · exact hw.elim
theorem o_div : OpM X (binaryOp .FloorDiv) wDiv := by
  refine opm_of (fun a b st Q Q' h q => ?_) fun pins s σ H x y v u Q Fr ρ st a b I r1 r2 g ra rb hw => ?_
  · unfold wDiv at q ⊢
    split at q <;> first
      | exact ⟨q.1, h _ _ q.2⟩
      | exact q.elim
  · unfold wDiv at hw
    split at hw
    · rename_i i j
      obtain rfl : x = .int i := ra
      obtain rfl : y = .int j := rb
      exact op_fdivW pins s σ H _ _ v u Q I r1 r2 ⟨i, j, rfl, rfl, hw.1, hw.2.sc g rfl⟩
    · exact hw.elim
theorem o_divN : OpM X (binaryOp .FloorDiv) wDivN := by
  refine opm_of (fun a b st Q Q' h q => ?_) fun pins s σ H x y v u Q Fr ρ st a b I r1 r2 g ra rb hw => ?_
  · unfold wDivN at q ⊢
    split at q <;> first
      | exact ⟨q.1, h _ _ q.2⟩
      | exact q.elim
  · unfold wDivN at hw
    split at hw
    · rename_i i j
      obtain rfl : x = .int i := ra
      obtain rfl : y = .int j := rb
      exact op_fdivN pins s σ H _ _ v u Q I r1 r2 ⟨i, j, rfl, rfl, hw.1, hw.2.sc g rfl⟩
    · exact hw.elim
theorem o_mod : OpM X (binaryOp .Mod) wMod := by
  refine opm_of (fun a b st Q Q' h q => ?_) fun pins s σ H x y v u Q Fr ρ st a b I r1 r2 g ra rb hw => ?_
  · unfold wMod at q ⊢
    split at q <;> first
      | exact ⟨q.1, h _ _ q.2⟩
      | exact q.elim
  · unfold wMod at hw
    split at hw
    · rename_i i j
      obtain rfl : x = .int i := ra
      obtain rfl : y = .int j := rb
      exact op_mod pins s σ H _ _ v u Q I r1 r2 ⟨i, j, rfl, rfl, hw.1, hw.2.sc g rfl⟩
    · exact hw.elim
theorem o_pow : OpM X (binaryOp .Pow) wPow := by
  refine opm_of (fun a b st Q Q' h q => ?_) fun pins s σ H x y v u Q Fr ρ st a b I r1 r2 g ra rb hw => ?_
  · unfold wPow at q ⊢
    split at q <;> first
      | exact ⟨q.1, h _ _ q.2⟩
      | exact q.elim
  · unfold wPow at hw
    split at hw
    · rename_i i j
      obtain rfl : x = .int i := ra
      obtain rfl : y = .int j := rb
      exact op_pow pins s σ H _ _ v u Q I r1 r2 ⟨i, j, rfl, rfl, hw.1, hw.2.sc g rfl⟩
    · exact hw.elim
theorem o_shl : OpM X (binaryOp .LShift) wShl := by
  refine opm_of (fun a b st Q Q' h q => ?_) fun pins s σ H x y v u Q Fr ρ st a b I r1 r2 g ra rb hw => ?_
  · unfold wShl at q ⊢
    split at q <;> first
      | exact ⟨q.1, h _ _ q.2⟩
      | exact q.elim
  · unfold wShl at hw
    split at hw
    · rename_i i j
      obtain rfl : x = .int i := ra
      obtain rfl : y = .int j := rb
      exact op_shl pins s σ H _ _ v u Q I r1 r2 ⟨i, j, rfl, rfl, hw.1, hw.2.sc g rfl⟩
    · exact hw.elim
theorem o_xor : OpM X (binaryOp .BitXor) wXor := by
  refine opm_of (fun a b st Q Q' h q => ?_) fun pins s σ H x y v u Q Fr ρ st a b I r1 r2 g ra rb hw => ?_
  · unfold wXor at q ⊢
    split at q <;> first
      | exact h _ _ q
      | exact q.elim
  · unfold wXor at hw
    split at hw
    · rename_i i j
      obtain rfl : x = .int i := ra
      obtain rfl : y = .int j := rb
      exact op_xor pins s σ H _ _ v u Q I r1 r2 ⟨i, j, rfl, rfl, hw.sc g rfl⟩
    · exact hw.elim
/-! in place, on ints -/
def wAddI : W2 := fun a b st Q => match a, b with
  | .int i, .int j => Q (.int (i + j)) st
  | _, _ => False
def wMulI : W2 := fun a b st Q => match a, b with
  | .int i, .int j => ((-(2 ^ 64) < i ∧ i < 2 ^ 64) ∨ (-(2 ^ 64) < j ∧ j < 2 ^ 64)) ∧ Q (.int (i * j)) st
  | _, _ => False
theorem o_iadd : OpM X (inplaceOp .Add) wAddI := by
  refine opm_of (fun a b st Q Q' h q => ?_) fun pins s σ H x y v u Q Fr ρ st a b I r1 r2 g ra rb hw => ?_
  · unfold wAddI at q ⊢
    split at q <;> first
      | exact h _ _ q
      | exact q.elim
  · unfold wAddI at hw
    split at hw
    · rename_i i j
      obtain rfl : x = .int i := ra
      obtain rfl : y = .int j := rb
      exact iop_add pins s σ H _ _ v u Q I r1 r2 ⟨i, j, rfl, rfl, hw.sc g rfl⟩
    · exact hw.elim
theorem o_isub : OpM X (inplaceOp .Sub) wSub := by
  refine opm_of (fun a b st Q Q' h q => ?_) fun pins s σ H x y v u Q Fr ρ st a b I r1 r2 g ra rb hw => ?_
  · unfold wSub at q ⊢
    split at q <;> first
      | exact h _ _ q
      | exact q.elim
  · unfold wSub at hw
    split at hw
    · rename_i i j
      obtain rfl : x = .int i := ra
      obtain rfl : y = .int j := rb
      exact iop_sub pins s σ H _ _ v u Q I r1 r2 ⟨i, j, rfl, rfl, hw.sc g rfl⟩
    · exact hw.elim
theorem o_imul : OpM X (inplaceOp .Mult) wMulI := by
  refine opm_of (fun a b st Q Q' h q => ?_) fun pins s σ H x y v u Q Fr ρ st a b I r1 r2 g ra rb hw => ?_
  · unfold wMulI at q ⊢
    split at q <;> first
      | exact ⟨q.1, h _ _ q.2⟩
      | exact q.elim
  · unfold wMulI at hw
    split at hw
    · rename_i i j
      obtain rfl : x = .int i := ra
      obtain rfl : y = .int j := rb
      exact iop_mul pins s σ H _ _ v u Q I r1 r2 ⟨i, j, rfl, rfl, hw.1, hw.2.sc g rfl⟩
    · exact hw.elim
theorem u_neg : UnM X (unaryOp .USub) wNeg := by
  refine ⟨fun pins s σ H x v Q I r1 ⟨Fr, ρ, st, a, g, ra, hw⟩ => ?_, fun a st Q Q' h q => ?_⟩
  · unfold wNeg at hw
    split at hw
    · rename_i i
      obtain rfl : x = .int i := ra
      exact un_neg pins s σ H _ v Q I r1 ⟨i, rfl, hw.sc g rfl⟩
    · exact hw.elim
  · unfold wNeg at q ⊢
    split at q <;> first
      | exact h _ _ q
      | exact q.elim

/-! ### order of ints -/
def wCmp (p : Int → Int → Bool) : W2 := fun a b st Q => match a, b with
  | .int i, .int j => Q (.bl (p i j)) st
  | _, _ => False
theorem wCmp.mono {p : Int → Int → Bool} (a b : D) (st : Sto) (Q Q' : WK) (h : ∀ d s, Q d s → Q' d s) (q : wCmp p a b st Q) : wCmp p a b st Q' := by
  unfold wCmp at q ⊢
  split at q <;> first
    | exact h _ _ q
    | exact q.elim
theorem o_cmp {op : CmpOp} {p : Int → Int → Bool} (ho : OpR X (compareOp op) (rI0 fun i j => .bl (p i j))) : OpM X (compareOp op) (wCmp p) := by
  refine opm_of wCmp.mono fun pins s σ H x y v u Q Fr ρ st a b I r1 r2 g ra rb hw => ?_
  unfold wCmp at hw
  split at hw
  · rename_i i j
    obtain rfl : x = .int i := ra
    obtain rfl : y = .int j := rb
    exact ho pins s σ H _ _ v u Q I r1 r2 ⟨i, j, rfl, rfl, hw.sc g rfl⟩
  · exact hw.elim
def wLt : W2 := wCmp fun i j => decide (i < j)
def wLe : W2 := wCmp fun i j => decide (i ≤ j)
def wGt : W2 := wCmp fun i j => decide (j < i)
def wGe : W2 := wCmp fun i j => decide (j ≤ i)
theorem o_lt : OpM X (compareOp .Lt) wLt := o_cmp op_lt
theorem o_le : OpM X (compareOp .LtE) wLe := o_cmp op_le
theorem o_gt : OpM X (compareOp .Gt) wGt := o_cmp op_gt
theorem o_ge : OpM X (compareOp .GtE) wGe := o_cmp op_ge
/-! ### is None -/
def isNon : D → Bool
  | .non => true
  | _ => false
def wIsN : W2 := fun a b st Q => match b with
  | .non => Q (.bl (isNon a)) st
  | _ => False
def wNotN : W2 := fun a b st Q => match b with
  | .non => Q (.bl (!isNon a)) st
  | _ => False
theorem RepU.isNon {K : Frag} {H : Hp} {B : Addr → Prop} {ρ : List Addr} {a : D} {v : V} (r : RepU K H B ρ a v) : decide (v = .non) = M.isNon a := by
  cases a with
  | non => obtain rfl : v = .non := r; rfl
  | bl b => obtain rfl : v = .bl b := r; rfl
  | int b => obtain rfl : v = .int b := r; rfl
  | str b => obtain rfl : v = .str b := r; rfl
  | tup b => obtain ⟨a, vs, rfl, _⟩ := r; rfl
  | lst b => obtain ⟨a, vs, rfl, _⟩ := r; rfl
  | dct b c => obtain ⟨a, o, vs, rfl, _⟩ := r; rfl
  | iset b => obtain ⟨a, vs, rfl, _⟩ := r; rfl
  | rd b => obtain ⟨a, vs, rfl, _⟩ := r; rfl
  | ref b => obtain ⟨a, _, rfl⟩ := r; rfl
theorem o_is : OpM X (compareOp .Is) wIsN := by
  refine opm_of (fun a b st Q Q' h q => ?_) fun pins s σ H x y v u Q Fr ρ st a b I r1 r2 g ra rb hw => ?_
  · unfold wIsN at q ⊢
    split at q <;> first
      | exact h _ _ q
      | exact q.elim
  · unfold wIsN at hw
    split at hw
    · obtain rfl : y = .non := rb
      exact op_isN pins s σ H _ _ v u Q I r1 r2 ⟨rfl, by rw [ra.isNon]; exact hw.sc g rfl⟩
    · exact hw.elim
theorem o_isnot : OpM X (compareOp .IsNot) wNotN := by
  refine opm_of (fun a b st Q Q' h q => ?_) fun pins s σ H x y v u Q Fr ρ st a b I r1 r2 g ra rb hw => ?_
  · unfold wNotN at q ⊢
    split at q <;> first
      | exact h _ _ q
      | exact q.elim
  · unfold wNotN at hw
    split at hw
    · obtain rfl : y = .non := rb
      exact op_notN pins s σ H _ _ v u Q I r1 r2 ⟨rfl, by rw [ra.isNon]; exact hw.sc g rfl⟩
    · exact hw.elim
end

/-! ### == of data -/
mutual
def pd : D → PyData
  | .non => .none
  | .bl b => .bool b
  | .int i => .int i
  | .str x => .str x
  | .tup xs => .tuple (pdL xs)
  | .lst xs => .list (pdL xs)
  | .rd xs => .list (pdL xs)
  | .dct _ _ => .none
  | .iset _ => .none
  | .ref _ => .none
def pdL : List D → List PyData
  | [] => []
  | d :: ds => pd d :: pdL ds
end
mutual
def ShN : Nat → D → Prop
  | _, .non => True
  | _, .bl _ => True
  | _, .int _ => True
  | _, .str x => PyData.strOk x = true
  | 0, .tup _ => False
  | n + 1, .tup xs => ShL n xs
  | 0, .lst _ => False
  | n + 1, .lst xs => ShL n xs
  | 0, .rd _ => False
  | n + 1, .rd xs => ShL n xs
  | _, .dct _ _ => False
  | _, .iset _ => False
  | _, .ref _ => False
def ShL : Nat → List D → Prop
  | _, [] => True
  | n, d :: ds => ShN n d ∧ ShL n ds
end
mutual
def eqD : D → D → Bool
  | .non, .non => true
  | .bl a, .bl b => a == b
  | .bl a, .int j => decide ((if a then 1 else 0) = j)
  | .int i, .bl b => decide (i = (if b then 1 else 0))
  | .int i, .int j => decide (i = j)
  | .str x, .str y => decide (x = y)
  | .tup xs, .tup ys => eqL xs ys
  | .lst xs, .lst ys => eqL xs ys
  | .lst xs, .rd ys => eqL xs ys
  | .rd xs, .lst ys => eqL xs ys
  | .rd xs, .rd ys => eqL xs ys
  | _, _ => false
def eqL : List D → List D → Bool
  | [], [] => true
  | x :: xs, y :: ys => eqD x y && eqL xs ys
  | _, _ => false
end
end M

/-! M6: == and in of data, displays, items, slices, built-ins, methods. -/
namespace M
open PySem PySem.Spec PyProof.Rows L2

mutual
theorem eqD_pd : ∀ (n m : Nat) (a b : D), ShN n a → ShN m b → eqD a b = PyData.eqv (pd a) (pd b)
  | n, m, .non, b, ha, hb => by cases b <;> first | rfl | (simp only [ShN] at hb) | (cases m <;> rfl)
  | n, m, .bl x, b, ha, hb => by
    cases b <;> first
      | rfl
      | (simp only [ShN] at hb)
  | n, m, .int x, b, ha, hb => by
    cases b <;> first
      | rfl
      | (simp only [ShN] at hb)
  | n, m, .str x, b, ha, hb => by
    cases b <;> first
      | rfl
      | (simp only [ShN] at hb)
      | (simp only [eqD, pd, PyData.eqv]; exact (Bool.beq_eq_decide_eq _ _).symm)
  | 0, m, .tup xs, b, ha, hb => by simp only [ShN] at ha
  | 0, m, .lst xs, b, ha, hb => by simp only [ShN] at ha
  | 0, m, .rd xs, b, ha, hb => by simp only [ShN] at ha
  | n + 1, m, .tup xs, b, ha, hb => by
    simp only [ShN] at ha
    cases b <;> first
      | rfl
      | (simp only [ShN] at hb; done)
      | (cases m with
         | zero => simp only [ShN] at hb
         | succ m => simp only [ShN] at hb; simp only [eqD, pd, PyData.eqv]; first | exact eqL_pd n m _ _ ha hb | rfl)
  | n + 1, m, .lst xs, b, ha, hb => by
    simp only [ShN] at ha
    cases b <;> first
      | rfl
      | (simp only [ShN] at hb; done)
      | (cases m with
         | zero => simp only [ShN] at hb
         | succ m => simp only [ShN] at hb; simp only [eqD, pd, PyData.eqv]; first | exact eqL_pd n m _ _ ha hb | rfl)
  | n + 1, m, .rd xs, b, ha, hb => by
    simp only [ShN] at ha
    cases b <;> first
      | rfl
      | (simp only [ShN] at hb; done)
      | (cases m with
         | zero => simp only [ShN] at hb
         | succ m => simp only [ShN] at hb; simp only [eqD, pd, PyData.eqv]; first | exact eqL_pd n m _ _ ha hb | rfl)
  | n, m, .dct _ _, b, ha, hb => by simp only [ShN] at ha
  | n, m, .iset _, b, ha, hb => by simp only [ShN] at ha
  | n, m, .ref _, b, ha, hb => by simp only [ShN] at ha
theorem eqL_pd : ∀ (n m : Nat) (a b : List D), ShL n a → ShL m b → eqL a b = PyData.eqvAll (pdL a) (pdL b)
  | n, m, [], [], ha, hb => rfl
  | n, m, [], y :: ys, ha, hb => rfl
  | n, m, x :: xs, [], ha, hb => rfl
  | n, m, x :: xs, y :: ys, ha, hb => by
    simp only [ShL] at ha hb
    simp only [eqL, pdL, PyData.eqvAll]
    rw [eqD_pd n m x y ha.1 hb.1, eqL_pd n m xs ys ha.2 hb.2]
end
mutual
theorem sh_pd : ∀ (n : Nat) (a : D), ShN n a → (pd a).canLay0 = true ∧ (pd a).depth ≤ n
  | n, .non, _ => ⟨rfl, Nat.zero_le _⟩
  | n, .bl x, _ => ⟨rfl, Nat.zero_le _⟩
  | n, .int x, _ => ⟨rfl, Nat.zero_le _⟩
  | n, .str x, h => ⟨by simpa [ShN, pd, PyData.canLay0] using h, Nat.zero_le _⟩
  | 0, .tup xs, ha => by simp only [ShN] at ha
  | 0, .lst xs, ha => by simp only [ShN] at ha
  | 0, .rd xs, ha => by simp only [ShN] at ha
  | n + 1, .tup xs, ha => by
    simp only [ShN] at ha
    obtain ⟨h1, h2⟩ := sh_pdL n xs ha
    exact ⟨by simpa [pd, PyData.canLay0] using h1, by simp only [pd, PyData.depth]; omega⟩
  | n + 1, .lst xs, ha => by
    simp only [ShN] at ha
    obtain ⟨h1, h2⟩ := sh_pdL n xs ha
    exact ⟨by simpa [pd, PyData.canLay0] using h1, by simp only [pd, PyData.depth]; omega⟩
  | n + 1, .rd xs, ha => by
    simp only [ShN] at ha
    obtain ⟨h1, h2⟩ := sh_pdL n xs ha
    exact ⟨by simpa [pd, PyData.canLay0] using h1, by simp only [pd, PyData.depth]; omega⟩
  | n, .dct _ _, ha => by simp only [ShN] at ha
  | n, .iset _, ha => by simp only [ShN] at ha
  | n, .ref _, ha => by simp only [ShN] at ha
theorem sh_pdL : ∀ (n : Nat) (a : List D), ShL n a → PyData.canLayAll0 (pdL a) = true ∧ PyData.depthAll (pdL a) ≤ n
  | n, [], _ => ⟨rfl, Nat.zero_le _⟩
  | n, x :: xs, h => by
    simp only [ShL] at h
    obtain ⟨h1, h2⟩ := sh_pd n x h.1
    obtain ⟨h3, h4⟩ := sh_pdL n xs h.2
    refine ⟨by simp [pdL, PyData.canLayAll0, h1, h3], ?_⟩
    simp only [pdL, PyData.depthAll]
    omega
end
theorem sh_shaped {n : Nat} {a : D} (h : ShN n a) (hn : n ≤ 60) : SeqAt.shaped (pd a) = true := by
  obtain ⟨h1, h2⟩ := sh_pd n a h
  unfold SeqAt.shaped
  rw [h1, Bool.true_and]
  exact decide_eq_true (by omega)
section
variable {K : Frag} {H : Hp} {B : Addr → Prop} {ρ : List Addr}
mutual
theorem Rep.dp : ∀ (n : Nat) (d : D) (v : V), ShN n d → Rep K H B d v → Dp K H v (pd d)
  | n, .non, v, _, r => by obtain rfl : v = .non := r; exact .non
  | n, .bl b, v, _, r => by obtain rfl : v = .bl b := r; exact .bl b
  | n, .int b, v, _, r => by obtain rfl : v = .int b := r; exact .int b
  | n, .str b, v, _, r => by obtain rfl : v = .str b := r; exact .str b
  | 0, .tup xs, v, ha, _ => by simp only [ShN] at ha
  | 0, .lst xs, v, ha, _ => by simp only [ShN] at ha
  | 0, .rd xs, v, ha, _ => by simp only [ShN] at ha
  | n + 1, .tup xs, v, ha, r => by
    simp only [ShN] at ha
    obtain ⟨a, vs, rfl, h, rl⟩ := r
    exact .tup h (RepL.dp n xs vs ha rl)
  | n + 1, .lst xs, v, ha, r => by
    simp only [ShN] at ha
    obtain ⟨a, vs, rfl, nb, h, rl⟩ := r
    exact .lst (.of h) (RepL.dp n xs vs ha rl)
  | n + 1, .rd xs, v, ha, r => by
    simp only [ShN] at ha
    obtain ⟨a, vs, rfl, h, rl⟩ := r
    exact .lst h.sq (RepL.dp n xs vs ha rl)
  | n, .dct _ _, _, ha, _ => by simp only [ShN] at ha
  | n, .iset _, _, ha, _ => by simp only [ShN] at ha
  | n, .ref _, _, ha, _ => by simp only [ShN] at ha
theorem RepL.dp : ∀ (n : Nat) (ds : List D) (vs : List V), ShL n ds → RepL K H B ds vs → DpAll K H vs (pdL ds)
  | n, [], vs, _, r => by
    have e : vs = [] := r
    subst e
    exact .nil
  | n, d :: ds, vs, ha, r => by
    simp only [ShL] at ha
    obtain ⟨v, rest, rfl, r1, r2⟩ := r
    exact .cons (Rep.dp n d v ha.1 r1) (RepL.dp n ds rest ha.2 r2)
end
end
theorem RepU.rep {K : Frag} {H : Hp} {B : Addr → Prop} {ρ : List Addr} {n : Nat} {d : D} {v : V} (s : ShN n d) (r : RepU K H B ρ d v) : Rep K H B d v := by
  cases d <;> first
    | (simp only [ShN] at s; done)
    | exact r
/-- a == b -/
def wEq : W2 := fun a b st Q => match a, b with
  | .int i, .int j => Q (.bl (decide (i = j))) st
  | .bl i, .bl j => Q (.bl (i == j)) st
  | .str i, .str j => Q (.bl (decide (i = j))) st
  | a, b => ShN 60 a ∧ ShN 60 b ∧ Q (.bl (eqD a b)) st
def wNe : W2 := fun a b st Q => match a, b with
  | .int i, .int j => Q (.bl (!decide (i = j))) st
  | .bl i, .bl j => Q (.bl (!(i == j))) st
  | .str i, .str j => Q (.bl (!decide (i = j))) st
  | a, b => ShN 60 a ∧ ShN 60 b ∧ Q (.bl (!eqD a b)) st
section
variable {X : Cx} {k : Nat}
theorem room64 (hr : Room k X.A) : X.A.units + 64 < cLine := hr.units
theorem o_eq (hr : Room k X.A) : OpM X (compareOp .Eq) wEq := by
  refine opm_of (fun a b st Q Q' h q => ?_) fun pins s σ H x y v u Q Fr ρ st a b I r1 r2 g ra rb hw => ?_
  · unfold wEq at q ⊢
    split at q <;> first
      | exact h _ _ q
      | exact ⟨q.1, q.2.1, h _ _ q.2.2⟩
  · unfold wEq at hw
    split at hw
    · rename_i i j
      obtain rfl : x = .int i := ra
      obtain rfl : y = .int j := rb
      exact op_eq pins s σ H _ _ v u Q I r1 r2 ⟨rfl, by rw [dec_int, Bool.beq_eq_decide_eq]; exact hw.sc g rfl⟩
    · rename_i i j
      obtain rfl : x = .bl i := ra
      obtain rfl : y = .bl j := rb
      exact op_eq pins s σ H _ _ v u Q I r1 r2 ⟨rfl, by rw [dec_bl]; exact hw.sc g rfl⟩
    · rename_i i j
      obtain rfl : x = .str i := ra
      obtain rfl : y = .str j := rb
      exact op_eq pins s σ H _ _ v u Q I r1 r2 ⟨rfl, by rw [dec_str, Bool.beq_eq_decide_eq]; exact hw.sc g rfl⟩
    · obtain ⟨sa, sb, hw⟩ := hw
      refine op_eqD (room64 hr) pins s σ H _ _ v u Q I r1 r2 ⟨pd a, pd b, Rep.dp _ _ _ sa (ra.rep sa), Rep.dp _ _ _ sb (rb.rep sb), sh_shaped sa (by decide), sh_shaped sb (by decide), ?_⟩
      rw [← eqD_pd _ _ _ _ sa sb]
      exact hw.sc g rfl
theorem o_ne (hr : Room k X.A) : OpM X (compareOp .NotEq) wNe := by
  refine opm_of (fun a b st Q Q' h q => ?_) fun pins s σ H x y v u Q Fr ρ st a b I r1 r2 g ra rb hw => ?_
  · unfold wNe at q ⊢
    split at q <;> first
      | exact h _ _ q
      | exact ⟨q.1, q.2.1, h _ _ q.2.2⟩
  · unfold wNe at hw
    split at hw
    · rename_i i j
      obtain rfl : x = .int i := ra
      obtain rfl : y = .int j := rb
      exact op_ne pins s σ H _ _ v u Q I r1 r2 ⟨rfl, by rw [dec_int, Bool.beq_eq_decide_eq]; exact hw.sc g rfl⟩
    · rename_i i j
      obtain rfl : x = .bl i := ra
      obtain rfl : y = .bl j := rb
      exact op_ne pins s σ H _ _ v u Q I r1 r2 ⟨rfl, by rw [dec_bl]; exact hw.sc g rfl⟩
    · rename_i i j
      obtain rfl : x = .str i := ra
      obtain rfl : y = .str j := rb
      exact op_ne pins s σ H _ _ v u Q I r1 r2 ⟨rfl, by rw [dec_str, Bool.beq_eq_decide_eq]; exact hw.sc g rfl⟩
    · obtain ⟨sa, sb, hw⟩ := hw
      refine op_neD (room64 hr) pins s σ H _ _ v u Q I r1 r2 ⟨pd a, pd b, Rep.dp _ _ _ sa (ra.rep sa), Rep.dp _ _ _ sb (rb.rep sb), sh_shaped sa (by decide), sh_shaped sb (by decide), ?_⟩
      rw [← eqD_pd _ _ _ _ sa sb]
      exact hw.sc g rfl
end

/-! ### x in a list or tuple -/
/-- the items of what stands: a tuple, a list, one's own list -/
def seqK (Q : List D → Prop) (d : D) (st : Sto) : Prop := match d with
  | .tup xs => Q xs
  | .lst xs => Q xs
  | .rd xs => Q xs
  | .ref n => match nth st n with
    | some (.lst xs) => Q xs
    | _ => False
  | _ => False
theorem seqK.mono {Q Q' : List D → Prop} {d : D} {st : Sto} (h : ∀ xs, Q xs → Q' xs) (q : seqK Q d st) : seqK Q' d st := by
  unfold seqK at q ⊢
  split at q <;> first
    | exact h _ q
    | (split at q <;> first | exact h _ q | exact q.elim)
    | exact q.elim
theorem seqK.rep {K : Frag} {H : Hp} {Fr : Addr → Prop} {ρ : List Addr} {st : Sto} {Q : List D → Prop} {d : D} {v : V} (g : Gs K H Fr ρ st) (r : RepU K H (Blk Fr ρ st) ρ d v) (q : seqK Q d st) :
    ∃ a vs xs, v = .ref a ∧ RepL K H (Blk Fr ρ st) xs vs ∧ Q xs ∧ (SqL K H a vs ∨ SqT K H a vs) := by
  unfold seqK at q
  split at q
  · obtain ⟨a, vs, e, h, rl⟩ := r
    exact ⟨a, vs, _, e, rl, q, .inr h⟩
  · obtain ⟨a, vs, e, nb, h, rl⟩ := r
    exact ⟨a, vs, _, e, rl, q, .inl (.of h)⟩
  · obtain ⟨a, vs, e, h, rl⟩ := r
    exact ⟨a, vs, _, e, rl, q, .inl h.sq⟩
  · split at q
    · rename_i n xs hn
      obtain ⟨a, e1, e2⟩ := r
      obtain ⟨a', h, e3, e4, vs, e5, rl⟩ := g.ob _ _ hn
      rw [e1] at e3
      cases e3
      subst e5
      exact ⟨a, vs, xs, e2, rl, q, .inl (.of e4)⟩
    · exact q.elim
  · exact q.elim
def wIn : W2 := fun a b st Q => ShN 50 a ∧ seqK (fun xs => ShL 50 xs ∧ Q (.bl (xs.any fun y => eqD y a)) st) b st
def wNotIn : W2 := fun a b st Q => ShN 50 a ∧ seqK (fun xs => ShL 50 xs ∧ Q (.bl (!xs.any fun y => eqD y a)) st) b st
theorem any_pd {n m : Nat} {a : D} : ∀ {xs : List D}, ShN n a → ShL m xs → ((pdL xs).any fun y => PyData.eqv y (pd a)) = xs.any fun y => eqD y a
  | [], _, _ => rfl
  | x :: xs, ha, hx => by
    simp only [ShL] at hx
    simp only [pdL, List.any_cons]
    rw [any_pd ha hx.2, eqD_pd _ _ _ _ hx.1 ha]
section
variable {X : Cx} {k : Nat}
theorem in_aux (hr : Room k X.A) {pins : List (Addr × Obj)} {s : Shared} {σ : St} {H : Hp} {x y : V} {v u : Value} {Q : VK} {Fr : Addr → Prop} {ρ : List Addr} {st : Sto} {a b : D} (I : Inv X pins σ H s) (r1 : RelV x v) (r2 : RelV y u) (g : Gs X.K H Fr ρ st)
    (ra : RepU X.K H (Blk Fr ρ st) ρ a x) (rb : RepU X.K H (Blk Fr ρ st) ρ b y) (sa : ShN 50 a) :
    (seqK (fun xs => ShL 50 xs ∧ FinE X.K Fr H ρ st Q (.bl (xs.any fun y => eqD y a)) st) b st → wpAny (model X.prog X.w) X.A (compareOp .In v u) (EP X pins σ Q) X.xe s) ∧
    (seqK (fun xs => ShL 50 xs ∧ FinE X.K Fr H ρ st Q (.bl (!xs.any fun y => eqD y a)) st) b st → wpAny (model X.prog X.w) X.A (compareOp .NotIn v u) (EP X pins σ Q) X.xe s) := by
  obtain ⟨as, rx⟩ := Dp.reads I (pd a) x v (Rep.dp _ _ _ sa (ra.rep sa)) r1
  obtain ⟨ca, da⟩ := sh_pd _ _ sa
  have hu := room64 hr
  constructor
  all_goals
    intro q
    obtain ⟨p, vs, xs, rfl, rl, ⟨sx, q⟩, h⟩ := q.rep g rb
    obtain ⟨cx, dx⟩ := sh_pdL _ _ sx
    cases r2
    rcases h with h | h
    · obtain ⟨its, rv, ⟨o, n, ho, hc, _, hd⟩, _⟩ := I.list h
      obtain ⟨bs, rs⟩ := Dp.readsAll I (pdL xs) vs its (RepL.dp _ _ _ sx rl) rv
      first
        | exact SeqAt.in_list_reads (Reads.list ho hc hd rs) rx cx ca (by omega) (by rw [any_pd sa sx]; exact ⟨.bl _, H, I, rfl, q.sc g rfl⟩)
        | exact SeqAt.notIn_list_reads (Reads.list ho hc hd rs) rx cx ca (by omega) (by rw [any_pd sa sx]; exact ⟨.bl _, H, I, rfl, q.sc g rfl⟩)
    · obtain ⟨its, rv, ⟨o, ho, hc, n, hd⟩, _⟩ := I.tuple h
      obtain ⟨bs, rs⟩ := Dp.readsAll I (pdL xs) vs its (RepL.dp _ _ _ sx rl) rv
      first
        | exact SeqAt.in_tuple_reads (Reads.tuple ho hc hd rs) rx cx ca (by omega) (by rw [any_pd sa sx]; exact ⟨.bl _, H, I, rfl, q.sc g rfl⟩)
        | exact SeqAt.notIn_tuple_reads (Reads.tuple ho hc hd rs) rx cx ca (by omega) (by rw [any_pd sa sx]; exact ⟨.bl _, H, I, rfl, q.sc g rfl⟩)
theorem o_in (hr : Room k X.A) : OpM X (compareOp .In) wIn :=
  opm_of (fun a b st Q Q' h q => ⟨q.1, q.2.mono fun xs z => ⟨z.1, h _ _ z.2⟩⟩) fun pins s σ H x y v u Q Fr ρ st a b I r1 r2 g ra rb hw => (in_aux hr I r1 r2 g ra rb hw.1).1 hw.2
theorem o_notin (hr : Room k X.A) : OpM X (compareOp .NotIn) wNotIn :=
  opm_of (fun a b st Q Q' h q => ⟨q.1, q.2.mono fun xs z => ⟨z.1, h _ _ z.2⟩⟩) fun pins s σ H x y v u Q Fr ρ st a b I r1 r2 g ra rb hw => (in_aux hr I r1 r2 g ra rb hw.1).2 hw.2
end
end M

/-! M7: displays, items, slices, stores, built-ins, methods. -/
namespace M
open PySem PySem.Spec PyProof.Rows L2

/-! ### displays -/
def wTup (w : WA) : WE := fun env st Q => w env st fun ds st' => NRL ds ∧ ds.length ≤ big ∧ Q (.tup ds) st'
def wLst (w : WA) : WE := fun env st Q => w env st fun ds st' => NRL ds ∧ ds.length ≤ big ∧ Q (.lst ds) st'
/-- a list of one's own -/
def wLstR (w : WA) : WE := fun env st Q => w env st fun ds st' => NRL ds ∧ ds.length ≤ big ∧ Q (.ref st'.length) (st' ++ [some (.lst ds)])
section
variable {X : Cx} {es : List Expr} {w : WA} {pos : Pos}
theorem xtup {x1} (h : AX X es w) : EX X (.Tuple es x1 pos) (wTup w) := by
  refine ⟨(pe_tup h.run).imp fun σ H Q ⟨Fr, ρ, env, st, g, E, hw⟩ => ?_, fun env st Q Q' hQ q => h.mono _ _ _ _ (fun ds s q => ⟨q.1, q.2.1, hQ _ _ q.2.2⟩) q⟩
  refine ⟨Fr, ρ, env, st, g, E, h.mono _ _ _ _ (fun ds s q => ?_) hw⟩
  intro ρ1 vs H1 S1 r1
  exact ⟨by rw [m_big, r1.length]; exact q.2.1, FinE.newT S1.g (FinE.step S1 q.2.2) (r1.pure q.1)⟩
theorem xlst (h : AX X es w) : EX X (.List es pos) (wLst w) := by
  refine ⟨(pe_lst h.run).imp fun σ H Q ⟨Fr, ρ, env, st, g, E, hw⟩ => ?_, fun env st Q Q' hQ q => h.mono _ _ _ _ (fun ds s q => ⟨q.1, q.2.1, hQ _ _ q.2.2⟩) q⟩
  refine ⟨Fr, ρ, env, st, g, E, h.mono _ _ _ _ (fun ds s q => ?_) hw⟩
  intro ρ1 vs H1 S1 r1
  exact ⟨by rw [m_big, r1.length]; exact q.2.1, FinE.newL S1.g (FinE.step S1 q.2.2) (r1.pure q.1)⟩
theorem xlstR (h : AX X es w) : EX X (.List es pos) (wLstR w) := by
  refine ⟨(pe_lst h.run).imp fun σ H Q ⟨Fr, ρ, env, st, g, E, hw⟩ => ?_, fun env st Q Q' hQ q => h.mono _ _ _ _ (fun ds s q => ⟨q.1, q.2.1, hQ _ _ q.2.2⟩) q⟩
  refine ⟨Fr, ρ, env, st, g, E, h.mono _ _ _ _ (fun ds s q => ?_) hw⟩
  intro ρ1 vs H1 S1 r1
  exact ⟨by rw [m_big, r1.length]; exact q.2.1, FinE.newR S1.g (FinE.step S1 q.2.2) (r1.pure q.1)⟩
end

/-! ### items -/
def wIx : W2 := fun a b st Q => match b with
  | .int i => seqK (fun xs => ∃ d, atI xs i = some d ∧ Q d st) a st
  | _ => False
theorem atI_rep {K : Frag} {H : Hp} {B : Addr → Prop} {xs : List D} {vs : List V} {i : Int} {d : D} (r : RepL K H B xs vs) (h : atI xs i = some d) : ∃ v, atI vs i = some v ∧ Rep K H B d v := by
  unfold atI at h ⊢
  rw [r.length]
  cases e : ixN xs.length i with
  | none => rw [e] at h; cases h
  | some j =>
    rw [e] at h
    exact r.get h
section
variable {X : Cx} {a b : Expr} {wa wb : WE} {pos : Pos}
theorem xix (ha : EX X a wa) (hb : EX X b wb) (hs : PlainIx b := by exact fun _ _ => rfl) : EX X (.Subscript a b pos) (wOp wIx wa wb) := by
  have mn : ∀ a b st Q Q', (∀ d s, Q d s → Q' d s) → wIx a b st Q → wIx a b st Q' := fun a b st Q Q' h q => by
    unfold wIx at q ⊢
    split at q
    · exact q.mono fun xs ⟨d, e, z⟩ => ⟨d, e, h _ _ z⟩
    · exact q.elim
  have ir : IxR X (LO X.K wIx) := by
    intro value slice pins s σ H x y v u Q I r1 r2 q hs
    obtain ⟨Fr, ρ, st, a, b, g, ra, rb, hw⟩ := q
    unfold wIx at hw
    split at hw
    · rename_i i
      obtain rfl : y = .int i := rb
      obtain ⟨p, vs, xs, rfl, rl, ⟨d, e, q⟩, h⟩ := hw.rep g ra
      obtain ⟨z, e2, rz⟩ := atI_rep rl e
      rcases h with h | h
      · exact ix_list value slice pins s σ H _ _ v u Q I r1 r2 ⟨p, vs, i, z, rfl, rfl, h, e2, q.sc g rz⟩ hs
      · exact ix_tup value slice pins s σ H _ _ v u Q I r1 r2 ⟨p, vs, i, z, rfl, rfl, h, e2, q.sc g rz⟩ hs
    · exact hw.elim
  exact ⟨(pe_ix ir ha.run hb.run hs).imp fun σ H Q h => h.op ha.mono hb.mono mn, fun env st Q Q' hQ h => ha.mono _ _ _ _ (fun d s q => hb.mono _ _ _ _ (fun d2 s2 q2 => mn _ _ _ _ _ hQ q2) q) h⟩
end

/-! ### slices -/
abbrev WO := Env → Sto → (Option Int → Sto → Prop) → Prop
def FinO (K : Frag) (Fr : Addr → Prop) (H : Hp) (ρ : List Addr) (st : Sto) (Q : Option Int → Hp → Prop) : Option Int → Sto → Prop := fun b st' => ∀ ρ' H', Step K Fr H ρ st H' ρ' st' → Q b H'
def LOp (K : Frag) (w : WO) : TO := fun σ H Q => ∃ Fr ρ env st, Gs K H Fr ρ st ∧ EnvR K H (Blk Fr ρ st) ρ env σ ∧ w env st (FinO K Fr H ρ st Q)
structure OX (X : Cx) (e : Option Expr) (w : WO) : Prop where
  run : PO X e (LOp X.K w)
  mono : ∀ env st Q Q', (∀ d s, Q d s → Q' d s) → w env st Q → w env st Q'
def wNoP : WO := fun _ st Q => Q none st
def wPart (w : WE) : WO := fun env st Q => w env st fun d st' => match d with
  | .int i => Q (some i) st'
  | _ => False
def cutD (xs : List D) (lo hi : Option Int) : List D := (xs.drop (HT.sIx xs.length 0 lo)).take (HT.sIx xs.length xs.length hi - HT.sIx xs.length 0 lo)
theorem RepL.cut {K : Frag} {H : Hp} {B : Addr → Prop} {xs : List D} {vs : List V} (r : RepL K H B xs vs) (lo hi : Option Int) : RepL K H B (cutD xs lo hi) (cutV vs lo hi) := by
  unfold cutD cutV
  rw [r.length]
  exact (r.drop _).take _
def W3 := D → Option Int → Option Int → Sto → WK → Prop
def wCut : W3 := fun a lo hi st Q => match a with
  | .tup xs => Q (.tup (cutD xs lo hi)) st
  | .lst xs => Q (.lst (cutD xs lo hi)) st
  | .rd xs => Q (.lst (cutD xs lo hi)) st
  | .ref n => match nth st n with
    | some (.lst xs) => Q (.lst (cutD xs lo hi)) st
    | _ => False
  | _ => False
def wSl (wa : WE) (wl wh : WO) : WE := fun env st Q => wa env st fun a st1 => wl env st1 fun lo st2 => wh env st2 fun hi st3 => wCut a lo hi st3 Q
def LSl (K : Frag) (w : W3) : V → Option Int → Option Int → Hp → VK → Prop := fun x lo hi H Q => ∃ Fr ρ st a, Gs K H Fr ρ st ∧ RepU K H (Blk Fr ρ st) ρ a x ∧ w a lo hi st (FinE K Fr H ρ st Q)
theorem wCut.mono (a : D) (lo hi : Option Int) (st : Sto) (Q Q' : WK) (h : ∀ d s, Q d s → Q' d s) (q : wCut a lo hi st Q) : wCut a lo hi st Q' := by
  unfold wCut at q ⊢
  split at q <;> first
    | exact h _ _ q
    | (split at q <;> first | exact h _ _ q | exact q.elim)
    | exact q.elim
section
variable {X : Cx}
theorem onone : OX X none wNoP := ⟨⟨fun pins s σ H Q I ⟨Fr, ρ, env, st, g, E, hw⟩ => po_none.run pins s σ H Q I (hw ρ H (.refl g))⟩, fun _ _ _ _ h q => h _ _ q⟩
theorem osome {e : Expr} {w : WE} (h : EX X e w) : OX X (some e) (wPart w) := by
  refine ⟨⟨fun pins s σ H Q I ⟨Fr, ρ, env, st, g, E, hw⟩ => (po_some h.run).run pins s σ H Q I ⟨Fr, ρ, env, st, g, E, h.mono _ _ _ _ (fun d s q => ?_) hw⟩⟩, fun env st Q Q' hQ q => h.mono _ _ _ _ (fun d s q => ?_) q⟩
  · intro ρ1 v H1 S1 r1
    cases d <;> first
      | exact q.elim
      | exact ⟨_, r1, q ρ1 H1 S1⟩
  · cases d <;> first
      | exact q.elim
      | exact hQ _ _ q
theorem slr_cut : SlR X (LSl X.K wCut) := by
  intro pins s σ H x v vl vu lo hi sl Q I r1 hs pl pu q
  obtain ⟨Fr, ρ, st, a, g, ra, hw⟩ := q
  unfold wCut at hw
  split at hw
  · rename_i xs
    obtain ⟨p, vs, rfl, h, rl⟩ := ra
    refine sl_tupA pins s σ H _ v vl vu lo hi sl Q I r1 hs pl pu ⟨p, vs, rfl, h, fun e => ?_, fun _ => hw.newT g (rl.cut lo hi)⟩
    refine hw.sc g ⟨p, vs, rfl, h, ?_⟩
    have e1 : cutD xs lo hi = xs := by
      unfold cutD
      rw [← rl.length, e.1, e.2, List.drop_zero, Nat.sub_zero, rl.length, List.take_length]
    rw [e1]
    exact rl
  · obtain ⟨p, vs, rfl, nb, h, rl⟩ := ra
    exact sl_list pins s σ H _ v vl vu lo hi sl Q I r1 hs pl pu ⟨p, vs, rfl, .of h, hw.newL g (rl.cut lo hi)⟩
  · obtain ⟨p, vs, rfl, h, rl⟩ := ra
    exact sl_list pins s σ H _ v vl vu lo hi sl Q I r1 hs pl pu ⟨p, vs, rfl, h.sq, hw.newL g (rl.cut lo hi)⟩
  · split at hw
    · rename_i n xs hn
      obtain ⟨p, e1, rfl⟩ := ra
      obtain ⟨p', h', e2, e3, vs, e4, rl⟩ := g.ob _ _ hn
      rw [e1] at e2
      cases e2
      subst e4
      exact sl_list pins s σ H _ v vl vu lo hi sl Q I r1 hs pl pu ⟨p, vs, rfl, .of e3, hw.newL g (rl.cut lo hi)⟩
    · exact hw.elim
  · exact hw.elim
theorem xsl {e : Expr} {lo hi : Option Expr} {p2 pos : Pos} {wa : WE} {wl wh : WO} (he : EX X e wa) (hl : OX X lo wl) (hh : OX X hi wh) : EX X (.Subscript e (.Slice lo hi none p2) pos) (wSl wa wl wh) := by
  refine ⟨(pe_slice slr_cut he.run hl.run hh.run).imp fun σ H Q ⟨Fr, ρ, env, st, g, E, hw⟩ => ?_, fun env st Q Q' hQ q => he.mono _ _ _ _ (fun d s q => hl.mono _ _ _ _ (fun l s q => hh.mono _ _ _ _ (fun u s q => wCut.mono _ _ _ _ _ _ hQ q) q) q) q⟩
  refine ⟨Fr, ρ, env, st, g, E, he.mono _ _ _ _ (fun d s q => ?_) hw⟩
  intro ρ1 v H1 S1 r1
  refine ⟨Fr, ρ1, env, s, S1.g, E.step g S1, hl.mono _ _ _ _ (fun l s2 q2 => ?_) q⟩
  intro ρ2 H2 S2
  refine ⟨Fr, ρ2, env, s2, S2.g, E.step g (S1.trans S2), hh.mono _ _ _ _ (fun u s3 q3 => ?_) q2⟩
  intro ρ3 H3 S3
  exact ⟨Fr, ρ3, s3, d, S3.g, r1.step S1.g (S2.trans S3), wCut.mono _ _ _ _ _ _ (fun d4 s4 q4 => FinE.step (S1.trans (S2.trans S3)) q4) q3⟩
/-- xs[::-1] of a list -/
def wRev : W1 := fun a st Q => match a with
  | .lst xs => Q (.lst xs.reverse) st
  | .rd xs => Q (.lst xs.reverse) st
  | .ref n => match nth st n with
    | some (.lst xs) => Q (.lst xs.reverse) st
    | _ => False
  | _ => False
theorem wRev.mono (a : D) (st : Sto) (Q Q' : WK) (h : ∀ d s, Q d s → Q' d s) (q : wRev a st Q) : wRev a st Q' := by
  unfold wRev at q ⊢
  split at q <;> first
    | exact h _ _ q
    | (split at q <;> first | exact h _ _ q | exact q.elim)
    | exact q.elim
theorem xrevL {e : Expr} {wa : WE} {k : Nat} {p1 p2 p3 pos : Pos} (he : EX X e wa) : EX X (.Subscript e (.Slice none none (some (.UnaryOp .USub (.Constant (.int 1) k p1) p2)) p3) pos) (wUn wRev wa) := by
  refine ⟨(pe_revL he.run).imp fun σ H Q ⟨Fr, ρ, env, st, g, E, hw⟩ => ?_, fun env st Q Q' hQ q => he.mono _ _ _ _ (fun d s q => wRev.mono _ _ _ _ hQ q) q⟩
  refine ⟨Fr, ρ, env, st, g, E, he.mono _ _ _ _ (fun d s q => ?_) hw⟩
  intro ρ1 v H1 S1 r1
  have q' : wRev d s (FinE X.K Fr H1 ρ1 s Q) := wRev.mono _ _ _ _ (fun d s q => FinE.step S1 q) q
  unfold wRev at q'
  split at q'
  · obtain ⟨p, vs, rfl, nb, h, rl⟩ := r1
    exact ⟨p, vs, rfl, .of h, q'.newL S1.g rl.reverse⟩
  · obtain ⟨p, vs, rfl, h, rl⟩ := r1
    exact ⟨p, vs, rfl, h.sq, q'.newL S1.g rl.reverse⟩
  · split at q'
    · rename_i n xs hn
      obtain ⟨p, e1, rfl⟩ := r1
      obtain ⟨p', h', e2, e3, vs, e4, rl⟩ := S1.g.ob _ _ hn
      rw [e1] at e2
      cases e2
      subst e4
      exact ⟨p, vs, rfl, .of e3, q'.newL S1.g rl.reverse⟩
    · exact q'.elim
  · exact q'.elim
end

/-! ### xs[i] = v -/
def gIx (wo wi : WE) : WG := fun d env st Q => wo env st fun o st1 => wi env st1 fun i st2 => match o, i with
  | .ref n, .int k => match nth st2 n with
    | some (.lst xs) => NR d ∧ ∃ j, ixN xs.length k = some j ∧ Q env (put st2 n (some (.lst (xs.set j d))))
    | _ => False
  | _, _ => False
section
variable {X : Cx}
theorem Gs.own {K : Frag} {H : Hp} {Fr : Addr → Prop} {ρ : List Addr} {st : Sto} (g : Gs K H Fr ρ st) {n : Nat} {xs : List D} (hn : nth st n = some (.lst xs)) {v : V} (r : RepU K H (Blk Fr ρ st) ρ (.ref n) v) :
    ∃ p vs, v = .ref p ∧ ρ[n]? = some p ∧ H p = some (.lst vs) ∧ RepL K H (Blk Fr ρ st) xs vs := by
  obtain ⟨p, e1, rfl⟩ := r
  obtain ⟨p', h', e2, e3, vs, e4, rl⟩ := g.ob _ _ hn
  rw [e1] at e2
  cases e2
  subst e4
  exact ⟨p, vs, rfl, e1, e3, rl⟩
/-- one's own list rewritten -/
theorem Gs.wr {K : Frag} {H : Hp} {Fr : Addr → Prop} {ρ : List Addr} {st : Sto} (g : Gs K H Fr ρ st) {n : Nat} {p : Addr} {xs ys : List D} {us : List V} (hn : nth st n = some (.lst xs)) (e : ρ[n]? = some p) (r : RepL K H (Blk Fr ρ st) ys us) :
    Step K Fr H ρ st (upd H p (.lst us)) ρ (put st n (some (.lst ys))) := .write g hn e (o' := .lst ys) ⟨us, rfl, r⟩
theorem gsub {o i : Expr} {wo wi : WE} {pos : Pos} (ho : EX X o wo) (hi : EX X i wi)
    (ha : ∀ v, assign (.Subscript o i pos) X.env v = (do
      let ov ← holding [v] (eval o X.env)
      let iv ← holding [v, ov] (eval i X.env)
      standAt pos
      holding [v, ov, iv] (setItem ov iv v)
      release [v, ov, iv] []) := by intro _; rfl) : GX X (.Subscript o i pos) (gIx wo wi) := by
  refine ⟨(pg_sub ho.run hi.run set_list ha).imp fun v σ H Q ⟨Fr, ρ, env, st, d, g, E, r, hw⟩ => ?_, fun d env st Q Q' h q => ho.mono _ _ _ _ (fun o s q => hi.mono _ _ _ _ (fun i s2 q2 => ?_) q) q⟩
  · refine ⟨Fr, ρ, env, st, g, E, ho.mono _ _ _ _ (fun o s q => ?_) hw⟩
    intro ρ1 v1 H1 S1 r1
    refine ⟨Fr, ρ1, env, s, S1.g, E.step g S1, hi.mono _ _ _ _ (fun i s2 q2 => ?_) q⟩
    intro ρ2 v2 H2 S2 r2
    split at q2
    · rename_i n k
      split at q2
      · rename_i xs hn
        obtain ⟨nr, j, ej, q2⟩ := q2
        obtain ⟨p, vs, rfl, e1, e3, rl⟩ := S2.g.own hn (r1.step S1.g S2)
        obtain rfl : v2 = .int k := r2
        have rd := (r.step g (S1.trans S2)).pure nr
        have S3 := S2.g.wr hn e1 (rl.set j rd)
        exact ⟨p, vs, k, j, rfl, rfl, e3, by rw [rl.length]; exact ej, q2 ρ2 σ _ (S1.trans (S2.trans S3)) (E.step g (S1.trans (S2.trans S3)))⟩
      · exact q2.elim
    · exact q2.elim
  · split at q2
    · split at q2
      · exact ⟨q2.1, q2.2.choose, q2.2.choose_spec.1, h _ _ q2.2.choose_spec.2⟩
      · exact q2.elim
    · exact q2.elim
end

/-! ### built-in functions by their names -/
abbrev WC := List D → Sto → WK → Prop
def LC (K : Frag) (w : WC) : List V → Hp → VK → Prop := fun vs H Q => ∃ Fr ρ st ds, Gs K H Fr ρ st ∧ RepUL K H (Blk Fr ρ st) ρ ds vs ∧ w ds st (FinE K Fr H ρ st Q)
structure CallM (X : Cx) (f : Value) (w : WC) : Prop where
  run : CallR X f (LC X.K w)
  mono : ∀ ds st Q Q', (∀ d s, Q d s → Q' d s) → w ds st Q → w ds st Q'
def wCB (w : WC) (wa : WA) : WE := fun env st Q => wa env st fun ds st' => w ds st' Q
section
variable {X : Cx} {x : Str} {p pos : Pos} {e : Expr} {es : List Expr} {wa : WA} {id T : String} {w : WC}
theorem LE.cb (am : ∀ env st Q Q', (∀ d s, Q d s → Q' d s) → wa env st Q → wa env st Q') (wm : ∀ ds st Q Q', (∀ d s, Q d s → Q' d s) → w ds st Q → w ds st Q') {K : Frag} {σ : St} {H : Hp} {Q : VK} (h : LE K (wCB w wa) σ H Q) : tCB (LC K w) (LA K wa) σ H Q := by
  obtain ⟨Fr, ρ, env, st, g, E, hw⟩ := h
  refine ⟨Fr, ρ, env, st, g, E, am _ _ _ _ (fun ds s q => ?_) hw⟩
  intro ρ1 vs H1 S1 r1
  exact ⟨Fr, ρ1, s, ds, S1.g, r1, wm _ _ _ _ (fun d s q => FinE.step S1 q) q⟩
theorem xcallB (hc : CallM X (.builtin id) w) (hm : X.mg x = none) (hv : bootBuiltins x = some (.builtin id)) (ha : AX X (e :: es) wa) (hg : Gl X x := by rfl) (hn : x ≠ "__name__" := by decide) (hdb : (x == ("__debug__" : Str)) = false := by decide)
    (he : starEach (e :: es) X.env = (false, eval e X.env) :: starEach es X.env := by rfl) (hpl : (backTo pos (starEach es X.env)).any (·.1) = false := by rfl) : EX X (.Call (.Name x p) (e :: es) [] pos) (wCB w wa) :=
  ⟨(pe_callB hc.run hg hm hv ha.run hn hdb he hpl).imp fun σ H Q h => h.cb ha.mono hc.mono, fun env st Q Q' hQ q => ha.mono _ _ _ _ (fun ds s q => hc.mono _ _ _ _ hQ q) q⟩
theorem xcallT (hc : CallM X (.type T) w) (hm : X.mg x = none) (hv : bootBuiltins x = some (.type T)) (ha : AX X (e :: es) wa) (hg : Gl X x := by rfl) (hn : x ≠ "__name__" := by decide) (hdb : (x == ("__debug__" : Str)) = false := by decide)
    (he : starEach (e :: es) X.env = (false, eval e X.env) :: starEach es X.env := by rfl) (hpl : (backTo pos (starEach es X.env)).any (·.1) = false := by rfl) : EX X (.Call (.Name x p) (e :: es) [] pos) (wCB w wa) :=
  ⟨(pe_callTy hc.run hg hm hv ha.run hn hdb he hpl).imp fun σ H Q h => h.cb ha.mono hc.mono, fun env st Q Q' hQ q => ha.mono _ _ _ _ (fun ds s q => hc.mono _ _ _ _ hQ q) q⟩
theorem callm_of {f : Value} {w : WC} (mono : ∀ ds st Q Q', (∀ d s, Q d s → Q' d s) → w ds st Q → w ds st Q')
    (h : ∀ (pins : List (Addr × Obj)) (s : Shared) (σ : St) (H : Hp) (xs : List V) (us : List Value) (Q : VK) (Fr : Addr → Prop) (ρ : List Addr) (st : Sto) (ds : List D), Inv X pins σ H s → Vals xs us → Gs X.K H Fr ρ st → RepUL X.K H (Blk Fr ρ st) ρ ds xs →
      w ds st (FinE X.K Fr H ρ st Q) → wpAny (model X.prog X.w) X.A (call f us) (EP X pins σ Q) X.xe s) : CallM X f w :=
  ⟨fun pins s σ H xs us Q I r ⟨Fr, ρ, st, ds, g, rd, hw⟩ => h pins s σ H xs us Q Fr ρ st ds I r g rd hw, mono⟩
/-- one argument -/
theorem RepUL.one {K : Frag} {H : Hp} {B : Addr → Prop} {ρ : List Addr} {d : D} {vs : List V} (r : RepUL K H B ρ [d] vs) : ∃ v, vs = [v] ∧ RepU K H B ρ d v := by
  obtain ⟨v, r, rfl, rv, e⟩ := r
  have e' : r = [] := e
  subst e'
  exact ⟨v, rfl, rv⟩
theorem RepUL.two {K : Frag} {H : Hp} {B : Addr → Prop} {ρ : List Addr} {a b : D} {vs : List V} (r : RepUL K H B ρ [a, b] vs) : ∃ v u, vs = [v, u] ∧ RepU K H B ρ a v ∧ RepU K H B ρ b u := by
  obtain ⟨v, r, rfl, rv, r2⟩ := r
  obtain ⟨u, rfl, ru⟩ := r2.one
  exact ⟨v, u, rfl, rv, ru⟩
def w1 (k : D → Sto → WK → Prop) : WC := fun ds st Q => match ds with
  | [d] => k d st Q
  | _ => False
theorem w1.mono {k : D → Sto → WK → Prop} (h : ∀ d st Q Q', (∀ d s, Q d s → Q' d s) → k d st Q → k d st Q') : ∀ ds st Q Q', (∀ d s, Q d s → Q' d s) → w1 k ds st Q → w1 k ds st Q' := fun ds st Q Q' hQ q => by
  unfold w1 at q ⊢
  split at q
  · exact h _ _ _ _ hQ q
  · exact q.elim
def wLen : WC := w1 fun d st Q => match d with
  | .str z => z.length ≤ big ∧ Q (.int z.length) st
  | .tup xs => Q (.int xs.length) st
  | .lst xs => Q (.int xs.length) st
  | .rd xs => Q (.int xs.length) st
  | .ref n => match nth st n with
    | some (.lst xs) => Q (.int xs.length) st
    | _ => False
  | _ => False
def wAbs : WC := w1 fun d st Q => match d with
  | .int i => Q (.int (if i < 0 then -i else i)) st
  | _ => False
def wInt : WC := w1 fun d st Q => match d with
  | .int i => Q (.int i) st
  | .bl k => Q (.int (if k then 1 else 0)) st
  | _ => False
def wMax2 : WC := fun ds st Q => match ds with
  | [.int i, .int j] => Q (.int (if j > i then j else i)) st
  | _ => False
def wMin2 : WC := fun ds st Q => match ds with
  | [.int i, .int j] => Q (.int (if j < i then j else i)) st
  | _ => False
def wSum : WC := w1 fun d st Q => match d with
  | .lst xs => ∃ ns : List Int, xs = ns.map .int ∧ Q (.int ns.sum) st
  | .ref n => match nth st n with
    | some (.lst xs) => ∃ ns : List Int, xs = ns.map .int ∧ Q (.int ns.sum) st
    | _ => False
  | _ => False
def wAll : WC := w1 fun d st Q => match d with
  | .lst xs => ∃ bs : List Bool, xs = bs.map .bl ∧ Q (.bl (bs.all fun b => b)) st
  | _ => False
def wAny : WC := w1 fun d st Q => match d with
  | .lst xs => ∃ bs : List Bool, xs = bs.map .bl ∧ Q (.bl (bs.any fun b => b)) st
  | _ => False
def wMaxL : WC := w1 fun d st Q => seqK (fun xs => ∃ ns : List Int, xs = ns.map .int ∧ 0 < ns.length ∧ ∀ m, m ∈ ns → (∀ y, y ∈ ns → y ≤ m) → Q (.int m) st) d st
def wMinL : WC := w1 fun d st Q => seqK (fun xs => ∃ ns : List Int, xs = ns.map .int ∧ 0 < ns.length ∧ ∀ m, m ∈ ns → (∀ y, y ∈ ns → m ≤ y) → Q (.int m) st) d st
def wTuple : WC := w1 fun d st Q => seqK (fun xs => Q (.tup xs) st) d st
def wList : WC := w1 fun d st Q => seqK (fun xs => Q (.lst xs) st) d st
def wListR : WC := w1 fun d st Q => seqK (fun xs => Q (.ref st.length) (st ++ [some (.lst xs)])) d st
theorem c_len : CallM X (.builtin "len") wLen := by
  refine callm_of (w1.mono fun d st Q Q' h q => ?_) fun pins s σ H xs us Q Fr ρ st ds I r g rd hw => ?_
  · split at q <;> first
      | exact h _ _ q
      | exact ⟨q.1, h _ _ q.2⟩
      | (split at q <;> first | exact h _ _ q | exact q.elim)
      | exact q.elim
  · unfold wLen w1 at hw
    split at hw
    · obtain ⟨v, rfl, rv⟩ := rd.one
      split at hw
      · rename_i z
        obtain rfl : v = .str z := rv
        exact call_len_str pins s σ H _ us Q I r ⟨z, rfl, by rw [m_big]; exact hw.1, hw.2.sc g rfl⟩
      · obtain ⟨p, vs, rfl, e, rl⟩ := rv
        exact call_len_seq pins s σ H _ us Q I r ⟨p, vs, rfl, .inr e, by rw [rl.length]; exact hw.sc g rfl⟩
      · obtain ⟨p, vs, rfl, nb, e, rl⟩ := rv
        exact call_len_seq pins s σ H _ us Q I r ⟨p, vs, rfl, .inl (.of e), by rw [rl.length]; exact hw.sc g rfl⟩
      · obtain ⟨p, vs, rfl, e, rl⟩ := rv
        exact call_len_seq pins s σ H _ us Q I r ⟨p, vs, rfl, .inl e.sq, by rw [rl.length]; exact hw.sc g rfl⟩
      · split at hw
        · rename_i n xs hn
          obtain ⟨p, vs, rfl, e1, e3, rl⟩ := g.own hn rv
          exact call_len_seq pins s σ H _ us Q I r ⟨p, vs, rfl, .inl (.of e3), by rw [rl.length]; exact hw.sc g rfl⟩
        · exact hw.elim
      · exact hw.elim
    · exact hw.elim
theorem c_abs : CallM X (.builtin "abs") wAbs := by
  refine callm_of (w1.mono fun d st Q Q' h q => ?_) fun pins s σ H xs us Q Fr ρ st ds I r g rd hw => ?_
  · split at q <;> first
      | exact h _ _ q
      | exact q.elim
  · unfold wAbs w1 at hw
    split at hw
    · obtain ⟨v, rfl, rv⟩ := rd.one
      split at hw
      · rename_i z
        obtain rfl : v = .int z := rv
        exact call_abs pins s σ H _ us Q I r ⟨z, rfl, hw.sc g rfl⟩
      · exact hw.elim
    · exact hw.elim
theorem c_int : CallM X (.type "int") wInt := by
  refine callm_of (w1.mono fun d st Q Q' h q => ?_) fun pins s σ H xs us Q Fr ρ st ds I r g rd hw => ?_
  · split at q <;> first
      | exact h _ _ q
      | exact q.elim
  · unfold wInt w1 at hw
    split at hw
    · obtain ⟨v, rfl, rv⟩ := rd.one
      split at hw
      · rename_i z
        obtain rfl : v = .int z := rv
        exact call_int1 pins s σ H _ us Q I r (.inl ⟨z, rfl, hw.sc g rfl⟩)
      · rename_i z
        obtain rfl : v = .bl z := rv
        exact call_int1 pins s σ H _ us Q I r (.inr ⟨z, rfl, hw.sc g rfl⟩)
      · exact hw.elim
    · exact hw.elim
theorem c_max2 (hc : X.calm = true) : CallM X (.builtin "max") wMax2 := by
  refine callm_of (fun ds st Q Q' h q => ?_) fun pins s σ H xs us Q Fr ρ st ds I r g rd hw => ?_
  · unfold wMax2 at q ⊢
    split at q <;> first
      | exact h _ _ q
      | exact q.elim
  · unfold wMax2 at hw
    split at hw
    · rename_i i j
      obtain ⟨v, u, rfl, rv, ru⟩ := rd.two
      obtain rfl : v = .int i := rv
      obtain rfl : u = .int j := ru
      exact call_max2 hc pins s σ H _ us Q I r ⟨i, j, rfl, hw.sc g rfl⟩
    · exact hw.elim
theorem c_min2 (hc : X.calm = true) : CallM X (.builtin "min") wMin2 := by
  refine callm_of (fun ds st Q Q' h q => ?_) fun pins s σ H xs us Q Fr ρ st ds I r g rd hw => ?_
  · unfold wMin2 at q ⊢
    split at q <;> first
      | exact h _ _ q
      | exact q.elim
  · unfold wMin2 at hw
    split at hw
    · rename_i i j
      obtain ⟨v, u, rfl, rv, ru⟩ := rd.two
      obtain rfl : v = .int i := rv
      obtain rfl : u = .int j := ru
      exact call_min2 hc pins s σ H _ us Q I r ⟨i, j, rfl, hw.sc g rfl⟩
    · exact hw.elim
theorem c_sum (hc : X.calm = true) : CallM X (.builtin "sum") wSum := by
  refine callm_of (w1.mono fun d st Q Q' h q => ?_) fun pins s σ H xs us Q Fr ρ st ds I r g rd hw => ?_
  · split at q <;> first
      | exact ⟨q.choose, q.choose_spec.1, h _ _ q.choose_spec.2⟩
      | (split at q <;> first | exact ⟨q.choose, q.choose_spec.1, h _ _ q.choose_spec.2⟩ | exact q.elim)
      | exact q.elim
  · unfold wSum w1 at hw
    split at hw
    · obtain ⟨v, rfl, rv⟩ := rd.one
      split at hw
      · obtain ⟨ns, rfl, hw⟩ := hw
        obtain ⟨p, vs, rfl, nb, e, rl⟩ := rv
        rw [rl.ints_eq] at e
        exact cr_sum hc pins s σ H _ us Q I r ⟨p, ns, rfl, .of e, hw.sc g rfl⟩
      · split at hw
        · rename_i n xs hn
          obtain ⟨ns, rfl, hw⟩ := hw
          obtain ⟨p, vs, rfl, e1, e, rl⟩ := g.own hn rv
          rw [rl.ints_eq] at e
          exact cr_sum hc pins s σ H _ us Q I r ⟨p, ns, rfl, .of e, hw.sc g rfl⟩
        · exact hw.elim
      · exact hw.elim
    · exact hw.elim
theorem c_all (hc : X.calm = true) : CallM X (.builtin "all") wAll := by
  refine callm_of (w1.mono fun d st Q Q' h q => ?_) fun pins s σ H xs us Q Fr ρ st ds I r g rd hw => ?_
  · split at q <;> first
      | exact ⟨q.choose, q.choose_spec.1, h _ _ q.choose_spec.2⟩
      | exact q.elim
  · unfold wAll w1 at hw
    split at hw
    · obtain ⟨v, rfl, rv⟩ := rd.one
      split at hw
      · obtain ⟨ns, rfl, hw⟩ := hw
        obtain ⟨p, vs, rfl, nb, e, rl⟩ := rv
        rw [rl.bls_eq] at e
        exact cr_all hc pins s σ H _ us Q I r ⟨p, ns, rfl, .of e, hw.sc g rfl⟩
      · exact hw.elim
    · exact hw.elim
theorem c_any (hc : X.calm = true) : CallM X (.builtin "any") wAny := by
  refine callm_of (w1.mono fun d st Q Q' h q => ?_) fun pins s σ H xs us Q Fr ρ st ds I r g rd hw => ?_
  · split at q <;> first
      | exact ⟨q.choose, q.choose_spec.1, h _ _ q.choose_spec.2⟩
      | exact q.elim
  · unfold wAny w1 at hw
    split at hw
    · obtain ⟨v, rfl, rv⟩ := rd.one
      split at hw
      · obtain ⟨ns, rfl, hw⟩ := hw
        obtain ⟨p, vs, rfl, nb, e, rl⟩ := rv
        rw [rl.bls_eq] at e
        exact cr_any hc pins s σ H _ us Q I r ⟨p, ns, rfl, .of e, hw.sc g rfl⟩
      · exact hw.elim
    · exact hw.elim
theorem c_tuple : CallM X (.type "tuple") wTuple := by
  refine callm_of (w1.mono fun d st Q Q' h q => q.mono fun xs z => h _ _ z) fun pins s σ H xs us Q Fr ρ st ds I r g rd hw => ?_
  unfold wTuple w1 at hw
  split at hw
  · obtain ⟨v, rfl, rv⟩ := rd.one
    obtain ⟨p, vs, xs, rfl, rl, q, h⟩ := hw.rep g rv
    rcases h with h | h
    · exact call_tuple_of pins s σ H _ us Q I r ⟨p, vs, rfl, .inl ⟨h, q.newT g rl⟩⟩
    · exact call_tuple_of pins s σ H _ us Q I r ⟨p, vs, rfl, .inr ⟨h, q.sc g ⟨p, vs, rfl, h, rl⟩⟩⟩
  · exact hw.elim
theorem c_list : CallM X (.type "list") wList := by
  refine callm_of (w1.mono fun d st Q Q' h q => q.mono fun xs z => h _ _ z) fun pins s σ H xs us Q Fr ρ st ds I r g rd hw => ?_
  unfold wList w1 at hw
  split at hw
  · obtain ⟨v, rfl, rv⟩ := rd.one
    obtain ⟨p, vs, xs, rfl, rl, q, h⟩ := hw.rep g rv
    exact call_list_of pins s σ H _ us Q I r ⟨p, vs, rfl, h, q.newL g rl⟩
  · exact hw.elim
theorem c_listR : CallM X (.type "list") wListR := by
  refine callm_of (w1.mono fun d st Q Q' h q => q.mono fun xs z => h _ _ z) fun pins s σ H xs us Q Fr ρ st ds I r g rd hw => ?_
  unfold wListR w1 at hw
  split at hw
  · obtain ⟨v, rfl, rv⟩ := rd.one
    obtain ⟨p, vs, xs, rfl, rl, q, h⟩ := hw.rep g rv
    exact call_list_of pins s σ H _ us Q I r ⟨p, vs, rfl, h, q.newR g rl⟩
  · exact hw.elim

/-! ### methods of lists -/
def isLst (d : D) (st : Sto) : Prop := match d with
  | .lst _ => True
  | .rd _ => True
  | .ref n => match nth st n with
    | some (.lst _) => True
    | _ => False
  | _ => False
abbrev WM := D → List D → Sto → WK → Prop
def LM (K : Frag) (w : WM) : V → List V → Hp → VK → Prop := fun x vs H Q => ∃ Fr ρ st d ds, Gs K H Fr ρ st ∧ RepU K H (Blk Fr ρ st) ρ d x ∧ RepUL K H (Blk Fr ρ st) ρ ds vs ∧ w d ds st (FinE K Fr H ρ st Q)
structure MtX (X : Cx) (id : String) (w : WM) : Prop where
  run : MtR X id (LM X.K w)
  mono : ∀ d ds st Q Q', (∀ d s, Q d s → Q' d s) → w d ds st Q → w d ds st Q'
def wBM0 (w : WM) (wo : WE) : WE := fun env st Q => wo env st fun d st1 => isLst d st1 ∧ w d [] st1 Q
def wBM (w : WM) (wo : WE) (wa : WA) : WE := fun env st Q => wo env st fun d st1 => isLst d st1 ∧ wa env st1 fun ds st2 => w d ds st2 Q
theorem isLst.ty {K : Frag} {H : Hp} {Fr : Addr → Prop} {ρ : List Addr} {st : Sto} (g : Gs K H Fr ρ st) {d : D} {v : V} (r : RepU K H (Blk Fr ρ st) ρ d v) (h : isLst d st) : tyV K "list" v H := by
  unfold isLst at h
  split at h
  · obtain ⟨p, vs, rfl, nb, e, rl⟩ := r
    exact .inl ⟨rfl, vs, .of e⟩
  · obtain ⟨p, vs, rfl, e, rl⟩ := r
    exact .inl ⟨rfl, vs, e.sq⟩
  · split at h
    · rename_i n xs hn
      obtain ⟨p, vs, rfl, e1, e, rl⟩ := g.own hn r
      exact .inl ⟨rfl, vs, .of e⟩
    · exact h.elim
  · exact h.elim
section
variable {o : Expr} {wo : WE} {name : Str} {apos cpos : Pos} {wm : WM}
theorem xbm0 (slot : Slot "list" name id) (hty : typeOf (.builtin id) = pure (.type "method_descriptor")) (hm : MtX X id wm) (ho : EX X o wo) (hbase : attributeBase o name X.env (eval o X.env) = eval o X.env := by rfl) (hline : (apos.endLine == cpos.line) = true := by rfl) :
    EX X (.Call (.Attribute o name apos) [] [] cpos) (wBM0 wm wo) := by
  refine ⟨(pe_bm0 PySem.F.plainAttrs_list slot hty hm.run ho.run hbase hline).imp fun σ H Q ⟨Fr, ρ, env, st, g, E, hw⟩ => ?_, fun env st Q Q' hQ q => ho.mono _ _ _ _ (fun d s q => ⟨q.1, hm.mono _ _ _ _ _ hQ q.2⟩) q⟩
  refine ⟨Fr, ρ, env, st, g, E, ho.mono _ _ _ _ (fun d s q => ?_) hw⟩
  intro ρ1 v H1 S1 r1
  exact ⟨q.1.ty S1.g r1, Fr, ρ1, s, d, [], S1.g, r1, rfl, hm.mono _ _ _ _ _ (fun d s q => FinE.step S1 q) q.2⟩
theorem xbm (slot : Slot "list" name id) (hty : typeOf (.builtin id) = pure (.type "method_descriptor")) (hm : MtX X id wm) (ho : EX X o wo) (ha : AX X (e :: es) wa) (hbase : attributeBase o name X.env (eval o X.env) = eval o X.env := by rfl)
    (hfew : ((backTo cpos (starEach (e :: es) X.env)).all (fun x => !x.1) && (backToKw cpos (keywordEach [] X.env)).all (fun x => x.1.isSome)
      && decide ((e :: es).length + ([] : List Keyword).length + (if ([] : List Keyword).isEmpty then 0 else 1) < 30)) = true := by rfl)
    (hline : (apos.endLine == cpos.line) = true := by rfl) (hs : starEach (e :: es) X.env = (false, eval e X.env) :: starEach es X.env := by rfl) (hplain : (backTo cpos (starEach es X.env)).any (·.1) = false := by rfl) :
    EX X (.Call (.Attribute o name apos) (e :: es) [] cpos) (wBM wm wo wa) := by
  refine ⟨(pe_bm PySem.F.plainAttrs_list slot hty hm.run ho.run ha.run hbase hfew hline hs hplain).imp fun σ H Q ⟨Fr, ρ, env, st, g, E, hw⟩ => ?_, fun env st Q Q' hQ q => ho.mono _ _ _ _ (fun d s q => ⟨q.1, ha.mono _ _ _ _ (fun ds s q => hm.mono _ _ _ _ _ hQ q) q.2⟩) q⟩
  refine ⟨Fr, ρ, env, st, g, E, ho.mono _ _ _ _ (fun d s q => ?_) hw⟩
  intro ρ1 v H1 S1 r1
  refine ⟨q.1.ty S1.g r1, Fr, ρ1, env, s, S1.g, E.step g S1, ha.mono _ _ _ _ (fun ds s2 q2 => ?_) q.2⟩
  intro ρ2 vs H2 S2 r2
  exact ⟨Fr, ρ2, s2, d, ds, S2.g, r1.step S1.g S2, r2, hm.mono _ _ _ _ _ (fun d s q => FinE.step (S1.trans S2) q) q2⟩
end
def onLst (k : List D → (List D → Sto) → Prop) (d : D) (st : Sto) : Prop := match d with
  | .ref n => match nth st n with
    | some (.lst xs) => k xs fun ys => put st n (some (.lst ys))
    | _ => False
  | _ => False
theorem onLst.mono {k k' : List D → (List D → Sto) → Prop} (h : ∀ xs f, k xs f → k' xs f) {d : D} {st : Sto} (q : onLst k d st) : onLst k' d st := by
  unfold onLst at q ⊢
  split at q
  · split at q
    · exact h _ _ q
    · exact q.elim
  · exact q.elim
theorem onLst.rep {K : Frag} {H : Hp} {Fr : Addr → Prop} {ρ : List Addr} {st : Sto} (g : Gs K H Fr ρ st) {k : List D → (List D → Sto) → Prop} {d : D} {v : V} (r : RepU K H (Blk Fr ρ st) ρ d v) (q : onLst k d st) :
    ∃ p vs xs f, v = .ref p ∧ H p = some (.lst vs) ∧ RepL K H (Blk Fr ρ st) xs vs ∧ k xs f ∧ ∀ ys us, RepL K H (Blk Fr ρ st) ys us → Step K Fr H ρ st (upd H p (.lst us)) ρ (f ys) := by
  unfold onLst at q
  split at q
  · split at q
    · rename_i n xs hn
      obtain ⟨p, vs, rfl, e1, e, rl⟩ := g.own hn r
      exact ⟨p, vs, xs, _, rfl, e, rl, q, fun ys us r => g.wr hn e1 r⟩
    · exact q.elim
  · exact q.elim
def wAppend : WM := fun d ds st Q => match ds with
  | [y] => onLst (fun xs f => (xs.length < big ∧ NR y) ∧ Q .non (f (xs ++ [y]))) d st
  | _ => False
def wExtend : WM := fun d ds st Q => match ds with
  | [.lst ys] => onLst (fun xs f => xs.length + ys.length ≤ big ∧ Q .non (f (xs ++ ys))) d st
  | _ => False
def wPop : WM := fun d ds st Q => match ds with
  | [] => onLst (fun xs f => ∃ y, xs[xs.length - 1]? = some y ∧ Q y (f xs.dropLast)) d st
  | _ => False
def wPopAt : WM := fun d ds st Q => match ds with
  | [.int i] => onLst (fun xs f => ∃ k y, (-(2 ^ 63) ≤ i ∧ i < 2 ^ 63 ∧ seqIndex? i xs.length = some k) ∧ xs[k]? = some y ∧ Q y (f (xs.eraseIdx k))) d st
  | _ => False
theorem m_append : MtX X "list.append" wAppend := by
  refine ⟨fun pins s σ H x xs v us Q I rx rs ⟨Fr, ρ, st, d, ds, g, rd, rds, hw⟩ => ?_, fun d ds st Q Q' h q => ?_⟩
  · unfold wAppend at hw
    split at hw
    · obtain ⟨u, rfl, ru⟩ := rds.one
      obtain ⟨p, vs, xs, f, rfl, e, rl, ⟨⟨hl, hn⟩, q⟩, S⟩ := hw.rep g rd
      have S1 := S _ _ (rl.append (.one (ru.pure hn)))
      exact mt_append pins s σ H _ _ v us Q I rx rs ⟨p, vs, u, rfl, rfl, e, by rw [m_big, rl.length]; exact hl, q ρ _ _ S1 (.of (show Rep _ _ _ .non _ from rfl))⟩
    · exact hw.elim
  · unfold wAppend at q ⊢
    split at q
    · exact q.mono fun xs f z => ⟨z.1, h _ _ z.2⟩
    · exact q.elim
theorem m_extend : MtX X "list.extend" wExtend := by
  refine ⟨fun pins s σ H x xs v us Q I rx rs ⟨Fr, ρ, st, d, ds, g, rd, rds, hw⟩ => ?_, fun d ds st Q Q' h q => ?_⟩
  · unfold wExtend at hw
    split at hw
    · obtain ⟨u, rfl, ru⟩ := rds.one
      obtain ⟨b, us', rfl, nb, eb, rb⟩ := ru
      obtain ⟨p, vs, xs, f, rfl, e, rl, ⟨hl, q⟩, S⟩ := hw.rep g rd
      have S1 := S _ _ (rl.append rb)
      exact mt_extend pins s σ H _ _ v us Q I rx rs ⟨p, b, vs, us', rfl, rfl, e, eb, by rw [m_big, rl.length, rb.length]; exact hl, q ρ _ _ S1 (.of (show Rep _ _ _ .non _ from rfl))⟩
    · exact hw.elim
  · unfold wExtend at q ⊢
    split at q
    · exact q.mono fun xs f z => ⟨z.1, h _ _ z.2⟩
    · exact q.elim
theorem RepL.dropLast {K : Frag} {H : Hp} {B : Addr → Prop} {ds : List D} {vs : List V} (r : RepL K H B ds vs) : RepL K H B ds.dropLast vs.dropLast := by
  rw [List.dropLast_eq_take, List.dropLast_eq_take, r.length]
  exact r.take _
theorem m_pop : MtX X "list.pop" wPop := by
  refine ⟨fun pins s σ H x xs v us Q I rx rs ⟨Fr, ρ, st, d, ds, g, rd, rds, hw⟩ => ?_, fun d ds st Q Q' h q => ?_⟩
  · unfold wPop at hw
    split at hw
    · have e0 : xs = [] := rds
      subst e0
      obtain ⟨p, vs, ys, f, rfl, e, rl, ⟨y, hy, q⟩, S⟩ := hw.rep g rd
      obtain ⟨z, ez, rz⟩ := rl.get hy
      have S1 := S _ _ rl.dropLast
      exact mt_pop pins s σ H _ _ v us Q I rx rs ⟨p, vs, z, rfl, rfl, e, by rw [rl.length]; exact ez, q ρ _ _ S1 (.of (Rep.stb (S1.stb g) rz))⟩
    · exact hw.elim
  · unfold wPop at q ⊢
    split at q
    · exact q.mono fun xs f ⟨y, e, z⟩ => ⟨y, e, h _ _ z⟩
    · exact q.elim
theorem m_popAt : MtX X "list.pop" wPopAt := by
  refine ⟨fun pins s σ H x xs v us Q I rx rs ⟨Fr, ρ, st, d, ds, g, rd, rds, hw⟩ => ?_, fun d ds st Q Q' h q => ?_⟩
  · unfold wPopAt at hw
    split at hw
    · rename_i i
      obtain ⟨u, rfl, ru⟩ := rds.one
      obtain rfl : u = .int i := ru
      obtain ⟨p, vs, ys, f, rfl, e, rl, ⟨k, y, ⟨h1, h2, h3⟩, hy, q⟩, S⟩ := hw.rep g rd
      obtain ⟨z, ez, rz⟩ := rl.get hy
      have S1 := S _ _ (rl.eraseIdx k)
      exact mt_popAt pins s σ H _ _ v us Q I rx rs ⟨p, vs, i, k, z, rfl, rfl, e, h1, h2, by rw [rl.length]; exact h3, ez, q ρ _ _ S1 (.of (Rep.stb (S1.stb g) rz))⟩
    · exact hw.elim
  · unfold wPopAt at q ⊢
    split at q
    · exact q.mono fun xs f ⟨k, y, e, e2, z⟩ => ⟨k, y, e, e2, h _ _ z⟩
    · exact q.elim
end
end M

/-! M8: calls of defs, what a def promises, its body. -/
namespace M
open PySem PySem.Spec PyProof.Rows L2

/-- a promise: arguments, the store (what is handed), what is wanted of the answer -/
abbrev Pm := List D → Sto → WK → Prop
def PMono (p : Pm) : Prop := ∀ ds st Q Q', (∀ d s, Q d s → Q' d s) → p ds st Q → p ds st Q'
def LF (K : Frag) (p : Pm) : Sp := fun vs H Q _ => ∃ Fr ρ st ds, Gs K H Fr ρ st ∧ RepUL K H (Blk Fr ρ st) ρ ds vs ∧ p ds st (FinE K Fr H ρ st Q)
def refN : List D → List Nat
  | [] => []
  | .ref n :: ds => n :: refN ds
  | _ :: ds => refN ds
def ren : List D → List D
  | [] => []
  | .ref _ :: ds => .ref 0 :: ren ds
  | d :: ds => d :: ren ds
/-- behind a call that was handed nothing -/
def back0 (st : Sto) (Q : WK) : WK := fun d sc => match d with
  | .ref k => match nth sc k with
    | some o => Q (.ref st.length) (st ++ [some o])
    | none => False
  | d => Q d st
/-- behind a call that was handed the thing at n -/
def back1 (st : Sto) (n : Nat) (Q : WK) : WK := fun d sc => match d with
  | .ref 0 => Q (.ref n) (put st n (nth sc 0))
  | .ref (k + 1) => match nth sc (k + 1) with
    | some o => Q (.ref st.length) (put st n (nth sc 0) ++ [some o])
    | none => False
  | d => Q d (put st n (nth sc 0))
def callD (p : Pm) (ds : List D) (st : Sto) (Q : WK) : Prop := match refN ds with
  | [] => p ds [] (back0 st Q)
  | [n] => match nth st n with
    | some o => p (ren ds) [some o] (back1 st n Q)
    | none => False
  | _ => False
def wCall (p : Pm) (wa : WA) : WE := fun env st Q => wa env st fun ds st1 => callD p ds st1 Q

theorem back0.mono {st : Sto} {Q Q' : WK} (h : ∀ d s, Q d s → Q' d s) : ∀ d s, back0 st Q d s → back0 st Q' d s := fun d s q => by
  unfold back0 at q ⊢
  split at q
  · split at q
    · exact h _ _ q
    · exact q.elim
  · exact h _ _ q
theorem back1.mono {st : Sto} {n : Nat} {Q Q' : WK} (h : ∀ d s, Q d s → Q' d s) : ∀ d s, back1 st n Q d s → back1 st n Q' d s := fun d s q => by
  unfold back1 at q ⊢
  split at q
  · exact h _ _ q
  · split at q
    · exact h _ _ q
    · exact q.elim
  · exact h _ _ q
theorem callD.mono {p : Pm} (pm : PMono p) {ds : List D} {st : Sto} {Q Q' : WK} (h : ∀ d s, Q d s → Q' d s) (q : callD p ds st Q) : callD p ds st Q' := by
  unfold callD at q ⊢
  split at q
  · exact pm _ _ _ _ (back0.mono h) q
  · split at q
    · exact pm _ _ _ _ (back1.mono h) q
    · exact q.elim
  · exact q.elim

section
variable {K : Frag} {H H' : Hp} {Fr : Addr → Prop} {ρ ρc : List Addr} {st sc : Sto}
/-- all that the caller has, but a -/
def FrC (Fr : Addr → Prop) (ρ : List Addr) (st : Sto) (a : Addr) (b : Addr) : Prop := Blk Fr ρ st b ∧ b ≠ a
theorem stb_sub {B B' : Addr → Prop} (h : ∀ a, B' a → B a) : Stb H H B B' := ⟨fun _ _ _ e => e, fun a nb _ z => nb (h a z), fun _ _ e => e, fun _ _ _ e => e⟩
theorem Stb.sub {B B' B2 B2' : Addr → Prop} (s : Stb H H' B B') (h1 : ∀ a, B a → B2 a) (h2 : ∀ a, B2' a → B' a) : Stb H H' B2 B2' :=
  ⟨fun a o nb e => s.k a o (fun z => nb (h1 a z)) e, fun a nb ne z => s.b a (fun z => nb (h1 a z)) ne (h2 a z), s.t, s.f⟩
theorem nth_nil {α : Type} {n : Nat} {x : α} (h : nth ([] : List (Option α)) n = some x) : False := by cases n <;> cases h
theorem Gs.in0 (g : Gs K H Fr ρ st) : Gs K H (Blk Fr ρ st) [] [] :=
  ⟨rfl, fun n o e => (nth_nil e).elim, fun a b => g.blk b, fun n a o e => (nth_nil e).elim, fun n m a o o' e => (nth_nil e).elim⟩
theorem liv_nil {a : Addr} (h : Liv [] [] a) : False := by
  obtain ⟨n, o, e, _⟩ := h
  exact nth_nil e
theorem Step.back0 (g : Gs K H Fr ρ st) (s : Step K (Blk Fr ρ st) H [] [] H' ρc sc) : Step K Fr H ρ st H' ρ st := by
  have kp : ∀ a o, H a = some o → H' a = some o := fun a o e => s.keep a o e liv_nil
  have sb : Stb H H' (Blk Fr ρ st) (Blk Fr ρ st) := ⟨fun a o _ e => kp a o e, fun a nb _ => nb, fun a vs e => kp a _ e, fun a o u e => kp a _ e⟩
  refine ⟨⟨g.len, fun n o e => ?_, fun a f => ?_, g.dis, g.inj⟩, ⟨[], by simp⟩, fun a o e _ => kp a o e, fun a z => .inl z⟩
  · obtain ⟨a, h, r1, r2, r3⟩ := g.ob n o e
    exact ⟨a, h, r1, kp _ _ r2, r3.stb sb⟩
  · obtain ⟨o, e, m⟩ := g.frm a f
    exact ⟨o, kp _ _ e, m⟩
/-- something new is taken over -/
theorem Gs.take (g : Gs K H Fr ρ st) {a : Addr} {o : Ob} {h : HO} (na : ¬ Blk Fr ρ st a) (e : H a = some h) (r : ObR K H (Blk Fr (ρ ++ [a]) (st ++ [some o])) o h) (sb : Stb H H (Blk Fr ρ st) (Blk Fr (ρ ++ [a]) (st ++ [some o])) ∨ ∀ n o', nth st n = some o' → ∀ a' h', ρ[n]? = some a' → H a' = some h' → ObR K H (Blk Fr (ρ ++ [a]) (st ++ [some o])) o' h') : Gs K H Fr (ρ ++ [a]) (st ++ [some o]) := by
  refine ⟨by simp [g.len], fun n u q => ?_, g.frm, fun n b u q1 q2 f => ?_, fun n m b u u' q1 q2 q3 q4 => ?_⟩
  · rcases nth_app_one q with q' | ⟨rfl, q'⟩
    · obtain ⟨b, k, r1, r2, r3⟩ := g.ob n u q'
      refine ⟨b, k, by rw [List.getElem?_append_left (List.getElem?_eq_some_iff.mp r1).1]; exact r1, r2, ?_⟩
      rcases sb with sb | sb
      · exact r3.stb sb
      · exact sb n u q' b k r1 r2
    · cases q'
      exact ⟨a, h, by rw [← g.len]; simp, e, r⟩
  · rcases nth_app_one q1 with q' | ⟨rfl, q'⟩
    · rw [List.getElem?_append_left (by rw [g.len]; exact nth_lt q')] at q2
      exact g.dis n b u q' q2 f
    · rw [← g.len] at q2
      have z : a = b := by simpa using q2
      exact na (.inl (by rw [z]; exact f))
  · have key : ∀ {n m : Nat} {u : Ob}, nth st n = some u → m = st.length → (ρ ++ [a])[n]? = some b → (ρ ++ [a])[m]? = some b → False := fun {n m u} q1 q2 q3 q4 => by
      rw [List.getElem?_append_left (by rw [g.len]; exact nth_lt q1)] at q3
      rw [q2, ← g.len] at q4
      have z : a = b := by simpa using q4
      exact na (.inr ⟨n, u, q1, by rw [z]; exact q3⟩)
    rcases nth_app_one q1 with f1 | ⟨h1, f1⟩ <;> rcases nth_app_one q2 with f2 | ⟨h2, f2⟩
    · rw [List.getElem?_append_left (by rw [g.len]; exact nth_lt f1)] at q3
      rw [List.getElem?_append_left (by rw [g.len]; exact nth_lt f2)] at q4
      exact g.inj n m b u u' f1 f2 q3 q4
    · exact (key f1 h2 q3 q4).elim
    · exact (key f2 h1 q4 q3).elim
    · rw [h1, h2]
theorem Step.back0n (g : Gs K H Fr ρ st) (s : Step K (Blk Fr ρ st) H [] [] H' ρc sc) {k : Nat} {o : Ob} {a : Addr} (hk : nth sc k = some o) (ha : ρc[k]? = some a) : Step K Fr H ρ st H' (ρ ++ [a]) (st ++ [some o]) := by
  have s0 := Step.back0 g s
  have na : ¬ Blk Fr ρ st a := s.g.dis k a o hk ha
  have la : Liv ρc sc a := ⟨k, o, hk, ha⟩
  have hn : H a = none := (s.live a la).elim (fun z => (liv_nil z).elim) fun z => z
  obtain ⟨a', h, r1, r2, r3⟩ := s.g.ob k o hk
  rw [ha] at r1
  cases r1
  have sub : ∀ b, Blk Fr (ρ ++ [a]) (st ++ [some o]) b → Blk (Blk Fr ρ st) ρc sc b := fun b z => by
    rcases z with z | z
    · exact .inl (.inl z)
    · rcases liv_app g.len z with z | ⟨z, _⟩
      · exact .inl (.inr z)
      · rw [z]; exact .inr la
  have kp : ∀ a o, H a = some o → H' a = some o := fun a o e => s.keep a o e liv_nil
  have sb : Stb H H' (Blk Fr ρ st) (Blk Fr (ρ ++ [a]) (st ++ [some o])) := by
    refine ⟨fun b o _ e => kp b o e, fun b nb ne z => ?_, fun b vs e => kp b _ e, fun b o u e => kp b _ e⟩
    rcases z with z | z
    · exact nb (.inl z)
    · rcases liv_app g.len z with z | ⟨z, _⟩
      · exact nb (.inr z)
      · rw [z] at ne; exact ne hn
  refine ⟨s0.g.take na r2 (r3.stb (stb_sub sub)) (.inr fun n o' e1 b h' e2 e3 => ?_), ⟨[a], rfl⟩, fun b o e _ => kp b o e, fun b z => ?_⟩
  · obtain ⟨b', k', r4, r5, r6⟩ := g.ob n o' e1
    rw [e2] at r4
    cases r4
    rw [kp _ _ r5] at e3
    cases e3
    exact r6.stb sb
  · rcases liv_app g.len z with z | ⟨z, _⟩
    · exact .inl z
    · rw [z]; exact .inr hn
/-- the thing at n is handed -/
theorem Gs.in1 (g : Gs K H Fr ρ st) {n : Nat} {o : Ob} {a : Addr} (hn : nth st n = some o) (ha : ρ[n]? = some a) : Gs K H (FrC Fr ρ st a) [a] [some o] ∧ ∀ b, Blk (FrC Fr ρ st a) [a] [some o] b ↔ Blk Fr ρ st b := by
  have la : Liv ρ st a := ⟨n, o, hn, ha⟩
  have l1 : ∀ b, Liv [a] [some o] b ↔ b = a := fun b => by
    constructor
    · rintro ⟨m, u, e1, e2⟩
      cases m with
      | zero => simpa using e2.symm
      | succ m => exact (nth_nil (show nth ([] : Sto) m = some u from e1)).elim
    · rintro rfl
      exact ⟨0, o, rfl, rfl⟩
  have iff : ∀ b, Blk (FrC Fr ρ st a) [a] [some o] b ↔ Blk Fr ρ st b := fun b => by
    constructor
    · rintro (z | z)
      · exact z.1
      · rw [(l1 b).mp z]; exact .inr la
    · intro z
      by_cases e : b = a
      · exact .inr ((l1 b).mpr e)
      · exact .inl ⟨z, e⟩
  refine ⟨⟨rfl, fun m u e => ?_, fun b f => g.blk f.1, fun m b u e1 e2 f => ?_, fun m m' b u u' e1 e2 e3 e4 => ?_⟩, iff⟩
  · cases m with
    | zero =>
      have e' : some o = some u := e
      cases e'
      obtain ⟨a', h, r1, r2, r3⟩ := g.ob n o hn
      rw [ha] at r1
      cases r1
      exact ⟨a, h, rfl, r2, r3.stb (stb_sub fun b z => (iff b).mp z)⟩
    | succ m => exact (nth_nil (show nth ([] : Sto) m = some u from e)).elim
  · exact f.2 ((l1 b).mp ⟨m, u, e1, e2⟩)
  · cases m with
    | zero =>
      cases m' with
      | zero => rfl
      | succ m' => exact (nth_nil (show nth ([] : Sto) m' = some u' from e2)).elim
    | succ m => exact (nth_nil (show nth ([] : Sto) m = some u from e1)).elim
theorem Step.back1 (g : Gs K H Fr ρ st) {n : Nat} {o : Ob} {a : Addr} (hn : nth st n = some o) (ha : ρ[n]? = some a) (s : Step K (FrC Fr ρ st a) H [a] [some o] H' ρc sc) : Step K Fr H ρ st H' ρ (put st n (nth sc 0)) := by
  obtain ⟨gc, iff⟩ := g.in1 hn ha
  have la : Liv ρ st a := ⟨n, o, hn, ha⟩
  have h0 : ρc[0]? = some a := by
    obtain ⟨l, e⟩ := s.pre
    rw [e]; rfl
  have lc : ∀ b, Liv [a] [some o] b → b = a := fun b ⟨m, u, e1, e2⟩ => by
    cases m with
    | zero => simpa using e2.symm
    | succ m => exact (nth_nil (show nth ([] : Sto) m = some u from e1)).elim
  have kp : ∀ b u, H b = some u → b ≠ a → H' b = some u := fun b u e ne => s.keep b u e fun z => ne (lc b z)
  have lv : ∀ m u, nth (put st n (nth sc 0)) m = some u → (m = n ∧ nth sc 0 = some u) ∨ (m ≠ n ∧ nth st m = some u) := fun m u e => by
    by_cases hm : m = n
    · subst hm
      rw [nth_put_same (nth_lt hn)] at e
      exact .inl ⟨rfl, e⟩
    · rw [nth_put_ne hm] at e
      exact .inr ⟨hm, e⟩
  have lvL : ∀ b, Liv ρ (put st n (nth sc 0)) b → Liv ρ st b := fun b ⟨m, u, e1, e2⟩ => by
    rcases lv m u e1 with ⟨rfl, _⟩ | ⟨_, e⟩
    · exact ⟨m, o, hn, e2⟩
    · exact ⟨m, u, e, e2⟩
  have sub : ∀ b, Blk Fr ρ (put st n (nth sc 0)) b → Blk (FrC Fr ρ st a) ρc sc b := fun b z => by
    by_cases e : b = a
    · subst e
      rcases z with z | ⟨m, u, e1, e2⟩
      · exact absurd z (g.dis n b o hn ha)
      · rcases lv m u e1 with ⟨rfl, e⟩ | ⟨ne, e⟩
        · exact .inr ⟨0, u, e, h0⟩
        · exact absurd (g.inj m n b u o e hn e2 ha) ne
    · exact .inl ⟨z.elim .inl fun z => .inr (lvL b z), e⟩
  have sb : Stb H H' (Blk Fr ρ st) (Blk Fr ρ (put st n (nth sc 0))) := (s.stb gc).sub (fun b z => (iff b).mp z) sub
  refine ⟨⟨by rw [put_length]; exact g.len, fun m u e => ?_, fun b f => ?_, fun m b u e1 e2 f => ?_, fun m m' b u u' e1 e2 e3 e4 => ?_⟩, ⟨[], by simp⟩, fun b u e nl => kp b u e fun z => nl (by rw [z]; exact la), fun b z => .inl (lvL b z)⟩
  · rcases lv m u e with ⟨rfl, e'⟩ | ⟨ne, e'⟩
    · obtain ⟨a', h, r1, r2, r3⟩ := s.g.ob 0 u e'
      rw [h0] at r1
      cases r1
      exact ⟨a, h, ha, r2, r3.stb (stb_sub sub)⟩
    · obtain ⟨b, h, r1, r2, r3⟩ := g.ob m u e'
      refine ⟨b, h, r1, kp b h r2 fun z => ?_, r3.stb sb⟩
      rw [z] at r1
      exact ne (g.inj m n a u o e' hn r1 ha)
  · obtain ⟨u, e, m⟩ := g.frm b f
    exact ⟨u, kp b u e fun z => by rw [z] at f; exact g.dis n a o hn ha f, m⟩
  · obtain ⟨m2, u2, q1, q2⟩ := lvL b ⟨m, u, e1, e2⟩
    exact g.dis m2 b u2 q1 q2 f
  · have lift : ∀ {m u}, nth (put st n (nth sc 0)) m = some u → ∃ u', nth st m = some u' := fun {m u} e => by
      rcases lv m u e with ⟨rfl, _⟩ | ⟨_, e⟩
      · exact ⟨o, hn⟩
      · exact ⟨u, e⟩
    obtain ⟨v, f1⟩ := lift e1
    obtain ⟨v', f2⟩ := lift e2
    exact g.inj m m' b v v' f1 f2 e3 e4
theorem Step.back1n (g : Gs K H Fr ρ st) {n : Nat} {o : Ob} {a : Addr} (hn : nth st n = some o) (ha : ρ[n]? = some a) (s : Step K (FrC Fr ρ st a) H [a] [some o] H' ρc sc) {k : Nat} {u : Ob} {p : Addr} (hk : nth sc (k + 1) = some u) (hp : ρc[k + 1]? = some p) :
    Step K Fr H ρ st H' (ρ ++ [p]) (put st n (nth sc 0) ++ [some u]) := by
  obtain ⟨gc, iff⟩ := g.in1 hn ha
  have s0 := Step.back1 g hn ha s
  have lp : Liv ρc sc p := ⟨k + 1, u, hk, hp⟩
  have h0 : ρc[0]? = some a := by
    obtain ⟨l, e⟩ := s.pre
    rw [e]; rfl
  have lc : ∀ b, Liv [a] [some o] b → b = a := fun b ⟨m, u, e1, e2⟩ => by
    cases m with
    | zero => simpa using e2.symm
    | succ m => exact (nth_nil (show nth ([] : Sto) m = some u from e1)).elim
  have hN : H p = none ∨ (p = a ∧ nth sc 0 = none) := by
    rcases s.live p lp with z | z
    · refine .inr ⟨lc p z, ?_⟩
      cases e : nth sc 0 with
      | none => rfl
      | some o' => exact absurd (s.g.inj 0 (k + 1) p o' u e hk (by rw [h0, lc p z]) hp) (by omega)
    · exact .inl z
  have nb : ¬ Blk Fr ρ (put st n (nth sc 0)) p := fun z => by
    rcases hN with e | ⟨rfl, e⟩
    · obtain ⟨o', e', _⟩ : ∃ o', H p = some o' ∧ Mu o' := by
        rcases z with z | ⟨m, v, e1, e2⟩
        · exact g.frm p z
        · by_cases hm : m = n
          · subst hm
            exact g.blk (.inr ⟨m, o, hn, e2⟩)
          · rw [nth_put_ne hm] at e1
            exact g.blk (.inr ⟨m, v, e1, e2⟩)
      rw [e] at e'; cases e'
    · rcases z with z | ⟨m, v, e1, e2⟩
      · exact g.dis n p o hn ha z
      · by_cases hm : m = n
        · subst hm
          rw [nth_put_same (nth_lt hn), e] at e1
          cases e1
        · rw [nth_put_ne hm] at e1
          exact hm (g.inj m n p v o e1 hn e2 ha)
  obtain ⟨p', h, r1, r2, r3⟩ := s.g.ob (k + 1) u hk
  rw [hp] at r1
  cases r1
  have sub : ∀ b, Blk Fr (ρ ++ [p]) (put st n (nth sc 0) ++ [some u]) b → Blk (FrC Fr ρ st a) ρc sc b := fun b z => by
    rcases z with z | z
    · by_cases e : b = a
      · subst e; exact absurd z (g.dis n b o hn ha)
      · exact .inl ⟨.inl z, e⟩
    · rcases liv_app (by rw [put_length]; exact g.len) z with ⟨m, v, e1, e2⟩ | ⟨z, _⟩
      · by_cases hm : m = n
        · subst hm
          rw [nth_put_same (nth_lt hn)] at e1
          rw [ha] at e2
          cases e2
          exact .inr ⟨0, v, e1, h0⟩
        · rw [nth_put_ne hm] at e1
          refine .inl ⟨.inr ⟨m, v, e1, e2⟩, fun z => ?_⟩
          rw [z] at e2
          exact hm (g.inj m n a v o e1 hn e2 ha)
      · rw [z]; exact .inr lp
  have sb : Stb H H' (Blk Fr ρ st) (Blk Fr (ρ ++ [p]) (put st n (nth sc 0) ++ [some u])) := (s.stb gc).sub (fun b z => (iff b).mp z) sub
  refine ⟨s0.g.take nb r2 (r3.stb (stb_sub sub)) (.inr fun m o' e1 b h' e2 e3 => ?_), ⟨[p], rfl⟩, s0.keep, fun b z => ?_⟩
  · by_cases hm : m = n
    · subst hm
      rw [nth_put_same (nth_lt hn)] at e1
      rw [ha] at e2
      cases e2
      obtain ⟨a', h2, q1, q2, q3⟩ := s.g.ob 0 o' e1
      rw [h0] at q1
      cases q1
      rw [q2] at e3
      cases e3
      exact q3.stb (stb_sub sub)
    · rw [nth_put_ne hm] at e1
      obtain ⟨b', h2, q1, q2, q3⟩ := g.ob m o' e1
      rw [e2] at q1
      cases q1
      have ne : b ≠ a := fun z => by
        rw [z] at e2
        exact hm (g.inj m n a o' o e1 hn e2 ha)
      rw [s.keep b h2 q2 fun z => ne (lc b z)] at e3
      cases e3
      exact q3.stb sb
  · rcases liv_app (by rw [put_length]; exact g.len) z with z | ⟨z, _⟩
    · exact s0.live b z
    · rw [z]
      rcases hN with e | ⟨e, _⟩
      · exact .inr e
      · rw [e]; exact .inl ⟨n, o, hn, ha⟩
theorem RepU.back {B B' : Addr → Prop} {ρ' : List Addr} {d : D} {v : V} (h : ∀ a, B' a → B a) (nr : NR d) (r : RepU K H B ρ d v) : RepU K H B' ρ' d v := .of (Rep.stb (stb_sub h) (r.pure nr))
theorem ren_rep {B B' : Addr → Prop} {ρ : List Addr} {n : Nat} {a : Addr} (h : ∀ b, B' b → B b) (ha : ρ[n]? = some a) : ∀ {ds : List D} {vs : List V}, (refN ds = [n] ∨ refN ds = []) → RepUL K H B ρ ds vs → RepUL K H B' [a] (ren ds) vs
  | [], vs, _, r => r
  | d :: ds, vs, hr, r => by
    obtain ⟨v, rest, e, r1, r2⟩ := r
    cases d with
    | ref m =>
      have hr' : m :: refN ds = [n] ∨ m :: refN ds = [] := hr
      rcases hr' with z | z
      · have hm : m = n := by simpa using (List.cons.inj z).1
        have hd : refN ds = [] := (List.cons.inj z).2
        subst hm
        obtain ⟨b, e1, e2⟩ := r1
        rw [ha] at e1
        cases e1
        exact ⟨v, rest, e, ⟨a, rfl, e2⟩, ren_rep h ha (.inr hd) r2⟩
      · cases z
    | _ => exact ⟨v, rest, e, RepU.back h trivial r1, ren_rep h ha hr r2⟩
theorem no_rep {B B' : Addr → Prop} {ρ ρ' : List Addr} (h : ∀ b, B' b → B b) : ∀ {ds : List D} {vs : List V}, refN ds = [] → RepUL K H B ρ ds vs → RepUL K H B' ρ' ds vs
  | [], vs, _, r => r
  | d :: ds, vs, hr, r => by
    obtain ⟨v, rest, e, r1, r2⟩ := r
    cases d with
    | ref m => exact nomatch (show m :: refN ds = [] from hr)
    | _ => exact ⟨v, rest, e, RepU.back h trivial r1, no_rep h hr r2⟩
theorem ren_length : ∀ ds : List D, (ren ds).length = ds.length
  | [] => rfl
  | d :: ds => by cases d <;> simp [ren, ren_length ds]
/-- THE CALL: from the caller's store to what is handed, and back -/
theorem callD.lf {p : Pm} (pm : PMono p) {ds : List D} {vs : List V} {Q : VK} (g : Gs K H Fr ρ st) (r : RepUL K H (Blk Fr ρ st) ρ ds vs) (h : callD p ds st (FinE K Fr H ρ st Q)) (E : XK) : LF K p vs H Q E := by
  unfold callD at h
  split at h
  · rename_i hr
    refine ⟨Blk Fr ρ st, [], [], ds, g.in0, no_rep (fun b z => z.elim id fun z => (liv_nil z).elim) hr r, pm _ _ _ _ (fun d sc q => ?_) h⟩
    intro ρc v H' S rv
    unfold back0 at q
    split at q
    · split at q
      · rename_i k o hk
        obtain ⟨a, ea, ev⟩ := rv
        have S' := Step.back0n g S hk ea
        exact q _ v H' S' ⟨a, by rw [← g.len]; simp, ev⟩
      · exact q.elim
    · rename_i nr
      have nr' : NR d := by
        cases d <;> first
          | trivial
          | exact absurd rfl (nr _)
      have S' := Step.back0 g S
      exact q _ v H' S' (RepU.back (fun b z => .inl z) nr' rv)
  · rename_i n hr
    split at h
    · rename_i o hn
      obtain ⟨a, k, ha, _, _⟩ := g.ob n o hn
      obtain ⟨gc, iff⟩ := g.in1 hn ha
      refine ⟨FrC Fr ρ st a, [a], [some o], ren ds, gc, ren_rep (fun b z => (iff b).mp z) ha (.inl hr) r, pm _ _ _ _ (fun d sc q => ?_) h⟩
      intro ρc v H' S rv
      have h0 : ρc[0]? = some a := by
        obtain ⟨l, e⟩ := S.pre
        rw [e]; rfl
      unfold back1 at q
      split at q
      · have S' := Step.back1 g hn ha S
        obtain ⟨b, e1, e2⟩ := rv
        rw [h0] at e1
        cases e1
        exact q _ v H' S' ⟨a, ha, e2⟩
      · split at q
        · rename_i k u hk
          obtain ⟨b, e1, e2⟩ := rv
          have S' := Step.back1n g hn ha S hk e1
          exact q _ v H' S' ⟨b, by rw [← g.len]; simp, e2⟩
        · exact q.elim
      · rename_i nr nr2
        have nr' : NR d := by
          cases d <;> first
            | trivial
            | (rename_i m; cases m <;> first | exact absurd rfl nr | exact absurd rfl (nr2 _))
        have S' := Step.back1 g hn ha S
        refine q _ v H' S' (RepU.back (fun b z => ?_) nr' rv)
        rcases z with z | ⟨m, u, e1, e2⟩
        · by_cases e : b = a
          · subst e; exact absurd z (g.dis n b o hn ha)
          · exact .inl ⟨.inl z, e⟩
        · by_cases hm : m = n
          · subst hm
            rw [nth_put_same (nth_lt hn)] at e1
            rw [ha] at e2
            cases e2
            exact .inr ⟨0, u, e1, h0⟩
          · rw [nth_put_ne hm] at e1
            refine .inl ⟨.inr ⟨m, u, e1, e2⟩, fun z => ?_⟩
            rw [z] at e2
            exact hm (g.inj m n a u o e1 hn e2 ha)
    · exact h.elim
  · exact h.elim
end

/-! ### what is known of a def, and its call -/
structure Kn (P : Program) (w : World) (K : Frag) (mg : Str → Option Value) (base : Heap) (x : Str) (k n : Nat) (p : Pm) : Prop where
  ex : ∃ f fd ps, FnOk P w K mg base CX0 k f fd ps (LF K p) ∧ mg x = some (.ref f) ∧ PySem.W.keepIn K (.ref f) = true ∧ Binds K fd ps []
  mono : PMono p
section
variable {X : Cx} {x : Str} {k n : Nat} {p : Pm} {e : Expr} {es : List Expr} {wa : WA} {ppos pos : Pos}
theorem LE.call (pm : PMono p) (am : ∀ env st Q Q', (∀ d s, Q d s → Q' d s) → wa env st Q → wa env st Q') {K : Frag} {σ : St} {H : Hp} {Q : VK} {E : XK} (h : LE K (wCall p wa) σ H Q) : tCall (LF K p) [] E (LA K wa) σ H Q := by
  obtain ⟨Fr, ρ, env, st, g, E', hw⟩ := h
  refine ⟨Fr, ρ, env, st, g, E', am _ _ _ _ (fun ds s q => ?_) hw⟩
  intro ρ1 vs H1 S1 r1
  rw [List.append_nil]
  exact callD.lf pm S1.g r1 (callD.mono pm (fun d s q => FinE.step S1 q) q) E
theorem xcall (F : Kn X.prog X.w X.K X.mg X.base x k n p) (hr : Room k X.A) (ha : AX X (e :: es) wa) (hg : Gl X x := by rfl) (hdb : (x == ("__debug__" : Str)) = false := by decide) (he : starEach (e :: es) X.env = (false, eval e X.env) :: starEach es X.env := by rfl) (hpl : (backTo pos (starEach es X.env)).any (·.1) = false := by rfl) :
    EX X (.Call (.Name x ppos) (e :: es) [] pos) (wCall p wa) := by
  obtain ⟨f, fd, ps, hf, hm, hk, hb⟩ := F.ex
  exact ⟨(pe_call hf hr hg hm hk hb .nil pass0 ha.run hdb he hpl).imp fun σ H Q h => h.call F.mono ha.mono, fun env st Q Q' hQ q => ha.mono _ _ _ _ (fun ds s q => callD.mono F.mono hQ q) q⟩
theorem xcall0 (F : Kn X.prog X.w X.K X.mg X.base x k n p) (hr : Room k X.A) (hg : Gl X x := by rfl) (hdb : (x == ("__debug__" : Str)) = false := by decide) :
    EX X (.Call (.Name x ppos) [] [] pos) (wCall p wNil) := by
  obtain ⟨f, fd, ps, hf, hm, hk, hb⟩ := F.ex
  refine ⟨(pe_call0 hf hr hg hm hk hb .nil pass0 hdb).imp fun σ H Q h => ?_, fun env st Q Q' hQ q => callD.mono (ds := []) (st := st) F.mono hQ q⟩
  have h2 := LE.call (wa := wNil) (E := E0) F.mono (fun env st Q Q' hQ q => hQ _ _ q) h
  obtain ⟨Fr, ρ, env, st, g, E', hw⟩ := h2
  exact hw ρ [] H (.refl g) rfl
end

/-! ### a def's body -/
def startM : Nat → List D → Env
  | 0, _ => []
  | n + 1, [] => none :: startM n []
  | n + 1, d :: ds => some d :: startM n ds
theorem startM_rep {K : Frag} {H : Hp} {B : Addr → Prop} {ρ : List Addr} : ∀ (n : Nat) {ds : List D} {vs : List V}, ds.length ≤ n → RepUL K H B ρ ds vs → EnvR K H B ρ (startM n ds) (vs.map some ++ List.replicate (n - vs.length) none)
  | 0, ds, vs, hl, r => by
    have e : ds = [] := List.eq_nil_of_length_eq_zero (Nat.le_zero.mp hl)
    subst e
    have e : vs = [] := r
    subst e
    rfl
  | n + 1, [], vs, hl, r => by
    have e : vs = [] := r
    subst e
    exact ⟨none, List.replicate n none, by simp [List.replicate_succ], (fun d e => by cases e), by
      have := startM_rep (K := K) (H := H) (B := B) (ρ := ρ) n (ds := []) (vs := []) (Nat.zero_le _) rfl
      simpa using this⟩
  | n + 1, d :: ds, vs, hl, r => by
    obtain ⟨v, rest, rfl, r1, r2⟩ := r
    refine ⟨some v, rest.map some ++ List.replicate (n - rest.length) none, by simp, fun d' e => by cases e; exact ⟨v, rfl, r1⟩, startM_rep n (by simpa using hl) r2⟩
/-- what is handed back: what is one's own alone is let go -/
def outK (n : Nat) (Q : WK) : WK := fun d st => (NR d ∧ Q d (st.take n)) ∨ Q d st
def endK (n : Nat) (Q : WK) : EndM := ⟨fun _ st => Q .non (st.take n), outK n Q, fun _ _ => False, fun _ _ => False⟩
theorem nth_take {α : Type} : ∀ {l : List (Option α)} {n m : Nat} {x : α}, nth (l.take n) m = some x → nth l m = some x ∧ m < n
  | [], n, m, x, h => by simp [nth] at h
  | y :: l, 0, m, x, h => by simp [nth] at h
  | y :: l, n + 1, 0, x, h => ⟨h, Nat.succ_pos _⟩
  | y :: l, n + 1, m + 1, x, h => by
    obtain ⟨h1, h2⟩ := nth_take (l := l) (n := n) (m := m) (x := x) h
    exact ⟨h1, Nat.succ_lt_succ h2⟩
theorem Step.trunc {K : Frag} {Fr : Addr → Prop} {H H' : Hp} {ρ ρ' : List Addr} {st st' : Sto} (g : Gs K H Fr ρ st) (s : Step K Fr H ρ st H' ρ' st') : Step K Fr H ρ st H' (ρ'.take st.length) (st'.take st.length) := by
  have nt : ∀ n o, nth (st'.take st.length) n = some o → nth st' n = some o ∧ (ρ'.take st.length)[n]? = ρ'[n]? := fun n o e => by
    obtain ⟨e1, e2⟩ := nth_take e
    exact ⟨e1, by rw [List.getElem?_take, if_pos e2]⟩
  have lv : ∀ a, Liv (ρ'.take st.length) (st'.take st.length) a → Liv ρ' st' a := fun a ⟨n, o, e1, e2⟩ => by
    obtain ⟨f1, f2⟩ := nt n o e1
    exact ⟨n, o, f1, by rw [← f2]; exact e2⟩
  have sb : Stb H' H' (Blk Fr ρ' st') (Blk Fr (ρ'.take st.length) (st'.take st.length)) := stb_sub fun a z => z.elim .inl fun z => .inr (lv a z)
  refine ⟨⟨by rw [List.length_take, List.length_take, s.g.len], fun n o e => ?_, s.g.frm, fun n a o e1 e2 => ?_, fun n m a o o' e1 e2 e3 e4 => ?_⟩, ?_, s.keep, fun a z => s.live a (lv a z)⟩
  · obtain ⟨f1, f2⟩ := nt n o e
    obtain ⟨a, h, r1, r2, r3⟩ := s.g.ob n o f1
    exact ⟨a, h, by rw [f2]; exact r1, r2, r3.stb sb⟩
  · obtain ⟨f1, f2⟩ := nt n o e1
    exact s.g.dis n a o f1 (by rw [← f2]; exact e2)
  · obtain ⟨f1, f2⟩ := nt n o e1
    obtain ⟨f3, f4⟩ := nt m o' e2
    exact s.g.inj n m a o o' f1 f3 (by rw [← f2]; exact e3) (by rw [← f4]; exact e4)
  · obtain ⟨l, e⟩ := s.pre
    exact ⟨[], by rw [e, ← g.len, List.take_left, List.append_nil]⟩
/-! ### one's own list, frozen from here on -/
def wFrz (i : Nat) (w : WS) : WS := fun D env st => match nth env i with
  | some (.ref n) => match nth st n with
    | some (.lst xs) => w D (put env i (some (.lst xs))) (put st n none)
    | _ => False
  | _ => False
theorem set_same {α : Type} : ∀ {l : List α} {i : Nat} {x : α}, l[i]? = some x → l.set i x = l
  | [], i, x, h => by simp at h
  | y :: l, 0, x, h => by simp at h; subst h; rfl
  | y :: l, i + 1, x, h => by
    show y :: l.set i x = y :: l
    rw [set_same (l := l) (by simpa using h)]
theorem LS.frz {K : Frag} {i : Nat} {w : WS} (wm : ∀ D D', D.le D' → ∀ env st, w D env st → w D' env st) {D : Ends} {σ : St} {H : Hp} (h : LS K (wFrz i w) D σ H) : LS K w D σ H := by
  obtain ⟨Fr, ρ, env, st, g, E, hw⟩ := h
  unfold wFrz at hw
  split at hw
  · rename_i n hi
    split at hw
    · rename_i xs hn
      obtain ⟨v, ev, r⟩ := E.nth hi
      obtain ⟨p, vs, rfl, e1, e, rl⟩ := g.own hn r
      have nl : ∀ m o, nth (put st n none) m = some o → nth st m = some o := fun m o q => by
        by_cases hm : m = n
        · subst hm
          rw [nth_put_same (nth_lt hn)] at q
          cases q
        · rw [nth_put_ne hm] at q
          exact q
      have S := Step.drop g (st' := put st n none) (put_length _ _ _) nl
      have nb : ¬ Blk Fr ρ (put st n none) p := fun z => by
        rcases z with z | ⟨m, o, q1, q2⟩
        · exact g.dis n p _ hn e1 z
        · have q3 := nl m o q1
          have : m = n := g.inj m n p o _ q3 hn q2 e1
          subst this
          rw [nth_put_same (nth_lt hn)] at q1
          cases q1
      have E2 := (EnvR.step g S E).put (i := i) (d := .lst xs) (v := .ref p) ⟨p, vs, rfl, nb, e, RepL.stb (S.stb g) rl⟩
      rw [set_same ev] at E2
      exact ⟨Fr, ρ, _, _, S.g, E2, wm _ _ (FinD.step S) _ _ hw⟩
    · exact hw.elim
  · exact hw.elim
section
variable {X : Cx}
theorem sfrz (i : Nat) {s : Stmt} {w : WS} (h : SX X s w) : SX X s (wFrz i w) := by
  refine ⟨h.run.imp fun D σ H q => LS.frz h.mono q, fun D D' l env st q => ?_⟩
  unfold wFrz at q ⊢
  split at q
  · split at q
    · exact h.mono _ _ l _ _ q
    · exact q.elim
  · exact q.elim
end
end M

/-! M9: a def of the text, the law's end. -/
namespace M
open PySem PySem.Spec PyProof.Rows L2

/-- a def of the module as it stands behind the top -/
def Df (K : Frag) (mg : Str → Option Value) (x : Str) (st : Stmt) (ps : List Str) : Prop := ∃ f fd, FunD K x x (defArgs st) (defBody st) (defScope st) [] [] f fd ∧ mg x = some (.ref f) ∧ Binds K fd ps []
section
variable {P : Program} {w : World} {K : Frag} {mg : Str → Option Value} {base : Heap}
theorem LF.fn {x : Str} {st : Stmt} {f : Addr} {fd : FuncData} {N ps : List Str} {k : Nat} {p : Pm} {wb : WS} (F : FunD K x x (defArgs st) (defBody st) (defScope st) [] [] f fd) (S : FnScope N ps (defScope st)) (pl : ∀ ds so Q, p ds so Q → ds.length = ps.length)
    (body : ∀ (cdv : Value) (A : Around) (outer : List PySem.Env) (s : Shared) (H : Hp) (E : XK), Room k (A.deeper (envOfC x (defScope st) s.heap.objs.size f cdv)) → SXs (cxOf CX0 P w K mg base N x (defScope st) f cdv A outer s H E).nox (defBody st) wb)
    (read : ∀ ds so Q, p ds so Q → wb (endK so.length Q) (startM N.length ds) so) : FnOk P w K mg base CX0 (k + 1) f fd ps (LF K p) := by
  refine F.ok S (fun vs H Q E h => ?_) fun cdv A outer s H vs Q E hr h => ?_
  · obtain ⟨Fr, ρ, so, ds, g, r, hp⟩ := h
    rw [r.length]
    exact pl ds so _ hp
  · obtain ⟨Fr, ρ, so, ds, g, r, hp⟩ := h
    have b := body cdv A outer s H E hr
    refine ⟨_, PSs.nox b.run, Fr, ρ, startM N.length ds, so, g, ?_, b.mono _ _ ?_ _ _ (read ds so _ hp)⟩
    · refine startM_rep N.length ?_ r
      rw [pl ds so _ hp]
      have e : (N.take ps.length).length = ps.length := by rw [S.pre]
      rw [List.length_take] at e
      omega
    · refine ⟨fun e st' q => ?_, fun d st' q => ?_, fun _ _ h => h.elim, fun _ _ h => h.elim⟩
      · intro ρ' σ' H' S' E'
        exact q _ _ H' (Step.trunc g S') (.of (show Rep _ _ _ .non _ from rfl))
      · intro ρ' v H' S' r'
        rcases q with ⟨nr, q⟩ | q
        · have S2 := Step.trunc g S'
          refine q _ v H' S2 (RepU.back (fun a z => ?_) nr r')
          rcases z with z | ⟨n, o, e1, e2⟩
          · exact .inl z
          · obtain ⟨f1, f2⟩ := nth_take e1
            exact .inr ⟨n, o, f1, by rw [List.getElem?_take, if_pos f2] at e2; exact e2⟩
        · exact q ρ' v H' S' r'
theorem kn_of {x : Str} {st : Stmt} {N ps : List Str} {k : Nat} {p : Pm} {wb : WS} (F : Df K mg x st ps) (S : FnScope N ps (defScope st)) (pm : PMono p) (pl : ∀ ds so Q, p ds so Q → ds.length = ps.length)
    (body : ∀ (f : Addr) (cdv : Value) (A : Around) (outer : List PySem.Env) (s : Shared) (H : Hp) (E : XK), Room k (A.deeper (envOfC x (defScope st) s.heap.objs.size f cdv)) → SXs (cxOf CX0 P w K mg base N x (defScope st) f cdv A outer s H E).nox (defBody st) wb)
    (read : ∀ ds so Q, p ds so Q → wb (endK so.length Q) (startM N.length ds) so) : Kn P w K mg base x (k + 1) ps.length p := by
  obtain ⟨f, fd, hF, hm, hb⟩ := F
  exact ⟨⟨f, fd, ps, LF.fn hF S pl (body f) read, hm, hF.kp, hb⟩, pm⟩
theorem Kn.mono_k {x : Str} {j k n : Nat} {p : Pm} (h : Kn P w K mg base x j n p) (hk : j ≤ k) : Kn P w K mg base x k n p := by
  obtain ⟨f, fd, ps, h1, h2⟩ := h.ex
  exact ⟨⟨f, fd, ps, h1.mono hk, h2⟩, h.mono⟩
end
/-- the law's own promise: of the script, True -/
def pLaw (n : Nat) : Pm := fun ds st Q => ∃ ns : List Int, ns.length ≤ n ∧ ds = [.rd (ns.map .int)] ∧ st = [] ∧ Q (.bl true) []
theorem pLaw.mono {n : Nat} : PMono (pLaw n) := fun ds st Q Q' h ⟨ns, hl, e, e2, q⟩ => ⟨ns, hl, e, e2, h _ _ q⟩
theorem pLaw.len {n : Nat} : ∀ ds so Q, pLaw n ds so Q → ds.length = 1 := fun ds st Q ⟨ns, hl, e, _⟩ => by rw [e]; rfl
theorem gs_nil {K : Frag} {H : Hp} : Gs K H (fun _ => False) [] [] := ⟨rfl, fun n o e => (nth_nil e).elim, fun a f => f.elim, fun n a o e => (nth_nil e).elim, fun n m a o o' e => (nth_nil e).elim⟩
theorem law_sp {K : Frag} {n : Nat} {H : Hp} {a : Addr} {ns : List Int} (hl : ns.length ≤ n) (hO : Only H) (hS : SqL K H a (ns.map V.int)) (E : XK) : LF K (pLaw n) [.ref a] H (fun v _ => v = .bl true) E := by
  refine ⟨fun _ => False, [], [], [.rd (ns.map .int)], gs_nil, ⟨.ref a, [], rfl, ⟨a, _, rfl, ?_, RepL.ints⟩, rfl⟩, ns, hl, rfl, rfl, fun ρ' v H' S r => r⟩
  rcases hS with (h | ⟨o, h⟩) | h
  · rcases hO a with z | ⟨o, xs, z⟩
    · rw [h] at z; cases z
    · rw [h] at z; cases z
  · exact .inl ⟨o, h⟩
  · exact .inr h
end M

/-! M10: isinstance, three names at once. -/
namespace M
open PySem PySem.Spec PyProof.Rows L2

/-! ### isinstance -/
def tyD (st : Sto) : D → Option String
  | .non => some "NoneType"
  | .bl _ => some "bool"
  | .int _ => some "int"
  | .str _ => some "str"
  | .tup _ => some "tuple"
  | .lst _ => some "list"
  | .rd _ => some "list"
  | .dct _ _ => some "dict"
  | .iset _ => some "set"
  | .ref n => match nth st n with
    | some (.lst _) => some "list"
    | some (.dct _ _) => some "dict"
    | some (.iset _) => some "set"
    | none => none
def isT (T t : String) : Bool := t == T || (t == "bool" && T == "int")
def wIsi (T : String) (w : WE) : WE := fun env st Q => w env st fun d st' => match tyD st' d with
  | some t => Q (.bl (isT T t)) st'
  | none => False
theorem dct_ty {K : Frag} {H : Hp} {a : Addr} {ks : List D} {vs : List V} {o : HO} (e : H a = some o) (h : DctO ks vs o) : TyX K H (.ref a) (.type "dict") := by
  rcases h with ⟨kk, _, _, rfl⟩ | ⟨kk, _, _, rfl⟩
  · exact .base (.dK e)
  · exact .base (.dT e)
theorem tyX {K : Frag} {H : Hp} {Fr : Addr → Prop} {ρ : List Addr} {st : Sto} (g : Gs K H Fr ρ st) {d : D} {v : V} (r : RepU K H (Blk Fr ρ st) ρ d v) {t : String} (h : tyD st d = some t) : TyX K H v (.type t) := by
  cases d with
  | non => cases h; cases (show v = .non from r); exact .base .non
  | bl b => cases h; cases (show v = .bl b from r); exact .base (.bl b)
  | int b => cases h; cases (show v = .int b from r); exact .base (.int b)
  | str b => cases h; cases (show v = .str b from r); exact .base (.str b)
  | tup xs =>
    cases h
    obtain ⟨a, vs, rfl, (q | ⟨o, q⟩) | ⟨o, its, n, q1, q2, _⟩, _⟩ := r
    · exact .base (.tup q)
    · exact .fTuple q
    · exact .kTuple q1 q2
  | lst xs =>
    cases h
    obtain ⟨a, vs, rfl, _, q, _⟩ := r
    exact .base (.lst q)
  | dct ks xs =>
    cases h
    obtain ⟨a, o, vs, rfl, _, q, c, _⟩ := r
    exact dct_ty q c
  | iset xs =>
    cases h
    obtain ⟨a, o, rfl, _, q, _, rfl⟩ := r
    exact .set q
  | rd xs =>
    cases h
    obtain ⟨a, vs, rfl, ⟨o, q⟩ | ⟨o, its, n, q1, q2, _⟩, _⟩ := r
    · exact .base (.frz q)
    · exact .kList q1 q2
  | ref n =>
    obtain ⟨a, e, rfl⟩ := r
    have h' : (match nth st n with
      | some (.lst _) => some "list"
      | some (.dct _ _) => some "dict"
      | some (.iset _) => some "set"
      | none => none) = some t := h
    cases hn : nth st n with
    | none => rw [hn] at h'; cases h'
    | some o =>
      rw [hn] at h'
      obtain ⟨a', ho, r1, r2, c⟩ := g.ob n _ hn
      rw [e] at r1
      cases r1
      cases o with
      | lst xs => cases h'; obtain ⟨vs, rfl, _⟩ := c; exact .base (.lst r2)
      | dct ks ds => cases h'; obtain ⟨vs, _, c⟩ := c; exact dct_ty r2 c
      | iset xs => cases h'; obtain ⟨_, rfl⟩ := c; exact .set r2
section
variable {X : Cx} {T : String} {e : Expr} {w : WE} {pn pt pos : Pos}
theorem isi_of {x : Str} (hk : ∀ t, kitB t T = some (isT T t) ∨ t ∉ ["NoneType", "bool", "int", "str", "tuple", "list", "dict", "set"]) (hv : bootBuiltins x = some (.type T)) (hm : X.mg "isinstance" = none) (hm2 : X.mg x = none) (he : EX X e w)
    (hg : Gl X "isinstance" := by rfl) (hg2 : Gl X x := by rfl) (hn : x ≠ "__name__") (hdb : (x == ("__debug__" : Str)) = false)
    (hs : starEach [e, .Name x pt] X.env = (false, eval e X.env) :: starEach [.Name x pt] X.env := by rfl) (hs2 : starEach [.Name x pt] X.env = (false, eval (.Name x pt) X.env) :: starEach [] X.env := by rfl) (hpl : (backTo pos (starEach [.Name x pt] X.env)).any (·.1) = false := by rfl) :
    EX X (.Call (.Name "isinstance" pn) [e, .Name x pt] [] pos) (wIsi T w) := by
  refine ⟨(pe_callB call_isi hg hm (by decide +kernel) (pa_cons he.run (pa_cons (pe_bltn (v := .ty T) hg2 hm2 hv rfl hn hdb) pa_nil hs2) hs) (by decide) (by decide) hs hpl).imp fun σ H Q ⟨Fr, ρ, env, st, g, E, hw⟩ => ?_, fun env st Q Q' hQ q => ?_⟩
  · refine ⟨Fr, ρ, env, st, g, E, he.mono _ _ _ _ (fun d s q => ?_) hw⟩
    intro ρ1 v H1 S1 r1
    split at q
    · rename_i t ht
      have k : kitB t T = some (isT T t) := by
        rcases hk t with k | k
        · exact k
        · exfalso
          apply k
          unfold tyD at ht
          split at ht <;> first
            | (cases ht; simp; done)
            | (split at ht <;> first | (cases ht; simp; done) | cases ht)
      refine ⟨v, .ty T, .type t, .type T, isT T t, rfl, .ty T, tyX S1.g r1 ht, kit_ty k, ?_⟩
      exact q ρ1 _ H1 S1 (.of (show Rep _ _ _ (.bl _) _ from rfl))
    · exact q.elim
  · refine he.mono _ _ _ _ (fun d s q => ?_) q
    split at q
    · exact hQ _ _ q
    · exact q.elim
theorem kB {T : String} (h : (["NoneType", "bool", "int", "str", "tuple", "list", "dict", "set"].all fun t => decide (kitB t T = some (isT T t))) = true) (t : String) : kitB t T = some (isT T t) ∨ t ∉ ["NoneType", "bool", "int", "str", "tuple", "list", "dict", "set"] := by
  by_cases ht : t ∈ ["NoneType", "bool", "int", "str", "tuple", "list", "dict", "set"]
  · exact .inl (of_decide_eq_true (List.all_eq_true.mp h t ht))
  · exact .inr ht
theorem kB_int : (["NoneType", "bool", "int", "str", "tuple", "list", "dict", "set"].all fun t => decide (kitB t "int" = some (isT "int" t))) = true := by decide +kernel
theorem kB_bool : (["NoneType", "bool", "int", "str", "tuple", "list", "dict", "set"].all fun t => decide (kitB t "bool" = some (isT "bool" t))) = true := by decide +kernel
theorem kB_str : (["NoneType", "bool", "int", "str", "tuple", "list", "dict", "set"].all fun t => decide (kitB t "str" = some (isT "str" t))) = true := by decide +kernel
theorem kB_tuple : (["NoneType", "bool", "int", "str", "tuple", "list", "dict", "set"].all fun t => decide (kitB t "tuple" = some (isT "tuple" t))) = true := by decide +kernel
theorem kB_list : (["NoneType", "bool", "int", "str", "tuple", "list", "dict", "set"].all fun t => decide (kitB t "list" = some (isT "list" t))) = true := by decide +kernel
theorem kB_dict : (["NoneType", "bool", "int", "str", "tuple", "list", "dict", "set"].all fun t => decide (kitB t "dict" = some (isT "dict" t))) = true := by decide +kernel
theorem xisi_int (hm : X.mg "isinstance" = none) (hm2 : X.mg "int" = none) (he : EX X e w) (hg : Gl X "isinstance" := by rfl) (hg2 : Gl X "int" := by rfl)
    (hs : starEach [e, .Name "int" pt] X.env = (false, eval e X.env) :: starEach [.Name "int" pt] X.env := by rfl) : EX X (.Call (.Name "isinstance" pn) [e, .Name "int" pt] [] pos) (wIsi "int" w) := isi_of (kB kB_int) (by decide +kernel) hm hm2 he hg hg2 (by decide) (by decide) hs
theorem xisi_bool (hm : X.mg "isinstance" = none) (hm2 : X.mg "bool" = none) (he : EX X e w) (hg : Gl X "isinstance" := by rfl) (hg2 : Gl X "bool" := by rfl)
    (hs : starEach [e, .Name "bool" pt] X.env = (false, eval e X.env) :: starEach [.Name "bool" pt] X.env := by rfl) : EX X (.Call (.Name "isinstance" pn) [e, .Name "bool" pt] [] pos) (wIsi "bool" w) := isi_of (kB kB_bool) (by decide +kernel) hm hm2 he hg hg2 (by decide) (by decide) hs
theorem xisi_str (hm : X.mg "isinstance" = none) (hm2 : X.mg "str" = none) (he : EX X e w) (hg : Gl X "isinstance" := by rfl) (hg2 : Gl X "str" := by rfl)
    (hs : starEach [e, .Name "str" pt] X.env = (false, eval e X.env) :: starEach [.Name "str" pt] X.env := by rfl) : EX X (.Call (.Name "isinstance" pn) [e, .Name "str" pt] [] pos) (wIsi "str" w) := isi_of (kB kB_str) (by decide +kernel) hm hm2 he hg hg2 (by decide) (by decide) hs
theorem xisi_tuple (hm : X.mg "isinstance" = none) (hm2 : X.mg "tuple" = none) (he : EX X e w) (hg : Gl X "isinstance" := by rfl) (hg2 : Gl X "tuple" := by rfl)
    (hs : starEach [e, .Name "tuple" pt] X.env = (false, eval e X.env) :: starEach [.Name "tuple" pt] X.env := by rfl) : EX X (.Call (.Name "isinstance" pn) [e, .Name "tuple" pt] [] pos) (wIsi "tuple" w) := isi_of (kB kB_tuple) (by decide +kernel) hm hm2 he hg hg2 (by decide) (by decide) hs
theorem xisi_list (hm : X.mg "isinstance" = none) (hm2 : X.mg "list" = none) (he : EX X e w) (hg : Gl X "isinstance" := by rfl) (hg2 : Gl X "list" := by rfl)
    (hs : starEach [e, .Name "list" pt] X.env = (false, eval e X.env) :: starEach [.Name "list" pt] X.env := by rfl) : EX X (.Call (.Name "isinstance" pn) [e, .Name "list" pt] [] pos) (wIsi "list" w) := isi_of (kB kB_list) (by decide +kernel) hm hm2 he hg hg2 (by decide) (by decide) hs
theorem xisi_dict (hm : X.mg "isinstance" = none) (hm2 : X.mg "dict" = none) (he : EX X e w) (hg : Gl X "isinstance" := by rfl) (hg2 : Gl X "dict" := by rfl)
    (hs : starEach [e, .Name "dict" pt] X.env = (false, eval e X.env) :: starEach [.Name "dict" pt] X.env := by rfl) : EX X (.Call (.Name "isinstance" pn) [e, .Name "dict" pt] [] pos) (wIsi "dict" w) := isi_of (kB kB_dict) (by decide +kernel) hm hm2 he hg hg2 (by decide) (by decide) hs
abbrev wIsi_int := wIsi "int"
abbrev wIsi_bool := wIsi "bool"
abbrev wIsi_str := wIsi "str"
abbrev wIsi_tuple := wIsi "tuple"
abbrev wIsi_list := wIsi "list"
abbrev wIsi_dict := wIsi "dict"

/-! ### a, b, c = x, y, z -/
def wPar3 (i j l : Nat) (wa : WA) : WS := fun D env st => wa env st fun ds st' => match ds with
  | [a, b, c] => D.nx (put (put (put env i (some a)) j (some b)) l (some c)) st'
  | _ => False
theorem spar3 {i j l : Nat} {x y z : Str} {a b c : Expr} {wa : WA} {px py pz pt : Pos} {kt k2 pt2} (hc : X.calm = true) (hN : X.N.Nodup) (hi : X.N[i]? = some x) (hj : X.N[j]? = some y) (hl : X.N[l]? = some z) (hij : i ≠ j) (hil : i ≠ l) (hjl : j ≠ l)
    (hx : X.env.scope.names.lookup x = some .local) (hy : X.env.scope.names.lookup y = some .local) (hz : X.env.scope.names.lookup z = some .local) (ha : AX X [a, b, c] wa)
    (hw : swappedStores [.Tuple [.Name x px, .Name y py, .Name z pz] kt pt] (.Tuple [a, b, c] k2 pt2) X.env = pure (some [x, y, z]) := by rfl)
    (hs : swapsWithSole [.Tuple [.Name x px, .Name y py, .Name z pz] kt pt] (.Tuple [a, b, c] k2 pt2) pos.line X.env = pure false := by rfl) :
    SX X (.Assign [.Tuple [.Name x px, .Name y py, .Name z pz] kt pt] (.Tuple [a, b, c] k2 pt2) pos) (wPar3 i j l wa) := by
  refine ⟨(ps_par3 hc hN hi hj hl hij hil hjl hx hy hz ha.run hw hs).imp fun D σ H ⟨Fr, ρ, env, st, g0, E, hw⟩ => ?_, fun D D' l env st q => ha.mono _ _ _ _ (fun ds s q => ?_) q⟩
  · refine ⟨Fr, ρ, env, st, g0, E, ha.mono _ _ _ _ (fun ds s q => ?_) hw⟩
    intro ρ1 vs H1 S1 r1
    match ds, r1, q with
    | [], _, q => exact q.elim
    | [_], _, q => exact q.elim
    | [_, _], _, q => exact q.elim
    | [a, b, c], r1, q =>
      obtain ⟨v, r, e, rv, v2, r2, e2, rv2, v3, r3, e3, rv3, e4⟩ := r1
      have e4' : r3 = [] := e4
      subst e4' e3 e2 e
      exact ⟨v, v2, v3, rfl, q ρ1 _ H1 S1 ((((E.step g0 S1).put rv).put rv2).put rv3)⟩
    | _ :: _ :: _ :: _ :: _, _, q => exact q.elim
  · match ds, q with
    | [], q => exact q.elim
    | [_], q => exact q.elim
    | [_, _], q => exact q.elim
    | [a, b, c], q => exact l.nx _ _ q
    | _ :: _ :: _ :: _ :: _, q => exact q.elim
end
end M

/-! M11: how a reading goes: sequences, loops, comprehensions. -/
namespace M
open PySem PySem.Spec PyProof.Rows L2

theorem seq_mid {t u : WS} {D : EndM} {env : Env} {st : Sto} (I : Env → Sto → Prop) (key : ∀ env st, I env st → u D env st) (h : ∀ N : WN, (∀ env st, I env st → N env st) → t { D with nx := N } env st) : wSeq t u D env st := h _ key
theorem ifB_or {a b : Bool} {B E : Prop} (h1 : (a = true ∨ b = true) → B) (h2 : a = false → b = false → E) : ifB a (ifB true B E) (ifB b B E) :=
  ifB.of (fun h => ifB_t (h1 (.inl h))) fun h => ifB.of (fun h' => h1 (.inr h')) fun h' => h2 h h'
theorem ifB_nt {A B : Prop} (h : B) : ifB (!true) A B := ifB_f h
theorem ifB_nf {A B : Prop} (h : A) : ifB (!false) A B := ifB_t h
theorem ifB_or3 {a b c : Bool} {B E : Prop} (h1 : (a = true ∨ b = true ∨ c = true) → B) (h2 : a = false → b = false → c = false → E) : ifB a (ifB true B E) (ifB b (ifB true B E) (ifB c B E)) :=
  ifB.of (fun h => ifB_t (h1 (.inl h))) fun h => ifB_or (fun z => h1 (.inr z)) (h2 h)
theorem ifB_and {a b : Bool} {B E : Prop} (h1 : a = true → b = true → B) (h2 : (a = false ∨ b = false) → E) : ifB a (ifB b B E) (ifB false B E) :=
  ifB.of (fun h => ifB.of (fun h' => h1 h h') fun h' => h2 (.inr h')) fun h => ifB_f (h2 (.inl h))
theorem dec_t {p : Prop} [Decidable p] (h : decide p = true) : p := of_decide_eq_true h
theorem dec_f {p : Prop} [Decidable p] (h : decide p = false) : ¬ p := of_decide_eq_false h
theorem ndec_t {p : Prop} [Decidable p] (h : (!decide p) = true) : ¬ p := by simpa using h
theorem ndec_f {p : Prop} [Decidable p] (h : (!decide p) = false) : p := by simpa using h
theorem atI_of {α : Type} {xs : List α} {i : Int} {x : α} (h0 : 0 ≤ i) (h1 : xs[i.toNat]? = some x) : atI xs i = some x := by
  have e : i.toNat < xs.length := (List.getElem?_eq_some_iff.mp h1).1
  unfold atI ixN
  rw [if_pos h0, if_pos (by omega)]
  exact h1
theorem atI_nat {α : Type} {xs : List α} {k : Nat} {x : α} (h1 : xs[k]? = some x) : atI xs (k : Int) = some x := atI_of (by omega) (by simpa using h1)
theorem atI_map {α β : Type} {f : α → β} {xs : List α} {i : Int} (h0 : 0 ≤ i) (h1 : i < xs.length) : ∃ x, x ∈ xs ∧ xs[i.toNat]? = some x ∧ atI (xs.map f) i = some (f x) := by
  have e : i.toNat < xs.length := by omega
  refine ⟨xs[i.toNat], List.getElem_mem e, List.getElem?_eq_getElem e, atI_of h0 ?_⟩
  rw [List.getElem?_map, List.getElem?_eq_getElem e]
  rfl
theorem atI_last {α : Type} {xs : List α} {x : α} : atI (xs ++ [x]) (-1) = some x := by
  unfold atI ixN
  rw [if_neg (by omega), if_pos (by simp; omega)]
  show (xs ++ [x])[(((xs ++ [x]).length : Int) + -1).toNat |> fun k => k]? = some x
  have e : ((-1 : Int) + ((xs ++ [x]).length : Int)).toNat = xs.length := by simp; omega
  show (xs ++ [x])[((-1 : Int) + ((xs ++ [x]).length : Int)).toNat]? = some x
  rw [e]
  simp
theorem nrl_ints (ns : List Int) : NRL (ns.map .int) := by
  induction ns with
  | nil => exact True.intro
  | cons n ns ih => exact ⟨True.intro, ih⟩
theorem ifE {k : Bool} {wa wb : WE} {env : Env} {st : Sto} {Q : WK} (I : D → Sto → Prop) (ha : k = true → ∀ N : WK, (∀ d s, I d s → N d s) → wa env st N) (hb : k = false → ∀ N : WK, (∀ d s, I d s → N d s) → wb env st N) (h : ∀ d s, I d s → Q d s) : ifB k (wa env st Q) (wb env st Q) :=
  ifB.of (fun z => ha z Q h) fun z => hb z Q h
mutual
theorem eqD_refl : ∀ (n : Nat) (d : D), ShN n d → eqD d d = true
  | _, .non, _ => rfl
  | _, .bl b, _ => by cases b <;> rfl
  | _, .int i, _ => by simp [eqD]
  | _, .str x, _ => by simp [eqD]
  | 0, .tup _, h => h.elim
  | n + 1, .tup xs, h => eqL_refl n xs h
  | 0, .lst _, h => h.elim
  | n + 1, .lst xs, h => eqL_refl n xs h
  | 0, .rd _, h => h.elim
  | n + 1, .rd xs, h => eqL_refl n xs h
  | 0, .dct _ _, h => h.elim
  | 0, .iset _, h => h.elim
  | 0, .ref _, h => h.elim
  | _ + 1, .dct _ _, h => h.elim
  | _ + 1, .iset _, h => h.elim
  | _ + 1, .ref _, h => h.elim
theorem eqL_refl : ∀ (n : Nat) (ds : List D), ShL n ds → eqL ds ds = true
  | _, [], _ => rfl
  | n, d :: ds, h => by
    show (eqD d d && eqL ds ds) = true
    rw [eqD_refl n d h.1, eqL_refl n ds h.2]
    rfl
end
theorem eq_same {d : D} {st : Sto} {Q : WK} (hs : ShN 60 d) (h : Q (.bl true) st) : wEq d d st Q := by
  have e := eqD_refl 60 d hs
  cases d with
  | int i =>
    show Q (.bl (decide (i = i))) st
    rw [decide_eq_true rfl]
    exact h
  | bl b =>
    show Q (.bl (b == b)) st
    rw [beq_self_eq_true]
    exact h
  | str x =>
    show Q (.bl (decide (x = x))) st
    rw [decide_eq_true rfl]
    exact h
  | _ => exact ⟨hs, hs, by rw [e]; exact h⟩
theorem ne_same {d : D} {st : Sto} {Q : WK} (hs : ShN 60 d) (h : Q (.bl false) st) : wNe d d st Q := by
  have e := eqD_refl 60 d hs
  cases d with
  | int i =>
    show Q (.bl (!decide (i = i))) st
    rw [decide_eq_true rfl]
    exact h
  | bl b =>
    show Q (.bl (!(b == b))) st
    rw [beq_self_eq_true]
    exact h
  | str x =>
    show Q (.bl (!decide (x = x))) st
    rw [decide_eq_true rfl]
    exact h
  | _ => exact ⟨hs, hs, by rw [e]; exact h⟩
theorem back0_nr {st sc : Sto} {Q : WK} {d : D} (h : NR d) (q : Q d st) : back0 st Q d sc := by
  cases d with
  | ref n => exact h.elim
  | _ => exact q
theorem back1_nr {st sc : Sto} {n : Nat} {Q : WK} {d : D} (h : NR d) (q : Q d (put st n (nth sc 0))) : back1 st n Q d sc := by
  cases d with
  | ref n => exact h.elim
  | _ => exact q
/-! ### loops -/
theorem while_inv {c : WT} {b : WS} {D : EndM} {env : Env} {st : Sto} (W : Nat → Env → Sto → Prop) (m : Nat) (h0 : W m env st)
    (step : ∀ m env st, W m env st → ∀ N : WN, (∀ m', m' < m → ∀ e s, W m' e s → N e s) → c env st fun k st1 => ifB k (b { D with nx := N, ct := N, bk := D.nx } env st1) (D.nx env st1)) : wWhile c b D env st :=
  ⟨W, ⟨m, h0⟩, fun m env st h => step m env st h _ fun m' hm e s q => ⟨m', hm, q⟩⟩
theorem for_inv {g : WG} {b : WS} {En : EndM} : ∀ {items : List D} (I : Nat → Env → Sto → Prop) {env : Env} {st : Sto} (h0 : I 0 env st) (step : ∀ k d, items[k]? = some d → ∀ e s, I k e s → ∀ N : WN, (∀ e s, I (k + 1) e s → N e s) → g d e s fun e s => b { En with nx := N, ct := N, bk := En.nx } e s)
    (fin : ∀ e s, I items.length e s → En.nx e s), wForL g b En items env st
  | [], I, env, st, h0, step, fin => fin _ _ h0
  | d :: ds, I, env, st, h0, step, fin => step 0 d rfl env st h0 (wForL g b En ds) fun e s q => for_inv (fun k => I (k + 1)) q (fun k d' hd e s q' N hN => step (k + 1) d' hd e s q' N hN) fin
theorem rangeD_len {lo c : Int} {n : Nat} : (rangeD lo c n).length = n := by simp [rangeD]
theorem rngD_get {lo c : Int} {n k : Nat} {d : D} (h : (rangeD lo c n)[k]? = some d) : k < n ∧ d = .int (lo + (k : Int) * c) := by
  unfold rangeD at h
  rw [List.getElem?_map] at h
  cases e : (List.range n)[k]? with
  | none => rw [e] at h; cases h
  | some x =>
    rw [e] at h
    cases h
    obtain ⟨h1, h2⟩ := List.getElem?_eq_some_iff.mp e
    rw [List.getElem_range] at h2
    subst h2
    rw [List.length_range] at h1
    exact ⟨h1, rfl⟩
theorem for_rng {g : WG} {b : WS} {En : EndM} {lo c : Int} {n : Nat} (I : Nat → Env → Sto → Prop) {env : Env} {st : Sto} (h0 : I 0 env st) (step : ∀ k, k < n → ∀ e s, I k e s → ∀ N : WN, (∀ e s, I (k + 1) e s → N e s) → g (.int (lo + (k : Int) * c)) e s fun e s => b { En with nx := N, ct := N, bk := En.nx } e s)
    (fin : ∀ e s, I n e s → En.nx e s) : wForL g b En (rangeD lo c n) env st := by
  refine for_inv I h0 (fun k d hd e s q N hN => ?_) (fun e s q => fin e s (by rw [rangeD_len] at q; exact q))
  obtain ⟨h1, rfl⟩ := rngD_get hd
  exact step k h1 e s q N hN
theorem for_map {α : Type} {f : α → D} {g : WG} {b : WS} {En : EndM} {xs : List α} (I : Nat → Env → Sto → Prop) {env : Env} {st : Sto} (h0 : I 0 env st) (step : ∀ k x, xs[k]? = some x → ∀ e s, I k e s → ∀ N : WN, (∀ e s, I (k + 1) e s → N e s) → g (f x) e s fun e s => b { En with nx := N, ct := N, bk := En.nx } e s)
    (fin : ∀ e s, I xs.length e s → En.nx e s) : wForL g b En (xs.map f) env st := by
  refine for_inv I h0 (fun k d hd e s q N hN => ?_) (fun e s q => fin e s (by rw [List.length_map] at q; exact q))
  rw [List.getElem?_map] at hd
  cases e' : xs[k]? with
  | none => rw [e'] at hd; cases hd
  | some x =>
    rw [e'] at hd
    cases hd
    exact step k x e' e s q N hN
/-! ### comprehensions without a deed -/
theorem lc_pure {g : WG} {t : WT} {we : WE} {env : Env} {Q : WK} (p : D → Bool) (f : D → D) {st : Sto} : ∀ {items acc : List D} (hl : acc.length + items.length ≤ 16777216) (hn : ∀ d ∈ items, NR (f d))
    (step : ∀ d ∈ items, ∀ (A : D → Sto → Prop) (B : Sto → Prop), ifB (p d) (A (f d) st) (B st) → g d env st fun e1 s1 => t e1 s1 fun k s2 => ifB k (we e1 s2 A) (B s2)) (q : Q (.lst (acc ++ (items.filter p).map f)) st), wLcL g t we env Q items acc st
  | [], acc, hl, hn, step, q => by
    show Q (.lst acc) st
    simpa using q
  | d :: ds, acc, hl, hn, step, q => by
    refine step d (by simp) _ _ (ifB.of (fun hk => ?_) fun hk => ?_)
    · refine ⟨by simp at hl; omega, hn d (by simp), ?_⟩
      refine lc_pure p f (by simp at hl ⊢; omega) (fun x hx => hn x (by simp [hx])) (fun x hx => step x (by simp [hx])) ?_
      rw [List.filter_cons_of_pos hk] at q
      simpa using q
    · refine lc_pure p f (by simp at hl ⊢; omega) (fun x hx => hn x (by simp [hx])) (fun x hx => step x (by simp [hx])) ?_
      rw [List.filter_cons_of_neg (by simp [hk])] at q
      exact q
/-- .. of what is mapped -/
theorem lc_map {α : Type} {i : α → D} {g : WG} {t : WT} {we : WE} {env : Env} {Q : WK} (p : α → Bool) (f : α → D) {st : Sto} : ∀ {xs : List α} {acc : List D} (hl : acc.length + xs.length ≤ 16777216) (hn : ∀ x ∈ xs, NR (f x))
    (step : ∀ x ∈ xs, ∀ (A : D → Sto → Prop) (B : Sto → Prop), ifB (p x) (A (f x) st) (B st) → g (i x) env st fun e1 s1 => t e1 s1 fun k s2 => ifB k (we e1 s2 A) (B s2)) (q : Q (.lst (acc ++ (xs.filter p).map f)) st), wLcL g t we env Q (xs.map i) acc st
  | [], acc, hl, hn, step, q => by
    show Q (.lst acc) st
    simpa using q
  | d :: ds, acc, hl, hn, step, q => by
    refine step d (by simp) _ _ (ifB.of (fun hk => ?_) fun hk => ?_)
    · refine ⟨by simp at hl; omega, hn d (by simp), ?_⟩
      refine lc_map p f (by simp at hl ⊢; omega) (fun x hx => hn x (by simp [hx])) (fun x hx => step x (by simp [hx])) ?_
      rw [List.filter_cons_of_pos hk] at q
      simpa using q
    · refine lc_map p f (by simp at hl ⊢; omega) (fun x hx => hn x (by simp [hx])) (fun x hx => step x (by simp [hx])) ?_
      rw [List.filter_cons_of_neg (by simp [hk])] at q
      exact q
theorem lc_rng {g : WG} {t : WT} {we : WE} {env : Env} {Q : WK} {lo c : Int} {n : Nat} (p : Nat → Bool) (f : Nat → D) {st : Sto} {acc : List D} (hl : acc.length + n ≤ 16777216) (hn : ∀ k, k < n → NR (f k))
    (step : ∀ k, k < n → ∀ (A : D → Sto → Prop) (B : Sto → Prop), ifB (p k) (A (f k) st) (B st) → g (.int (lo + (k : Int) * c)) env st fun e1 s1 => t e1 s1 fun k s2 => ifB k (we e1 s2 A) (B s2)) (q : Q (.lst (acc ++ ((List.range n).filter p).map f)) st) : wLcL g t we env Q (rangeD lo c n) acc st :=
  lc_map p f (by simpa using hl) (fun x hx => hn x (by simpa using hx)) (fun x hx => step x (by simpa using hx)) q
theorem cut_map {ms : List Int} {lo hi : Option Int} : ∃ ns : List Int, cutD (ms.map .int) lo hi = ns.map .int ∧ ns.length ≤ ms.length := by
  unfold cutD
  exact ⟨(ms.drop _).take _, by rw [List.map_take, List.map_drop], by rw [List.length_take, List.length_drop]; omega⟩
/-! ### a hand of draws -/
def Hand (o : Ob) : Prop := ∃ (cells : List Int) (i b s c : Int), o = .lst [.lst (cells.map .int), .int i, .int b, .int s, .int c] ∧ 0 ≤ i
def p__law_hand : Pm := fun ds st Q => ∃ ns : List Int, ns.length ≤ 63 ∧ ds = [.rd (ns.map .int)] ∧ st = [] ∧ ∀ o, Hand o → Q (.ref 0) [some o]
def p__law_draw : Pm := fun ds st Q => ∃ (m : Int) (o : Ob), ds = [.ref 0, .int m] ∧ st = [some o] ∧ Hand o ∧ (0 < m ∧ m < 2 ^ 64) ∧ ∀ r o', 0 ≤ r → r < m → Hand o' → Q (.int r) [some o']
/-- one of some -/
def p__law_any : Pm := fun ds st Q => ∃ (d : D) (xs : List D) (o : Ob), ds = [.ref 0, d] ∧ (d = .lst xs ∨ d = .tup xs) ∧ 0 < xs.length ∧ xs.length < 1000000 ∧ st = [some o] ∧ Hand o ∧ ∀ x o', x ∈ xs → Hand o' → Q x [some o']
theorem pm__law_hand : PMono p__law_hand := fun ds st Q Q' h ⟨ns, h1, h2, h3, h4⟩ => ⟨ns, h1, h2, h3, fun o ho => h _ _ (h4 o ho)⟩
theorem pm__law_draw : PMono p__law_draw := fun ds st Q Q' h ⟨m, o, h1, h2, h3, h4, h5⟩ => ⟨m, o, h1, h2, h3, h4, fun r o' a b c => h _ _ (h5 r o' a b c)⟩
theorem pm__law_any : PMono p__law_any := fun ds st Q Q' h ⟨d, xs, o, h1, h2, h3, h4, h5, h6, h7⟩ => ⟨d, xs, o, h1, h2, h3, h4, h5, h6, fun r o' a b => h _ _ (h7 r o' a b)⟩
end M

namespace M
open PySem PySem.Spec PyProof.Rows L2
/-! ### the text -/
def top (i : Nat) : Stmt := PySem.Challenge.pw_wholesworn_k69_whole_groups_left_and_how.main.body.getD i (.Pass ⟨0, 0, 0, 0⟩)
abbrev s_is_integer : Stmt := top 1
abbrev s_is_within : Stmt := top 2
abbrev s_least_divisor : Stmt := top 8
abbrev s_check_prime : Stmt := top 11
abbrev s_check_pair : Stmt := top 12
abbrev s_groups : Stmt := top 13
abbrev s_many_groups : Stmt := top 14
abbrev s_left_groups : Stmt := top 15
abbrev s_often_in_product : Stmt := top 16
abbrev s_often_in_groups : Stmt := top 17
abbrev s_product_left : Stmt := top 18
abbrev s_row_kind : Stmt := top 19
abbrev s__law_hand : Stmt := top 21
abbrev s__law_draw : Stmt := top 22
abbrev s__law_any : Stmt := top 23
abbrev s__law_triangle : Stmt := top 24
abbrev s__law_figures : Stmt := top 25
abbrev s__law_often : Stmt := top 26
abbrev s__law_carried : Stmt := top 27
abbrev s__law_great : Stmt := top 28
abbrev s__law_small_right : Stmt := top 29
abbrev s__law_product_right : Stmt := top 31
abbrev s__law_great_right : Stmt := top 30
abbrev s_law : Stmt := top 32
structure Fx (K : Frag) (mg : Str → Option Value) : Prop where
  n_abs : mg "abs" = none
  n_bool : mg "bool" = none
  n_enumerate : mg "enumerate" = none
  n_int : mg "int" = none
  n_isinstance : mg "isinstance" = none
  n_len : mg "len" = none
  n_max : mg "max" = none
  n_min : mg "min" = none
  n_range : mg "range" = none
  c_MOST : ∃ t, mg "MOST" = some (.int 1000000000000 t)
  f_is_integer : Df K mg "is_integer" s_is_integer ["thing"]
  f_is_within : Df K mg "is_within" s_is_within ["thing", "least", "most"]
  f_least_divisor : Df K mg "least_divisor" s_least_divisor ["number"]
  f_check_prime : Df K mg "check_prime" s_check_prime ["prime"]
  f_check_pair : Df K mg "check_pair" s_check_pair ["many", "size"]
  f_groups : Df K mg "groups" s_groups ["many", "size"]
  f_many_groups : Df K mg "many_groups" s_many_groups ["many", "size"]
  f_left_groups : Df K mg "left_groups" s_left_groups ["many", "size", "prime"]
  f_often_in_product : Df K mg "often_in_product" s_often_in_product ["number", "prime"]
  f_often_in_groups : Df K mg "often_in_groups" s_often_in_groups ["many", "size", "prime"]
  f_product_left : Df K mg "product_left" s_product_left ["number", "prime"]
  f_row_kind : Df K mg "row_kind" s_row_kind ["many", "prime"]
  f__law_hand : Df K mg "_law_hand" s__law_hand ["script"]
  f__law_draw : Df K mg "_law_draw" s__law_draw ["hand", "many"]
  f__law_any : Df K mg "_law_any" s__law_any ["hand", "some"]
  f__law_triangle : Df K mg "_law_triangle" s__law_triangle ["many"]
  f__law_figures : Df K mg "_law_figures" s__law_figures ["number", "prime"]
  f__law_often : Df K mg "_law_often" s__law_often ["number", "prime"]
  f__law_carried : Df K mg "_law_carried" s__law_carried ["one", "other", "prime"]
  f__law_great : Df K mg "_law_great" s__law_great ["hand", "prime"]
  f__law_small_right : Df K mg "_law_small_right" s__law_small_right ["hand", "rows", "prime"]
  f__law_product_right : Df K mg "_law_product_right" s__law_product_right ["number", "prime"]
  f__law_great_right : Df K mg "_law_great_right" s__law_great_right ["hand", "rows", "prime"]
  f_law : Df K mg "law" s_law ["script"]

/-! ### groups, factorials -/
def ch : Nat → Nat → Nat
  | _, 0 => 1
  | 0, _ + 1 => 0
  | n + 1, k + 1 => ch n k + ch n (k + 1)
def fac : Nat → Nat
  | 0 => 1
  | n + 1 => (n + 1) * fac n
theorem ch_0 {n : Nat} : ch n 0 = 1 := by cases n <;> rfl
theorem fac_pos : ∀ n, 0 < fac n
  | 0 => Nat.one_pos
  | n + 1 => Nat.mul_pos (Nat.succ_pos n) (fac_pos n)
theorem ch_lt : ∀ {n k : Nat}, n < k → ch n k = 0
  | 0, k + 1, _ => rfl
  | n + 1, k + 1, h => by
    show ch n k + ch n (k + 1) = 0
    rw [ch_lt (by omega), ch_lt (by omega)]
  | _, 0, h => by omega
theorem ch_self : ∀ n : Nat, ch n n = 1
  | 0 => rfl
  | n + 1 => by
    show ch n n + ch n (n + 1) = 1
    rw [ch_self n, ch_lt (by omega)]
theorem ch_fac : ∀ (s a b : Nat), a + b = s → ch s a * (fac a * fac b) = fac s
  | s, 0, b, h => by
    have e : b = s := by omega
    subst e
    rw [ch_0]
    simp [fac]
  | s, a + 1, 0, h => by
    have e : a + 1 = s := by omega
    subst e
    rw [ch_self]
    simp [fac]
  | 0, a + 1, b + 1, h => by omega
  | s + 1, a + 1, b + 1, h => by
    have h1 := ch_fac s a (b + 1) (by omega)
    have h2 := ch_fac s (a + 1) b (by omega)
    show (ch s a + ch s (a + 1)) * (((a + 1) * fac a) * ((b + 1) * fac b)) = (s + 1) * fac s
    have e1 : fac (b + 1) = (b + 1) * fac b := rfl
    have e2 : fac (a + 1) = (a + 1) * fac a := rfl
    rw [e1] at h1
    rw [e2] at h2
    have e3 : s + 1 = (a + 1) + (b + 1) := by omega
    rw [e3, Nat.add_mul (a + 1) (b + 1)]
    rw [Nat.add_mul]
    congr 1
    · rw [← h1]
      simp only [Nat.mul_assoc, Nat.mul_left_comm, Nat.mul_comm]
    · rw [← h2]
      simp only [Nat.mul_assoc, Nat.mul_left_comm, Nat.mul_comm]
theorem ch_symm {n k : Nat} (h : k ≤ n) : ch n (n - k) = ch n k := by
  have h1 := ch_fac n k (n - k) (by omega)
  have h2 := ch_fac n (n - k) k (by omega)
  rw [Nat.mul_comm (fac (n - k))] at h2
  exact Nat.eq_of_mul_eq_mul_right (Nat.mul_pos (fac_pos k) (fac_pos (n - k))) (h2.trans h1.symm)
theorem ch_pos {n k : Nat} (h : k ≤ n) : 0 < ch n k := by
  have h1 := ch_fac n k (n - k) (by omega)
  rcases Nat.eq_zero_or_pos (ch n k) with e | e
  · rw [e, Nat.zero_mul] at h1
    have := fac_pos n
    omega
  · exact e
theorem ch_step {n i : Nat} (h : i < n) : ch n (i + 1) * (i + 1) = ch n i * (n - i) := by
  have h1 := ch_fac n (i + 1) (n - (i + 1)) (by omega)
  have h2 := ch_fac n i (n - i) (by omega)
  have e : n - i = (n - (i + 1)) + 1 := by omega
  have e2 : fac (n - i) = (n - i) * fac (n - (i + 1)) := by rw [e]; rfl
  have e1 : fac (i + 1) = (i + 1) * fac i := rfl
  rw [e1] at h1
  rw [e2] at h2
  refine Nat.eq_of_mul_eq_mul_right (Nat.mul_pos (fac_pos i) (fac_pos (n - (i + 1)))) ?_
  have a1 : ch n (i + 1) * (i + 1) * (fac i * fac (n - (i + 1))) = ch n (i + 1) * ((i + 1) * fac i * fac (n - (i + 1))) := by simp only [Nat.mul_assoc]
  have a2 : ch n i * (n - i) * (fac i * fac (n - (i + 1))) = ch n i * (fac i * ((n - i) * fac (n - (i + 1)))) := by simp only [Nat.mul_assoc, Nat.mul_left_comm]
  rw [a1, a2, h1, h2]
/-! ### primes -/
def Pr (p : Nat) : Prop := 2 ≤ p ∧ ∀ d, d ∣ p → d = 1 ∨ d = p
theorem Pr.cop {p m : Nat} (h : Pr p) (hm : ¬ p ∣ m) : Nat.Coprime p m := by
  rcases h.2 _ (Nat.gcd_dvd_left p m) with e | e
  · exact e
  · exact absurd (by rw [← e]; exact Nat.gcd_dvd_right p m) hm
theorem Pr.mul {p a b : Nat} (h : Pr p) (hd : p ∣ a * b) : p ∣ a ∨ p ∣ b := by
  by_cases ha : p ∣ a
  · exact .inl ha
  · exact .inr ((h.cop ha).dvd_of_dvd_mul_left hd)
theorem ch_pr {p j : Nat} (h : Pr p) (h0 : 0 < j) (h1 : j < p) : p ∣ ch p j := by
  obtain ⟨i, rfl⟩ : ∃ i, j = i + 1 := ⟨j - 1, by omega⟩
  have hs := ch_fac p (i + 1) (p - (i + 1)) (by omega)
  obtain ⟨q, rfl⟩ : ∃ q, p = q + 1 := ⟨p - 1, by omega⟩
  have hd : (q + 1) ∣ ch (q + 1) (i + 1) * (fac (i + 1) * fac (q + 1 - (i + 1))) := by
    rw [hs]
    exact ⟨fac q, rfl⟩
  have nf : ∀ n, n < q + 1 → ¬ (q + 1) ∣ fac n := by
    intro n
    induction n with
    | zero => intro _ z; have := Nat.le_of_dvd Nat.one_pos z; have := h.1; omega
    | succ n ih =>
      intro hn z
      rcases h.mul z with z | z
      · have := Nat.le_of_dvd (Nat.succ_pos n) z; omega
      · exact ih (by omega) z
  rcases h.mul hd with z | z
  · exact z
  · rcases h.mul z with z | z
    · exact absurd z (nf _ h1)
    · exact absurd z (nf _ (by omega))
/-- what a prime leaves of the groups, figure by figure -/
theorem luc_step {p : Nat} (h : Pr p) : ∀ n k : Nat, ch n k % p = (ch (n / p) (k / p) * ch (n % p) (k % p)) % p := by
  have hp := h.1
  intro n
  induction n with
  | zero =>
    intro k
    rw [Nat.zero_div, Nat.zero_mod]
    cases k with
    | zero => simp [ch_0]
    | succ k =>
      rw [ch_lt (Nat.succ_pos k)]
      by_cases hk : (k + 1) / p = 0
      · have : (k + 1) % p = k + 1 := Nat.mod_eq_of_lt ((Nat.div_eq_zero_iff_lt (by omega)).mp hk)
        rw [this, ch_lt (Nat.succ_pos k), Nat.mul_zero]
      · rw [ch_lt (Nat.pos_of_ne_zero hk), Nat.zero_mul]
  | succ n ih =>
    intro k
    cases k with
    | zero => simp [ch_0]
    | succ k =>
      show (ch n k + ch n (k + 1)) % p = _
      rw [Nat.add_mod, ih k, ih (k + 1), ← Nat.add_mod]
      obtain ⟨a, b, hb, rfl⟩ : ∃ a b, b < p ∧ n = p * a + b := ⟨n / p, n % p, Nat.mod_lt _ (by omega), (Nat.div_add_mod n p).symm⟩
      obtain ⟨c, d, hd, rfl⟩ : ∃ c d, d < p ∧ k = p * c + d := ⟨k / p, k % p, Nat.mod_lt _ (by omega), (Nat.div_add_mod k p).symm⟩
      have dv : ∀ x y : Nat, y < p → (p * x + y) / p = x ∧ (p * x + y) % p = y := fun x y hy => by
        constructor
        · rw [Nat.mul_add_div (by omega), Nat.div_eq_of_lt hy, Nat.add_zero]
        · rw [Nat.mul_add_mod, Nat.mod_eq_of_lt hy]
      have up : ∀ x y : Nat, y + 1 = p → p * x + y + 1 = p * (x + 1) + 0 := fun x y hy => by
        rw [Nat.mul_add]; omega
      rw [(dv a b hb).1, (dv a b hb).2, (dv c d hd).1, (dv c d hd).2]
      by_cases b1 : b + 1 = p
      · rw [up a b b1, (dv (a + 1) 0 (by omega)).1, (dv (a + 1) 0 (by omega)).2]
        by_cases d1 : d + 1 = p
        · rw [up c d d1, (dv (c + 1) 0 (by omega)).1, (dv (c + 1) 0 (by omega)).2]
          have e : b = d := by omega
          subst e
          rw [ch_self, ch_0, ch_0]
          simp only [Nat.mul_one]
          rfl
        · have hd1 : d + 1 < p := by omega
          rw [Nat.add_assoc (p * c) d 1, (dv c (d + 1) hd1).1, (dv c (d + 1) hd1).2, ch_lt (Nat.succ_pos d), Nat.mul_zero, ← Nat.mul_add]
          have e : ch b d + ch b (d + 1) = ch p (d + 1) := by rw [← b1]; rfl
          rw [e]
          obtain ⟨q, hq⟩ := ch_pr h (Nat.succ_pos d) hd1
          rw [hq, Nat.mul_left_comm, Nat.mul_mod_right, Nat.zero_mod]
      · have hb1 : b + 1 < p := by omega
        rw [Nat.add_assoc (p * a) b 1, (dv a (b + 1) hb1).1, (dv a (b + 1) hb1).2]
        by_cases d1 : d + 1 = p
        · rw [up c d d1, (dv (c + 1) 0 (by omega)).1, (dv (c + 1) 0 (by omega)).2, ch_0, ch_0, ch_lt (show b < d by omega), Nat.mul_zero, Nat.zero_add]
        · have hd1 : d + 1 < p := by omega
          rw [Nat.add_assoc (p * c) d 1, (dv c (d + 1) hd1).1, (dv c (d + 1) hd1).2, ← Nat.mul_add]
          rfl
/-! ### how often a prime divides -/
def val (p m : Nat) : Nat := if h : 2 ≤ p ∧ 0 < m ∧ m % p = 0 then 1 + val p (m / p) else 0
termination_by m
decreasing_by exact Nat.div_lt_self h.2.1 h.1
def strip (p m : Nat) : Nat := if h : 2 ≤ p ∧ 0 < m ∧ m % p = 0 then strip p (m / p) else m
termination_by m
decreasing_by exact Nat.div_lt_self h.2.1 h.1
def leg (p n : Nat) : Nat := if h : 2 ≤ p ∧ 0 < n then n / p + leg p (n / p) else 0
termination_by n
decreasing_by exact Nat.div_lt_self h.2 h.1
theorem val_y {p m : Nat} (hp : 2 ≤ p) (h0 : 0 < m) (h : m % p = 0) : val p m = 1 + val p (m / p) := by rw [val, dif_pos ⟨hp, h0, h⟩]
theorem val_n {p m : Nat} (h : m % p ≠ 0) : val p m = 0 := by rw [val, dif_neg (fun z => h z.2.2)]
theorem strip_y {p m : Nat} (hp : 2 ≤ p) (h0 : 0 < m) (h : m % p = 0) : strip p m = strip p (m / p) := by rw [strip, dif_pos ⟨hp, h0, h⟩]
theorem strip_n {p m : Nat} (h : m % p ≠ 0) : strip p m = m := by rw [strip, dif_neg (fun z => h z.2.2)]
theorem leg_eq {p n : Nat} (hp : 2 ≤ p) : leg p n = n / p + leg p (n / p) := by
  rcases Nat.eq_zero_or_pos n with e | e
  · subst e
    rw [Nat.zero_div, Nat.zero_add]
  · rw [leg, dif_pos ⟨hp, e⟩]
theorem leg_0 {p : Nat} : leg p 0 = 0 := by rw [leg, dif_neg (fun z => by omega)]
theorem val_uni {p : Nat} (hp : 2 ≤ p) {u : Nat} (hu : u % p ≠ 0) : ∀ e, val p (p ^ e * u) = e ∧ strip p (p ^ e * u) = u
  | 0 => by
    rw [Nat.pow_zero, Nat.one_mul]
    exact ⟨val_n hu, strip_n hu⟩
  | e + 1 => by
    have u0 : 0 < u := by
      rcases Nat.eq_zero_or_pos u with z | z
      · subst z; simp at hu
      · exact z
    have e1 : p ^ (e + 1) * u = p * (p ^ e * u) := by rw [Nat.pow_succ]; simp only [Nat.mul_assoc, Nat.mul_left_comm]
    have h0 : 0 < p * (p ^ e * u) := Nat.mul_pos (by omega) (Nat.mul_pos (Nat.pow_pos (by omega)) u0)
    obtain ⟨i1, i2⟩ := val_uni hp hu e
    rw [e1, val_y hp h0 (Nat.mul_mod_right _ _), strip_y hp h0 (Nat.mul_mod_right _ _), Nat.mul_div_cancel_left _ (by omega), i1, i2]
    exact ⟨by omega, rfl⟩
theorem val_form {p : Nat} (hp : 2 ≤ p) : ∀ m : Nat, 0 < m → m = p ^ val p m * strip p m ∧ strip p m % p ≠ 0 := by
  intro m
  induction m using Nat.strongRecOn with
  | _ m ih =>
    intro h0
    by_cases h : m % p = 0
    · have hq : 0 < m / p := Nat.div_pos (Nat.le_of_dvd h0 (Nat.dvd_of_mod_eq_zero h)) (by omega)
      obtain ⟨i1, i2⟩ := ih (m / p) (Nat.div_lt_self h0 hp) hq
      rw [val_y hp h0 h, strip_y hp h0 h]
      refine ⟨?_, i2⟩
      rw [Nat.add_comm, Nat.pow_succ, Nat.mul_assoc, Nat.mul_left_comm, ← i1, Nat.mul_div_cancel' (Nat.dvd_of_mod_eq_zero h)]
    · rw [val_n h, strip_n h]
      exact ⟨by simp, h⟩
theorem val_mul {p a b : Nat} (h : Pr p) (ha : 0 < a) (hb : 0 < b) : val p (a * b) = val p a + val p b ∧ strip p (a * b) = strip p a * strip p b := by
  obtain ⟨a1, a2⟩ := val_form h.1 a ha
  obtain ⟨b1, b2⟩ := val_form h.1 b hb
  have e : a * b = p ^ (val p a + val p b) * (strip p a * strip p b) := by
    have := congr (congrArg (· * ·) a1) b1
    rw [Nat.pow_add]
    calc a * b = (p ^ val p a * strip p a) * (p ^ val p b * strip p b) := by rw [← a1, ← b1]
      _ = _ := by simp only [Nat.mul_assoc, Nat.mul_left_comm]
  have hu : (strip p a * strip p b) % p ≠ 0 := fun z => by
    rcases h.mul (Nat.dvd_of_mod_eq_zero z) with z | z
    · exact a2 (Nat.mod_eq_zero_of_dvd z)
    · exact b2 (Nat.mod_eq_zero_of_dvd z)
  have := val_uni h.1 hu (val p a + val p b)
  rw [← e] at this
  exact this
theorem div_succ {p n : Nat} (hp : 2 ≤ p) : ((n + 1) % p ≠ 0 → (n + 1) / p = n / p ∧ (n + 1) % p = n % p + 1) ∧ ((n + 1) % p = 0 → n / p + 1 = (n + 1) / p ∧ n % p = p - 1) := by
  obtain ⟨a, b, hb, rfl⟩ : ∃ a b, b < p ∧ n = p * a + b := ⟨n / p, n % p, Nat.mod_lt _ (by omega), (Nat.div_add_mod n p).symm⟩
  have dv : ∀ x y : Nat, y < p → (p * x + y) / p = x ∧ (p * x + y) % p = y := fun x y hy => by
    constructor
    · rw [Nat.mul_add_div (by omega), Nat.div_eq_of_lt hy, Nat.add_zero]
    · rw [Nat.mul_add_mod, Nat.mod_eq_of_lt hy]
  rw [(dv a b hb).1, (dv a b hb).2]
  by_cases b1 : b + 1 = p
  · have e : p * a + b + 1 = p * (a + 1) + 0 := by rw [Nat.mul_add]; omega
    rw [e, (dv (a + 1) 0 (by omega)).1, (dv (a + 1) 0 (by omega)).2]
    exact ⟨fun z => absurd rfl z, fun _ => ⟨rfl, by omega⟩⟩
  · rw [Nat.add_assoc, (dv a (b + 1) (by omega)).1, (dv a (b + 1) (by omega)).2]
    exact ⟨fun _ => ⟨rfl, rfl⟩, fun z => by omega⟩
theorem leg_succ {p : Nat} (hp : 2 ≤ p) : ∀ n, leg p (n + 1) = leg p n + val p (n + 1) := by
  intro n
  induction n using Nat.strongRecOn with
  | _ n ih =>
    by_cases h : (n + 1) % p = 0
    · obtain ⟨e, _⟩ := (div_succ hp).2 h
      have hq : n / p < n := by
        rcases Nat.eq_zero_or_pos n with z | z
        · subst z
          rw [Nat.mod_eq_of_lt (by omega)] at h
          omega
        · exact Nat.div_lt_self z hp
      rw [leg_eq hp, leg_eq (n := n) hp, val_y hp (Nat.succ_pos n) h, ← e, ih _ hq]
      omega
    · obtain ⟨e, _⟩ := (div_succ hp).1 h
      rw [leg_eq hp, leg_eq (n := n) hp, val_n h, e]
      rfl
theorem leg_fac {p : Nat} (h : Pr p) : ∀ n, val p (fac n) = leg p n
  | 0 => by
    rw [leg_0, val_n]
    show 1 % p ≠ 0
    rw [Nat.mod_eq_of_lt h.1]
    omega
  | n + 1 => by
    show val p ((n + 1) * fac n) = _
    rw [(val_mul h (Nat.succ_pos n) (fac_pos n)).1, leg_fac h n, leg_succ h.1]
    exact Nat.add_comm _ _
theorem val_ch {p n k : Nat} (h : Pr p) (hk : k ≤ n) : val p (ch n k) + leg p k + leg p (n - k) = leg p n := by
  have e := ch_fac n k (n - k) (by omega)
  rw [← leg_fac h n, ← e, (val_mul h (ch_pos hk) (Nat.mul_pos (fac_pos k) (fac_pos (n - k)))).1, (val_mul h (fac_pos k) (fac_pos (n - k))).1, leg_fac h, leg_fac h]
  omega
theorem val_0 {p m : Nat} (hp : 2 ≤ p) (hm : 0 < m) : val p m = 0 ↔ m % p ≠ 0 := by
  constructor
  · intro h z
    rw [val_y hp hm z] at h
    omega
  · exact val_n
/-! ### what is left of products -/
def sg (p q : Nat) : Nat := if q % 2 = 1 then p - 1 else 1
theorem sg_succ {p : Nat} (hp : 2 ≤ p) (q : Nat) : ((p - 1) * sg p q) % p = sg p (q + 1) % p := by
  unfold sg
  by_cases h : q % 2 = 1
  · rw [if_pos h, if_neg (by omega)]
    obtain ⟨r, rfl⟩ : ∃ r, p = r + 2 := ⟨p - 2, by omega⟩
    have e : (r + 2 - 1) * (r + 2 - 1) = r * (r + 2) + 1 := by
      show (r + 1) * (r + 1) = _
      have e1 : r * (r + 2) = r * r + r * 2 := Nat.mul_add r r 2
      have e2 : (r + 1) * (r + 1) = r * r + r * 1 + (1 * r + 1 * 1) := by rw [Nat.mul_add, Nat.add_mul, Nat.add_mul]; omega
      omega
    rw [e, Nat.add_mod, Nat.mul_mod_left, Nat.zero_add, Nat.mod_mod]
  · rw [if_neg h, if_pos (by omega), Nat.mul_one]
theorem left_step {p : Nat} (h : Pr p) (hw : fac (p - 1) % p = p - 1) : ∀ n, strip p (fac n) % p = (fac (n % p) * (sg p (n / p) * strip p (fac (n / p)))) % p := by
  have hp := h.1
  intro n
  induction n with
  | zero =>
    rw [Nat.zero_div, Nat.zero_mod]
    simp [fac, sg]
  | succ n ih =>
    have e : strip p (fac (n + 1)) = strip p (n + 1) * strip p (fac n) := (val_mul h (Nat.succ_pos n) (fac_pos n)).2
    by_cases hz : (n + 1) % p = 0
    · obtain ⟨e1, e2⟩ := (div_succ hp).2 hz
      rw [e, Nat.mul_mod, ih, ← Nat.mul_mod, e2, hz, ← e1, strip_y hp (Nat.succ_pos n) hz, ← e1]
      have e3 : strip p (fac (n / p + 1)) = strip p (n / p + 1) * strip p (fac (n / p)) := (val_mul h (Nat.succ_pos _) (fac_pos _)).2
      rw [e3]
      have a1 : strip p (n / p + 1) * (fac (p - 1) * (sg p (n / p) * strip p (fac (n / p)))) = fac (p - 1) * (sg p (n / p) * (strip p (n / p + 1) * strip p (fac (n / p)))) := by simp only [Nat.mul_left_comm]
      have a2 : fac 0 * (sg p (n / p + 1) * (strip p (n / p + 1) * strip p (fac (n / p)))) = sg p (n / p + 1) * (strip p (n / p + 1) * strip p (fac (n / p))) := Nat.one_mul _
      rw [a1, a2, Nat.mul_mod, hw, Nat.mul_mod (sg p (n / p + 1)), ← sg_succ hp, ← Nat.mul_mod]
      have a3 : ∀ x y : Nat, (p - 1) * (x * y % p) % p = (p - 1) * x * y % p := fun x y => by
        rw [Nat.mul_mod, Nat.mod_mod, ← Nat.mul_mod, Nat.mul_assoc]
      rw [a3]
    · obtain ⟨e1, e2⟩ := (div_succ hp).1 hz
      rw [e, Nat.mul_mod, ih, ← Nat.mul_mod, strip_n hz, e1, e2]
      have a1 : fac (n % p + 1) = (n % p + 1) * fac (n % p) := rfl
      rw [a1, Nat.mul_mod, ← e2, Nat.mul_assoc, Nat.mul_mod ((n + 1) % p), Nat.mod_mod, Nat.mod_mod, ← Nat.mul_mod]
      rw [Nat.mul_mod ((n + 1) % p), Nat.mod_mod, ← Nat.mul_mod]
/-! ### lists of figures -/
def digs (p n : Nat) : List Nat := if h : 2 ≤ p ∧ 0 < n then n % p :: digs p (n / p) else []
termination_by n
decreasing_by exact Nat.div_lt_self h.2 h.1
theorem digs_y {p n : Nat} (hp : 2 ≤ p) (h : 0 < n) : digs p n = n % p :: digs p (n / p) := by rw [digs, dif_pos ⟨hp, h⟩]
theorem digs_0 {p : Nat} : digs p 0 = [] := by rw [digs, dif_neg (fun z => by omega)]
def rk (p n : Nat) : Nat := if h : 2 ≤ p ∧ 0 < n then (n % p + 1) * rk p (n / p) else 1
termination_by n
decreasing_by exact Nat.div_lt_self h.2 h.1
theorem rk_y {p n : Nat} (hp : 2 ≤ p) (h : 0 < n) : rk p n = (n % p + 1) * rk p (n / p) := by rw [rk, dif_pos ⟨hp, h⟩]
theorem rk_0 {p : Nat} : rk p 0 = 1 := by rw [rk, dif_neg (fun z => by omega)]

/-! ### what each def promises -/
def tri (N : Nat) : List D := (List.range (N + 1)).map fun n => D.lst ((List.range (n + 1)).map fun k => .int (ch n k : Nat))
structure Good (p : Nat) : Prop where
  pr : Pr p
  wil : fac (p - 1) % p = p - 1
  lt : p ≤ 1000
  cnt : ∀ n, n ≤ 60 → ((List.range (n + 1)).filter fun k => decide (ch n k % p ≠ 0)).length = rk p n
@[irreducible] def oig (n k p : Nat) : D := if n < k then .non else .int (val p (ch n k) : Nat)
theorem oig_lt {n k p : Nat} (h : n < k) : oig n k p = .non := by
  unfold oig
  rw [if_pos h]
theorem oig_ge {n k p : Nat} (h : k ≤ n) : oig n k p = .int (val p (ch n k) : Nat) := by
  unfold oig
  rw [if_neg (by omega)]
theorem oig_sh {n k p : Nat} : ShN 60 (oig n k p) := by
  by_cases h : n < k
  · rw [oig_lt h]; exact True.intro
  · rw [oig_ge (by omega)]; exact True.intro
theorem oig_nr {n k p : Nat} : NR (oig n k p) := by
  by_cases h : n < k
  · rw [oig_lt h]; exact True.intro
  · rw [oig_ge (by omega)]; exact True.intro
def p_is_integer : Pm := fun ds st Q => ∃ i : Int, ds = [.int i] ∧ st = [] ∧ Q (.bl true) []
def p_is_within : Pm := fun ds st Q => ∃ i a b : Int, ds = [.int i, .int a, .int b] ∧ st = [] ∧ a ≤ i ∧ i ≤ b ∧ Q (.bl true) []
def p_least_divisor : Pm := fun ds st Q => ∃ n : Nat, ds = [.int n] ∧ st = [] ∧ Pr n ∧ n ≤ 1000 ∧ Q (.int n) []
def p_check_prime : Pm := fun ds st Q => ∃ n : Nat, ds = [.int n] ∧ st = [] ∧ Pr n ∧ n ≤ 1000 ∧ Q .non []
def p_check_pair : Pm := fun ds st Q => ∃ a b : Nat, ds = [.int a, .int b] ∧ st = [] ∧ a ≤ 1000000000000 ∧ b ≤ 1000000000000 ∧ Q .non []
def p_groups : Pm := fun ds st Q => ∃ n k : Nat, ds = [.int n, .int k] ∧ st = [] ∧ n ≤ 1000 ∧ Q (.int (ch n k : Nat)) []
def p_many_groups : Pm := fun ds st Q => ∃ n k : Nat, ds = [.int n, .int k] ∧ st = [] ∧ n ≤ 1000 ∧ k ≤ 1000 ∧ Q (.int (ch n k : Nat)) []
def p_left_groups : Pm := fun ds st Q => ∃ n k p : Nat, ds = [.int n, .int k, .int p] ∧ st = [] ∧ n ≤ 1000000000000 ∧ k ≤ 1000000000000 ∧ Good p ∧ Q (.int (ch n k % p : Nat)) []
def p_often_in_product : Pm := fun ds st Q => ∃ n p : Nat, ds = [.int n, .int p] ∧ st = [] ∧ n ≤ 1000000000000 ∧ Good p ∧ Q (.int (leg p n : Nat)) []
def p_often_in_groups : Pm := fun ds st Q => ∃ n k p : Nat, ds = [.int n, .int k, .int p] ∧ st = [] ∧ n ≤ 1000000000000 ∧ k ≤ 1000000000000 ∧ Good p ∧ Q (oig n k p) []
def p_product_left : Pm := fun ds st Q => ∃ n p : Nat, ds = [.int n, .int p] ∧ st = [] ∧ n ≤ 1000000000000 ∧ Good p ∧ Q (.tup [.int (leg p n : Nat), .int (strip p (fac n) % p : Nat)]) []
def p_row_kind : Pm := fun ds st Q => ∃ n p : Nat, ds = [.int n, .int p] ∧ st = [] ∧ n ≤ 1000000000000 ∧ Good p ∧ Q (.int (rk p n : Nat)) []
def p__law_triangle : Pm := fun ds st Q => ds = [.int 60] ∧ st = [] ∧ Q (.lst (tri 60)) []
def p__law_figures : Pm := fun ds st Q => ∃ n p : Nat, ds = [.int n, .int p] ∧ st = [] ∧ n ≤ 1000000000000 ∧ 2 ≤ p ∧ p ≤ 1000 ∧ Q (.lst ((digs p n).map fun x => .int (x : Nat))) []
def p__law_often : Pm := fun ds st Q => ∃ m p : Nat, ds = [.int m, .int p] ∧ st = [] ∧ 0 < m ∧ 2 ≤ p ∧ p ≤ 1000 ∧ Q (.int (val p m : Nat)) []
def p__law_carried : Pm := fun ds st Q => ∃ a b p : Nat, ds = [.int a, .int b, .int p] ∧ st = [] ∧ 2 ≤ p ∧ p ≤ 1000 ∧ ∀ t : Nat, leg p (a + b) = leg p a + leg p b + t → Q (.int t) []
def p__law_great : Pm := fun ds st Q => ∃ (p : Nat) (o : Ob), ds = [.ref 0, .int p] ∧ st = [some o] ∧ Hand o ∧ 2 ≤ p ∧ p ≤ 1000 ∧ ∀ (a b : Nat) (o' : Ob), a ≤ 1000000000000 → b ≤ 1000000000000 → Hand o' → Q (.tup [.int a, .int b]) [some o']
def p__law_small_right : Pm := fun ds st Q => ∃ (p : Nat) (o : Ob), ds = [.ref 0, .lst (tri 60), .int p] ∧ st = [some o] ∧ Hand o ∧ Good p ∧ ∀ o', Hand o' → Q (.bl true) [some o']
def p__law_great_right : Pm := fun ds st Q => ∃ (p : Nat) (o : Ob), ds = [.ref 0, .lst (tri 60), .int p] ∧ st = [some o] ∧ Hand o ∧ Good p ∧ ∀ o', Hand o' → Q (.bl true) [some o']
def p__law_product_right : Pm := fun ds st Q => ∃ n p : Nat, ds = [.int n, .int p] ∧ st = [] ∧ n ≤ 1000000000000 ∧ Good p ∧ Q (.bl true) []
def p_law : Pm := pLaw 63

def w_is_integer : WS := (wRet (wAndV (wIsi_int (wVar 0)) (wNotV (wIsi_bool (wVar 0)))))
def w_is_within : WS := (wRet (wAndV (wCall p_is_integer (wCons (wVar 0) wNil)) (wChain wLe wLe (wVar 1) (wVar 0) (wVar 2))))
def w_least_divisor : WS := (wSeq (wIfS (wTst (wOp wEq (wOp wMod (wVar 0) (wC (.int 2))) (wC (.int 0)))) (wRet (wC (.int 2))) wNext) (wSeq (wSet 1 (wC (.int 3))) (wSeq (wWhile (wTst (wOp wLe (wOp wMul (wVar 1) (wVar 1)) (wVar 0))) (wSeq (wIfS (wTst (wOp wEq (wOp wMod (wVar 0) (wVar 1)) (wC (.int 0)))) (wRet (wVar 1)) wNext) (wAug 1 wAddI (wC (.int 2))))) (wRet (wVar 0)))))
def w_check_prime : WS := (wIfS (wOrT (wNotT (wTst (wCall p_is_within (wCons (wVar 0) (wCons (wC (.int 2)) (wCons (wC (.int 1000)) wNil)))))) (wTst (wOp wNe (wCall p_least_divisor (wCons (wVar 0) wNil)) (wVar 0)))) wNever wNext)
def w_check_pair : WS := (wIfS (wOrT (wNotT (wTst (wCall p_is_within (wCons (wVar 0) (wCons (wC (.int 0)) (wCons (wC (.int 1000000000000)) wNil)))))) (wNotT (wTst (wCall p_is_within (wCons (wVar 1) (wCons (wC (.int 0)) (wCons (wC (.int 1000000000000)) wNil))))))) wNever wNext)
def w_groups : WS := (wSeq (wIfS (wTst (wOp wGt (wVar 1) (wVar 0))) (wRet (wC (.int 0))) wNext) (wSeq (wSet 2 (wC (.int 1))) (wSeq (wFor (wRng2 (wCons (wC (.int 1)) (wCons (wOp wAdd (wCB wMin2 (wCons (wVar 1) (wCons (wOp wSub (wVar 0) (wVar 1)) wNil))) (wC (.int 1))) wNil))) (gNm 3) (wSet 2 (wOp wDiv (wOp wMul (wVar 2) (wOp wAdd (wOp wSub (wVar 0) (wVar 3)) (wC (.int 1)))) (wVar 3)))) (wRet (wVar 2)))))
def w_many_groups : WS := (wSeq (wIfS (wOrT (wNotT (wTst (wCall p_is_within (wCons (wVar 0) (wCons (wC (.int 0)) (wCons (wC (.int 1000)) wNil)))))) (wNotT (wTst (wCall p_is_within (wCons (wVar 1) (wCons (wC (.int 0)) (wCons (wC (.int 1000)) wNil))))))) wNever wNext) (wRet (wCall p_groups (wCons (wVar 0) (wCons (wVar 1) wNil)))))
def w_left_groups : WS := (wSeq (wDrop (wCall p_check_pair (wCons (wVar 0) (wCons (wVar 1) wNil)))) (wSeq (wDrop (wCall p_check_prime (wCons (wVar 2) wNil))) (wSeq (wSet 3 (wC (.int 1))) (wSeq (wWhile (wOrT (wTst (wOp wGt (wVar 0) (wC (.int 0)))) (wTst (wOp wGt (wVar 1) (wC (.int 0))))) (wSeq (wSet 3 (wOp wMod (wOp wMul (wVar 3) (wCall p_groups (wCons (wOp wMod (wVar 0) (wVar 2)) (wCons (wOp wMod (wVar 1) (wVar 2)) wNil)))) (wVar 2))) (wPar 0 1 (wCons (wOp wDiv (wVar 0) (wVar 2)) (wCons (wOp wDiv (wVar 1) (wVar 2)) wNil))))) (wRet (wVar 3))))))
def w_often_in_product : WS := (wSeq (wDrop (wCall p_check_pair (wCons (wVar 0) (wCons (wC (.int 0)) wNil)))) (wSeq (wDrop (wCall p_check_prime (wCons (wVar 1) wNil))) (wSeq (wSet 2 (wC (.int 0))) (wSeq (wWhile (wTst (wOp wGt (wVar 0) (wC (.int 0)))) (wSeq (wSet 0 (wOp wDiv (wVar 0) (wVar 1))) (wAug 2 wAddI (wVar 0)))) (wRet (wVar 2))))))
def w_often_in_groups : WS := (wSeq (wDrop (wCall p_check_pair (wCons (wVar 0) (wCons (wVar 1) wNil)))) (wSeq (wDrop (wCall p_check_prime (wCons (wVar 2) wNil))) (wSeq (wIfS (wTst (wOp wGt (wVar 1) (wVar 0))) (wRet (wC .non)) wNext) (wSeq (wSet 3 (wCall p_often_in_product (wCons (wVar 0) (wCons (wVar 2) wNil)))) (wRet (wOp wSub (wOp wSub (wVar 3) (wCall p_often_in_product (wCons (wVar 1) (wCons (wVar 2) wNil)))) (wCall p_often_in_product (wCons (wOp wSub (wVar 0) (wVar 1)) (wCons (wVar 2) wNil)))))))))
def w_product_left : WS := (wSeq (wDrop (wCall p_check_pair (wCons (wVar 0) (wCons (wC (.int 0)) wNil)))) (wSeq (wDrop (wCall p_check_prime (wCons (wVar 1) wNil))) (wSeq (wSet 2 (wLstR (wCons (wC (.int 1)) wNil))) (wSeq (wFor (wRng2 (wCons (wC (.int 1)) (wCons (wVar 1) wNil))) (gNm 3) (wDrop (wBM wAppend (wVar 2) (wCons (wOp wMod (wOp wMul (wOp wIx (wVar 2) (wUn wNeg (wC (.int 1)))) (wVar 3)) (wVar 1)) wNil)))) (wSeq (wPar3 4 5 6 (wCons (wC (.int 1)) (wCons (wC (.int 0)) (wCons (wVar 0) wNil)))) (wSeq (wWhile (wTst (wOp wGt (wVar 6) (wC (.int 0)))) (wSeq (wSet 4 (wOp wMod (wOp wMul (wVar 4) (wOp wIx (wVar 2) (wOp wMod (wVar 6) (wVar 1)))) (wVar 1))) (wSeq (wIfS (wTst (wOp wEq (wOp wMod (wOp wDiv (wVar 6) (wVar 1)) (wC (.int 2))) (wC (.int 1)))) (wSet 4 (wOp wMod (wOp wMul (wVar 4) (wOp wSub (wVar 1) (wC (.int 1)))) (wVar 1))) wNext) (wSeq (wSet 6 (wOp wDiv (wVar 6) (wVar 1))) (wAug 5 wAddI (wVar 6)))))) (wRet (wTup (wCons (wVar 5) (wCons (wOp wMod (wVar 4) (wVar 1)) wNil))))))))))
def w_row_kind : WS := (wSeq (wDrop (wCall p_check_pair (wCons (wVar 0) (wCons (wC (.int 0)) wNil)))) (wSeq (wDrop (wCall p_check_prime (wCons (wVar 1) wNil))) (wSeq (wSet 2 (wC (.int 1))) (wSeq (wWhile (wTst (wOp wGt (wVar 0) (wC (.int 0)))) (wPar 2 0 (wCons (wOp wMul (wVar 2) (wOp wAdd (wOp wMod (wVar 0) (wVar 1)) (wC (.int 1)))) (wCons (wOp wDiv (wVar 0) (wVar 1)) wNil)))) (wRet (wVar 2))))))
def w__law_hand : WS := (wSeq (wSet 1 (wLc (wSeqI (wSl (wVar 0) wNoP (wPart (wC (.int 63))))) (gNm 2) wYes (wCB wAbs (wCons (wCB wInt (wCons (wVar 2) wNil)) wNil)) [2])) (wRet (wLstR (wCons (wVar 1) (wCons (wC (.int 0)) (wCons (wC (.int 0)) (wCons (wOp wAdd (wC (.int 211)) (wOp wMul (wC (.int 5)) (wCB wLen (wCons (wVar 1) wNil)))) (wCons (wC (.int 0)) wNil))))))))
def w__law_draw : WS := (wSeq (wIfS (wAndT (wTst (wOp wEq (wOp wIx (wVar 0) (wC (.int 2))) (wC (.int 0)))) (wTst (wOp wLt (wOp wIx (wVar 0) (wC (.int 1))) (wCB wLen (wCons (wOp wIx (wVar 0) (wC (.int 0))) wNil))))) (wSeq (wSet 3 (wOp wIx (wOp wIx (wVar 0) (wC (.int 0))) (wOp wIx (wVar 0) (wC (.int 1))))) (wSeq (wAsg (wOp wAdd (wOp wIx (wVar 0) (wC (.int 1))) (wC (.int 1))) (gIx (wVar 0) (wC (.int 1)))) (wSeq (wAsg (wOp wMod (wCB wInt (wCons (wOp wAdd (wOp wAdd (wOp wMul (wOp wIx (wVar 0) (wC (.int 3))) (wC (.int 69621))) (wOp wMul (wVar 3) (wC (.int 40692)))) (wC (.int 37))) wNil)) (wC (.int 2147483629))) (gIx (wVar 0) (wC (.int 3)))) (wIfS (wTst (wOp wGe (wVar 3) (wOp wPow (wC (.int 10)) (wC (.int 18))))) (wAsg (wVar 3) (gIx (wVar 0) (wC (.int 2)))) wNext)))) wNext) (wSeq (wIfS (wTst (wOp wGt (wOp wIx (wVar 0) (wC (.int 2))) (wC (.int 0)))) (wSeq (wSet 4 (wOp wMod (wCB wInt (wCons (wOp wIx (wVar 0) (wC (.int 2))) wNil)) (wVar 1))) (wSeq (wAsg (wOp wDiv (wOp wIx (wVar 0) (wC (.int 2))) (wVar 1)) (gIx (wVar 0) (wC (.int 2)))) (wRet (wVar 4)))) wNext) (wSeq (wAsg (wOp wAdd (wOp wIx (wVar 0) (wC (.int 4))) (wC (.int 1))) (gIx (wVar 0) (wC (.int 4)))) (wSeq (wSet 2 (wOp wMod (wCB wInt (wCons (wOp wMul (wCB wInt (wCons (wOp wAdd (wOp wIx (wVar 0) (wC (.int 3))) (wOp wMul (wC (.int 7919)) (wOp wIx (wVar 0) (wC (.int 4))))) wNil)) (wC (.int 48271))) wNil)) (wC (.int 2147483647)))) (wSeq (wSet 2 (wOp wMod (wCB wInt (wCons (wOp wMul (wVar 2) (wOp wAdd (wOp wDiv (wVar 2) (wC (.int 1009))) (wC (.int 69621)))) wNil)) (wC (.int 2147483647)))) (wSeq (wSet 2 (wOp wMod (wCB wInt (wCons (wOp wMul (wVar 2) (wOp wAdd (wOp wDiv (wVar 2) (wC (.int 2003))) (wC (.int 40014)))) wNil)) (wC (.int 2147483563)))) (wRet (wOp wMod (wCB wInt (wCons (wOp wDiv (wVar 2) (wC (.int 16))) wNil)) (wVar 1)))))))))
def w__law_any : WS := (wRet (wOp wIx (wVar 1) (wCall p__law_draw (wCons (wVar 0) (wCons (wCB wLen (wCons (wVar 1) wNil)) wNil)))))
def w__law_triangle : WS := (wSeq (wSet 1 (wLstR (wCons (wLst (wCons (wC (.int 1)) wNil)) wNil))) (wSeq (wFor (wRng1 (wCons (wVar 0) wNil)) (gNm 2) (wSeq (wSet 3 (wOp wIx (wVar 1) (wUn wNeg (wC (.int 1))))) (wDrop (wBM wAppend (wVar 1) (wCons (wOp wAdd (wOp wAdd (wLst (wCons (wC (.int 1)) wNil)) (wLc (wRng1 (wCons (wOp wSub (wCB wLen (wCons (wVar 3) wNil)) (wC (.int 1))) wNil)) (gNm 4) wYes (wOp wAdd (wOp wIx (wVar 3) (wVar 4)) (wOp wIx (wVar 3) (wOp wAdd (wVar 4) (wC (.int 1))))) [4])) (wLst (wCons (wC (.int 1)) wNil))) wNil))))) (wFrz 1 (wRet (wVar 1)))))
def w__law_figures : WS := (wSeq (wSet 2 (wLstR wNil)) (wSeq (wWhile (wTst (wOp wGt (wVar 0) (wC (.int 0)))) (wSeq (wDrop (wBM wAppend (wVar 2) (wCons (wOp wMod (wCB wInt (wCons (wVar 0) wNil)) (wVar 1)) wNil))) (wSet 0 (wOp wDiv (wVar 0) (wVar 1))))) (wFrz 2 (wRet (wVar 2)))))
def w__law_often : WS := (wSeq (wSet 2 (wC (.int 0))) (wSeq (wWhile (wTst (wOp wEq (wOp wMod (wCB wInt (wCons (wVar 0) wNil)) (wVar 1)) (wC (.int 0)))) (wPar 0 2 (wCons (wOp wDiv (wVar 0) (wVar 1)) (wCons (wOp wAdd (wVar 2) (wC (.int 1))) wNil)))) (wRet (wVar 2))))
def w__law_carried : WS := (wSeq (wAsg (wTup (wCons (wC (.int 0)) (wCons (wC (.int 0)) wNil))) (gsTup 2 (gsCons (gNm 3) (gsCons (gNm 4) gsNil)))) (wSeq (wWhile (wOrT (wTst (wOp wGt (wVar 0) (wC (.int 0)))) (wOrT (wTst (wOp wGt (wVar 1) (wC (.int 0)))) (wTst (wOp wGt (wVar 4) (wC (.int 0)))))) (wSeq (wSet 4 (wCB wInt (wCons (wOp wGe (wOp wAdd (wOp wAdd (wOp wMod (wCB wInt (wCons (wVar 0) wNil)) (wVar 2)) (wOp wMod (wCB wInt (wCons (wVar 1) wNil)) (wVar 2))) (wVar 4)) (wVar 2)) wNil))) (wPar3 3 0 1 (wCons (wOp wAdd (wVar 3) (wVar 4)) (wCons (wOp wDiv (wVar 0) (wVar 2)) (wCons (wOp wDiv (wVar 1) (wVar 2)) wNil)))))) (wRet (wVar 3))))
def w__law_great : WS := (wSeq (wAsg (wTup (wCons (wC (.int 0)) (wCons (wC (.int 0)) (wCons (wC (.int 1)) wNil)))) (gsTup 3 (gsCons (gNm 2) (gsCons (gNm 3) (gsCons (gNm 4) gsNil))))) (wSeq (wWhile (wTst (wOp wLt (wOp wMul (wVar 4) (wVar 1)) (wOp wPow (wC (.int 10)) (wC (.int 12))))) (wSeq (wSet 5 (wCall p__law_draw (wCons (wVar 0) (wCons (wVar 1) wNil)))) (wSeq (wSet 2 (wOp wAdd (wVar 2) (wOp wMul (wVar 5) (wVar 4)))) (wSeq (wSet 3 (wOp wAdd (wVar 3) (wOp wMul (wVar 4) (wIf (wTst (wOp wGt (wCall p__law_draw (wCons (wVar 0) (wCons (wC (.int 3)) wNil))) (wC (.int 0)))) (wCall p__law_draw (wCons (wVar 0) (wCons (wOp wAdd (wVar 5) (wC (.int 1))) wNil))) (wCall p__law_draw (wCons (wVar 0) (wCons (wVar 1) wNil))))))) (wSet 4 (wOp wMul (wVar 4) (wVar 1))))))) (wRet (wIf (wTst (wOp wEq (wCall p__law_draw (wCons (wVar 0) (wCons (wC (.int 2)) wNil))) (wC (.int 0)))) (wTup (wCons (wCB wMax2 (wCons (wVar 2) (wCons (wVar 3) wNil))) (wCons (wCB wMin2 (wCons (wVar 2) (wCons (wVar 3) wNil))) wNil))) (wTup (wCons (wVar 2) (wCons (wVar 3) wNil)))))))
def w__law_small_right : WS := (wSeq (wSet 3 (wCall p__law_draw (wCons (wVar 0) (wCons (wC (.int 61)) wNil)))) (wSeq (wSet 4 (wCall p__law_draw (wCons (wVar 0) (wCons (wOp wAdd (wVar 3) (wC (.int 3))) wNil)))) (wSeq (wSet 5 (wIf (wTst (wOp wLe (wVar 4) (wVar 3))) (wOp wIx (wOp wIx (wVar 1) (wVar 3)) (wVar 4)) (wC (.int 0)))) (wSeq (wIfS (wOrT (wTst (wOp wNe (wCall p_many_groups (wCons (wVar 3) (wCons (wVar 4) wNil))) (wVar 5))) (wTst (wOp wNe (wCall p_left_groups (wCons (wVar 3) (wCons (wVar 4) (wCons (wVar 2) wNil)))) (wOp wMod (wCB wInt (wCons (wVar 5) wNil)) (wVar 2))))) (wRet (wC (.bl false))) wNext) (wSeq (wIfS (wTst (wOp wNe (wCall p_often_in_groups (wCons (wVar 3) (wCons (wVar 4) (wCons (wVar 2) wNil)))) (wIf (wTst (wOp wGt (wVar 4) (wVar 3))) (wC .non) (wCall p__law_often (wCons (wVar 5) (wCons (wVar 2) wNil)))))) (wRet (wC (.bl false))) wNext) (wSeq (wIfS (wTst (wOp wNe (wCall p_row_kind (wCons (wVar 3) (wCons (wVar 2) wNil))) (wCB wLen (wCons (wLc (wSeqI (wOp wIx (wVar 1) (wVar 3))) (gNm 7) (wTst (wOp wNe (wOp wMod (wCB wInt (wCons (wVar 7) wNil)) (wVar 2)) (wC (.int 0)))) (wVar 7) [7]) wNil)))) (wRet (wC (.bl false))) wNext) (wSeq (wSet 6 (wC (.int 1))) (wSeq (wFor (wRng2 (wCons (wC (.int 2)) (wCons (wOp wAdd (wVar 3) (wC (.int 1))) wNil))) (gNm 7) (wSet 6 (wOp wMul (wVar 6) (wVar 7)))) (wSeq (wSet 8 (wCall p__law_often (wCons (wVar 6) (wCons (wVar 2) wNil)))) (wSeq (wIfS (wTst (wOp wNe (wCall p_often_in_product (wCons (wVar 3) (wCons (wVar 2) wNil))) (wVar 8))) (wRet (wC (.bl false))) wNext) (wSeq (wFor (wRng1 (wCons (wVar 8) wNil)) (gNm 9) (wSet 6 (wOp wDiv (wVar 6) (wVar 2)))) (wRet (wOp wEq (wCall p_product_left (wCons (wVar 3) (wCons (wVar 2) wNil))) (wTup (wCons (wVar 8) (wCons (wOp wMod (wCB wInt (wCons (wVar 6) wNil)) (wVar 2)) wNil))))))))))))))))
def w__law_product_right : WS := (wSeq (wPar 4 5 (wCons (wC (.int 0)) (wCons (wVar 0) wNil))) (wSeq (wWhile (wTst (wOp wGt (wVar 5) (wC (.int 0)))) (wSeq (wSet 5 (wOp wDiv (wVar 5) (wVar 1))) (wSet 4 (wOp wAdd (wVar 4) (wVar 5))))) (wSeq (wSet 2 (wCall p_product_left (wCons (wVar 0) (wCons (wVar 1) wNil)))) (wSeq (wIfS (wOrT (wTst (wOp wNe (wCall p_often_in_product (wCons (wVar 0) (wCons (wVar 1) wNil))) (wVar 4))) (wOrT (wTst (wOp wNe (wOp wIx (wVar 2) (wC (.int 0))) (wVar 4))) (wNotT (wTst (wChain wLt wLt (wC (.int 0)) (wOp wIx (wVar 2) (wC (.int 1))) (wVar 1)))))) (wRet (wC (.bl false))) wNext) (wSeq (wIfS (wTst (wOp wEq (wVar 0) (wC (.int 0)))) (wRet (wOp wEq (wVar 2) (wTup (wCons (wC (.int 0)) (wCons (wC (.int 1)) wNil))))) wNext) (wSeq (wSet 3 (wVar 0)) (wSeq (wWhile (wTst (wOp wEq (wOp wMod (wCB wInt (wCons (wVar 3) wNil)) (wVar 1)) (wC (.int 0)))) (wSet 3 (wOp wDiv (wVar 3) (wVar 1)))) (wRet (wOp wEq (wOp wIx (wVar 2) (wC (.int 1))) (wOp wMod (wCB wInt (wCons (wOp wMul (wOp wIx (wCall p_product_left (wCons (wOp wSub (wVar 0) (wC (.int 1))) (wCons (wVar 1) wNil))) (wC (.int 1))) (wCB wInt (wCons (wOp wMod (wCB wInt (wCons (wVar 3) wNil)) (wVar 1)) wNil))) wNil)) (wVar 1)))))))))))
def w__law_great_right : WS := (wSeq (wAsg (wCall p__law_great (wCons (wVar 0) (wCons (wVar 2) wNil))) (gsTup 2 (gsCons (gNm 4) (gsCons (gNm 5) gsNil)))) (wSeq (wPar 6 7 (wCons (wCall p__law_figures (wCons (wVar 4) (wCons (wVar 2) wNil))) (wCons (wCall p__law_figures (wCons (wVar 5) (wCons (wVar 2) wNil))) wNil))) (wSeq (wAsg (wTup (wCons (wC (.int 1)) (wCons (wC (.int 1)) wNil))) (gsTup 2 (gsCons (gNm 8) (gsCons (gNm 9) gsNil)))) (wSeq (wIfS (wTst (wOp wLt (wVar 2) (wC (.int 61)))) (wSeq (wFor (wEnum (wCons (wVar 6) wNil)) (gsTup 2 (gsCons (gNm 11) (gsCons (gNm 12) gsNil))) (wSeq (wSet 13 (wIf (wTst (wOp wLt (wVar 11) (wCB wLen (wCons (wVar 7) wNil)))) (wOp wIx (wVar 7) (wVar 11)) (wC (.int 0)))) (wSeq (wSet 8 (wOp wMod (wCB wInt (wCons (wOp wMul (wVar 8) (wIf (wTst (wOp wLe (wVar 13) (wVar 12))) (wOp wIx (wOp wIx (wVar 1) (wVar 12)) (wVar 13)) (wC (.int 0)))) wNil)) (wVar 2))) (wSet 9 (wOp wMul (wVar 9) (wOp wAdd (wVar 12) (wC (.int 1)))))))) (wSeq (wSet 8 (wIf (wTst (wOp wGt (wCB wLen (wCons (wVar 7) wNil)) (wCB wLen (wCons (wVar 6) wNil)))) (wC (.int 0)) (wVar 8))) (wIfS (wOrT (wTst (wOp wNe (wCall p_left_groups (wCons (wVar 4) (wCons (wVar 5) (wCons (wVar 2) wNil)))) (wVar 8))) (wTst (wOp wNe (wCall p_row_kind (wCons (wVar 4) (wCons (wVar 2) wNil))) (wVar 9)))) (wRet (wC (.bl false))) wNext))) wNext) (wSeq (wIfS (wTst (wOp wGt (wVar 5) (wVar 4))) (wRet (wAndV (wOp wIsN (wCall p_often_in_groups (wCons (wVar 4) (wCons (wVar 5) (wCons (wVar 2) wNil)))) (wC .non)) (wOp wEq (wCall p_left_groups (wCons (wVar 4) (wCons (wVar 5) (wCons (wVar 2) wNil)))) (wC (.int 0))))) wNext) (wSeq (wSet 3 (wCall p_often_in_groups (wCons (wVar 4) (wCons (wVar 5) (wCons (wVar 2) wNil))))) (wSeq (wIfS (wOrT (wTst (wOp wNe (wVar 3) (wCall p__law_carried (wCons (wVar 5) (wCons (wOp wSub (wVar 4) (wVar 5)) (wCons (wVar 2) wNil)))))) (wTst (wOp wNe (wOp wEq (wVar 3) (wC (.int 0))) (wOp wNe (wCall p_left_groups (wCons (wVar 4) (wCons (wVar 5) (wCons (wVar 2) wNil)))) (wC (.int 0)))))) (wRet (wC (.bl false))) wNext) (wSeq (wIfS (wTst (wOp wNe (wCall p_often_in_groups (wCons (wVar 4) (wCons (wOp wSub (wVar 4) (wVar 5)) (wCons (wVar 2) wNil)))) (wVar 3))) (wRet (wC (.bl false))) wNext) (wSeq (wIfS (wTst (wOp wNe (wCall p_left_groups (wCons (wVar 4) (wCons (wOp wSub (wVar 4) (wVar 5)) (wCons (wVar 2) wNil)))) (wCall p_left_groups (wCons (wVar 4) (wCons (wVar 5) (wCons (wVar 2) wNil)))))) (wRet (wC (.bl false))) wNext) (wSeq (wIfS (wAndT (wTst (wOp wGt (wVar 5) (wC (.int 0)))) (wTst (wOp wGt (wVar 4) (wC (.int 0))))) (wSeq (wSet 10 (wOp wAdd (wCall p_left_groups (wCons (wOp wSub (wVar 4) (wC (.int 1))) (wCons (wOp wSub (wVar 5) (wC (.int 1))) (wCons (wVar 2) wNil)))) (wCall p_left_groups (wCons (wOp wSub (wVar 4) (wC (.int 1))) (wCons (wVar 5) (wCons (wVar 2) wNil)))))) (wIfS (wTst (wOp wNe (wOp wMod (wCB wInt (wCons (wVar 10) wNil)) (wVar 2)) (wCall p_left_groups (wCons (wVar 4) (wCons (wVar 5) (wCons (wVar 2) wNil)))))) (wRet (wC (.bl false))) wNext)) wNext) (wRet (wCall p__law_product_right (wCons (wVar 4) (wCons (wVar 2) wNil))))))))))))))
def w_law : WS := (wSeq (wSet 1 (wCall p__law_hand (wCons (wVar 0) wNil))) (wSeq (wSet 2 (wCall p__law_triangle (wCons (wC (.int 60)) wNil))) (wSeq (wSet 3 (wLst (wCons (wCall p_many_groups (wCons (wC (.int 10)) (wCons (wC (.int 3)) wNil))) (wCons (wCall p_left_groups (wCons (wC (.int 10)) (wCons (wC (.int 3)) (wCons (wC (.int 7)) wNil)))) (wCons (wCall p_often_in_groups (wCons (wC (.int 10)) (wCons (wC (.int 3)) (wCons (wC (.int 2)) wNil)))) (wCons (wCall p_product_left (wCons (wC (.int 6)) (wCons (wC (.int 3)) wNil))) (wCons (wCall p_row_kind (wCons (wC (.int 6)) (wCons (wC (.int 2)) wNil))) wNil))))))) (wSeq (wIfS (wOrT (wTst (wOp wNe (wVar 3) (wLst (wCons (wC (.int 120)) (wCons (wC (.int 1)) (wCons (wC (.int 3)) (wCons (wTup (wCons (wC (.int 2)) (wCons (wC (.int 2)) wNil))) (wCons (wC (.int 4)) wNil)))))))) (wOrT (wTst (wOp wNe (wCall p_many_groups (wCons (wC (.int 1000)) (wCons (wC (.int 999)) wNil))) (wC (.int 1000)))) (wTst (wOp wNe (wCall p_left_groups (wCons (wOp wPow (wC (.int 10)) (wC (.int 12))) (wCons (wC (.int 0)) (wCons (wC (.int 2)) wNil)))) (wC (.int 1)))))) (wRet (wC (.bl false))) wNext) (wSeq (wFor (wRng1 (wCons (wC (.int 5)) wNil)) (gNm 4) (wSeq (wSet 5 (wCall p__law_any (wCons (wVar 1) (wCons (wLst (wCons (wC (.int 2)) (wCons (wC (.int 2)) (wCons (wC (.int 3)) (wCons (wC (.int 5)) (wCons (wC (.int 7)) (wCons (wC (.int 13)) (wCons (wC (.int 59)) (wCons (wC (.int 101)) (wCons (wC (.int 997)) wNil)))))))))) wNil)))) (wIfS (wOrT (wNotT (wTst (wCall p__law_small_right (wCons (wVar 1) (wCons (wVar 2) (wCons (wVar 5) wNil)))))) (wNotT (wTst (wCall p__law_great_right (wCons (wVar 1) (wCons (wVar 2) (wCons (wVar 5) wNil))))))) (wRet (wC (.bl false))) wNext))) (wRet (wC (.bl true))))))))

/-! ### readings -/
theorem rd_is_integer (ds : List D) (so : Sto) (Q : WK) (h : p_is_integer ds so Q) : w_is_integer (endK so.length Q) (startM 1 ds) so := by
  obtain ⟨i, rfl, rfl, hQ⟩ := h
  ((repeat first | refine ⟨_, rfl, ?_⟩ | refine ⟨MulOk.r ⟨by omega, by omega⟩, ?_⟩ | refine ⟨MulOk.l ⟨by omega, by omega⟩, ?_⟩ | refine ⟨DivOk.of (by omega) (by omega), ?_⟩ | refine ⟨(by omega : (0 : Int) < _), ?_⟩ | refine ⟨True.intro, ?_⟩ | refine ⟨rfl, ?_⟩ | refine ⟨(by repeat' (first | exact True.intro | refine ⟨?_, ?_⟩) : ShN 60 _), ?_⟩ | refine ⟨(Nat.le_of_ble_eq_true rfl : (_ : Nat) ≤ big), ?_⟩ | refine ⟨(by repeat (first | exact True.intro | refine ⟨True.intro, ?_⟩) : NRL _), Nat.le_of_ble_eq_true rfl, ?_⟩ | refine ⟨(⟨by omega, by omega, by decide⟩ : (0 : Int) ≤ _ ∧ _ ≤ _ ∧ Int.natAbs _ < _), ?_⟩); (try conv => whnf); (repeat ((first | with_reducible refine ifB_f ?_ | with_reducible refine ifB_t ?_ | with_reducible refine ifB_nt ?_ | with_reducible refine ifB_nf ?_); (repeat first | refine ⟨_, rfl, ?_⟩ | refine ⟨MulOk.r ⟨by omega, by omega⟩, ?_⟩ | refine ⟨MulOk.l ⟨by omega, by omega⟩, ?_⟩ | refine ⟨DivOk.of (by omega) (by omega), ?_⟩ | refine ⟨(by omega : (0 : Int) < _), ?_⟩ | refine ⟨True.intro, ?_⟩ | refine ⟨rfl, ?_⟩ | refine ⟨(by repeat' (first | exact True.intro | refine ⟨?_, ?_⟩) : ShN 60 _), ?_⟩ | refine ⟨(Nat.le_of_ble_eq_true rfl : (_ : Nat) ≤ big), ?_⟩ | refine ⟨(by repeat (first | exact True.intro | refine ⟨True.intro, ?_⟩) : NRL _), Nat.le_of_ble_eq_true rfl, ?_⟩ | refine ⟨(⟨by omega, by omega, by decide⟩ : (0 : Int) ≤ _ ∧ _ ≤ _ ∧ Int.natAbs _ < _), ?_⟩); (try conv => whnf))))
  refine ifB_t ?_
  ((repeat first | refine ⟨_, rfl, ?_⟩ | refine ⟨MulOk.r ⟨by omega, by omega⟩, ?_⟩ | refine ⟨MulOk.l ⟨by omega, by omega⟩, ?_⟩ | refine ⟨DivOk.of (by omega) (by omega), ?_⟩ | refine ⟨(by omega : (0 : Int) < _), ?_⟩ | refine ⟨True.intro, ?_⟩ | refine ⟨rfl, ?_⟩ | refine ⟨(by repeat' (first | exact True.intro | refine ⟨?_, ?_⟩) : ShN 60 _), ?_⟩ | refine ⟨(Nat.le_of_ble_eq_true rfl : (_ : Nat) ≤ big), ?_⟩ | refine ⟨(by repeat (first | exact True.intro | refine ⟨True.intro, ?_⟩) : NRL _), Nat.le_of_ble_eq_true rfl, ?_⟩ | refine ⟨(⟨by omega, by omega, by decide⟩ : (0 : Int) ≤ _ ∧ _ ≤ _ ∧ Int.natAbs _ < _), ?_⟩); (try conv => whnf); (repeat ((first | with_reducible refine ifB_f ?_ | with_reducible refine ifB_t ?_ | with_reducible refine ifB_nt ?_ | with_reducible refine ifB_nf ?_); (repeat first | refine ⟨_, rfl, ?_⟩ | refine ⟨MulOk.r ⟨by omega, by omega⟩, ?_⟩ | refine ⟨MulOk.l ⟨by omega, by omega⟩, ?_⟩ | refine ⟨DivOk.of (by omega) (by omega), ?_⟩ | refine ⟨(by omega : (0 : Int) < _), ?_⟩ | refine ⟨True.intro, ?_⟩ | refine ⟨rfl, ?_⟩ | refine ⟨(by repeat' (first | exact True.intro | refine ⟨?_, ?_⟩) : ShN 60 _), ?_⟩ | refine ⟨(Nat.le_of_ble_eq_true rfl : (_ : Nat) ≤ big), ?_⟩ | refine ⟨(by repeat (first | exact True.intro | refine ⟨True.intro, ?_⟩) : NRL _), Nat.le_of_ble_eq_true rfl, ?_⟩ | refine ⟨(⟨by omega, by omega, by decide⟩ : (0 : Int) ≤ _ ∧ _ ≤ _ ∧ Int.natAbs _ < _), ?_⟩); (try conv => whnf))))
  exact .inl ⟨True.intro, hQ⟩
theorem rd_is_within (ds : List D) (so : Sto) (Q : WK) (h : p_is_within ds so Q) : w_is_within (endK so.length Q) (startM 3 ds) so := by
  obtain ⟨i, a, b, rfl, rfl, h1, h2, hQ⟩ := h
  ((repeat first | refine ⟨_, rfl, ?_⟩ | refine ⟨MulOk.r ⟨by omega, by omega⟩, ?_⟩ | refine ⟨MulOk.l ⟨by omega, by omega⟩, ?_⟩ | refine ⟨DivOk.of (by omega) (by omega), ?_⟩ | refine ⟨(by omega : (0 : Int) < _), ?_⟩ | refine ⟨True.intro, ?_⟩ | refine ⟨rfl, ?_⟩ | refine ⟨(by repeat' (first | exact True.intro | refine ⟨?_, ?_⟩) : ShN 60 _), ?_⟩ | refine ⟨(Nat.le_of_ble_eq_true rfl : (_ : Nat) ≤ big), ?_⟩ | refine ⟨(by repeat (first | exact True.intro | refine ⟨True.intro, ?_⟩) : NRL _), Nat.le_of_ble_eq_true rfl, ?_⟩ | refine ⟨(⟨by omega, by omega, by decide⟩ : (0 : Int) ≤ _ ∧ _ ≤ _ ∧ Int.natAbs _ < _), ?_⟩); (try conv => whnf); (repeat ((first | with_reducible refine ifB_f ?_ | with_reducible refine ifB_t ?_ | with_reducible refine ifB_nt ?_ | with_reducible refine ifB_nf ?_); (repeat first | refine ⟨_, rfl, ?_⟩ | refine ⟨MulOk.r ⟨by omega, by omega⟩, ?_⟩ | refine ⟨MulOk.l ⟨by omega, by omega⟩, ?_⟩ | refine ⟨DivOk.of (by omega) (by omega), ?_⟩ | refine ⟨(by omega : (0 : Int) < _), ?_⟩ | refine ⟨True.intro, ?_⟩ | refine ⟨rfl, ?_⟩ | refine ⟨(by repeat' (first | exact True.intro | refine ⟨?_, ?_⟩) : ShN 60 _), ?_⟩ | refine ⟨(Nat.le_of_ble_eq_true rfl : (_ : Nat) ≤ big), ?_⟩ | refine ⟨(by repeat (first | exact True.intro | refine ⟨True.intro, ?_⟩) : NRL _), Nat.le_of_ble_eq_true rfl, ?_⟩ | refine ⟨(⟨by omega, by omega, by decide⟩ : (0 : Int) ≤ _ ∧ _ ≤ _ ∧ Int.natAbs _ < _), ?_⟩); (try conv => whnf))))
  refine ifB.of (fun h => ?_) (fun h => ?_)
  · ((repeat first | refine ⟨_, rfl, ?_⟩ | refine ⟨MulOk.r ⟨by omega, by omega⟩, ?_⟩ | refine ⟨MulOk.l ⟨by omega, by omega⟩, ?_⟩ | refine ⟨DivOk.of (by omega) (by omega), ?_⟩ | refine ⟨(by omega : (0 : Int) < _), ?_⟩ | refine ⟨True.intro, ?_⟩ | refine ⟨rfl, ?_⟩ | refine ⟨(by repeat' (first | exact True.intro | refine ⟨?_, ?_⟩) : ShN 60 _), ?_⟩ | refine ⟨(Nat.le_of_ble_eq_true rfl : (_ : Nat) ≤ big), ?_⟩ | refine ⟨(by repeat (first | exact True.intro | refine ⟨True.intro, ?_⟩) : NRL _), Nat.le_of_ble_eq_true rfl, ?_⟩ | refine ⟨(⟨by omega, by omega, by decide⟩ : (0 : Int) ≤ _ ∧ _ ≤ _ ∧ Int.natAbs _ < _), ?_⟩); (try conv => whnf); (repeat ((first | with_reducible refine ifB_f ?_ | with_reducible refine ifB_t ?_ | with_reducible refine ifB_nt ?_ | with_reducible refine ifB_nf ?_); (repeat first | refine ⟨_, rfl, ?_⟩ | refine ⟨MulOk.r ⟨by omega, by omega⟩, ?_⟩ | refine ⟨MulOk.l ⟨by omega, by omega⟩, ?_⟩ | refine ⟨DivOk.of (by omega) (by omega), ?_⟩ | refine ⟨(by omega : (0 : Int) < _), ?_⟩ | refine ⟨True.intro, ?_⟩ | refine ⟨rfl, ?_⟩ | refine ⟨(by repeat' (first | exact True.intro | refine ⟨?_, ?_⟩) : ShN 60 _), ?_⟩ | refine ⟨(Nat.le_of_ble_eq_true rfl : (_ : Nat) ≤ big), ?_⟩ | refine ⟨(by repeat (first | exact True.intro | refine ⟨True.intro, ?_⟩) : NRL _), Nat.le_of_ble_eq_true rfl, ?_⟩ | refine ⟨(⟨by omega, by omega, by decide⟩ : (0 : Int) ≤ _ ∧ _ ≤ _ ∧ Int.natAbs _ < _), ?_⟩); (try conv => whnf))))
    refine .inl ⟨True.intro, ?_⟩
    have e : decide (i ≤ b) = true := decide_eq_true h2
    show Q (.bl (decide (i ≤ b))) []
    rw [e]
    exact hQ
  · exact absurd h1 (dec_f h)
theorem rd_least_divisor (ds : List D) (so : Sto) (Q : WK) (h : p_least_divisor ds so Q) : w_least_divisor (endK so.length Q) (startM 2 ds) so := by
  obtain ⟨n, rfl, rfl, hp, hn, hQ⟩ := h
  have h2 := hp.1
  ((repeat first | refine ⟨_, rfl, ?_⟩ | refine ⟨MulOk.r ⟨by omega, by omega⟩, ?_⟩ | refine ⟨MulOk.l ⟨by omega, by omega⟩, ?_⟩ | refine ⟨DivOk.of (by omega) (by omega), ?_⟩ | refine ⟨(by omega : (0 : Int) < _), ?_⟩ | refine ⟨True.intro, ?_⟩ | refine ⟨rfl, ?_⟩ | refine ⟨(by repeat' (first | exact True.intro | refine ⟨?_, ?_⟩) : ShN 60 _), ?_⟩ | refine ⟨(Nat.le_of_ble_eq_true rfl : (_ : Nat) ≤ big), ?_⟩ | refine ⟨(by repeat (first | exact True.intro | refine ⟨True.intro, ?_⟩) : NRL _), Nat.le_of_ble_eq_true rfl, ?_⟩ | refine ⟨(⟨by omega, by omega, by decide⟩ : (0 : Int) ≤ _ ∧ _ ≤ _ ∧ Int.natAbs _ < _), ?_⟩); (try conv => whnf); (repeat ((first | with_reducible refine ifB_f ?_ | with_reducible refine ifB_t ?_ | with_reducible refine ifB_nt ?_ | with_reducible refine ifB_nf ?_); (repeat first | refine ⟨_, rfl, ?_⟩ | refine ⟨MulOk.r ⟨by omega, by omega⟩, ?_⟩ | refine ⟨MulOk.l ⟨by omega, by omega⟩, ?_⟩ | refine ⟨DivOk.of (by omega) (by omega), ?_⟩ | refine ⟨(by omega : (0 : Int) < _), ?_⟩ | refine ⟨True.intro, ?_⟩ | refine ⟨rfl, ?_⟩ | refine ⟨(by repeat' (first | exact True.intro | refine ⟨?_, ?_⟩) : ShN 60 _), ?_⟩ | refine ⟨(Nat.le_of_ble_eq_true rfl : (_ : Nat) ≤ big), ?_⟩ | refine ⟨(by repeat (first | exact True.intro | refine ⟨True.intro, ?_⟩) : NRL _), Nat.le_of_ble_eq_true rfl, ?_⟩ | refine ⟨(⟨by omega, by omega, by decide⟩ : (0 : Int) ≤ _ ∧ _ ≤ _ ∧ Int.natAbs _ < _), ?_⟩); (try conv => whnf))))
  refine ifB.of (fun h => ?_) (fun h => ?_)
  · ((repeat first | refine ⟨_, rfl, ?_⟩ | refine ⟨MulOk.r ⟨by omega, by omega⟩, ?_⟩ | refine ⟨MulOk.l ⟨by omega, by omega⟩, ?_⟩ | refine ⟨DivOk.of (by omega) (by omega), ?_⟩ | refine ⟨(by omega : (0 : Int) < _), ?_⟩ | refine ⟨True.intro, ?_⟩ | refine ⟨rfl, ?_⟩ | refine ⟨(by repeat' (first | exact True.intro | refine ⟨?_, ?_⟩) : ShN 60 _), ?_⟩ | refine ⟨(Nat.le_of_ble_eq_true rfl : (_ : Nat) ≤ big), ?_⟩ | refine ⟨(by repeat (first | exact True.intro | refine ⟨True.intro, ?_⟩) : NRL _), Nat.le_of_ble_eq_true rfl, ?_⟩ | refine ⟨(⟨by omega, by omega, by decide⟩ : (0 : Int) ≤ _ ∧ _ ≤ _ ∧ Int.natAbs _ < _), ?_⟩); (try conv => whnf); (repeat ((first | with_reducible refine ifB_f ?_ | with_reducible refine ifB_t ?_ | with_reducible refine ifB_nt ?_ | with_reducible refine ifB_nf ?_); (repeat first | refine ⟨_, rfl, ?_⟩ | refine ⟨MulOk.r ⟨by omega, by omega⟩, ?_⟩ | refine ⟨MulOk.l ⟨by omega, by omega⟩, ?_⟩ | refine ⟨DivOk.of (by omega) (by omega), ?_⟩ | refine ⟨(by omega : (0 : Int) < _), ?_⟩ | refine ⟨True.intro, ?_⟩ | refine ⟨rfl, ?_⟩ | refine ⟨(by repeat' (first | exact True.intro | refine ⟨?_, ?_⟩) : ShN 60 _), ?_⟩ | refine ⟨(Nat.le_of_ble_eq_true rfl : (_ : Nat) ≤ big), ?_⟩ | refine ⟨(by repeat (first | exact True.intro | refine ⟨True.intro, ?_⟩) : NRL _), Nat.le_of_ble_eq_true rfl, ?_⟩ | refine ⟨(⟨by omega, by omega, by decide⟩ : (0 : Int) ≤ _ ∧ _ ≤ _ ∧ Int.natAbs _ < _), ?_⟩); (try conv => whnf))))
    have h' : ((n : Int) % 2) = 0 := dec_t h
    have e : 2 = 1 ∨ 2 = n := hp.2 2 (by omega)
    have e' : n = 2 := by omega
    subst e'
    exact .inl ⟨True.intro, hQ⟩
  · ((repeat first | refine ⟨_, rfl, ?_⟩ | refine ⟨MulOk.r ⟨by omega, by omega⟩, ?_⟩ | refine ⟨MulOk.l ⟨by omega, by omega⟩, ?_⟩ | refine ⟨DivOk.of (by omega) (by omega), ?_⟩ | refine ⟨(by omega : (0 : Int) < _), ?_⟩ | refine ⟨True.intro, ?_⟩ | refine ⟨rfl, ?_⟩ | refine ⟨(by repeat' (first | exact True.intro | refine ⟨?_, ?_⟩) : ShN 60 _), ?_⟩ | refine ⟨(Nat.le_of_ble_eq_true rfl : (_ : Nat) ≤ big), ?_⟩ | refine ⟨(by repeat (first | exact True.intro | refine ⟨True.intro, ?_⟩) : NRL _), Nat.le_of_ble_eq_true rfl, ?_⟩ | refine ⟨(⟨by omega, by omega, by decide⟩ : (0 : Int) ≤ _ ∧ _ ≤ _ ∧ Int.natAbs _ < _), ?_⟩); (try conv => whnf); (repeat ((first | with_reducible refine ifB_f ?_ | with_reducible refine ifB_t ?_ | with_reducible refine ifB_nt ?_ | with_reducible refine ifB_nf ?_); (repeat first | refine ⟨_, rfl, ?_⟩ | refine ⟨MulOk.r ⟨by omega, by omega⟩, ?_⟩ | refine ⟨MulOk.l ⟨by omega, by omega⟩, ?_⟩ | refine ⟨DivOk.of (by omega) (by omega), ?_⟩ | refine ⟨(by omega : (0 : Int) < _), ?_⟩ | refine ⟨True.intro, ?_⟩ | refine ⟨rfl, ?_⟩ | refine ⟨(by repeat' (first | exact True.intro | refine ⟨?_, ?_⟩) : ShN 60 _), ?_⟩ | refine ⟨(Nat.le_of_ble_eq_true rfl : (_ : Nat) ≤ big), ?_⟩ | refine ⟨(by repeat (first | exact True.intro | refine ⟨True.intro, ?_⟩) : NRL _), Nat.le_of_ble_eq_true rfl, ?_⟩ | refine ⟨(⟨by omega, by omega, by decide⟩ : (0 : Int) ≤ _ ∧ _ ≤ _ ∧ Int.natAbs _ < _), ?_⟩); (try conv => whnf))))
    refine while_inv (fun m env st => ∃ o : Nat, env = [some (.int n), some (.int o)] ∧ st = [] ∧ 3 ≤ o ∧ o ≤ n + 3 ∧ m = n + 3 - o) n ⟨3, rfl, rfl, by omega, by omega, by omega⟩ ?_
    rintro m env st ⟨o, rfl, rfl, h3, h4, rfl⟩ N hN
    ((repeat first | refine ⟨_, rfl, ?_⟩ | refine ⟨MulOk.r ⟨by omega, by omega⟩, ?_⟩ | refine ⟨MulOk.l ⟨by omega, by omega⟩, ?_⟩ | refine ⟨DivOk.of (by omega) (by omega), ?_⟩ | refine ⟨(by omega : (0 : Int) < _), ?_⟩ | refine ⟨True.intro, ?_⟩ | refine ⟨rfl, ?_⟩ | refine ⟨(by repeat' (first | exact True.intro | refine ⟨?_, ?_⟩) : ShN 60 _), ?_⟩ | refine ⟨(Nat.le_of_ble_eq_true rfl : (_ : Nat) ≤ big), ?_⟩ | refine ⟨(by repeat (first | exact True.intro | refine ⟨True.intro, ?_⟩) : NRL _), Nat.le_of_ble_eq_true rfl, ?_⟩ | refine ⟨(⟨by omega, by omega, by decide⟩ : (0 : Int) ≤ _ ∧ _ ≤ _ ∧ Int.natAbs _ < _), ?_⟩); (try conv => whnf); (repeat ((first | with_reducible refine ifB_f ?_ | with_reducible refine ifB_t ?_ | with_reducible refine ifB_nt ?_ | with_reducible refine ifB_nf ?_); (repeat first | refine ⟨_, rfl, ?_⟩ | refine ⟨MulOk.r ⟨by omega, by omega⟩, ?_⟩ | refine ⟨MulOk.l ⟨by omega, by omega⟩, ?_⟩ | refine ⟨DivOk.of (by omega) (by omega), ?_⟩ | refine ⟨(by omega : (0 : Int) < _), ?_⟩ | refine ⟨True.intro, ?_⟩ | refine ⟨rfl, ?_⟩ | refine ⟨(by repeat' (first | exact True.intro | refine ⟨?_, ?_⟩) : ShN 60 _), ?_⟩ | refine ⟨(Nat.le_of_ble_eq_true rfl : (_ : Nat) ≤ big), ?_⟩ | refine ⟨(by repeat (first | exact True.intro | refine ⟨True.intro, ?_⟩) : NRL _), Nat.le_of_ble_eq_true rfl, ?_⟩ | refine ⟨(⟨by omega, by omega, by decide⟩ : (0 : Int) ≤ _ ∧ _ ≤ _ ∧ Int.natAbs _ < _), ?_⟩); (try conv => whnf))))
    refine ifB.of (fun h => ?_) (fun h => ?_)
    · have hlt : (o : Int) * o ≤ n := dec_t h
      have hon : o < n := by
        have : o * o ≤ n := by exact_mod_cast hlt
        have : o * 3 ≤ o * o := Nat.mul_le_mul_left o h3
        omega
      ((repeat first | refine ⟨_, rfl, ?_⟩ | refine ⟨MulOk.r ⟨by omega, by omega⟩, ?_⟩ | refine ⟨MulOk.l ⟨by omega, by omega⟩, ?_⟩ | refine ⟨DivOk.of (by omega) (by omega), ?_⟩ | refine ⟨(by omega : (0 : Int) < _), ?_⟩ | refine ⟨True.intro, ?_⟩ | refine ⟨rfl, ?_⟩ | refine ⟨(by repeat' (first | exact True.intro | refine ⟨?_, ?_⟩) : ShN 60 _), ?_⟩ | refine ⟨(Nat.le_of_ble_eq_true rfl : (_ : Nat) ≤ big), ?_⟩ | refine ⟨(by repeat (first | exact True.intro | refine ⟨True.intro, ?_⟩) : NRL _), Nat.le_of_ble_eq_true rfl, ?_⟩ | refine ⟨(⟨by omega, by omega, by decide⟩ : (0 : Int) ≤ _ ∧ _ ≤ _ ∧ Int.natAbs _ < _), ?_⟩); (try conv => whnf); (repeat ((first | with_reducible refine ifB_f ?_ | with_reducible refine ifB_t ?_ | with_reducible refine ifB_nt ?_ | with_reducible refine ifB_nf ?_); (repeat first | refine ⟨_, rfl, ?_⟩ | refine ⟨MulOk.r ⟨by omega, by omega⟩, ?_⟩ | refine ⟨MulOk.l ⟨by omega, by omega⟩, ?_⟩ | refine ⟨DivOk.of (by omega) (by omega), ?_⟩ | refine ⟨(by omega : (0 : Int) < _), ?_⟩ | refine ⟨True.intro, ?_⟩ | refine ⟨rfl, ?_⟩ | refine ⟨(by repeat' (first | exact True.intro | refine ⟨?_, ?_⟩) : ShN 60 _), ?_⟩ | refine ⟨(Nat.le_of_ble_eq_true rfl : (_ : Nat) ≤ big), ?_⟩ | refine ⟨(by repeat (first | exact True.intro | refine ⟨True.intro, ?_⟩) : NRL _), Nat.le_of_ble_eq_true rfl, ?_⟩ | refine ⟨(⟨by omega, by omega, by decide⟩ : (0 : Int) ≤ _ ∧ _ ≤ _ ∧ Int.natAbs _ < _), ?_⟩); (try conv => whnf))))
      refine ifB.of (fun h => ?_) (fun h => ?_)
      · have h' : ((n : Int) % (o : Int)) = 0 := dec_t h
        have h'' : n % o = 0 := by exact_mod_cast h'
        rcases hp.2 o (Nat.dvd_of_mod_eq_zero h'') with e | e <;> omega
      · ((repeat first | refine ⟨_, rfl, ?_⟩ | refine ⟨MulOk.r ⟨by omega, by omega⟩, ?_⟩ | refine ⟨MulOk.l ⟨by omega, by omega⟩, ?_⟩ | refine ⟨DivOk.of (by omega) (by omega), ?_⟩ | refine ⟨(by omega : (0 : Int) < _), ?_⟩ | refine ⟨True.intro, ?_⟩ | refine ⟨rfl, ?_⟩ | refine ⟨(by repeat' (first | exact True.intro | refine ⟨?_, ?_⟩) : ShN 60 _), ?_⟩ | refine ⟨(Nat.le_of_ble_eq_true rfl : (_ : Nat) ≤ big), ?_⟩ | refine ⟨(by repeat (first | exact True.intro | refine ⟨True.intro, ?_⟩) : NRL _), Nat.le_of_ble_eq_true rfl, ?_⟩ | refine ⟨(⟨by omega, by omega, by decide⟩ : (0 : Int) ≤ _ ∧ _ ≤ _ ∧ Int.natAbs _ < _), ?_⟩); (try conv => whnf); (repeat ((first | with_reducible refine ifB_f ?_ | with_reducible refine ifB_t ?_ | with_reducible refine ifB_nt ?_ | with_reducible refine ifB_nf ?_); (repeat first | refine ⟨_, rfl, ?_⟩ | refine ⟨MulOk.r ⟨by omega, by omega⟩, ?_⟩ | refine ⟨MulOk.l ⟨by omega, by omega⟩, ?_⟩ | refine ⟨DivOk.of (by omega) (by omega), ?_⟩ | refine ⟨(by omega : (0 : Int) < _), ?_⟩ | refine ⟨True.intro, ?_⟩ | refine ⟨rfl, ?_⟩ | refine ⟨(by repeat' (first | exact True.intro | refine ⟨?_, ?_⟩) : ShN 60 _), ?_⟩ | refine ⟨(Nat.le_of_ble_eq_true rfl : (_ : Nat) ≤ big), ?_⟩ | refine ⟨(by repeat (first | exact True.intro | refine ⟨True.intro, ?_⟩) : NRL _), Nat.le_of_ble_eq_true rfl, ?_⟩ | refine ⟨(⟨by omega, by omega, by decide⟩ : (0 : Int) ≤ _ ∧ _ ≤ _ ∧ Int.natAbs _ < _), ?_⟩); (try conv => whnf))))
        exact hN (n + 3 - (o + 2)) (by omega) _ _ ⟨o + 2, rfl, rfl, by omega, by omega, rfl⟩
    · ((repeat first | refine ⟨_, rfl, ?_⟩ | refine ⟨MulOk.r ⟨by omega, by omega⟩, ?_⟩ | refine ⟨MulOk.l ⟨by omega, by omega⟩, ?_⟩ | refine ⟨DivOk.of (by omega) (by omega), ?_⟩ | refine ⟨(by omega : (0 : Int) < _), ?_⟩ | refine ⟨True.intro, ?_⟩ | refine ⟨rfl, ?_⟩ | refine ⟨(by repeat' (first | exact True.intro | refine ⟨?_, ?_⟩) : ShN 60 _), ?_⟩ | refine ⟨(Nat.le_of_ble_eq_true rfl : (_ : Nat) ≤ big), ?_⟩ | refine ⟨(by repeat (first | exact True.intro | refine ⟨True.intro, ?_⟩) : NRL _), Nat.le_of_ble_eq_true rfl, ?_⟩ | refine ⟨(⟨by omega, by omega, by decide⟩ : (0 : Int) ≤ _ ∧ _ ≤ _ ∧ Int.natAbs _ < _), ?_⟩); (try conv => whnf); (repeat ((first | with_reducible refine ifB_f ?_ | with_reducible refine ifB_t ?_ | with_reducible refine ifB_nt ?_ | with_reducible refine ifB_nf ?_); (repeat first | refine ⟨_, rfl, ?_⟩ | refine ⟨MulOk.r ⟨by omega, by omega⟩, ?_⟩ | refine ⟨MulOk.l ⟨by omega, by omega⟩, ?_⟩ | refine ⟨DivOk.of (by omega) (by omega), ?_⟩ | refine ⟨(by omega : (0 : Int) < _), ?_⟩ | refine ⟨True.intro, ?_⟩ | refine ⟨rfl, ?_⟩ | refine ⟨(by repeat' (first | exact True.intro | refine ⟨?_, ?_⟩) : ShN 60 _), ?_⟩ | refine ⟨(Nat.le_of_ble_eq_true rfl : (_ : Nat) ≤ big), ?_⟩ | refine ⟨(by repeat (first | exact True.intro | refine ⟨True.intro, ?_⟩) : NRL _), Nat.le_of_ble_eq_true rfl, ?_⟩ | refine ⟨(⟨by omega, by omega, by decide⟩ : (0 : Int) ≤ _ ∧ _ ≤ _ ∧ Int.natAbs _ < _), ?_⟩); (try conv => whnf))))
      exact .inl ⟨True.intro, hQ⟩
theorem rd_check_prime (ds : List D) (so : Sto) (Q : WK) (h : p_check_prime ds so Q) : w_check_prime (endK so.length Q) (startM 1 ds) so := by
  obtain ⟨n, rfl, rfl, hp, hn, hQ⟩ := h
  have h2 := hp.1
  ((repeat first | refine ⟨_, rfl, ?_⟩ | refine ⟨MulOk.r ⟨by omega, by omega⟩, ?_⟩ | refine ⟨MulOk.l ⟨by omega, by omega⟩, ?_⟩ | refine ⟨DivOk.of (by omega) (by omega), ?_⟩ | refine ⟨(by omega : (0 : Int) < _), ?_⟩ | refine ⟨True.intro, ?_⟩ | refine ⟨rfl, ?_⟩ | refine ⟨(by repeat' (first | exact True.intro | refine ⟨?_, ?_⟩) : ShN 60 _), ?_⟩ | refine ⟨(Nat.le_of_ble_eq_true rfl : (_ : Nat) ≤ big), ?_⟩ | refine ⟨(by repeat (first | exact True.intro | refine ⟨True.intro, ?_⟩) : NRL _), Nat.le_of_ble_eq_true rfl, ?_⟩ | refine ⟨(⟨by omega, by omega, by decide⟩ : (0 : Int) ≤ _ ∧ _ ≤ _ ∧ Int.natAbs _ < _), ?_⟩); (try conv => whnf); (repeat ((first | with_reducible refine ifB_f ?_ | with_reducible refine ifB_t ?_ | with_reducible refine ifB_nt ?_ | with_reducible refine ifB_nf ?_); (repeat first | refine ⟨_, rfl, ?_⟩ | refine ⟨MulOk.r ⟨by omega, by omega⟩, ?_⟩ | refine ⟨MulOk.l ⟨by omega, by omega⟩, ?_⟩ | refine ⟨DivOk.of (by omega) (by omega), ?_⟩ | refine ⟨(by omega : (0 : Int) < _), ?_⟩ | refine ⟨True.intro, ?_⟩ | refine ⟨rfl, ?_⟩ | refine ⟨(by repeat' (first | exact True.intro | refine ⟨?_, ?_⟩) : ShN 60 _), ?_⟩ | refine ⟨(Nat.le_of_ble_eq_true rfl : (_ : Nat) ≤ big), ?_⟩ | refine ⟨(by repeat (first | exact True.intro | refine ⟨True.intro, ?_⟩) : NRL _), Nat.le_of_ble_eq_true rfl, ?_⟩ | refine ⟨(⟨by omega, by omega, by decide⟩ : (0 : Int) ≤ _ ∧ _ ≤ _ ∧ Int.natAbs _ < _), ?_⟩); (try conv => whnf))))
  refine ⟨n, 2, 1000, rfl, rfl, by omega, by omega, ?_⟩
  ((repeat first | refine ⟨_, rfl, ?_⟩ | refine ⟨MulOk.r ⟨by omega, by omega⟩, ?_⟩ | refine ⟨MulOk.l ⟨by omega, by omega⟩, ?_⟩ | refine ⟨DivOk.of (by omega) (by omega), ?_⟩ | refine ⟨(by omega : (0 : Int) < _), ?_⟩ | refine ⟨True.intro, ?_⟩ | refine ⟨rfl, ?_⟩ | refine ⟨(by repeat' (first | exact True.intro | refine ⟨?_, ?_⟩) : ShN 60 _), ?_⟩ | refine ⟨(Nat.le_of_ble_eq_true rfl : (_ : Nat) ≤ big), ?_⟩ | refine ⟨(by repeat (first | exact True.intro | refine ⟨True.intro, ?_⟩) : NRL _), Nat.le_of_ble_eq_true rfl, ?_⟩ | refine ⟨(⟨by omega, by omega, by decide⟩ : (0 : Int) ≤ _ ∧ _ ≤ _ ∧ Int.natAbs _ < _), ?_⟩); (try conv => whnf); (repeat ((first | with_reducible refine ifB_f ?_ | with_reducible refine ifB_t ?_ | with_reducible refine ifB_nt ?_ | with_reducible refine ifB_nf ?_); (repeat first | refine ⟨_, rfl, ?_⟩ | refine ⟨MulOk.r ⟨by omega, by omega⟩, ?_⟩ | refine ⟨MulOk.l ⟨by omega, by omega⟩, ?_⟩ | refine ⟨DivOk.of (by omega) (by omega), ?_⟩ | refine ⟨(by omega : (0 : Int) < _), ?_⟩ | refine ⟨True.intro, ?_⟩ | refine ⟨rfl, ?_⟩ | refine ⟨(by repeat' (first | exact True.intro | refine ⟨?_, ?_⟩) : ShN 60 _), ?_⟩ | refine ⟨(Nat.le_of_ble_eq_true rfl : (_ : Nat) ≤ big), ?_⟩ | refine ⟨(by repeat (first | exact True.intro | refine ⟨True.intro, ?_⟩) : NRL _), Nat.le_of_ble_eq_true rfl, ?_⟩ | refine ⟨(⟨by omega, by omega, by decide⟩ : (0 : Int) ≤ _ ∧ _ ≤ _ ∧ Int.natAbs _ < _), ?_⟩); (try conv => whnf))))
  refine ⟨hp, hn, ?_⟩
  ((repeat first | refine ⟨_, rfl, ?_⟩ | refine ⟨MulOk.r ⟨by omega, by omega⟩, ?_⟩ | refine ⟨MulOk.l ⟨by omega, by omega⟩, ?_⟩ | refine ⟨DivOk.of (by omega) (by omega), ?_⟩ | refine ⟨(by omega : (0 : Int) < _), ?_⟩ | refine ⟨True.intro, ?_⟩ | refine ⟨rfl, ?_⟩ | refine ⟨(by repeat' (first | exact True.intro | refine ⟨?_, ?_⟩) : ShN 60 _), ?_⟩ | refine ⟨(Nat.le_of_ble_eq_true rfl : (_ : Nat) ≤ big), ?_⟩ | refine ⟨(by repeat (first | exact True.intro | refine ⟨True.intro, ?_⟩) : NRL _), Nat.le_of_ble_eq_true rfl, ?_⟩ | refine ⟨(⟨by omega, by omega, by decide⟩ : (0 : Int) ≤ _ ∧ _ ≤ _ ∧ Int.natAbs _ < _), ?_⟩); (try conv => whnf); (repeat ((first | with_reducible refine ifB_f ?_ | with_reducible refine ifB_t ?_ | with_reducible refine ifB_nt ?_ | with_reducible refine ifB_nf ?_); (repeat first | refine ⟨_, rfl, ?_⟩ | refine ⟨MulOk.r ⟨by omega, by omega⟩, ?_⟩ | refine ⟨MulOk.l ⟨by omega, by omega⟩, ?_⟩ | refine ⟨DivOk.of (by omega) (by omega), ?_⟩ | refine ⟨(by omega : (0 : Int) < _), ?_⟩ | refine ⟨True.intro, ?_⟩ | refine ⟨rfl, ?_⟩ | refine ⟨(by repeat' (first | exact True.intro | refine ⟨?_, ?_⟩) : ShN 60 _), ?_⟩ | refine ⟨(Nat.le_of_ble_eq_true rfl : (_ : Nat) ≤ big), ?_⟩ | refine ⟨(by repeat (first | exact True.intro | refine ⟨True.intro, ?_⟩) : NRL _), Nat.le_of_ble_eq_true rfl, ?_⟩ | refine ⟨(⟨by omega, by omega, by decide⟩ : (0 : Int) ≤ _ ∧ _ ≤ _ ∧ Int.natAbs _ < _), ?_⟩); (try conv => whnf))))
  refine ifB.of (fun h => ?_) (fun h => ?_)
  · exact absurd rfl (ndec_t h)
  · exact hQ
theorem rd_check_pair (ds : List D) (so : Sto) (Q : WK) (h : p_check_pair ds so Q) : w_check_pair (endK so.length Q) (startM 2 ds) so := by
  obtain ⟨a, b, rfl, rfl, ha, hb, hQ⟩ := h
  ((repeat first | refine ⟨_, rfl, ?_⟩ | refine ⟨MulOk.r ⟨by omega, by omega⟩, ?_⟩ | refine ⟨MulOk.l ⟨by omega, by omega⟩, ?_⟩ | refine ⟨DivOk.of (by omega) (by omega), ?_⟩ | refine ⟨(by omega : (0 : Int) < _), ?_⟩ | refine ⟨True.intro, ?_⟩ | refine ⟨rfl, ?_⟩ | refine ⟨(by repeat' (first | exact True.intro | refine ⟨?_, ?_⟩) : ShN 60 _), ?_⟩ | refine ⟨(Nat.le_of_ble_eq_true rfl : (_ : Nat) ≤ big), ?_⟩ | refine ⟨(by repeat (first | exact True.intro | refine ⟨True.intro, ?_⟩) : NRL _), Nat.le_of_ble_eq_true rfl, ?_⟩ | refine ⟨(⟨by omega, by omega, by decide⟩ : (0 : Int) ≤ _ ∧ _ ≤ _ ∧ Int.natAbs _ < _), ?_⟩); (try conv => whnf); (repeat ((first | with_reducible refine ifB_f ?_ | with_reducible refine ifB_t ?_ | with_reducible refine ifB_nt ?_ | with_reducible refine ifB_nf ?_); (repeat first | refine ⟨_, rfl, ?_⟩ | refine ⟨MulOk.r ⟨by omega, by omega⟩, ?_⟩ | refine ⟨MulOk.l ⟨by omega, by omega⟩, ?_⟩ | refine ⟨DivOk.of (by omega) (by omega), ?_⟩ | refine ⟨(by omega : (0 : Int) < _), ?_⟩ | refine ⟨True.intro, ?_⟩ | refine ⟨rfl, ?_⟩ | refine ⟨(by repeat' (first | exact True.intro | refine ⟨?_, ?_⟩) : ShN 60 _), ?_⟩ | refine ⟨(Nat.le_of_ble_eq_true rfl : (_ : Nat) ≤ big), ?_⟩ | refine ⟨(by repeat (first | exact True.intro | refine ⟨True.intro, ?_⟩) : NRL _), Nat.le_of_ble_eq_true rfl, ?_⟩ | refine ⟨(⟨by omega, by omega, by decide⟩ : (0 : Int) ≤ _ ∧ _ ≤ _ ∧ Int.natAbs _ < _), ?_⟩); (try conv => whnf))))
  refine ⟨a, 0, 1000000000000, rfl, rfl, by omega, by omega, ?_⟩
  ((repeat first | refine ⟨_, rfl, ?_⟩ | refine ⟨MulOk.r ⟨by omega, by omega⟩, ?_⟩ | refine ⟨MulOk.l ⟨by omega, by omega⟩, ?_⟩ | refine ⟨DivOk.of (by omega) (by omega), ?_⟩ | refine ⟨(by omega : (0 : Int) < _), ?_⟩ | refine ⟨True.intro, ?_⟩ | refine ⟨rfl, ?_⟩ | refine ⟨(by repeat' (first | exact True.intro | refine ⟨?_, ?_⟩) : ShN 60 _), ?_⟩ | refine ⟨(Nat.le_of_ble_eq_true rfl : (_ : Nat) ≤ big), ?_⟩ | refine ⟨(by repeat (first | exact True.intro | refine ⟨True.intro, ?_⟩) : NRL _), Nat.le_of_ble_eq_true rfl, ?_⟩ | refine ⟨(⟨by omega, by omega, by decide⟩ : (0 : Int) ≤ _ ∧ _ ≤ _ ∧ Int.natAbs _ < _), ?_⟩); (try conv => whnf); (repeat ((first | with_reducible refine ifB_f ?_ | with_reducible refine ifB_t ?_ | with_reducible refine ifB_nt ?_ | with_reducible refine ifB_nf ?_); (repeat first | refine ⟨_, rfl, ?_⟩ | refine ⟨MulOk.r ⟨by omega, by omega⟩, ?_⟩ | refine ⟨MulOk.l ⟨by omega, by omega⟩, ?_⟩ | refine ⟨DivOk.of (by omega) (by omega), ?_⟩ | refine ⟨(by omega : (0 : Int) < _), ?_⟩ | refine ⟨True.intro, ?_⟩ | refine ⟨rfl, ?_⟩ | refine ⟨(by repeat' (first | exact True.intro | refine ⟨?_, ?_⟩) : ShN 60 _), ?_⟩ | refine ⟨(Nat.le_of_ble_eq_true rfl : (_ : Nat) ≤ big), ?_⟩ | refine ⟨(by repeat (first | exact True.intro | refine ⟨True.intro, ?_⟩) : NRL _), Nat.le_of_ble_eq_true rfl, ?_⟩ | refine ⟨(⟨by omega, by omega, by decide⟩ : (0 : Int) ≤ _ ∧ _ ≤ _ ∧ Int.natAbs _ < _), ?_⟩); (try conv => whnf))))
  refine ⟨b, 0, 1000000000000, rfl, rfl, by omega, by omega, ?_⟩
  ((repeat first | refine ⟨_, rfl, ?_⟩ | refine ⟨MulOk.r ⟨by omega, by omega⟩, ?_⟩ | refine ⟨MulOk.l ⟨by omega, by omega⟩, ?_⟩ | refine ⟨DivOk.of (by omega) (by omega), ?_⟩ | refine ⟨(by omega : (0 : Int) < _), ?_⟩ | refine ⟨True.intro, ?_⟩ | refine ⟨rfl, ?_⟩ | refine ⟨(by repeat' (first | exact True.intro | refine ⟨?_, ?_⟩) : ShN 60 _), ?_⟩ | refine ⟨(Nat.le_of_ble_eq_true rfl : (_ : Nat) ≤ big), ?_⟩ | refine ⟨(by repeat (first | exact True.intro | refine ⟨True.intro, ?_⟩) : NRL _), Nat.le_of_ble_eq_true rfl, ?_⟩ | refine ⟨(⟨by omega, by omega, by decide⟩ : (0 : Int) ≤ _ ∧ _ ≤ _ ∧ Int.natAbs _ < _), ?_⟩); (try conv => whnf); (repeat ((first | with_reducible refine ifB_f ?_ | with_reducible refine ifB_t ?_ | with_reducible refine ifB_nt ?_ | with_reducible refine ifB_nf ?_); (repeat first | refine ⟨_, rfl, ?_⟩ | refine ⟨MulOk.r ⟨by omega, by omega⟩, ?_⟩ | refine ⟨MulOk.l ⟨by omega, by omega⟩, ?_⟩ | refine ⟨DivOk.of (by omega) (by omega), ?_⟩ | refine ⟨(by omega : (0 : Int) < _), ?_⟩ | refine ⟨True.intro, ?_⟩ | refine ⟨rfl, ?_⟩ | refine ⟨(by repeat' (first | exact True.intro | refine ⟨?_, ?_⟩) : ShN 60 _), ?_⟩ | refine ⟨(Nat.le_of_ble_eq_true rfl : (_ : Nat) ≤ big), ?_⟩ | refine ⟨(by repeat (first | exact True.intro | refine ⟨True.intro, ?_⟩) : NRL _), Nat.le_of_ble_eq_true rfl, ?_⟩ | refine ⟨(⟨by omega, by omega, by decide⟩ : (0 : Int) ≤ _ ∧ _ ≤ _ ∧ Int.natAbs _ < _), ?_⟩); (try conv => whnf))))
  exact hQ
theorem rd_groups (ds : List D) (so : Sto) (Q : WK) (h : p_groups ds so Q) : w_groups (endK so.length Q) (startM 4 ds) so := by
  obtain ⟨n, k, rfl, rfl, hn, hQ⟩ := h
  ((repeat first | refine ⟨_, rfl, ?_⟩ | refine ⟨MulOk.r ⟨by omega, by omega⟩, ?_⟩ | refine ⟨MulOk.l ⟨by omega, by omega⟩, ?_⟩ | refine ⟨DivOk.of (by omega) (by omega), ?_⟩ | refine ⟨(by omega : (0 : Int) < _), ?_⟩ | refine ⟨True.intro, ?_⟩ | refine ⟨rfl, ?_⟩ | refine ⟨(by repeat' (first | exact True.intro | refine ⟨?_, ?_⟩) : ShN 60 _), ?_⟩ | refine ⟨(Nat.le_of_ble_eq_true rfl : (_ : Nat) ≤ big), ?_⟩ | refine ⟨(by repeat (first | exact True.intro | refine ⟨True.intro, ?_⟩) : NRL _), Nat.le_of_ble_eq_true rfl, ?_⟩ | refine ⟨(⟨by omega, by omega, by decide⟩ : (0 : Int) ≤ _ ∧ _ ≤ _ ∧ Int.natAbs _ < _), ?_⟩); (try conv => whnf); (repeat ((first | with_reducible refine ifB_f ?_ | with_reducible refine ifB_t ?_ | with_reducible refine ifB_nt ?_ | with_reducible refine ifB_nf ?_); (repeat first | refine ⟨_, rfl, ?_⟩ | refine ⟨MulOk.r ⟨by omega, by omega⟩, ?_⟩ | refine ⟨MulOk.l ⟨by omega, by omega⟩, ?_⟩ | refine ⟨DivOk.of (by omega) (by omega), ?_⟩ | refine ⟨(by omega : (0 : Int) < _), ?_⟩ | refine ⟨True.intro, ?_⟩ | refine ⟨rfl, ?_⟩ | refine ⟨(by repeat' (first | exact True.intro | refine ⟨?_, ?_⟩) : ShN 60 _), ?_⟩ | refine ⟨(Nat.le_of_ble_eq_true rfl : (_ : Nat) ≤ big), ?_⟩ | refine ⟨(by repeat (first | exact True.intro | refine ⟨True.intro, ?_⟩) : NRL _), Nat.le_of_ble_eq_true rfl, ?_⟩ | refine ⟨(⟨by omega, by omega, by decide⟩ : (0 : Int) ≤ _ ∧ _ ≤ _ ∧ Int.natAbs _ < _), ?_⟩); (try conv => whnf))))
  refine ifB.of (fun h => ?_) (fun h => ?_)
  · have h' : (n : Int) < k := dec_t h
    rw [ch_lt (by omega)] at hQ
    exact .inl ⟨True.intro, hQ⟩
  · have h' : ¬ (n : Int) < k := dec_f h
    have hk : k ≤ n := by omega
    ((repeat first | refine ⟨_, rfl, ?_⟩ | refine ⟨MulOk.r ⟨by omega, by omega⟩, ?_⟩ | refine ⟨MulOk.l ⟨by omega, by omega⟩, ?_⟩ | refine ⟨DivOk.of (by omega) (by omega), ?_⟩ | refine ⟨(by omega : (0 : Int) < _), ?_⟩ | refine ⟨True.intro, ?_⟩ | refine ⟨rfl, ?_⟩ | refine ⟨(by repeat' (first | exact True.intro | refine ⟨?_, ?_⟩) : ShN 60 _), ?_⟩ | refine ⟨(Nat.le_of_ble_eq_true rfl : (_ : Nat) ≤ big), ?_⟩ | refine ⟨(by repeat (first | exact True.intro | refine ⟨True.intro, ?_⟩) : NRL _), Nat.le_of_ble_eq_true rfl, ?_⟩ | refine ⟨(⟨by omega, by omega, by decide⟩ : (0 : Int) ≤ _ ∧ _ ≤ _ ∧ Int.natAbs _ < _), ?_⟩); (try conv => whnf); (repeat ((first | with_reducible refine ifB_f ?_ | with_reducible refine ifB_t ?_ | with_reducible refine ifB_nt ?_ | with_reducible refine ifB_nf ?_); (repeat first | refine ⟨_, rfl, ?_⟩ | refine ⟨MulOk.r ⟨by omega, by omega⟩, ?_⟩ | refine ⟨MulOk.l ⟨by omega, by omega⟩, ?_⟩ | refine ⟨DivOk.of (by omega) (by omega), ?_⟩ | refine ⟨(by omega : (0 : Int) < _), ?_⟩ | refine ⟨True.intro, ?_⟩ | refine ⟨rfl, ?_⟩ | refine ⟨(by repeat' (first | exact True.intro | refine ⟨?_, ?_⟩) : ShN 60 _), ?_⟩ | refine ⟨(Nat.le_of_ble_eq_true rfl : (_ : Nat) ≤ big), ?_⟩ | refine ⟨(by repeat (first | exact True.intro | refine ⟨True.intro, ?_⟩) : NRL _), Nat.le_of_ble_eq_true rfl, ?_⟩ | refine ⟨(⟨by omega, by omega, by decide⟩ : (0 : Int) ≤ _ ∧ _ ≤ _ ∧ Int.natAbs _ < _), ?_⟩); (try conv => whnf))))
    refine ⟨⟨by omega, by omega⟩, ⟨by split <;> omega, by split <;> omega⟩, ?_⟩
    refine for_rng (fun i env st => st = [] ∧ ∃ x, env = [some (.int n), some (.int k), some (.int (ch n i : Nat)), x]) ⟨rfl, none, by rw [ch_0]; rfl⟩ ?_ ?_
    · rintro i hi e s ⟨rfl, x, rfl⟩ N hN
      have hin : i < n := by
        split at hi <;> omega
      ((repeat first | refine ⟨_, rfl, ?_⟩ | refine ⟨MulOk.r ⟨by omega, by omega⟩, ?_⟩ | refine ⟨MulOk.l ⟨by omega, by omega⟩, ?_⟩ | refine ⟨DivOk.of (by omega) (by omega), ?_⟩ | refine ⟨(by omega : (0 : Int) < _), ?_⟩ | refine ⟨True.intro, ?_⟩ | refine ⟨rfl, ?_⟩ | refine ⟨(by repeat' (first | exact True.intro | refine ⟨?_, ?_⟩) : ShN 60 _), ?_⟩ | refine ⟨(Nat.le_of_ble_eq_true rfl : (_ : Nat) ≤ big), ?_⟩ | refine ⟨(by repeat (first | exact True.intro | refine ⟨True.intro, ?_⟩) : NRL _), Nat.le_of_ble_eq_true rfl, ?_⟩ | refine ⟨(⟨by omega, by omega, by decide⟩ : (0 : Int) ≤ _ ∧ _ ≤ _ ∧ Int.natAbs _ < _), ?_⟩); (try conv => whnf); (repeat ((first | with_reducible refine ifB_f ?_ | with_reducible refine ifB_t ?_ | with_reducible refine ifB_nt ?_ | with_reducible refine ifB_nf ?_); (repeat first | refine ⟨_, rfl, ?_⟩ | refine ⟨MulOk.r ⟨by omega, by omega⟩, ?_⟩ | refine ⟨MulOk.l ⟨by omega, by omega⟩, ?_⟩ | refine ⟨DivOk.of (by omega) (by omega), ?_⟩ | refine ⟨(by omega : (0 : Int) < _), ?_⟩ | refine ⟨True.intro, ?_⟩ | refine ⟨rfl, ?_⟩ | refine ⟨(by repeat' (first | exact True.intro | refine ⟨?_, ?_⟩) : ShN 60 _), ?_⟩ | refine ⟨(Nat.le_of_ble_eq_true rfl : (_ : Nat) ≤ big), ?_⟩ | refine ⟨(by repeat (first | exact True.intro | refine ⟨True.intro, ?_⟩) : NRL _), Nat.le_of_ble_eq_true rfl, ?_⟩ | refine ⟨(⟨by omega, by omega, by decide⟩ : (0 : Int) ≤ _ ∧ _ ≤ _ ∧ Int.natAbs _ < _), ?_⟩); (try conv => whnf))))
      refine hN _ _ ⟨rfl, some (.int (1 + (i : Int) * 1)), ?_⟩
      have e1 : (ch n i : Int) * ((n : Int) - (1 + (i : Int) * 1) + 1) / (1 + (i : Int) * 1) = (ch n (i + 1) : Nat) := by
        have e2 : (n : Int) - (1 + (i : Int) * 1) + 1 = ((n - i : Nat) : Int) := by omega
        have e3 : (1 + (i : Int) * 1) = ((i + 1 : Nat) : Int) := by omega
        rw [e2, e3]
        have := ch_step hin
        rw [← Int.natCast_mul, ← this, ← Int.natCast_ediv, Nat.mul_div_cancel _ (Nat.succ_pos i)]
      show [_, _, some (D.int _), _] = _
      rw [e1]
    · rintro e s ⟨rfl, x, rfl⟩
      ((repeat first | refine ⟨_, rfl, ?_⟩ | refine ⟨MulOk.r ⟨by omega, by omega⟩, ?_⟩ | refine ⟨MulOk.l ⟨by omega, by omega⟩, ?_⟩ | refine ⟨DivOk.of (by omega) (by omega), ?_⟩ | refine ⟨(by omega : (0 : Int) < _), ?_⟩ | refine ⟨True.intro, ?_⟩ | refine ⟨rfl, ?_⟩ | refine ⟨(by repeat' (first | exact True.intro | refine ⟨?_, ?_⟩) : ShN 60 _), ?_⟩ | refine ⟨(Nat.le_of_ble_eq_true rfl : (_ : Nat) ≤ big), ?_⟩ | refine ⟨(by repeat (first | exact True.intro | refine ⟨True.intro, ?_⟩) : NRL _), Nat.le_of_ble_eq_true rfl, ?_⟩ | refine ⟨(⟨by omega, by omega, by decide⟩ : (0 : Int) ≤ _ ∧ _ ≤ _ ∧ Int.natAbs _ < _), ?_⟩); (try conv => whnf); (repeat ((first | with_reducible refine ifB_f ?_ | with_reducible refine ifB_t ?_ | with_reducible refine ifB_nt ?_ | with_reducible refine ifB_nf ?_); (repeat first | refine ⟨_, rfl, ?_⟩ | refine ⟨MulOk.r ⟨by omega, by omega⟩, ?_⟩ | refine ⟨MulOk.l ⟨by omega, by omega⟩, ?_⟩ | refine ⟨DivOk.of (by omega) (by omega), ?_⟩ | refine ⟨(by omega : (0 : Int) < _), ?_⟩ | refine ⟨True.intro, ?_⟩ | refine ⟨rfl, ?_⟩ | refine ⟨(by repeat' (first | exact True.intro | refine ⟨?_, ?_⟩) : ShN 60 _), ?_⟩ | refine ⟨(Nat.le_of_ble_eq_true rfl : (_ : Nat) ≤ big), ?_⟩ | refine ⟨(by repeat (first | exact True.intro | refine ⟨True.intro, ?_⟩) : NRL _), Nat.le_of_ble_eq_true rfl, ?_⟩ | refine ⟨(⟨by omega, by omega, by decide⟩ : (0 : Int) ≤ _ ∧ _ ≤ _ ∧ Int.natAbs _ < _), ?_⟩); (try conv => whnf))))
      refine .inl ⟨True.intro, ?_⟩
      have e : ch n ((if (n : Int) - k < k then (n : Int) - k else (k : Int)) + 1 - 1).toNat = ch n k := by
        split
        · have : ((n : Int) - k + 1 - 1).toNat = n - k := by omega
          rw [this, ch_symm hk]
        · have : ((k : Int) + 1 - 1).toNat = k := by omega
          rw [this]
      show Q (.int (ch n _ : Nat)) []
      rw [e]
      exact hQ
theorem rd_many_groups (ds : List D) (so : Sto) (Q : WK) (h : p_many_groups ds so Q) : w_many_groups (endK so.length Q) (startM 2 ds) so := by
  obtain ⟨n, k, rfl, rfl, hn, hk, hQ⟩ := h
  ((repeat first | refine ⟨_, rfl, ?_⟩ | refine ⟨MulOk.r ⟨by omega, by omega⟩, ?_⟩ | refine ⟨MulOk.l ⟨by omega, by omega⟩, ?_⟩ | refine ⟨DivOk.of (by omega) (by omega), ?_⟩ | refine ⟨(by omega : (0 : Int) < _), ?_⟩ | refine ⟨True.intro, ?_⟩ | refine ⟨rfl, ?_⟩ | refine ⟨(by repeat' (first | exact True.intro | refine ⟨?_, ?_⟩) : ShN 60 _), ?_⟩ | refine ⟨(Nat.le_of_ble_eq_true rfl : (_ : Nat) ≤ big), ?_⟩ | refine ⟨(by repeat (first | exact True.intro | refine ⟨True.intro, ?_⟩) : NRL _), Nat.le_of_ble_eq_true rfl, ?_⟩ | refine ⟨(⟨by omega, by omega, by decide⟩ : (0 : Int) ≤ _ ∧ _ ≤ _ ∧ Int.natAbs _ < _), ?_⟩); (try conv => whnf); (repeat ((first | with_reducible refine ifB_f ?_ | with_reducible refine ifB_t ?_ | with_reducible refine ifB_nt ?_ | with_reducible refine ifB_nf ?_); (repeat first | refine ⟨_, rfl, ?_⟩ | refine ⟨MulOk.r ⟨by omega, by omega⟩, ?_⟩ | refine ⟨MulOk.l ⟨by omega, by omega⟩, ?_⟩ | refine ⟨DivOk.of (by omega) (by omega), ?_⟩ | refine ⟨(by omega : (0 : Int) < _), ?_⟩ | refine ⟨True.intro, ?_⟩ | refine ⟨rfl, ?_⟩ | refine ⟨(by repeat' (first | exact True.intro | refine ⟨?_, ?_⟩) : ShN 60 _), ?_⟩ | refine ⟨(Nat.le_of_ble_eq_true rfl : (_ : Nat) ≤ big), ?_⟩ | refine ⟨(by repeat (first | exact True.intro | refine ⟨True.intro, ?_⟩) : NRL _), Nat.le_of_ble_eq_true rfl, ?_⟩ | refine ⟨(⟨by omega, by omega, by decide⟩ : (0 : Int) ≤ _ ∧ _ ≤ _ ∧ Int.natAbs _ < _), ?_⟩); (try conv => whnf))))
  refine ⟨n, 0, 1000, rfl, rfl, by omega, by omega, ?_⟩
  ((repeat first | refine ⟨_, rfl, ?_⟩ | refine ⟨MulOk.r ⟨by omega, by omega⟩, ?_⟩ | refine ⟨MulOk.l ⟨by omega, by omega⟩, ?_⟩ | refine ⟨DivOk.of (by omega) (by omega), ?_⟩ | refine ⟨(by omega : (0 : Int) < _), ?_⟩ | refine ⟨True.intro, ?_⟩ | refine ⟨rfl, ?_⟩ | refine ⟨(by repeat' (first | exact True.intro | refine ⟨?_, ?_⟩) : ShN 60 _), ?_⟩ | refine ⟨(Nat.le_of_ble_eq_true rfl : (_ : Nat) ≤ big), ?_⟩ | refine ⟨(by repeat (first | exact True.intro | refine ⟨True.intro, ?_⟩) : NRL _), Nat.le_of_ble_eq_true rfl, ?_⟩ | refine ⟨(⟨by omega, by omega, by decide⟩ : (0 : Int) ≤ _ ∧ _ ≤ _ ∧ Int.natAbs _ < _), ?_⟩); (try conv => whnf); (repeat ((first | with_reducible refine ifB_f ?_ | with_reducible refine ifB_t ?_ | with_reducible refine ifB_nt ?_ | with_reducible refine ifB_nf ?_); (repeat first | refine ⟨_, rfl, ?_⟩ | refine ⟨MulOk.r ⟨by omega, by omega⟩, ?_⟩ | refine ⟨MulOk.l ⟨by omega, by omega⟩, ?_⟩ | refine ⟨DivOk.of (by omega) (by omega), ?_⟩ | refine ⟨(by omega : (0 : Int) < _), ?_⟩ | refine ⟨True.intro, ?_⟩ | refine ⟨rfl, ?_⟩ | refine ⟨(by repeat' (first | exact True.intro | refine ⟨?_, ?_⟩) : ShN 60 _), ?_⟩ | refine ⟨(Nat.le_of_ble_eq_true rfl : (_ : Nat) ≤ big), ?_⟩ | refine ⟨(by repeat (first | exact True.intro | refine ⟨True.intro, ?_⟩) : NRL _), Nat.le_of_ble_eq_true rfl, ?_⟩ | refine ⟨(⟨by omega, by omega, by decide⟩ : (0 : Int) ≤ _ ∧ _ ≤ _ ∧ Int.natAbs _ < _), ?_⟩); (try conv => whnf))))
  refine ⟨k, 0, 1000, rfl, rfl, by omega, by omega, ?_⟩
  ((repeat first | refine ⟨_, rfl, ?_⟩ | refine ⟨MulOk.r ⟨by omega, by omega⟩, ?_⟩ | refine ⟨MulOk.l ⟨by omega, by omega⟩, ?_⟩ | refine ⟨DivOk.of (by omega) (by omega), ?_⟩ | refine ⟨(by omega : (0 : Int) < _), ?_⟩ | refine ⟨True.intro, ?_⟩ | refine ⟨rfl, ?_⟩ | refine ⟨(by repeat' (first | exact True.intro | refine ⟨?_, ?_⟩) : ShN 60 _), ?_⟩ | refine ⟨(Nat.le_of_ble_eq_true rfl : (_ : Nat) ≤ big), ?_⟩ | refine ⟨(by repeat (first | exact True.intro | refine ⟨True.intro, ?_⟩) : NRL _), Nat.le_of_ble_eq_true rfl, ?_⟩ | refine ⟨(⟨by omega, by omega, by decide⟩ : (0 : Int) ≤ _ ∧ _ ≤ _ ∧ Int.natAbs _ < _), ?_⟩); (try conv => whnf); (repeat ((first | with_reducible refine ifB_f ?_ | with_reducible refine ifB_t ?_ | with_reducible refine ifB_nt ?_ | with_reducible refine ifB_nf ?_); (repeat first | refine ⟨_, rfl, ?_⟩ | refine ⟨MulOk.r ⟨by omega, by omega⟩, ?_⟩ | refine ⟨MulOk.l ⟨by omega, by omega⟩, ?_⟩ | refine ⟨DivOk.of (by omega) (by omega), ?_⟩ | refine ⟨(by omega : (0 : Int) < _), ?_⟩ | refine ⟨True.intro, ?_⟩ | refine ⟨rfl, ?_⟩ | refine ⟨(by repeat' (first | exact True.intro | refine ⟨?_, ?_⟩) : ShN 60 _), ?_⟩ | refine ⟨(Nat.le_of_ble_eq_true rfl : (_ : Nat) ≤ big), ?_⟩ | refine ⟨(by repeat (first | exact True.intro | refine ⟨True.intro, ?_⟩) : NRL _), Nat.le_of_ble_eq_true rfl, ?_⟩ | refine ⟨(⟨by omega, by omega, by decide⟩ : (0 : Int) ≤ _ ∧ _ ≤ _ ∧ Int.natAbs _ < _), ?_⟩); (try conv => whnf))))
  refine ⟨n, k, rfl, rfl, hn, ?_⟩
  exact .inl ⟨True.intro, hQ⟩

theorem nmod {a b : Nat} : (a : Int) % (b : Int) = ((a % b : Nat) : Int) := rfl
theorem ndiv {a b : Nat} : (a : Int) / (b : Int) = ((a / b : Nat) : Int) := rfl
theorem rd_left_groups (ds : List D) (so : Sto) (Q : WK) (h : p_left_groups ds so Q) : w_left_groups (endK so.length Q) (startM 4 ds) so := by
  obtain ⟨n, k, p, rfl, rfl, hn, hk, hp, hQ⟩ := h
  have h2 := hp.pr.1
  have h3 := hp.lt
  ((repeat first | refine ⟨_, rfl, ?_⟩ | refine ⟨MulOk.r ⟨by omega, by omega⟩, ?_⟩ | refine ⟨MulOk.l ⟨by omega, by omega⟩, ?_⟩ | refine ⟨DivOk.of (by omega) (by omega), ?_⟩ | refine ⟨(by omega : (0 : Int) < _), ?_⟩ | refine ⟨True.intro, ?_⟩ | refine ⟨rfl, ?_⟩ | refine ⟨(by repeat' (first | exact True.intro | refine ⟨?_, ?_⟩) : ShN 60 _), ?_⟩ | refine ⟨(Nat.le_of_ble_eq_true rfl : (_ : Nat) ≤ big), ?_⟩ | refine ⟨(by repeat (first | exact True.intro | refine ⟨True.intro, ?_⟩) : NRL _), Nat.le_of_ble_eq_true rfl, ?_⟩ | refine ⟨(⟨by omega, by omega, by decide⟩ : (0 : Int) ≤ _ ∧ _ ≤ _ ∧ Int.natAbs _ < _), ?_⟩); (try conv => whnf); (repeat ((first | with_reducible refine ifB_f ?_ | with_reducible refine ifB_t ?_ | with_reducible refine ifB_nt ?_ | with_reducible refine ifB_nf ?_); (repeat first | refine ⟨_, rfl, ?_⟩ | refine ⟨MulOk.r ⟨by omega, by omega⟩, ?_⟩ | refine ⟨MulOk.l ⟨by omega, by omega⟩, ?_⟩ | refine ⟨DivOk.of (by omega) (by omega), ?_⟩ | refine ⟨(by omega : (0 : Int) < _), ?_⟩ | refine ⟨True.intro, ?_⟩ | refine ⟨rfl, ?_⟩ | refine ⟨(by repeat' (first | exact True.intro | refine ⟨?_, ?_⟩) : ShN 60 _), ?_⟩ | refine ⟨(Nat.le_of_ble_eq_true rfl : (_ : Nat) ≤ big), ?_⟩ | refine ⟨(by repeat (first | exact True.intro | refine ⟨True.intro, ?_⟩) : NRL _), Nat.le_of_ble_eq_true rfl, ?_⟩ | refine ⟨(⟨by omega, by omega, by decide⟩ : (0 : Int) ≤ _ ∧ _ ≤ _ ∧ Int.natAbs _ < _), ?_⟩); (try conv => whnf))))
  refine ⟨n, k, rfl, rfl, hn, hk, ?_⟩
  ((repeat first | refine ⟨_, rfl, ?_⟩ | refine ⟨MulOk.r ⟨by omega, by omega⟩, ?_⟩ | refine ⟨MulOk.l ⟨by omega, by omega⟩, ?_⟩ | refine ⟨DivOk.of (by omega) (by omega), ?_⟩ | refine ⟨(by omega : (0 : Int) < _), ?_⟩ | refine ⟨True.intro, ?_⟩ | refine ⟨rfl, ?_⟩ | refine ⟨(by repeat' (first | exact True.intro | refine ⟨?_, ?_⟩) : ShN 60 _), ?_⟩ | refine ⟨(Nat.le_of_ble_eq_true rfl : (_ : Nat) ≤ big), ?_⟩ | refine ⟨(by repeat (first | exact True.intro | refine ⟨True.intro, ?_⟩) : NRL _), Nat.le_of_ble_eq_true rfl, ?_⟩ | refine ⟨(⟨by omega, by omega, by decide⟩ : (0 : Int) ≤ _ ∧ _ ≤ _ ∧ Int.natAbs _ < _), ?_⟩); (try conv => whnf); (repeat ((first | with_reducible refine ifB_f ?_ | with_reducible refine ifB_t ?_ | with_reducible refine ifB_nt ?_ | with_reducible refine ifB_nf ?_); (repeat first | refine ⟨_, rfl, ?_⟩ | refine ⟨MulOk.r ⟨by omega, by omega⟩, ?_⟩ | refine ⟨MulOk.l ⟨by omega, by omega⟩, ?_⟩ | refine ⟨DivOk.of (by omega) (by omega), ?_⟩ | refine ⟨(by omega : (0 : Int) < _), ?_⟩ | refine ⟨True.intro, ?_⟩ | refine ⟨rfl, ?_⟩ | refine ⟨(by repeat' (first | exact True.intro | refine ⟨?_, ?_⟩) : ShN 60 _), ?_⟩ | refine ⟨(Nat.le_of_ble_eq_true rfl : (_ : Nat) ≤ big), ?_⟩ | refine ⟨(by repeat (first | exact True.intro | refine ⟨True.intro, ?_⟩) : NRL _), Nat.le_of_ble_eq_true rfl, ?_⟩ | refine ⟨(⟨by omega, by omega, by decide⟩ : (0 : Int) ≤ _ ∧ _ ≤ _ ∧ Int.natAbs _ < _), ?_⟩); (try conv => whnf))))
  refine ⟨hp.pr, hp.lt, ?_⟩
  ((repeat first | refine ⟨_, rfl, ?_⟩ | refine ⟨MulOk.r ⟨by omega, by omega⟩, ?_⟩ | refine ⟨MulOk.l ⟨by omega, by omega⟩, ?_⟩ | refine ⟨DivOk.of (by omega) (by omega), ?_⟩ | refine ⟨(by omega : (0 : Int) < _), ?_⟩ | refine ⟨True.intro, ?_⟩ | refine ⟨rfl, ?_⟩ | refine ⟨(by repeat' (first | exact True.intro | refine ⟨?_, ?_⟩) : ShN 60 _), ?_⟩ | refine ⟨(Nat.le_of_ble_eq_true rfl : (_ : Nat) ≤ big), ?_⟩ | refine ⟨(by repeat (first | exact True.intro | refine ⟨True.intro, ?_⟩) : NRL _), Nat.le_of_ble_eq_true rfl, ?_⟩ | refine ⟨(⟨by omega, by omega, by decide⟩ : (0 : Int) ≤ _ ∧ _ ≤ _ ∧ Int.natAbs _ < _), ?_⟩); (try conv => whnf); (repeat ((first | with_reducible refine ifB_f ?_ | with_reducible refine ifB_t ?_ | with_reducible refine ifB_nt ?_ | with_reducible refine ifB_nf ?_); (repeat first | refine ⟨_, rfl, ?_⟩ | refine ⟨MulOk.r ⟨by omega, by omega⟩, ?_⟩ | refine ⟨MulOk.l ⟨by omega, by omega⟩, ?_⟩ | refine ⟨DivOk.of (by omega) (by omega), ?_⟩ | refine ⟨(by omega : (0 : Int) < _), ?_⟩ | refine ⟨True.intro, ?_⟩ | refine ⟨rfl, ?_⟩ | refine ⟨(by repeat' (first | exact True.intro | refine ⟨?_, ?_⟩) : ShN 60 _), ?_⟩ | refine ⟨(Nat.le_of_ble_eq_true rfl : (_ : Nat) ≤ big), ?_⟩ | refine ⟨(by repeat (first | exact True.intro | refine ⟨True.intro, ?_⟩) : NRL _), Nat.le_of_ble_eq_true rfl, ?_⟩ | refine ⟨(⟨by omega, by omega, by decide⟩ : (0 : Int) ≤ _ ∧ _ ≤ _ ∧ Int.natAbs _ < _), ?_⟩); (try conv => whnf))))
  refine while_inv (fun m env st => ∃ a b f : Nat, env = [some (.int a), some (.int b), some (.int p), some (.int f)] ∧ st = [] ∧ f < p ∧ (f * ch a b) % p = ch n k % p ∧ m = a + b) (n + k) ⟨n, k, 1, rfl, rfl, by omega, by rw [Nat.one_mul], rfl⟩ ?_
  rintro m env st ⟨a, b, f, rfl, rfl, hf, he, rfl⟩ N hN
  ((repeat first | refine ⟨_, rfl, ?_⟩ | refine ⟨MulOk.r ⟨by omega, by omega⟩, ?_⟩ | refine ⟨MulOk.l ⟨by omega, by omega⟩, ?_⟩ | refine ⟨DivOk.of (by omega) (by omega), ?_⟩ | refine ⟨(by omega : (0 : Int) < _), ?_⟩ | refine ⟨True.intro, ?_⟩ | refine ⟨rfl, ?_⟩ | refine ⟨(by repeat' (first | exact True.intro | refine ⟨?_, ?_⟩) : ShN 60 _), ?_⟩ | refine ⟨(Nat.le_of_ble_eq_true rfl : (_ : Nat) ≤ big), ?_⟩ | refine ⟨(by repeat (first | exact True.intro | refine ⟨True.intro, ?_⟩) : NRL _), Nat.le_of_ble_eq_true rfl, ?_⟩ | refine ⟨(⟨by omega, by omega, by decide⟩ : (0 : Int) ≤ _ ∧ _ ≤ _ ∧ Int.natAbs _ < _), ?_⟩); (try conv => whnf); (repeat ((first | with_reducible refine ifB_f ?_ | with_reducible refine ifB_t ?_ | with_reducible refine ifB_nt ?_ | with_reducible refine ifB_nf ?_); (repeat first | refine ⟨_, rfl, ?_⟩ | refine ⟨MulOk.r ⟨by omega, by omega⟩, ?_⟩ | refine ⟨MulOk.l ⟨by omega, by omega⟩, ?_⟩ | refine ⟨DivOk.of (by omega) (by omega), ?_⟩ | refine ⟨(by omega : (0 : Int) < _), ?_⟩ | refine ⟨True.intro, ?_⟩ | refine ⟨rfl, ?_⟩ | refine ⟨(by repeat' (first | exact True.intro | refine ⟨?_, ?_⟩) : ShN 60 _), ?_⟩ | refine ⟨(Nat.le_of_ble_eq_true rfl : (_ : Nat) ≤ big), ?_⟩ | refine ⟨(by repeat (first | exact True.intro | refine ⟨True.intro, ?_⟩) : NRL _), Nat.le_of_ble_eq_true rfl, ?_⟩ | refine ⟨(⟨by omega, by omega, by decide⟩ : (0 : Int) ≤ _ ∧ _ ≤ _ ∧ Int.natAbs _ < _), ?_⟩); (try conv => whnf))))
  refine ifB_or (fun h => ?_) (fun h h' => ?_)
  · have hab : 0 < a + b := by
      rcases h with h | h
      · have : (0 : Int) < a := dec_t h
        omega
      · have : (0 : Int) < b := dec_t h
        omega
    have hm : a % p < p := Nat.mod_lt _ (by omega)
    ((repeat first | refine ⟨_, rfl, ?_⟩ | refine ⟨MulOk.r ⟨by omega, by omega⟩, ?_⟩ | refine ⟨MulOk.l ⟨by omega, by omega⟩, ?_⟩ | refine ⟨DivOk.of (by omega) (by omega), ?_⟩ | refine ⟨(by omega : (0 : Int) < _), ?_⟩ | refine ⟨True.intro, ?_⟩ | refine ⟨rfl, ?_⟩ | refine ⟨(by repeat' (first | exact True.intro | refine ⟨?_, ?_⟩) : ShN 60 _), ?_⟩ | refine ⟨(Nat.le_of_ble_eq_true rfl : (_ : Nat) ≤ big), ?_⟩ | refine ⟨(by repeat (first | exact True.intro | refine ⟨True.intro, ?_⟩) : NRL _), Nat.le_of_ble_eq_true rfl, ?_⟩ | refine ⟨(⟨by omega, by omega, by decide⟩ : (0 : Int) ≤ _ ∧ _ ≤ _ ∧ Int.natAbs _ < _), ?_⟩); (try conv => whnf); (repeat ((first | with_reducible refine ifB_f ?_ | with_reducible refine ifB_t ?_ | with_reducible refine ifB_nt ?_ | with_reducible refine ifB_nf ?_); (repeat first | refine ⟨_, rfl, ?_⟩ | refine ⟨MulOk.r ⟨by omega, by omega⟩, ?_⟩ | refine ⟨MulOk.l ⟨by omega, by omega⟩, ?_⟩ | refine ⟨DivOk.of (by omega) (by omega), ?_⟩ | refine ⟨(by omega : (0 : Int) < _), ?_⟩ | refine ⟨True.intro, ?_⟩ | refine ⟨rfl, ?_⟩ | refine ⟨(by repeat' (first | exact True.intro | refine ⟨?_, ?_⟩) : ShN 60 _), ?_⟩ | refine ⟨(Nat.le_of_ble_eq_true rfl : (_ : Nat) ≤ big), ?_⟩ | refine ⟨(by repeat (first | exact True.intro | refine ⟨True.intro, ?_⟩) : NRL _), Nat.le_of_ble_eq_true rfl, ?_⟩ | refine ⟨(⟨by omega, by omega, by decide⟩ : (0 : Int) ≤ _ ∧ _ ≤ _ ∧ Int.natAbs _ < _), ?_⟩); (try conv => whnf))))
    refine ⟨a % p, b % p, rfl, rfl, by omega, ?_⟩
    ((repeat first | refine ⟨_, rfl, ?_⟩ | refine ⟨MulOk.r ⟨by omega, by omega⟩, ?_⟩ | refine ⟨MulOk.l ⟨by omega, by omega⟩, ?_⟩ | refine ⟨DivOk.of (by omega) (by omega), ?_⟩ | refine ⟨(by omega : (0 : Int) < _), ?_⟩ | refine ⟨True.intro, ?_⟩ | refine ⟨rfl, ?_⟩ | refine ⟨(by repeat' (first | exact True.intro | refine ⟨?_, ?_⟩) : ShN 60 _), ?_⟩ | refine ⟨(Nat.le_of_ble_eq_true rfl : (_ : Nat) ≤ big), ?_⟩ | refine ⟨(by repeat (first | exact True.intro | refine ⟨True.intro, ?_⟩) : NRL _), Nat.le_of_ble_eq_true rfl, ?_⟩ | refine ⟨(⟨by omega, by omega, by decide⟩ : (0 : Int) ≤ _ ∧ _ ≤ _ ∧ Int.natAbs _ < _), ?_⟩); (try conv => whnf); (repeat ((first | with_reducible refine ifB_f ?_ | with_reducible refine ifB_t ?_ | with_reducible refine ifB_nt ?_ | with_reducible refine ifB_nf ?_); (repeat first | refine ⟨_, rfl, ?_⟩ | refine ⟨MulOk.r ⟨by omega, by omega⟩, ?_⟩ | refine ⟨MulOk.l ⟨by omega, by omega⟩, ?_⟩ | refine ⟨DivOk.of (by omega) (by omega), ?_⟩ | refine ⟨(by omega : (0 : Int) < _), ?_⟩ | refine ⟨True.intro, ?_⟩ | refine ⟨rfl, ?_⟩ | refine ⟨(by repeat' (first | exact True.intro | refine ⟨?_, ?_⟩) : ShN 60 _), ?_⟩ | refine ⟨(Nat.le_of_ble_eq_true rfl : (_ : Nat) ≤ big), ?_⟩ | refine ⟨(by repeat (first | exact True.intro | refine ⟨True.intro, ?_⟩) : NRL _), Nat.le_of_ble_eq_true rfl, ?_⟩ | refine ⟨(⟨by omega, by omega, by decide⟩ : (0 : Int) ≤ _ ∧ _ ≤ _ ∧ Int.natAbs _ < _), ?_⟩); (try conv => whnf))))
    have da : a / p ≤ a := Nat.div_le_self a p
    have db : b / p ≤ b := Nat.div_le_self b p
    refine hN (a / p + b / p) ?_ _ _ ⟨a / p, b / p, f * ch (a % p) (b % p) % p, rfl, rfl, Nat.mod_lt _ (by omega), ?_, rfl⟩
    · rcases Nat.eq_zero_or_pos a with z | z
      · have := Nat.div_lt_self (show 0 < b by omega) h2
        omega
      · have := Nat.div_lt_self z h2
        omega
    · rw [← he, Nat.mul_mod f (ch a b), luc_step hp.pr a b, ← Nat.mul_mod, Nat.mul_mod, Nat.mod_mod, ← Nat.mul_mod]
      congr 1
      simp only [Nat.mul_assoc, Nat.mul_comm, Nat.mul_left_comm]
  · have ha : ¬ (0 : Int) < a := dec_f h
    have hb : ¬ (0 : Int) < b := dec_f h'
    have ea : a = 0 := by omega
    have eb : b = 0 := by omega
    subst ea eb
    rw [ch_0, Nat.mul_one, Nat.mod_eq_of_lt hf] at he
    subst he
    ((repeat first | refine ⟨_, rfl, ?_⟩ | refine ⟨MulOk.r ⟨by omega, by omega⟩, ?_⟩ | refine ⟨MulOk.l ⟨by omega, by omega⟩, ?_⟩ | refine ⟨DivOk.of (by omega) (by omega), ?_⟩ | refine ⟨(by omega : (0 : Int) < _), ?_⟩ | refine ⟨True.intro, ?_⟩ | refine ⟨rfl, ?_⟩ | refine ⟨(by repeat' (first | exact True.intro | refine ⟨?_, ?_⟩) : ShN 60 _), ?_⟩ | refine ⟨(Nat.le_of_ble_eq_true rfl : (_ : Nat) ≤ big), ?_⟩ | refine ⟨(by repeat (first | exact True.intro | refine ⟨True.intro, ?_⟩) : NRL _), Nat.le_of_ble_eq_true rfl, ?_⟩ | refine ⟨(⟨by omega, by omega, by decide⟩ : (0 : Int) ≤ _ ∧ _ ≤ _ ∧ Int.natAbs _ < _), ?_⟩); (try conv => whnf); (repeat ((first | with_reducible refine ifB_f ?_ | with_reducible refine ifB_t ?_ | with_reducible refine ifB_nt ?_ | with_reducible refine ifB_nf ?_); (repeat first | refine ⟨_, rfl, ?_⟩ | refine ⟨MulOk.r ⟨by omega, by omega⟩, ?_⟩ | refine ⟨MulOk.l ⟨by omega, by omega⟩, ?_⟩ | refine ⟨DivOk.of (by omega) (by omega), ?_⟩ | refine ⟨(by omega : (0 : Int) < _), ?_⟩ | refine ⟨True.intro, ?_⟩ | refine ⟨rfl, ?_⟩ | refine ⟨(by repeat' (first | exact True.intro | refine ⟨?_, ?_⟩) : ShN 60 _), ?_⟩ | refine ⟨(Nat.le_of_ble_eq_true rfl : (_ : Nat) ≤ big), ?_⟩ | refine ⟨(by repeat (first | exact True.intro | refine ⟨True.intro, ?_⟩) : NRL _), Nat.le_of_ble_eq_true rfl, ?_⟩ | refine ⟨(⟨by omega, by omega, by decide⟩ : (0 : Int) ≤ _ ∧ _ ≤ _ ∧ Int.natAbs _ < _), ?_⟩); (try conv => whnf))))
    exact .inl ⟨True.intro, hQ⟩
theorem rd_often_in_product (ds : List D) (so : Sto) (Q : WK) (h : p_often_in_product ds so Q) : w_often_in_product (endK so.length Q) (startM 3 ds) so := by
  obtain ⟨n, p, rfl, rfl, hn, hp, hQ⟩ := h
  have h2 := hp.pr.1
  have h3 := hp.lt
  ((repeat first | refine ⟨_, rfl, ?_⟩ | refine ⟨MulOk.r ⟨by omega, by omega⟩, ?_⟩ | refine ⟨MulOk.l ⟨by omega, by omega⟩, ?_⟩ | refine ⟨DivOk.of (by omega) (by omega), ?_⟩ | refine ⟨(by omega : (0 : Int) < _), ?_⟩ | refine ⟨True.intro, ?_⟩ | refine ⟨rfl, ?_⟩ | refine ⟨(by repeat' (first | exact True.intro | refine ⟨?_, ?_⟩) : ShN 60 _), ?_⟩ | refine ⟨(Nat.le_of_ble_eq_true rfl : (_ : Nat) ≤ big), ?_⟩ | refine ⟨(by repeat (first | exact True.intro | refine ⟨True.intro, ?_⟩) : NRL _), Nat.le_of_ble_eq_true rfl, ?_⟩ | refine ⟨(⟨by omega, by omega, by decide⟩ : (0 : Int) ≤ _ ∧ _ ≤ _ ∧ Int.natAbs _ < _), ?_⟩); (try conv => whnf); (repeat ((first | with_reducible refine ifB_f ?_ | with_reducible refine ifB_t ?_ | with_reducible refine ifB_nt ?_ | with_reducible refine ifB_nf ?_); (repeat first | refine ⟨_, rfl, ?_⟩ | refine ⟨MulOk.r ⟨by omega, by omega⟩, ?_⟩ | refine ⟨MulOk.l ⟨by omega, by omega⟩, ?_⟩ | refine ⟨DivOk.of (by omega) (by omega), ?_⟩ | refine ⟨(by omega : (0 : Int) < _), ?_⟩ | refine ⟨True.intro, ?_⟩ | refine ⟨rfl, ?_⟩ | refine ⟨(by repeat' (first | exact True.intro | refine ⟨?_, ?_⟩) : ShN 60 _), ?_⟩ | refine ⟨(Nat.le_of_ble_eq_true rfl : (_ : Nat) ≤ big), ?_⟩ | refine ⟨(by repeat (first | exact True.intro | refine ⟨True.intro, ?_⟩) : NRL _), Nat.le_of_ble_eq_true rfl, ?_⟩ | refine ⟨(⟨by omega, by omega, by decide⟩ : (0 : Int) ≤ _ ∧ _ ≤ _ ∧ Int.natAbs _ < _), ?_⟩); (try conv => whnf))))
  refine ⟨n, 0, rfl, rfl, hn, by omega, ?_⟩
  ((repeat first | refine ⟨_, rfl, ?_⟩ | refine ⟨MulOk.r ⟨by omega, by omega⟩, ?_⟩ | refine ⟨MulOk.l ⟨by omega, by omega⟩, ?_⟩ | refine ⟨DivOk.of (by omega) (by omega), ?_⟩ | refine ⟨(by omega : (0 : Int) < _), ?_⟩ | refine ⟨True.intro, ?_⟩ | refine ⟨rfl, ?_⟩ | refine ⟨(by repeat' (first | exact True.intro | refine ⟨?_, ?_⟩) : ShN 60 _), ?_⟩ | refine ⟨(Nat.le_of_ble_eq_true rfl : (_ : Nat) ≤ big), ?_⟩ | refine ⟨(by repeat (first | exact True.intro | refine ⟨True.intro, ?_⟩) : NRL _), Nat.le_of_ble_eq_true rfl, ?_⟩ | refine ⟨(⟨by omega, by omega, by decide⟩ : (0 : Int) ≤ _ ∧ _ ≤ _ ∧ Int.natAbs _ < _), ?_⟩); (try conv => whnf); (repeat ((first | with_reducible refine ifB_f ?_ | with_reducible refine ifB_t ?_ | with_reducible refine ifB_nt ?_ | with_reducible refine ifB_nf ?_); (repeat first | refine ⟨_, rfl, ?_⟩ | refine ⟨MulOk.r ⟨by omega, by omega⟩, ?_⟩ | refine ⟨MulOk.l ⟨by omega, by omega⟩, ?_⟩ | refine ⟨DivOk.of (by omega) (by omega), ?_⟩ | refine ⟨(by omega : (0 : Int) < _), ?_⟩ | refine ⟨True.intro, ?_⟩ | refine ⟨rfl, ?_⟩ | refine ⟨(by repeat' (first | exact True.intro | refine ⟨?_, ?_⟩) : ShN 60 _), ?_⟩ | refine ⟨(Nat.le_of_ble_eq_true rfl : (_ : Nat) ≤ big), ?_⟩ | refine ⟨(by repeat (first | exact True.intro | refine ⟨True.intro, ?_⟩) : NRL _), Nat.le_of_ble_eq_true rfl, ?_⟩ | refine ⟨(⟨by omega, by omega, by decide⟩ : (0 : Int) ≤ _ ∧ _ ≤ _ ∧ Int.natAbs _ < _), ?_⟩); (try conv => whnf))))
  refine ⟨hp.pr, hp.lt, ?_⟩
  ((repeat first | refine ⟨_, rfl, ?_⟩ | refine ⟨MulOk.r ⟨by omega, by omega⟩, ?_⟩ | refine ⟨MulOk.l ⟨by omega, by omega⟩, ?_⟩ | refine ⟨DivOk.of (by omega) (by omega), ?_⟩ | refine ⟨(by omega : (0 : Int) < _), ?_⟩ | refine ⟨True.intro, ?_⟩ | refine ⟨rfl, ?_⟩ | refine ⟨(by repeat' (first | exact True.intro | refine ⟨?_, ?_⟩) : ShN 60 _), ?_⟩ | refine ⟨(Nat.le_of_ble_eq_true rfl : (_ : Nat) ≤ big), ?_⟩ | refine ⟨(by repeat (first | exact True.intro | refine ⟨True.intro, ?_⟩) : NRL _), Nat.le_of_ble_eq_true rfl, ?_⟩ | refine ⟨(⟨by omega, by omega, by decide⟩ : (0 : Int) ≤ _ ∧ _ ≤ _ ∧ Int.natAbs _ < _), ?_⟩); (try conv => whnf); (repeat ((first | with_reducible refine ifB_f ?_ | with_reducible refine ifB_t ?_ | with_reducible refine ifB_nt ?_ | with_reducible refine ifB_nf ?_); (repeat first | refine ⟨_, rfl, ?_⟩ | refine ⟨MulOk.r ⟨by omega, by omega⟩, ?_⟩ | refine ⟨MulOk.l ⟨by omega, by omega⟩, ?_⟩ | refine ⟨DivOk.of (by omega) (by omega), ?_⟩ | refine ⟨(by omega : (0 : Int) < _), ?_⟩ | refine ⟨True.intro, ?_⟩ | refine ⟨rfl, ?_⟩ | refine ⟨(by repeat' (first | exact True.intro | refine ⟨?_, ?_⟩) : ShN 60 _), ?_⟩ | refine ⟨(Nat.le_of_ble_eq_true rfl : (_ : Nat) ≤ big), ?_⟩ | refine ⟨(by repeat (first | exact True.intro | refine ⟨True.intro, ?_⟩) : NRL _), Nat.le_of_ble_eq_true rfl, ?_⟩ | refine ⟨(⟨by omega, by omega, by decide⟩ : (0 : Int) ≤ _ ∧ _ ≤ _ ∧ Int.natAbs _ < _), ?_⟩); (try conv => whnf))))
  refine while_inv (fun m env st => ∃ a f : Nat, env = [some (.int a), some (.int p), some (.int f)] ∧ st = [] ∧ f + leg p a = leg p n ∧ m = a) n ⟨n, 0, rfl, rfl, by omega, rfl⟩ ?_
  rintro m env st ⟨a, f, rfl, rfl, he, rfl⟩ N hN
  ((repeat first | refine ⟨_, rfl, ?_⟩ | refine ⟨MulOk.r ⟨by omega, by omega⟩, ?_⟩ | refine ⟨MulOk.l ⟨by omega, by omega⟩, ?_⟩ | refine ⟨DivOk.of (by omega) (by omega), ?_⟩ | refine ⟨(by omega : (0 : Int) < _), ?_⟩ | refine ⟨True.intro, ?_⟩ | refine ⟨rfl, ?_⟩ | refine ⟨(by repeat' (first | exact True.intro | refine ⟨?_, ?_⟩) : ShN 60 _), ?_⟩ | refine ⟨(Nat.le_of_ble_eq_true rfl : (_ : Nat) ≤ big), ?_⟩ | refine ⟨(by repeat (first | exact True.intro | refine ⟨True.intro, ?_⟩) : NRL _), Nat.le_of_ble_eq_true rfl, ?_⟩ | refine ⟨(⟨by omega, by omega, by decide⟩ : (0 : Int) ≤ _ ∧ _ ≤ _ ∧ Int.natAbs _ < _), ?_⟩); (try conv => whnf); (repeat ((first | with_reducible refine ifB_f ?_ | with_reducible refine ifB_t ?_ | with_reducible refine ifB_nt ?_ | with_reducible refine ifB_nf ?_); (repeat first | refine ⟨_, rfl, ?_⟩ | refine ⟨MulOk.r ⟨by omega, by omega⟩, ?_⟩ | refine ⟨MulOk.l ⟨by omega, by omega⟩, ?_⟩ | refine ⟨DivOk.of (by omega) (by omega), ?_⟩ | refine ⟨(by omega : (0 : Int) < _), ?_⟩ | refine ⟨True.intro, ?_⟩ | refine ⟨rfl, ?_⟩ | refine ⟨(by repeat' (first | exact True.intro | refine ⟨?_, ?_⟩) : ShN 60 _), ?_⟩ | refine ⟨(Nat.le_of_ble_eq_true rfl : (_ : Nat) ≤ big), ?_⟩ | refine ⟨(by repeat (first | exact True.intro | refine ⟨True.intro, ?_⟩) : NRL _), Nat.le_of_ble_eq_true rfl, ?_⟩ | refine ⟨(⟨by omega, by omega, by decide⟩ : (0 : Int) ≤ _ ∧ _ ≤ _ ∧ Int.natAbs _ < _), ?_⟩); (try conv => whnf))))
  refine ifB.of (fun h => ?_) (fun h => ?_)
  · have ha : (0 : Int) < m := dec_t h
    ((repeat first | refine ⟨_, rfl, ?_⟩ | refine ⟨MulOk.r ⟨by omega, by omega⟩, ?_⟩ | refine ⟨MulOk.l ⟨by omega, by omega⟩, ?_⟩ | refine ⟨DivOk.of (by omega) (by omega), ?_⟩ | refine ⟨(by omega : (0 : Int) < _), ?_⟩ | refine ⟨True.intro, ?_⟩ | refine ⟨rfl, ?_⟩ | refine ⟨(by repeat' (first | exact True.intro | refine ⟨?_, ?_⟩) : ShN 60 _), ?_⟩ | refine ⟨(Nat.le_of_ble_eq_true rfl : (_ : Nat) ≤ big), ?_⟩ | refine ⟨(by repeat (first | exact True.intro | refine ⟨True.intro, ?_⟩) : NRL _), Nat.le_of_ble_eq_true rfl, ?_⟩ | refine ⟨(⟨by omega, by omega, by decide⟩ : (0 : Int) ≤ _ ∧ _ ≤ _ ∧ Int.natAbs _ < _), ?_⟩); (try conv => whnf); (repeat ((first | with_reducible refine ifB_f ?_ | with_reducible refine ifB_t ?_ | with_reducible refine ifB_nt ?_ | with_reducible refine ifB_nf ?_); (repeat first | refine ⟨_, rfl, ?_⟩ | refine ⟨MulOk.r ⟨by omega, by omega⟩, ?_⟩ | refine ⟨MulOk.l ⟨by omega, by omega⟩, ?_⟩ | refine ⟨DivOk.of (by omega) (by omega), ?_⟩ | refine ⟨(by omega : (0 : Int) < _), ?_⟩ | refine ⟨True.intro, ?_⟩ | refine ⟨rfl, ?_⟩ | refine ⟨(by repeat' (first | exact True.intro | refine ⟨?_, ?_⟩) : ShN 60 _), ?_⟩ | refine ⟨(Nat.le_of_ble_eq_true rfl : (_ : Nat) ≤ big), ?_⟩ | refine ⟨(by repeat (first | exact True.intro | refine ⟨True.intro, ?_⟩) : NRL _), Nat.le_of_ble_eq_true rfl, ?_⟩ | refine ⟨(⟨by omega, by omega, by decide⟩ : (0 : Int) ≤ _ ∧ _ ≤ _ ∧ Int.natAbs _ < _), ?_⟩); (try conv => whnf))))
    refine hN (m / p) (Nat.div_lt_self (by omega) h2) _ _ ⟨m / p, f + m / p, rfl, rfl, ?_, rfl⟩
    rw [← he, leg_eq (n := m) h2]
    omega
  · have ha : ¬ (0 : Int) < m := dec_f h
    have ea : m = 0 := by omega
    subst ea
    rw [leg_0] at he
    ((repeat first | refine ⟨_, rfl, ?_⟩ | refine ⟨MulOk.r ⟨by omega, by omega⟩, ?_⟩ | refine ⟨MulOk.l ⟨by omega, by omega⟩, ?_⟩ | refine ⟨DivOk.of (by omega) (by omega), ?_⟩ | refine ⟨(by omega : (0 : Int) < _), ?_⟩ | refine ⟨True.intro, ?_⟩ | refine ⟨rfl, ?_⟩ | refine ⟨(by repeat' (first | exact True.intro | refine ⟨?_, ?_⟩) : ShN 60 _), ?_⟩ | refine ⟨(Nat.le_of_ble_eq_true rfl : (_ : Nat) ≤ big), ?_⟩ | refine ⟨(by repeat (first | exact True.intro | refine ⟨True.intro, ?_⟩) : NRL _), Nat.le_of_ble_eq_true rfl, ?_⟩ | refine ⟨(⟨by omega, by omega, by decide⟩ : (0 : Int) ≤ _ ∧ _ ≤ _ ∧ Int.natAbs _ < _), ?_⟩); (try conv => whnf); (repeat ((first | with_reducible refine ifB_f ?_ | with_reducible refine ifB_t ?_ | with_reducible refine ifB_nt ?_ | with_reducible refine ifB_nf ?_); (repeat first | refine ⟨_, rfl, ?_⟩ | refine ⟨MulOk.r ⟨by omega, by omega⟩, ?_⟩ | refine ⟨MulOk.l ⟨by omega, by omega⟩, ?_⟩ | refine ⟨DivOk.of (by omega) (by omega), ?_⟩ | refine ⟨(by omega : (0 : Int) < _), ?_⟩ | refine ⟨True.intro, ?_⟩ | refine ⟨rfl, ?_⟩ | refine ⟨(by repeat' (first | exact True.intro | refine ⟨?_, ?_⟩) : ShN 60 _), ?_⟩ | refine ⟨(Nat.le_of_ble_eq_true rfl : (_ : Nat) ≤ big), ?_⟩ | refine ⟨(by repeat (first | exact True.intro | refine ⟨True.intro, ?_⟩) : NRL _), Nat.le_of_ble_eq_true rfl, ?_⟩ | refine ⟨(⟨by omega, by omega, by decide⟩ : (0 : Int) ≤ _ ∧ _ ≤ _ ∧ Int.natAbs _ < _), ?_⟩); (try conv => whnf))))
    refine .inl ⟨True.intro, ?_⟩
    have e : f = leg p n := he
    rw [e]
    exact hQ
theorem rd_often_in_groups (ds : List D) (so : Sto) (Q : WK) (h : p_often_in_groups ds so Q) : w_often_in_groups (endK so.length Q) (startM 4 ds) so := by
  obtain ⟨n, k, p, rfl, rfl, hn, hk, hp, hQ⟩ := h
  have h2 := hp.pr.1
  have h3 := hp.lt
  ((repeat first | refine ⟨_, rfl, ?_⟩ | refine ⟨MulOk.r ⟨by omega, by omega⟩, ?_⟩ | refine ⟨MulOk.l ⟨by omega, by omega⟩, ?_⟩ | refine ⟨DivOk.of (by omega) (by omega), ?_⟩ | refine ⟨(by omega : (0 : Int) < _), ?_⟩ | refine ⟨True.intro, ?_⟩ | refine ⟨rfl, ?_⟩ | refine ⟨(by repeat' (first | exact True.intro | refine ⟨?_, ?_⟩) : ShN 60 _), ?_⟩ | refine ⟨(Nat.le_of_ble_eq_true rfl : (_ : Nat) ≤ big), ?_⟩ | refine ⟨(by repeat (first | exact True.intro | refine ⟨True.intro, ?_⟩) : NRL _), Nat.le_of_ble_eq_true rfl, ?_⟩ | refine ⟨(⟨by omega, by omega, by decide⟩ : (0 : Int) ≤ _ ∧ _ ≤ _ ∧ Int.natAbs _ < _), ?_⟩); (try conv => whnf); (repeat ((first | with_reducible refine ifB_f ?_ | with_reducible refine ifB_t ?_ | with_reducible refine ifB_nt ?_ | with_reducible refine ifB_nf ?_); (repeat first | refine ⟨_, rfl, ?_⟩ | refine ⟨MulOk.r ⟨by omega, by omega⟩, ?_⟩ | refine ⟨MulOk.l ⟨by omega, by omega⟩, ?_⟩ | refine ⟨DivOk.of (by omega) (by omega), ?_⟩ | refine ⟨(by omega : (0 : Int) < _), ?_⟩ | refine ⟨True.intro, ?_⟩ | refine ⟨rfl, ?_⟩ | refine ⟨(by repeat' (first | exact True.intro | refine ⟨?_, ?_⟩) : ShN 60 _), ?_⟩ | refine ⟨(Nat.le_of_ble_eq_true rfl : (_ : Nat) ≤ big), ?_⟩ | refine ⟨(by repeat (first | exact True.intro | refine ⟨True.intro, ?_⟩) : NRL _), Nat.le_of_ble_eq_true rfl, ?_⟩ | refine ⟨(⟨by omega, by omega, by decide⟩ : (0 : Int) ≤ _ ∧ _ ≤ _ ∧ Int.natAbs _ < _), ?_⟩); (try conv => whnf))))
  refine ⟨n, k, rfl, rfl, hn, hk, ?_⟩
  ((repeat first | refine ⟨_, rfl, ?_⟩ | refine ⟨MulOk.r ⟨by omega, by omega⟩, ?_⟩ | refine ⟨MulOk.l ⟨by omega, by omega⟩, ?_⟩ | refine ⟨DivOk.of (by omega) (by omega), ?_⟩ | refine ⟨(by omega : (0 : Int) < _), ?_⟩ | refine ⟨True.intro, ?_⟩ | refine ⟨rfl, ?_⟩ | refine ⟨(by repeat' (first | exact True.intro | refine ⟨?_, ?_⟩) : ShN 60 _), ?_⟩ | refine ⟨(Nat.le_of_ble_eq_true rfl : (_ : Nat) ≤ big), ?_⟩ | refine ⟨(by repeat (first | exact True.intro | refine ⟨True.intro, ?_⟩) : NRL _), Nat.le_of_ble_eq_true rfl, ?_⟩ | refine ⟨(⟨by omega, by omega, by decide⟩ : (0 : Int) ≤ _ ∧ _ ≤ _ ∧ Int.natAbs _ < _), ?_⟩); (try conv => whnf); (repeat ((first | with_reducible refine ifB_f ?_ | with_reducible refine ifB_t ?_ | with_reducible refine ifB_nt ?_ | with_reducible refine ifB_nf ?_); (repeat first | refine ⟨_, rfl, ?_⟩ | refine ⟨MulOk.r ⟨by omega, by omega⟩, ?_⟩ | refine ⟨MulOk.l ⟨by omega, by omega⟩, ?_⟩ | refine ⟨DivOk.of (by omega) (by omega), ?_⟩ | refine ⟨(by omega : (0 : Int) < _), ?_⟩ | refine ⟨True.intro, ?_⟩ | refine ⟨rfl, ?_⟩ | refine ⟨(by repeat' (first | exact True.intro | refine ⟨?_, ?_⟩) : ShN 60 _), ?_⟩ | refine ⟨(Nat.le_of_ble_eq_true rfl : (_ : Nat) ≤ big), ?_⟩ | refine ⟨(by repeat (first | exact True.intro | refine ⟨True.intro, ?_⟩) : NRL _), Nat.le_of_ble_eq_true rfl, ?_⟩ | refine ⟨(⟨by omega, by omega, by decide⟩ : (0 : Int) ≤ _ ∧ _ ≤ _ ∧ Int.natAbs _ < _), ?_⟩); (try conv => whnf))))
  refine ⟨hp.pr, hp.lt, ?_⟩
  ((repeat first | refine ⟨_, rfl, ?_⟩ | refine ⟨MulOk.r ⟨by omega, by omega⟩, ?_⟩ | refine ⟨MulOk.l ⟨by omega, by omega⟩, ?_⟩ | refine ⟨DivOk.of (by omega) (by omega), ?_⟩ | refine ⟨(by omega : (0 : Int) < _), ?_⟩ | refine ⟨True.intro, ?_⟩ | refine ⟨rfl, ?_⟩ | refine ⟨(by repeat' (first | exact True.intro | refine ⟨?_, ?_⟩) : ShN 60 _), ?_⟩ | refine ⟨(Nat.le_of_ble_eq_true rfl : (_ : Nat) ≤ big), ?_⟩ | refine ⟨(by repeat (first | exact True.intro | refine ⟨True.intro, ?_⟩) : NRL _), Nat.le_of_ble_eq_true rfl, ?_⟩ | refine ⟨(⟨by omega, by omega, by decide⟩ : (0 : Int) ≤ _ ∧ _ ≤ _ ∧ Int.natAbs _ < _), ?_⟩); (try conv => whnf); (repeat ((first | with_reducible refine ifB_f ?_ | with_reducible refine ifB_t ?_ | with_reducible refine ifB_nt ?_ | with_reducible refine ifB_nf ?_); (repeat first | refine ⟨_, rfl, ?_⟩ | refine ⟨MulOk.r ⟨by omega, by omega⟩, ?_⟩ | refine ⟨MulOk.l ⟨by omega, by omega⟩, ?_⟩ | refine ⟨DivOk.of (by omega) (by omega), ?_⟩ | refine ⟨(by omega : (0 : Int) < _), ?_⟩ | refine ⟨True.intro, ?_⟩ | refine ⟨rfl, ?_⟩ | refine ⟨(by repeat' (first | exact True.intro | refine ⟨?_, ?_⟩) : ShN 60 _), ?_⟩ | refine ⟨(Nat.le_of_ble_eq_true rfl : (_ : Nat) ≤ big), ?_⟩ | refine ⟨(by repeat (first | exact True.intro | refine ⟨True.intro, ?_⟩) : NRL _), Nat.le_of_ble_eq_true rfl, ?_⟩ | refine ⟨(⟨by omega, by omega, by decide⟩ : (0 : Int) ≤ _ ∧ _ ≤ _ ∧ Int.natAbs _ < _), ?_⟩); (try conv => whnf))))
  refine ifB.of (fun h => ?_) (fun h => ?_)
  · have h' : (n : Int) < k := dec_t h
    rw [oig_lt (by omega)] at hQ
    exact .inl ⟨True.intro, hQ⟩
  · have h' : ¬ (n : Int) < k := dec_f h
    have hkn : k ≤ n := by omega
    ((repeat first | refine ⟨_, rfl, ?_⟩ | refine ⟨MulOk.r ⟨by omega, by omega⟩, ?_⟩ | refine ⟨MulOk.l ⟨by omega, by omega⟩, ?_⟩ | refine ⟨DivOk.of (by omega) (by omega), ?_⟩ | refine ⟨(by omega : (0 : Int) < _), ?_⟩ | refine ⟨True.intro, ?_⟩ | refine ⟨rfl, ?_⟩ | refine ⟨(by repeat' (first | exact True.intro | refine ⟨?_, ?_⟩) : ShN 60 _), ?_⟩ | refine ⟨(Nat.le_of_ble_eq_true rfl : (_ : Nat) ≤ big), ?_⟩ | refine ⟨(by repeat (first | exact True.intro | refine ⟨True.intro, ?_⟩) : NRL _), Nat.le_of_ble_eq_true rfl, ?_⟩ | refine ⟨(⟨by omega, by omega, by decide⟩ : (0 : Int) ≤ _ ∧ _ ≤ _ ∧ Int.natAbs _ < _), ?_⟩); (try conv => whnf); (repeat ((first | with_reducible refine ifB_f ?_ | with_reducible refine ifB_t ?_ | with_reducible refine ifB_nt ?_ | with_reducible refine ifB_nf ?_); (repeat first | refine ⟨_, rfl, ?_⟩ | refine ⟨MulOk.r ⟨by omega, by omega⟩, ?_⟩ | refine ⟨MulOk.l ⟨by omega, by omega⟩, ?_⟩ | refine ⟨DivOk.of (by omega) (by omega), ?_⟩ | refine ⟨(by omega : (0 : Int) < _), ?_⟩ | refine ⟨True.intro, ?_⟩ | refine ⟨rfl, ?_⟩ | refine ⟨(by repeat' (first | exact True.intro | refine ⟨?_, ?_⟩) : ShN 60 _), ?_⟩ | refine ⟨(Nat.le_of_ble_eq_true rfl : (_ : Nat) ≤ big), ?_⟩ | refine ⟨(by repeat (first | exact True.intro | refine ⟨True.intro, ?_⟩) : NRL _), Nat.le_of_ble_eq_true rfl, ?_⟩ | refine ⟨(⟨by omega, by omega, by decide⟩ : (0 : Int) ≤ _ ∧ _ ≤ _ ∧ Int.natAbs _ < _), ?_⟩); (try conv => whnf))))
    refine ⟨n, p, rfl, rfl, hn, hp, ?_⟩
    ((repeat first | refine ⟨_, rfl, ?_⟩ | refine ⟨MulOk.r ⟨by omega, by omega⟩, ?_⟩ | refine ⟨MulOk.l ⟨by omega, by omega⟩, ?_⟩ | refine ⟨DivOk.of (by omega) (by omega), ?_⟩ | refine ⟨(by omega : (0 : Int) < _), ?_⟩ | refine ⟨True.intro, ?_⟩ | refine ⟨rfl, ?_⟩ | refine ⟨(by repeat' (first | exact True.intro | refine ⟨?_, ?_⟩) : ShN 60 _), ?_⟩ | refine ⟨(Nat.le_of_ble_eq_true rfl : (_ : Nat) ≤ big), ?_⟩ | refine ⟨(by repeat (first | exact True.intro | refine ⟨True.intro, ?_⟩) : NRL _), Nat.le_of_ble_eq_true rfl, ?_⟩ | refine ⟨(⟨by omega, by omega, by decide⟩ : (0 : Int) ≤ _ ∧ _ ≤ _ ∧ Int.natAbs _ < _), ?_⟩); (try conv => whnf); (repeat ((first | with_reducible refine ifB_f ?_ | with_reducible refine ifB_t ?_ | with_reducible refine ifB_nt ?_ | with_reducible refine ifB_nf ?_); (repeat first | refine ⟨_, rfl, ?_⟩ | refine ⟨MulOk.r ⟨by omega, by omega⟩, ?_⟩ | refine ⟨MulOk.l ⟨by omega, by omega⟩, ?_⟩ | refine ⟨DivOk.of (by omega) (by omega), ?_⟩ | refine ⟨(by omega : (0 : Int) < _), ?_⟩ | refine ⟨True.intro, ?_⟩ | refine ⟨rfl, ?_⟩ | refine ⟨(by repeat' (first | exact True.intro | refine ⟨?_, ?_⟩) : ShN 60 _), ?_⟩ | refine ⟨(Nat.le_of_ble_eq_true rfl : (_ : Nat) ≤ big), ?_⟩ | refine ⟨(by repeat (first | exact True.intro | refine ⟨True.intro, ?_⟩) : NRL _), Nat.le_of_ble_eq_true rfl, ?_⟩ | refine ⟨(⟨by omega, by omega, by decide⟩ : (0 : Int) ≤ _ ∧ _ ≤ _ ∧ Int.natAbs _ < _), ?_⟩); (try conv => whnf))))
    refine ⟨k, p, rfl, rfl, hk, hp, ?_⟩
    ((repeat first | refine ⟨_, rfl, ?_⟩ | refine ⟨MulOk.r ⟨by omega, by omega⟩, ?_⟩ | refine ⟨MulOk.l ⟨by omega, by omega⟩, ?_⟩ | refine ⟨DivOk.of (by omega) (by omega), ?_⟩ | refine ⟨(by omega : (0 : Int) < _), ?_⟩ | refine ⟨True.intro, ?_⟩ | refine ⟨rfl, ?_⟩ | refine ⟨(by repeat' (first | exact True.intro | refine ⟨?_, ?_⟩) : ShN 60 _), ?_⟩ | refine ⟨(Nat.le_of_ble_eq_true rfl : (_ : Nat) ≤ big), ?_⟩ | refine ⟨(by repeat (first | exact True.intro | refine ⟨True.intro, ?_⟩) : NRL _), Nat.le_of_ble_eq_true rfl, ?_⟩ | refine ⟨(⟨by omega, by omega, by decide⟩ : (0 : Int) ≤ _ ∧ _ ≤ _ ∧ Int.natAbs _ < _), ?_⟩); (try conv => whnf); (repeat ((first | with_reducible refine ifB_f ?_ | with_reducible refine ifB_t ?_ | with_reducible refine ifB_nt ?_ | with_reducible refine ifB_nf ?_); (repeat first | refine ⟨_, rfl, ?_⟩ | refine ⟨MulOk.r ⟨by omega, by omega⟩, ?_⟩ | refine ⟨MulOk.l ⟨by omega, by omega⟩, ?_⟩ | refine ⟨DivOk.of (by omega) (by omega), ?_⟩ | refine ⟨(by omega : (0 : Int) < _), ?_⟩ | refine ⟨True.intro, ?_⟩ | refine ⟨rfl, ?_⟩ | refine ⟨(by repeat' (first | exact True.intro | refine ⟨?_, ?_⟩) : ShN 60 _), ?_⟩ | refine ⟨(Nat.le_of_ble_eq_true rfl : (_ : Nat) ≤ big), ?_⟩ | refine ⟨(by repeat (first | exact True.intro | refine ⟨True.intro, ?_⟩) : NRL _), Nat.le_of_ble_eq_true rfl, ?_⟩ | refine ⟨(⟨by omega, by omega, by decide⟩ : (0 : Int) ≤ _ ∧ _ ≤ _ ∧ Int.natAbs _ < _), ?_⟩); (try conv => whnf))))
    refine ⟨n - k, p, ?_, rfl, by omega, hp, ?_⟩
    · rw [Int.ofNat_sub hkn]
    · refine .inl ⟨True.intro, ?_⟩
      have e := val_ch hp.pr hkn
      have e2 : (leg p n : Int) - (leg p k : Int) - (leg p (n - k) : Int) = (val p (ch n k) : Nat) := by omega
      show Q (.int ((leg p n : Int) - (leg p k : Int) - (leg p (n - k) : Int))) []
      rw [e2]
      rw [oig_ge hkn] at hQ
      exact hQ
theorem rd_row_kind (ds : List D) (so : Sto) (Q : WK) (h : p_row_kind ds so Q) : w_row_kind (endK so.length Q) (startM 3 ds) so := by
  obtain ⟨n, p, rfl, rfl, hn, hp, hQ⟩ := h
  have h2 := hp.pr.1
  have h3 := hp.lt
  ((repeat first | refine ⟨_, rfl, ?_⟩ | refine ⟨MulOk.r ⟨by omega, by omega⟩, ?_⟩ | refine ⟨MulOk.l ⟨by omega, by omega⟩, ?_⟩ | refine ⟨DivOk.of (by omega) (by omega), ?_⟩ | refine ⟨(by omega : (0 : Int) < _), ?_⟩ | refine ⟨True.intro, ?_⟩ | refine ⟨rfl, ?_⟩ | refine ⟨(by repeat' (first | exact True.intro | refine ⟨?_, ?_⟩) : ShN 60 _), ?_⟩ | refine ⟨(Nat.le_of_ble_eq_true rfl : (_ : Nat) ≤ big), ?_⟩ | refine ⟨(by repeat (first | exact True.intro | refine ⟨True.intro, ?_⟩) : NRL _), Nat.le_of_ble_eq_true rfl, ?_⟩ | refine ⟨(⟨by omega, by omega, by decide⟩ : (0 : Int) ≤ _ ∧ _ ≤ _ ∧ Int.natAbs _ < _), ?_⟩); (try conv => whnf); (repeat ((first | with_reducible refine ifB_f ?_ | with_reducible refine ifB_t ?_ | with_reducible refine ifB_nt ?_ | with_reducible refine ifB_nf ?_); (repeat first | refine ⟨_, rfl, ?_⟩ | refine ⟨MulOk.r ⟨by omega, by omega⟩, ?_⟩ | refine ⟨MulOk.l ⟨by omega, by omega⟩, ?_⟩ | refine ⟨DivOk.of (by omega) (by omega), ?_⟩ | refine ⟨(by omega : (0 : Int) < _), ?_⟩ | refine ⟨True.intro, ?_⟩ | refine ⟨rfl, ?_⟩ | refine ⟨(by repeat' (first | exact True.intro | refine ⟨?_, ?_⟩) : ShN 60 _), ?_⟩ | refine ⟨(Nat.le_of_ble_eq_true rfl : (_ : Nat) ≤ big), ?_⟩ | refine ⟨(by repeat (first | exact True.intro | refine ⟨True.intro, ?_⟩) : NRL _), Nat.le_of_ble_eq_true rfl, ?_⟩ | refine ⟨(⟨by omega, by omega, by decide⟩ : (0 : Int) ≤ _ ∧ _ ≤ _ ∧ Int.natAbs _ < _), ?_⟩); (try conv => whnf))))
  refine ⟨n, 0, rfl, rfl, hn, by omega, ?_⟩
  ((repeat first | refine ⟨_, rfl, ?_⟩ | refine ⟨MulOk.r ⟨by omega, by omega⟩, ?_⟩ | refine ⟨MulOk.l ⟨by omega, by omega⟩, ?_⟩ | refine ⟨DivOk.of (by omega) (by omega), ?_⟩ | refine ⟨(by omega : (0 : Int) < _), ?_⟩ | refine ⟨True.intro, ?_⟩ | refine ⟨rfl, ?_⟩ | refine ⟨(by repeat' (first | exact True.intro | refine ⟨?_, ?_⟩) : ShN 60 _), ?_⟩ | refine ⟨(Nat.le_of_ble_eq_true rfl : (_ : Nat) ≤ big), ?_⟩ | refine ⟨(by repeat (first | exact True.intro | refine ⟨True.intro, ?_⟩) : NRL _), Nat.le_of_ble_eq_true rfl, ?_⟩ | refine ⟨(⟨by omega, by omega, by decide⟩ : (0 : Int) ≤ _ ∧ _ ≤ _ ∧ Int.natAbs _ < _), ?_⟩); (try conv => whnf); (repeat ((first | with_reducible refine ifB_f ?_ | with_reducible refine ifB_t ?_ | with_reducible refine ifB_nt ?_ | with_reducible refine ifB_nf ?_); (repeat first | refine ⟨_, rfl, ?_⟩ | refine ⟨MulOk.r ⟨by omega, by omega⟩, ?_⟩ | refine ⟨MulOk.l ⟨by omega, by omega⟩, ?_⟩ | refine ⟨DivOk.of (by omega) (by omega), ?_⟩ | refine ⟨(by omega : (0 : Int) < _), ?_⟩ | refine ⟨True.intro, ?_⟩ | refine ⟨rfl, ?_⟩ | refine ⟨(by repeat' (first | exact True.intro | refine ⟨?_, ?_⟩) : ShN 60 _), ?_⟩ | refine ⟨(Nat.le_of_ble_eq_true rfl : (_ : Nat) ≤ big), ?_⟩ | refine ⟨(by repeat (first | exact True.intro | refine ⟨True.intro, ?_⟩) : NRL _), Nat.le_of_ble_eq_true rfl, ?_⟩ | refine ⟨(⟨by omega, by omega, by decide⟩ : (0 : Int) ≤ _ ∧ _ ≤ _ ∧ Int.natAbs _ < _), ?_⟩); (try conv => whnf))))
  refine ⟨hp.pr, hp.lt, ?_⟩
  ((repeat first | refine ⟨_, rfl, ?_⟩ | refine ⟨MulOk.r ⟨by omega, by omega⟩, ?_⟩ | refine ⟨MulOk.l ⟨by omega, by omega⟩, ?_⟩ | refine ⟨DivOk.of (by omega) (by omega), ?_⟩ | refine ⟨(by omega : (0 : Int) < _), ?_⟩ | refine ⟨True.intro, ?_⟩ | refine ⟨rfl, ?_⟩ | refine ⟨(by repeat' (first | exact True.intro | refine ⟨?_, ?_⟩) : ShN 60 _), ?_⟩ | refine ⟨(Nat.le_of_ble_eq_true rfl : (_ : Nat) ≤ big), ?_⟩ | refine ⟨(by repeat (first | exact True.intro | refine ⟨True.intro, ?_⟩) : NRL _), Nat.le_of_ble_eq_true rfl, ?_⟩ | refine ⟨(⟨by omega, by omega, by decide⟩ : (0 : Int) ≤ _ ∧ _ ≤ _ ∧ Int.natAbs _ < _), ?_⟩); (try conv => whnf); (repeat ((first | with_reducible refine ifB_f ?_ | with_reducible refine ifB_t ?_ | with_reducible refine ifB_nt ?_ | with_reducible refine ifB_nf ?_); (repeat first | refine ⟨_, rfl, ?_⟩ | refine ⟨MulOk.r ⟨by omega, by omega⟩, ?_⟩ | refine ⟨MulOk.l ⟨by omega, by omega⟩, ?_⟩ | refine ⟨DivOk.of (by omega) (by omega), ?_⟩ | refine ⟨(by omega : (0 : Int) < _), ?_⟩ | refine ⟨True.intro, ?_⟩ | refine ⟨rfl, ?_⟩ | refine ⟨(by repeat' (first | exact True.intro | refine ⟨?_, ?_⟩) : ShN 60 _), ?_⟩ | refine ⟨(Nat.le_of_ble_eq_true rfl : (_ : Nat) ≤ big), ?_⟩ | refine ⟨(by repeat (first | exact True.intro | refine ⟨True.intro, ?_⟩) : NRL _), Nat.le_of_ble_eq_true rfl, ?_⟩ | refine ⟨(⟨by omega, by omega, by decide⟩ : (0 : Int) ≤ _ ∧ _ ≤ _ ∧ Int.natAbs _ < _), ?_⟩); (try conv => whnf))))
  refine while_inv (fun m env st => ∃ a f : Nat, env = [some (.int a), some (.int p), some (.int f)] ∧ st = [] ∧ f * rk p a = rk p n ∧ m = a) n ⟨n, 1, rfl, rfl, Nat.one_mul _, rfl⟩ ?_
  rintro m env st ⟨a, f, rfl, rfl, he, rfl⟩ N hN
  ((repeat first | refine ⟨_, rfl, ?_⟩ | refine ⟨MulOk.r ⟨by omega, by omega⟩, ?_⟩ | refine ⟨MulOk.l ⟨by omega, by omega⟩, ?_⟩ | refine ⟨DivOk.of (by omega) (by omega), ?_⟩ | refine ⟨(by omega : (0 : Int) < _), ?_⟩ | refine ⟨True.intro, ?_⟩ | refine ⟨rfl, ?_⟩ | refine ⟨(by repeat' (first | exact True.intro | refine ⟨?_, ?_⟩) : ShN 60 _), ?_⟩ | refine ⟨(Nat.le_of_ble_eq_true rfl : (_ : Nat) ≤ big), ?_⟩ | refine ⟨(by repeat (first | exact True.intro | refine ⟨True.intro, ?_⟩) : NRL _), Nat.le_of_ble_eq_true rfl, ?_⟩ | refine ⟨(⟨by omega, by omega, by decide⟩ : (0 : Int) ≤ _ ∧ _ ≤ _ ∧ Int.natAbs _ < _), ?_⟩); (try conv => whnf); (repeat ((first | with_reducible refine ifB_f ?_ | with_reducible refine ifB_t ?_ | with_reducible refine ifB_nt ?_ | with_reducible refine ifB_nf ?_); (repeat first | refine ⟨_, rfl, ?_⟩ | refine ⟨MulOk.r ⟨by omega, by omega⟩, ?_⟩ | refine ⟨MulOk.l ⟨by omega, by omega⟩, ?_⟩ | refine ⟨DivOk.of (by omega) (by omega), ?_⟩ | refine ⟨(by omega : (0 : Int) < _), ?_⟩ | refine ⟨True.intro, ?_⟩ | refine ⟨rfl, ?_⟩ | refine ⟨(by repeat' (first | exact True.intro | refine ⟨?_, ?_⟩) : ShN 60 _), ?_⟩ | refine ⟨(Nat.le_of_ble_eq_true rfl : (_ : Nat) ≤ big), ?_⟩ | refine ⟨(by repeat (first | exact True.intro | refine ⟨True.intro, ?_⟩) : NRL _), Nat.le_of_ble_eq_true rfl, ?_⟩ | refine ⟨(⟨by omega, by omega, by decide⟩ : (0 : Int) ≤ _ ∧ _ ≤ _ ∧ Int.natAbs _ < _), ?_⟩); (try conv => whnf))))
  refine ifB.of (fun h => ?_) (fun h => ?_)
  · have ha : (0 : Int) < m := dec_t h
    have hm : m % p < p := Nat.mod_lt _ (by omega)
    ((repeat first | refine ⟨_, rfl, ?_⟩ | refine ⟨MulOk.r ⟨by omega, by omega⟩, ?_⟩ | refine ⟨MulOk.l ⟨by omega, by omega⟩, ?_⟩ | refine ⟨DivOk.of (by omega) (by omega), ?_⟩ | refine ⟨(by omega : (0 : Int) < _), ?_⟩ | refine ⟨True.intro, ?_⟩ | refine ⟨rfl, ?_⟩ | refine ⟨(by repeat' (first | exact True.intro | refine ⟨?_, ?_⟩) : ShN 60 _), ?_⟩ | refine ⟨(Nat.le_of_ble_eq_true rfl : (_ : Nat) ≤ big), ?_⟩ | refine ⟨(by repeat (first | exact True.intro | refine ⟨True.intro, ?_⟩) : NRL _), Nat.le_of_ble_eq_true rfl, ?_⟩ | refine ⟨(⟨by omega, by omega, by decide⟩ : (0 : Int) ≤ _ ∧ _ ≤ _ ∧ Int.natAbs _ < _), ?_⟩); (try conv => whnf); (repeat ((first | with_reducible refine ifB_f ?_ | with_reducible refine ifB_t ?_ | with_reducible refine ifB_nt ?_ | with_reducible refine ifB_nf ?_); (repeat first | refine ⟨_, rfl, ?_⟩ | refine ⟨MulOk.r ⟨by omega, by omega⟩, ?_⟩ | refine ⟨MulOk.l ⟨by omega, by omega⟩, ?_⟩ | refine ⟨DivOk.of (by omega) (by omega), ?_⟩ | refine ⟨(by omega : (0 : Int) < _), ?_⟩ | refine ⟨True.intro, ?_⟩ | refine ⟨rfl, ?_⟩ | refine ⟨(by repeat' (first | exact True.intro | refine ⟨?_, ?_⟩) : ShN 60 _), ?_⟩ | refine ⟨(Nat.le_of_ble_eq_true rfl : (_ : Nat) ≤ big), ?_⟩ | refine ⟨(by repeat (first | exact True.intro | refine ⟨True.intro, ?_⟩) : NRL _), Nat.le_of_ble_eq_true rfl, ?_⟩ | refine ⟨(⟨by omega, by omega, by decide⟩ : (0 : Int) ≤ _ ∧ _ ≤ _ ∧ Int.natAbs _ < _), ?_⟩); (try conv => whnf))))
    refine hN (m / p) (Nat.div_lt_self (by omega) h2) _ _ ⟨m / p, f * (m % p + 1), rfl, rfl, ?_, rfl⟩
    rw [← he, rk_y (n := m) h2 (by omega), Nat.mul_assoc]
  · have ha : ¬ (0 : Int) < m := dec_f h
    have ea : m = 0 := by omega
    subst ea
    rw [rk_0, Nat.mul_one] at he
    ((repeat first | refine ⟨_, rfl, ?_⟩ | refine ⟨MulOk.r ⟨by omega, by omega⟩, ?_⟩ | refine ⟨MulOk.l ⟨by omega, by omega⟩, ?_⟩ | refine ⟨DivOk.of (by omega) (by omega), ?_⟩ | refine ⟨(by omega : (0 : Int) < _), ?_⟩ | refine ⟨True.intro, ?_⟩ | refine ⟨rfl, ?_⟩ | refine ⟨(by repeat' (first | exact True.intro | refine ⟨?_, ?_⟩) : ShN 60 _), ?_⟩ | refine ⟨(Nat.le_of_ble_eq_true rfl : (_ : Nat) ≤ big), ?_⟩ | refine ⟨(by repeat (first | exact True.intro | refine ⟨True.intro, ?_⟩) : NRL _), Nat.le_of_ble_eq_true rfl, ?_⟩ | refine ⟨(⟨by omega, by omega, by decide⟩ : (0 : Int) ≤ _ ∧ _ ≤ _ ∧ Int.natAbs _ < _), ?_⟩); (try conv => whnf); (repeat ((first | with_reducible refine ifB_f ?_ | with_reducible refine ifB_t ?_ | with_reducible refine ifB_nt ?_ | with_reducible refine ifB_nf ?_); (repeat first | refine ⟨_, rfl, ?_⟩ | refine ⟨MulOk.r ⟨by omega, by omega⟩, ?_⟩ | refine ⟨MulOk.l ⟨by omega, by omega⟩, ?_⟩ | refine ⟨DivOk.of (by omega) (by omega), ?_⟩ | refine ⟨(by omega : (0 : Int) < _), ?_⟩ | refine ⟨True.intro, ?_⟩ | refine ⟨rfl, ?_⟩ | refine ⟨(by repeat' (first | exact True.intro | refine ⟨?_, ?_⟩) : ShN 60 _), ?_⟩ | refine ⟨(Nat.le_of_ble_eq_true rfl : (_ : Nat) ≤ big), ?_⟩ | refine ⟨(by repeat (first | exact True.intro | refine ⟨True.intro, ?_⟩) : NRL _), Nat.le_of_ble_eq_true rfl, ?_⟩ | refine ⟨(⟨by omega, by omega, by decide⟩ : (0 : Int) ≤ _ ∧ _ ≤ _ ∧ Int.natAbs _ < _), ?_⟩); (try conv => whnf))))
    refine .inl ⟨True.intro, ?_⟩
    rw [he]
    exact hQ
theorem rd__law_figures (ds : List D) (so : Sto) (Q : WK) (h : p__law_figures ds so Q) : w__law_figures (endK so.length Q) (startM 3 ds) so := by
  obtain ⟨n, p, rfl, rfl, hn, h2, h3, hQ⟩ := h
  ((repeat first | refine ⟨_, rfl, ?_⟩ | refine ⟨MulOk.r ⟨by omega, by omega⟩, ?_⟩ | refine ⟨MulOk.l ⟨by omega, by omega⟩, ?_⟩ | refine ⟨DivOk.of (by omega) (by omega), ?_⟩ | refine ⟨(by omega : (0 : Int) < _), ?_⟩ | refine ⟨True.intro, ?_⟩ | refine ⟨rfl, ?_⟩ | refine ⟨(by repeat' (first | exact True.intro | refine ⟨?_, ?_⟩) : ShN 60 _), ?_⟩ | refine ⟨(Nat.le_of_ble_eq_true rfl : (_ : Nat) ≤ big), ?_⟩ | refine ⟨(by repeat (first | exact True.intro | refine ⟨True.intro, ?_⟩) : NRL _), Nat.le_of_ble_eq_true rfl, ?_⟩ | refine ⟨(⟨by omega, by omega, by decide⟩ : (0 : Int) ≤ _ ∧ _ ≤ _ ∧ Int.natAbs _ < _), ?_⟩); (try conv => whnf); (repeat ((first | with_reducible refine ifB_f ?_ | with_reducible refine ifB_t ?_ | with_reducible refine ifB_nt ?_ | with_reducible refine ifB_nf ?_); (repeat first | refine ⟨_, rfl, ?_⟩ | refine ⟨MulOk.r ⟨by omega, by omega⟩, ?_⟩ | refine ⟨MulOk.l ⟨by omega, by omega⟩, ?_⟩ | refine ⟨DivOk.of (by omega) (by omega), ?_⟩ | refine ⟨(by omega : (0 : Int) < _), ?_⟩ | refine ⟨True.intro, ?_⟩ | refine ⟨rfl, ?_⟩ | refine ⟨(by repeat' (first | exact True.intro | refine ⟨?_, ?_⟩) : ShN 60 _), ?_⟩ | refine ⟨(Nat.le_of_ble_eq_true rfl : (_ : Nat) ≤ big), ?_⟩ | refine ⟨(by repeat (first | exact True.intro | refine ⟨True.intro, ?_⟩) : NRL _), Nat.le_of_ble_eq_true rfl, ?_⟩ | refine ⟨(⟨by omega, by omega, by decide⟩ : (0 : Int) ≤ _ ∧ _ ≤ _ ∧ Int.natAbs _ < _), ?_⟩); (try conv => whnf))))
  refine while_inv (fun m env st => ∃ (a : Nat) (xs : List Nat), env = [some (.int a), some (.int p), some (.ref 0)] ∧ st = [some (.lst (xs.map fun x => .int (x : Nat)))] ∧ xs ++ digs p a = digs p n ∧ 2 ^ xs.length * a ≤ n ∧ m = a) n ⟨n, [], rfl, rfl, rfl, by simp, rfl⟩ ?_
  rintro m env st ⟨a, xs, rfl, rfl, he, hl, rfl⟩ N hN
  ((repeat first | refine ⟨_, rfl, ?_⟩ | refine ⟨MulOk.r ⟨by omega, by omega⟩, ?_⟩ | refine ⟨MulOk.l ⟨by omega, by omega⟩, ?_⟩ | refine ⟨DivOk.of (by omega) (by omega), ?_⟩ | refine ⟨(by omega : (0 : Int) < _), ?_⟩ | refine ⟨True.intro, ?_⟩ | refine ⟨rfl, ?_⟩ | refine ⟨(by repeat' (first | exact True.intro | refine ⟨?_, ?_⟩) : ShN 60 _), ?_⟩ | refine ⟨(Nat.le_of_ble_eq_true rfl : (_ : Nat) ≤ big), ?_⟩ | refine ⟨(by repeat (first | exact True.intro | refine ⟨True.intro, ?_⟩) : NRL _), Nat.le_of_ble_eq_true rfl, ?_⟩ | refine ⟨(⟨by omega, by omega, by decide⟩ : (0 : Int) ≤ _ ∧ _ ≤ _ ∧ Int.natAbs _ < _), ?_⟩); (try conv => whnf); (repeat ((first | with_reducible refine ifB_f ?_ | with_reducible refine ifB_t ?_ | with_reducible refine ifB_nt ?_ | with_reducible refine ifB_nf ?_); (repeat first | refine ⟨_, rfl, ?_⟩ | refine ⟨MulOk.r ⟨by omega, by omega⟩, ?_⟩ | refine ⟨MulOk.l ⟨by omega, by omega⟩, ?_⟩ | refine ⟨DivOk.of (by omega) (by omega), ?_⟩ | refine ⟨(by omega : (0 : Int) < _), ?_⟩ | refine ⟨True.intro, ?_⟩ | refine ⟨rfl, ?_⟩ | refine ⟨(by repeat' (first | exact True.intro | refine ⟨?_, ?_⟩) : ShN 60 _), ?_⟩ | refine ⟨(Nat.le_of_ble_eq_true rfl : (_ : Nat) ≤ big), ?_⟩ | refine ⟨(by repeat (first | exact True.intro | refine ⟨True.intro, ?_⟩) : NRL _), Nat.le_of_ble_eq_true rfl, ?_⟩ | refine ⟨(⟨by omega, by omega, by decide⟩ : (0 : Int) ≤ _ ∧ _ ≤ _ ∧ Int.natAbs _ < _), ?_⟩); (try conv => whnf))))
  refine ifB.of (fun h => ?_) (fun h => ?_)
  · have ha : (0 : Int) < m := dec_t h
    have hd := Nat.div_lt_self (show 0 < m by omega) h2
    have hlen : xs.length < 40 := by
      apply Nat.lt_of_not_le
      intro z
      have z1 : 2 ^ 40 ≤ 2 ^ xs.length := Nat.pow_le_pow_right (by omega) z
      have z2 : 2 ^ xs.length * 1 ≤ 2 ^ xs.length * m := Nat.mul_le_mul_left _ (by omega)
      omega
    ((repeat first | refine ⟨_, rfl, ?_⟩ | refine ⟨MulOk.r ⟨by omega, by omega⟩, ?_⟩ | refine ⟨MulOk.l ⟨by omega, by omega⟩, ?_⟩ | refine ⟨DivOk.of (by omega) (by omega), ?_⟩ | refine ⟨(by omega : (0 : Int) < _), ?_⟩ | refine ⟨True.intro, ?_⟩ | refine ⟨rfl, ?_⟩ | refine ⟨(by repeat' (first | exact True.intro | refine ⟨?_, ?_⟩) : ShN 60 _), ?_⟩ | refine ⟨(Nat.le_of_ble_eq_true rfl : (_ : Nat) ≤ big), ?_⟩ | refine ⟨(by repeat (first | exact True.intro | refine ⟨True.intro, ?_⟩) : NRL _), Nat.le_of_ble_eq_true rfl, ?_⟩ | refine ⟨(⟨by omega, by omega, by decide⟩ : (0 : Int) ≤ _ ∧ _ ≤ _ ∧ Int.natAbs _ < _), ?_⟩); (try conv => whnf); (repeat ((first | with_reducible refine ifB_f ?_ | with_reducible refine ifB_t ?_ | with_reducible refine ifB_nt ?_ | with_reducible refine ifB_nf ?_); (repeat first | refine ⟨_, rfl, ?_⟩ | refine ⟨MulOk.r ⟨by omega, by omega⟩, ?_⟩ | refine ⟨MulOk.l ⟨by omega, by omega⟩, ?_⟩ | refine ⟨DivOk.of (by omega) (by omega), ?_⟩ | refine ⟨(by omega : (0 : Int) < _), ?_⟩ | refine ⟨True.intro, ?_⟩ | refine ⟨rfl, ?_⟩ | refine ⟨(by repeat' (first | exact True.intro | refine ⟨?_, ?_⟩) : ShN 60 _), ?_⟩ | refine ⟨(Nat.le_of_ble_eq_true rfl : (_ : Nat) ≤ big), ?_⟩ | refine ⟨(by repeat (first | exact True.intro | refine ⟨True.intro, ?_⟩) : NRL _), Nat.le_of_ble_eq_true rfl, ?_⟩ | refine ⟨(⟨by omega, by omega, by decide⟩ : (0 : Int) ≤ _ ∧ _ ≤ _ ∧ Int.natAbs _ < _), ?_⟩); (try conv => whnf))))
    refine ⟨⟨?_, True.intro⟩, ?_⟩
    · rw [List.length_map]
      show _ < 16777216
      omega
    · ((repeat first | refine ⟨_, rfl, ?_⟩ | refine ⟨MulOk.r ⟨by omega, by omega⟩, ?_⟩ | refine ⟨MulOk.l ⟨by omega, by omega⟩, ?_⟩ | refine ⟨DivOk.of (by omega) (by omega), ?_⟩ | refine ⟨(by omega : (0 : Int) < _), ?_⟩ | refine ⟨True.intro, ?_⟩ | refine ⟨rfl, ?_⟩ | refine ⟨(by repeat' (first | exact True.intro | refine ⟨?_, ?_⟩) : ShN 60 _), ?_⟩ | refine ⟨(Nat.le_of_ble_eq_true rfl : (_ : Nat) ≤ big), ?_⟩ | refine ⟨(by repeat (first | exact True.intro | refine ⟨True.intro, ?_⟩) : NRL _), Nat.le_of_ble_eq_true rfl, ?_⟩ | refine ⟨(⟨by omega, by omega, by decide⟩ : (0 : Int) ≤ _ ∧ _ ≤ _ ∧ Int.natAbs _ < _), ?_⟩); (try conv => whnf); (repeat ((first | with_reducible refine ifB_f ?_ | with_reducible refine ifB_t ?_ | with_reducible refine ifB_nt ?_ | with_reducible refine ifB_nf ?_); (repeat first | refine ⟨_, rfl, ?_⟩ | refine ⟨MulOk.r ⟨by omega, by omega⟩, ?_⟩ | refine ⟨MulOk.l ⟨by omega, by omega⟩, ?_⟩ | refine ⟨DivOk.of (by omega) (by omega), ?_⟩ | refine ⟨(by omega : (0 : Int) < _), ?_⟩ | refine ⟨True.intro, ?_⟩ | refine ⟨rfl, ?_⟩ | refine ⟨(by repeat' (first | exact True.intro | refine ⟨?_, ?_⟩) : ShN 60 _), ?_⟩ | refine ⟨(Nat.le_of_ble_eq_true rfl : (_ : Nat) ≤ big), ?_⟩ | refine ⟨(by repeat (first | exact True.intro | refine ⟨True.intro, ?_⟩) : NRL _), Nat.le_of_ble_eq_true rfl, ?_⟩ | refine ⟨(⟨by omega, by omega, by decide⟩ : (0 : Int) ≤ _ ∧ _ ≤ _ ∧ Int.natAbs _ < _), ?_⟩); (try conv => whnf))))
      refine hN (m / p) (Nat.div_lt_self (by omega) h2) _ _ ⟨m / p, xs ++ [m % p], rfl, ?_, ?_, ?_, rfl⟩
      · rw [List.map_append]
        rfl
      · rw [← he, digs_y (n := m) h2 (by omega)]
        simp
      · rw [List.length_append, List.length_singleton, Nat.pow_succ, Nat.mul_assoc]
        refine Nat.le_trans (Nat.mul_le_mul_left _ ?_) hl
        have : 2 * (m / p) ≤ p * (m / p) := Nat.mul_le_mul_right _ h2
        have := Nat.mul_div_le m p
        omega
  · have ha : ¬ (0 : Int) < m := dec_f h
    have ea : m = 0 := by omega
    subst ea
    rw [digs_0, List.append_nil] at he
    subst he
    ((repeat first | refine ⟨_, rfl, ?_⟩ | refine ⟨MulOk.r ⟨by omega, by omega⟩, ?_⟩ | refine ⟨MulOk.l ⟨by omega, by omega⟩, ?_⟩ | refine ⟨DivOk.of (by omega) (by omega), ?_⟩ | refine ⟨(by omega : (0 : Int) < _), ?_⟩ | refine ⟨True.intro, ?_⟩ | refine ⟨rfl, ?_⟩ | refine ⟨(by repeat' (first | exact True.intro | refine ⟨?_, ?_⟩) : ShN 60 _), ?_⟩ | refine ⟨(Nat.le_of_ble_eq_true rfl : (_ : Nat) ≤ big), ?_⟩ | refine ⟨(by repeat (first | exact True.intro | refine ⟨True.intro, ?_⟩) : NRL _), Nat.le_of_ble_eq_true rfl, ?_⟩ | refine ⟨(⟨by omega, by omega, by decide⟩ : (0 : Int) ≤ _ ∧ _ ≤ _ ∧ Int.natAbs _ < _), ?_⟩); (try conv => whnf); (repeat ((first | with_reducible refine ifB_f ?_ | with_reducible refine ifB_t ?_ | with_reducible refine ifB_nt ?_ | with_reducible refine ifB_nf ?_); (repeat first | refine ⟨_, rfl, ?_⟩ | refine ⟨MulOk.r ⟨by omega, by omega⟩, ?_⟩ | refine ⟨MulOk.l ⟨by omega, by omega⟩, ?_⟩ | refine ⟨DivOk.of (by omega) (by omega), ?_⟩ | refine ⟨(by omega : (0 : Int) < _), ?_⟩ | refine ⟨True.intro, ?_⟩ | refine ⟨rfl, ?_⟩ | refine ⟨(by repeat' (first | exact True.intro | refine ⟨?_, ?_⟩) : ShN 60 _), ?_⟩ | refine ⟨(Nat.le_of_ble_eq_true rfl : (_ : Nat) ≤ big), ?_⟩ | refine ⟨(by repeat (first | exact True.intro | refine ⟨True.intro, ?_⟩) : NRL _), Nat.le_of_ble_eq_true rfl, ?_⟩ | refine ⟨(⟨by omega, by omega, by decide⟩ : (0 : Int) ≤ _ ∧ _ ≤ _ ∧ Int.natAbs _ < _), ?_⟩); (try conv => whnf))))
    exact .inl ⟨True.intro, hQ⟩

theorem mm1 {a b p : Nat} : (a % p * b) % p = (a * b) % p := by rw [Nat.mul_mod, Nat.mod_mod, ← Nat.mul_mod]
theorem mm2 {a b p : Nat} : (a * (b % p)) % p = (a * b) % p := by rw [Nat.mul_mod, Nat.mod_mod, ← Nat.mul_mod]
theorem mm3 {a b c p : Nat} : (a * (b % p * c)) % p = (a * (b * c)) % p := by rw [← mm2, mm1, mm2]
theorem tab_get {f : Nat → D} {m k : Nat} (h : k < m) : ((List.range m).map f)[k]? = some (f k) := by
  rw [List.getElem?_map, List.getElem?_range h]
  rfl
theorem tab_last {f : Nat → D} {k : Nat} : atI ((List.range (k + 1)).map f) (-1) = some (f k) := by
  rw [List.range_succ, List.map_append]
  exact atI_last
theorem rd_product_left (ds : List D) (so : Sto) (Q : WK) (h : p_product_left ds so Q) : w_product_left (endK so.length Q) (startM 7 ds) so := by
  obtain ⟨n, p, rfl, rfl, hn, hp, hQ⟩ := h
  have h2 := hp.pr.1
  have h3 := hp.lt
  ((repeat first | refine ⟨_, rfl, ?_⟩ | refine ⟨MulOk.r ⟨by omega, by omega⟩, ?_⟩ | refine ⟨MulOk.l ⟨by omega, by omega⟩, ?_⟩ | refine ⟨DivOk.of (by omega) (by omega), ?_⟩ | refine ⟨(by omega : (0 : Int) < _), ?_⟩ | refine ⟨True.intro, ?_⟩ | refine ⟨rfl, ?_⟩ | refine ⟨(by repeat' (first | exact True.intro | refine ⟨?_, ?_⟩) : ShN 60 _), ?_⟩ | refine ⟨(Nat.le_of_ble_eq_true rfl : (_ : Nat) ≤ big), ?_⟩ | refine ⟨(by repeat (first | exact True.intro | refine ⟨True.intro, ?_⟩) : NRL _), Nat.le_of_ble_eq_true rfl, ?_⟩ | refine ⟨(⟨by omega, by omega, by decide⟩ : (0 : Int) ≤ _ ∧ _ ≤ _ ∧ Int.natAbs _ < _), ?_⟩); (try conv => whnf); (repeat ((first | with_reducible refine ifB_f ?_ | with_reducible refine ifB_t ?_ | with_reducible refine ifB_nt ?_ | with_reducible refine ifB_nf ?_); (repeat first | refine ⟨_, rfl, ?_⟩ | refine ⟨MulOk.r ⟨by omega, by omega⟩, ?_⟩ | refine ⟨MulOk.l ⟨by omega, by omega⟩, ?_⟩ | refine ⟨DivOk.of (by omega) (by omega), ?_⟩ | refine ⟨(by omega : (0 : Int) < _), ?_⟩ | refine ⟨True.intro, ?_⟩ | refine ⟨rfl, ?_⟩ | refine ⟨(by repeat' (first | exact True.intro | refine ⟨?_, ?_⟩) : ShN 60 _), ?_⟩ | refine ⟨(Nat.le_of_ble_eq_true rfl : (_ : Nat) ≤ big), ?_⟩ | refine ⟨(by repeat (first | exact True.intro | refine ⟨True.intro, ?_⟩) : NRL _), Nat.le_of_ble_eq_true rfl, ?_⟩ | refine ⟨(⟨by omega, by omega, by decide⟩ : (0 : Int) ≤ _ ∧ _ ≤ _ ∧ Int.natAbs _ < _), ?_⟩); (try conv => whnf))))
  refine ⟨n, 0, rfl, rfl, hn, by omega, ?_⟩
  ((repeat first | refine ⟨_, rfl, ?_⟩ | refine ⟨MulOk.r ⟨by omega, by omega⟩, ?_⟩ | refine ⟨MulOk.l ⟨by omega, by omega⟩, ?_⟩ | refine ⟨DivOk.of (by omega) (by omega), ?_⟩ | refine ⟨(by omega : (0 : Int) < _), ?_⟩ | refine ⟨True.intro, ?_⟩ | refine ⟨rfl, ?_⟩ | refine ⟨(by repeat' (first | exact True.intro | refine ⟨?_, ?_⟩) : ShN 60 _), ?_⟩ | refine ⟨(Nat.le_of_ble_eq_true rfl : (_ : Nat) ≤ big), ?_⟩ | refine ⟨(by repeat (first | exact True.intro | refine ⟨True.intro, ?_⟩) : NRL _), Nat.le_of_ble_eq_true rfl, ?_⟩ | refine ⟨(⟨by omega, by omega, by decide⟩ : (0 : Int) ≤ _ ∧ _ ≤ _ ∧ Int.natAbs _ < _), ?_⟩); (try conv => whnf); (repeat ((first | with_reducible refine ifB_f ?_ | with_reducible refine ifB_t ?_ | with_reducible refine ifB_nt ?_ | with_reducible refine ifB_nf ?_); (repeat first | refine ⟨_, rfl, ?_⟩ | refine ⟨MulOk.r ⟨by omega, by omega⟩, ?_⟩ | refine ⟨MulOk.l ⟨by omega, by omega⟩, ?_⟩ | refine ⟨DivOk.of (by omega) (by omega), ?_⟩ | refine ⟨(by omega : (0 : Int) < _), ?_⟩ | refine ⟨True.intro, ?_⟩ | refine ⟨rfl, ?_⟩ | refine ⟨(by repeat' (first | exact True.intro | refine ⟨?_, ?_⟩) : ShN 60 _), ?_⟩ | refine ⟨(Nat.le_of_ble_eq_true rfl : (_ : Nat) ≤ big), ?_⟩ | refine ⟨(by repeat (first | exact True.intro | refine ⟨True.intro, ?_⟩) : NRL _), Nat.le_of_ble_eq_true rfl, ?_⟩ | refine ⟨(⟨by omega, by omega, by decide⟩ : (0 : Int) ≤ _ ∧ _ ≤ _ ∧ Int.natAbs _ < _), ?_⟩); (try conv => whnf))))
  refine ⟨hp.pr, hp.lt, ?_⟩
  ((repeat first | refine ⟨_, rfl, ?_⟩ | refine ⟨MulOk.r ⟨by omega, by omega⟩, ?_⟩ | refine ⟨MulOk.l ⟨by omega, by omega⟩, ?_⟩ | refine ⟨DivOk.of (by omega) (by omega), ?_⟩ | refine ⟨(by omega : (0 : Int) < _), ?_⟩ | refine ⟨True.intro, ?_⟩ | refine ⟨rfl, ?_⟩ | refine ⟨(by repeat' (first | exact True.intro | refine ⟨?_, ?_⟩) : ShN 60 _), ?_⟩ | refine ⟨(Nat.le_of_ble_eq_true rfl : (_ : Nat) ≤ big), ?_⟩ | refine ⟨(by repeat (first | exact True.intro | refine ⟨True.intro, ?_⟩) : NRL _), Nat.le_of_ble_eq_true rfl, ?_⟩ | refine ⟨(⟨by omega, by omega, by decide⟩ : (0 : Int) ≤ _ ∧ _ ≤ _ ∧ Int.natAbs _ < _), ?_⟩); (try conv => whnf); (repeat ((first | with_reducible refine ifB_f ?_ | with_reducible refine ifB_t ?_ | with_reducible refine ifB_nt ?_ | with_reducible refine ifB_nf ?_); (repeat first | refine ⟨_, rfl, ?_⟩ | refine ⟨MulOk.r ⟨by omega, by omega⟩, ?_⟩ | refine ⟨MulOk.l ⟨by omega, by omega⟩, ?_⟩ | refine ⟨DivOk.of (by omega) (by omega), ?_⟩ | refine ⟨(by omega : (0 : Int) < _), ?_⟩ | refine ⟨True.intro, ?_⟩ | refine ⟨rfl, ?_⟩ | refine ⟨(by repeat' (first | exact True.intro | refine ⟨?_, ?_⟩) : ShN 60 _), ?_⟩ | refine ⟨(Nat.le_of_ble_eq_true rfl : (_ : Nat) ≤ big), ?_⟩ | refine ⟨(by repeat (first | exact True.intro | refine ⟨True.intro, ?_⟩) : NRL _), Nat.le_of_ble_eq_true rfl, ?_⟩ | refine ⟨(⟨by omega, by omega, by decide⟩ : (0 : Int) ≤ _ ∧ _ ≤ _ ∧ Int.natAbs _ < _), ?_⟩); (try conv => whnf))))
  refine ⟨⟨by omega, by omega⟩, ⟨by omega, by omega⟩, ?_⟩
  refine for_rng (fun k env st => ∃ x, env = [some (.int n), some (.int p), some (.ref 0), x, none, none, none] ∧ st = [some (.lst ((List.range (k + 1)).map fun i => .int (fac i % p : Nat)))]) ⟨none, rfl, ?_⟩ ?_ ?_
  · have e : fac 0 % p = 1 := Nat.mod_eq_of_lt (by show 1 < p; omega)
    show _ = [some (Ob.lst [.int (fac 0 % p : Nat)])]
    rw [e]
    rfl
  · rintro k hk e s ⟨x, rfl, rfl⟩ N hN
    have hk' : k < 1000 := by omega
    ((repeat first | refine ⟨_, rfl, ?_⟩ | refine ⟨MulOk.r ⟨by omega, by omega⟩, ?_⟩ | refine ⟨MulOk.l ⟨by omega, by omega⟩, ?_⟩ | refine ⟨DivOk.of (by omega) (by omega), ?_⟩ | refine ⟨(by omega : (0 : Int) < _), ?_⟩ | refine ⟨True.intro, ?_⟩ | refine ⟨rfl, ?_⟩ | refine ⟨(by repeat' (first | exact True.intro | refine ⟨?_, ?_⟩) : ShN 60 _), ?_⟩ | refine ⟨(Nat.le_of_ble_eq_true rfl : (_ : Nat) ≤ big), ?_⟩ | refine ⟨(by repeat (first | exact True.intro | refine ⟨True.intro, ?_⟩) : NRL _), Nat.le_of_ble_eq_true rfl, ?_⟩ | refine ⟨(⟨by omega, by omega, by decide⟩ : (0 : Int) ≤ _ ∧ _ ≤ _ ∧ Int.natAbs _ < _), ?_⟩); (try conv => whnf); (repeat ((first | with_reducible refine ifB_f ?_ | with_reducible refine ifB_t ?_ | with_reducible refine ifB_nt ?_ | with_reducible refine ifB_nf ?_); (repeat first | refine ⟨_, rfl, ?_⟩ | refine ⟨MulOk.r ⟨by omega, by omega⟩, ?_⟩ | refine ⟨MulOk.l ⟨by omega, by omega⟩, ?_⟩ | refine ⟨DivOk.of (by omega) (by omega), ?_⟩ | refine ⟨(by omega : (0 : Int) < _), ?_⟩ | refine ⟨True.intro, ?_⟩ | refine ⟨rfl, ?_⟩ | refine ⟨(by repeat' (first | exact True.intro | refine ⟨?_, ?_⟩) : ShN 60 _), ?_⟩ | refine ⟨(Nat.le_of_ble_eq_true rfl : (_ : Nat) ≤ big), ?_⟩ | refine ⟨(by repeat (first | exact True.intro | refine ⟨True.intro, ?_⟩) : NRL _), Nat.le_of_ble_eq_true rfl, ?_⟩ | refine ⟨(⟨by omega, by omega, by decide⟩ : (0 : Int) ≤ _ ∧ _ ≤ _ ∧ Int.natAbs _ < _), ?_⟩); (try conv => whnf))))
    refine ⟨_, tab_last, ?_⟩
    ((repeat first | refine ⟨_, rfl, ?_⟩ | refine ⟨MulOk.r ⟨by omega, by omega⟩, ?_⟩ | refine ⟨MulOk.l ⟨by omega, by omega⟩, ?_⟩ | refine ⟨DivOk.of (by omega) (by omega), ?_⟩ | refine ⟨(by omega : (0 : Int) < _), ?_⟩ | refine ⟨True.intro, ?_⟩ | refine ⟨rfl, ?_⟩ | refine ⟨(by repeat' (first | exact True.intro | refine ⟨?_, ?_⟩) : ShN 60 _), ?_⟩ | refine ⟨(Nat.le_of_ble_eq_true rfl : (_ : Nat) ≤ big), ?_⟩ | refine ⟨(by repeat (first | exact True.intro | refine ⟨True.intro, ?_⟩) : NRL _), Nat.le_of_ble_eq_true rfl, ?_⟩ | refine ⟨(⟨by omega, by omega, by decide⟩ : (0 : Int) ≤ _ ∧ _ ≤ _ ∧ Int.natAbs _ < _), ?_⟩); (try conv => whnf); (repeat ((first | with_reducible refine ifB_f ?_ | with_reducible refine ifB_t ?_ | with_reducible refine ifB_nt ?_ | with_reducible refine ifB_nf ?_); (repeat first | refine ⟨_, rfl, ?_⟩ | refine ⟨MulOk.r ⟨by omega, by omega⟩, ?_⟩ | refine ⟨MulOk.l ⟨by omega, by omega⟩, ?_⟩ | refine ⟨DivOk.of (by omega) (by omega), ?_⟩ | refine ⟨(by omega : (0 : Int) < _), ?_⟩ | refine ⟨True.intro, ?_⟩ | refine ⟨rfl, ?_⟩ | refine ⟨(by repeat' (first | exact True.intro | refine ⟨?_, ?_⟩) : ShN 60 _), ?_⟩ | refine ⟨(Nat.le_of_ble_eq_true rfl : (_ : Nat) ≤ big), ?_⟩ | refine ⟨(by repeat (first | exact True.intro | refine ⟨True.intro, ?_⟩) : NRL _), Nat.le_of_ble_eq_true rfl, ?_⟩ | refine ⟨(⟨by omega, by omega, by decide⟩ : (0 : Int) ≤ _ ∧ _ ≤ _ ∧ Int.natAbs _ < _), ?_⟩); (try conv => whnf))))
    refine ⟨⟨?_, True.intro⟩, ?_⟩
    · rw [List.length_map, List.length_range]
      show _ < 16777216
      omega
    · refine hN _ _ ⟨_, rfl, ?_⟩
      rw [List.range_succ (n := k + 1), List.map_append]
      have e : ((fac k % p : Nat) : Int) * (1 + (k : Int) * 1) % (p : Int) = ((fac (k + 1) % p : Nat) : Int) := by
        have e1 : (1 + (k : Int) * 1) = ((k + 1 : Nat) : Int) := by omega
        rw [e1]
        show (((fac k % p) * (k + 1) % p : Nat) : Int) = _
        have e2 : fac (k + 1) = fac k * (k + 1) := Nat.mul_comm _ _
        rw [e2, Nat.mul_mod (fac k), Nat.mul_mod (fac k % p), Nat.mod_mod]
      show [some (Ob.lst (_ ++ [.int (((fac k % p : Nat) : Int) * (1 + (k : Int) * 1) % (p : Int))]))] = _
      rw [e]
      rfl
  · rintro e s ⟨x, rfl, rfl⟩
    have e : ((p : Int) - 1).toNat + 1 = p := by omega
    rw [e]
    ((repeat first | refine ⟨_, rfl, ?_⟩ | refine ⟨MulOk.r ⟨by omega, by omega⟩, ?_⟩ | refine ⟨MulOk.l ⟨by omega, by omega⟩, ?_⟩ | refine ⟨DivOk.of (by omega) (by omega), ?_⟩ | refine ⟨(by omega : (0 : Int) < _), ?_⟩ | refine ⟨True.intro, ?_⟩ | refine ⟨rfl, ?_⟩ | refine ⟨(by repeat' (first | exact True.intro | refine ⟨?_, ?_⟩) : ShN 60 _), ?_⟩ | refine ⟨(Nat.le_of_ble_eq_true rfl : (_ : Nat) ≤ big), ?_⟩ | refine ⟨(by repeat (first | exact True.intro | refine ⟨True.intro, ?_⟩) : NRL _), Nat.le_of_ble_eq_true rfl, ?_⟩ | refine ⟨(⟨by omega, by omega, by decide⟩ : (0 : Int) ≤ _ ∧ _ ≤ _ ∧ Int.natAbs _ < _), ?_⟩); (try conv => whnf); (repeat ((first | with_reducible refine ifB_f ?_ | with_reducible refine ifB_t ?_ | with_reducible refine ifB_nt ?_ | with_reducible refine ifB_nf ?_); (repeat first | refine ⟨_, rfl, ?_⟩ | refine ⟨MulOk.r ⟨by omega, by omega⟩, ?_⟩ | refine ⟨MulOk.l ⟨by omega, by omega⟩, ?_⟩ | refine ⟨DivOk.of (by omega) (by omega), ?_⟩ | refine ⟨(by omega : (0 : Int) < _), ?_⟩ | refine ⟨True.intro, ?_⟩ | refine ⟨rfl, ?_⟩ | refine ⟨(by repeat' (first | exact True.intro | refine ⟨?_, ?_⟩) : ShN 60 _), ?_⟩ | refine ⟨(Nat.le_of_ble_eq_true rfl : (_ : Nat) ≤ big), ?_⟩ | refine ⟨(by repeat (first | exact True.intro | refine ⟨True.intro, ?_⟩) : NRL _), Nat.le_of_ble_eq_true rfl, ?_⟩ | refine ⟨(⟨by omega, by omega, by decide⟩ : (0 : Int) ≤ _ ∧ _ ≤ _ ∧ Int.natAbs _ < _), ?_⟩); (try conv => whnf))))
    refine while_inv (fun m env st => ∃ f o a : Nat, env = [some (.int n), some (.int p), some (.ref 0), x, some (.int f), some (.int o), some (.int a)] ∧ st = [some (.lst ((List.range p).map fun i => .int (fac i % p : Nat)))] ∧ (f * strip p (fac a)) % p = strip p (fac n) % p ∧ o + leg p a = leg p n ∧ m = a) n ⟨1, 0, n, rfl, rfl, by rw [Nat.one_mul], by omega, rfl⟩ ?_
    rintro m env st ⟨f, o, a, rfl, rfl, he, ho, rfl⟩ N hN
    ((repeat first | refine ⟨_, rfl, ?_⟩ | refine ⟨MulOk.r ⟨by omega, by omega⟩, ?_⟩ | refine ⟨MulOk.l ⟨by omega, by omega⟩, ?_⟩ | refine ⟨DivOk.of (by omega) (by omega), ?_⟩ | refine ⟨(by omega : (0 : Int) < _), ?_⟩ | refine ⟨True.intro, ?_⟩ | refine ⟨rfl, ?_⟩ | refine ⟨(by repeat' (first | exact True.intro | refine ⟨?_, ?_⟩) : ShN 60 _), ?_⟩ | refine ⟨(Nat.le_of_ble_eq_true rfl : (_ : Nat) ≤ big), ?_⟩ | refine ⟨(by repeat (first | exact True.intro | refine ⟨True.intro, ?_⟩) : NRL _), Nat.le_of_ble_eq_true rfl, ?_⟩ | refine ⟨(⟨by omega, by omega, by decide⟩ : (0 : Int) ≤ _ ∧ _ ≤ _ ∧ Int.natAbs _ < _), ?_⟩); (try conv => whnf); (repeat ((first | with_reducible refine ifB_f ?_ | with_reducible refine ifB_t ?_ | with_reducible refine ifB_nt ?_ | with_reducible refine ifB_nf ?_); (repeat first | refine ⟨_, rfl, ?_⟩ | refine ⟨MulOk.r ⟨by omega, by omega⟩, ?_⟩ | refine ⟨MulOk.l ⟨by omega, by omega⟩, ?_⟩ | refine ⟨DivOk.of (by omega) (by omega), ?_⟩ | refine ⟨(by omega : (0 : Int) < _), ?_⟩ | refine ⟨True.intro, ?_⟩ | refine ⟨rfl, ?_⟩ | refine ⟨(by repeat' (first | exact True.intro | refine ⟨?_, ?_⟩) : ShN 60 _), ?_⟩ | refine ⟨(Nat.le_of_ble_eq_true rfl : (_ : Nat) ≤ big), ?_⟩ | refine ⟨(by repeat (first | exact True.intro | refine ⟨True.intro, ?_⟩) : NRL _), Nat.le_of_ble_eq_true rfl, ?_⟩ | refine ⟨(⟨by omega, by omega, by decide⟩ : (0 : Int) ≤ _ ∧ _ ≤ _ ∧ Int.natAbs _ < _), ?_⟩); (try conv => whnf))))
    refine ifB.of (fun h => ?_) (fun h => ?_)
    · have ha : (0 : Int) < m := dec_t h
      have hd := Nat.div_lt_self (show 0 < m by omega) h2
      have hl : (o + m / p) + leg p (m / p) = leg p n := by
        rw [← ho, leg_eq (n := m) h2]
        omega
      have hb : fac (m % p) % p < p := Nat.mod_lt _ (by omega)
      have hf : (f * (fac (m % p) * (sg p (m / p) * strip p (fac (m / p))))) % p = strip p (fac n) % p := by
        rw [← he, Nat.mul_mod f (strip p (fac m)), left_step hp.pr hp.wil, ← Nat.mul_mod]
      ((repeat first | refine ⟨_, rfl, ?_⟩ | refine ⟨MulOk.r ⟨by omega, by omega⟩, ?_⟩ | refine ⟨MulOk.l ⟨by omega, by omega⟩, ?_⟩ | refine ⟨DivOk.of (by omega) (by omega), ?_⟩ | refine ⟨(by omega : (0 : Int) < _), ?_⟩ | refine ⟨True.intro, ?_⟩ | refine ⟨rfl, ?_⟩ | refine ⟨(by repeat' (first | exact True.intro | refine ⟨?_, ?_⟩) : ShN 60 _), ?_⟩ | refine ⟨(Nat.le_of_ble_eq_true rfl : (_ : Nat) ≤ big), ?_⟩ | refine ⟨(by repeat (first | exact True.intro | refine ⟨True.intro, ?_⟩) : NRL _), Nat.le_of_ble_eq_true rfl, ?_⟩ | refine ⟨(⟨by omega, by omega, by decide⟩ : (0 : Int) ≤ _ ∧ _ ≤ _ ∧ Int.natAbs _ < _), ?_⟩); (try conv => whnf); (repeat ((first | with_reducible refine ifB_f ?_ | with_reducible refine ifB_t ?_ | with_reducible refine ifB_nt ?_ | with_reducible refine ifB_nf ?_); (repeat first | refine ⟨_, rfl, ?_⟩ | refine ⟨MulOk.r ⟨by omega, by omega⟩, ?_⟩ | refine ⟨MulOk.l ⟨by omega, by omega⟩, ?_⟩ | refine ⟨DivOk.of (by omega) (by omega), ?_⟩ | refine ⟨(by omega : (0 : Int) < _), ?_⟩ | refine ⟨True.intro, ?_⟩ | refine ⟨rfl, ?_⟩ | refine ⟨(by repeat' (first | exact True.intro | refine ⟨?_, ?_⟩) : ShN 60 _), ?_⟩ | refine ⟨(Nat.le_of_ble_eq_true rfl : (_ : Nat) ≤ big), ?_⟩ | refine ⟨(by repeat (first | exact True.intro | refine ⟨True.intro, ?_⟩) : NRL _), Nat.le_of_ble_eq_true rfl, ?_⟩ | refine ⟨(⟨by omega, by omega, by decide⟩ : (0 : Int) ≤ _ ∧ _ ≤ _ ∧ Int.natAbs _ < _), ?_⟩); (try conv => whnf))))
      refine ⟨.int (fac (m % p) % p : Nat), atI_nat (k := m % p) (tab_get (f := fun i => .int (fac i % p : Nat)) (Nat.mod_lt _ (by omega))), ?_⟩
      ((repeat first | refine ⟨_, rfl, ?_⟩ | refine ⟨MulOk.r ⟨by omega, by omega⟩, ?_⟩ | refine ⟨MulOk.l ⟨by omega, by omega⟩, ?_⟩ | refine ⟨DivOk.of (by omega) (by omega), ?_⟩ | refine ⟨(by omega : (0 : Int) < _), ?_⟩ | refine ⟨True.intro, ?_⟩ | refine ⟨rfl, ?_⟩ | refine ⟨(by repeat' (first | exact True.intro | refine ⟨?_, ?_⟩) : ShN 60 _), ?_⟩ | refine ⟨(Nat.le_of_ble_eq_true rfl : (_ : Nat) ≤ big), ?_⟩ | refine ⟨(by repeat (first | exact True.intro | refine ⟨True.intro, ?_⟩) : NRL _), Nat.le_of_ble_eq_true rfl, ?_⟩ | refine ⟨(⟨by omega, by omega, by decide⟩ : (0 : Int) ≤ _ ∧ _ ≤ _ ∧ Int.natAbs _ < _), ?_⟩); (try conv => whnf); (repeat ((first | with_reducible refine ifB_f ?_ | with_reducible refine ifB_t ?_ | with_reducible refine ifB_nt ?_ | with_reducible refine ifB_nf ?_); (repeat first | refine ⟨_, rfl, ?_⟩ | refine ⟨MulOk.r ⟨by omega, by omega⟩, ?_⟩ | refine ⟨MulOk.l ⟨by omega, by omega⟩, ?_⟩ | refine ⟨DivOk.of (by omega) (by omega), ?_⟩ | refine ⟨(by omega : (0 : Int) < _), ?_⟩ | refine ⟨True.intro, ?_⟩ | refine ⟨rfl, ?_⟩ | refine ⟨(by repeat' (first | exact True.intro | refine ⟨?_, ?_⟩) : ShN 60 _), ?_⟩ | refine ⟨(Nat.le_of_ble_eq_true rfl : (_ : Nat) ≤ big), ?_⟩ | refine ⟨(by repeat (first | exact True.intro | refine ⟨True.intro, ?_⟩) : NRL _), Nat.le_of_ble_eq_true rfl, ?_⟩ | refine ⟨(⟨by omega, by omega, by decide⟩ : (0 : Int) ≤ _ ∧ _ ≤ _ ∧ Int.natAbs _ < _), ?_⟩); (try conv => whnf))))
      refine ifB.of (fun h => ?_) (fun h => ?_)
      · have hs : ((m : Int) / (p : Int)) % 2 = 1 := dec_t h
        have hs' : (m / p) % 2 = 1 := by
          have : ((m / p % 2 : Nat) : Int) = 1 := hs
          omega
        ((repeat first | refine ⟨_, rfl, ?_⟩ | refine ⟨MulOk.r ⟨by omega, by omega⟩, ?_⟩ | refine ⟨MulOk.l ⟨by omega, by omega⟩, ?_⟩ | refine ⟨DivOk.of (by omega) (by omega), ?_⟩ | refine ⟨(by omega : (0 : Int) < _), ?_⟩ | refine ⟨True.intro, ?_⟩ | refine ⟨rfl, ?_⟩ | refine ⟨(by repeat' (first | exact True.intro | refine ⟨?_, ?_⟩) : ShN 60 _), ?_⟩ | refine ⟨(Nat.le_of_ble_eq_true rfl : (_ : Nat) ≤ big), ?_⟩ | refine ⟨(by repeat (first | exact True.intro | refine ⟨True.intro, ?_⟩) : NRL _), Nat.le_of_ble_eq_true rfl, ?_⟩ | refine ⟨(⟨by omega, by omega, by decide⟩ : (0 : Int) ≤ _ ∧ _ ≤ _ ∧ Int.natAbs _ < _), ?_⟩); (try conv => whnf); (repeat ((first | with_reducible refine ifB_f ?_ | with_reducible refine ifB_t ?_ | with_reducible refine ifB_nt ?_ | with_reducible refine ifB_nf ?_); (repeat first | refine ⟨_, rfl, ?_⟩ | refine ⟨MulOk.r ⟨by omega, by omega⟩, ?_⟩ | refine ⟨MulOk.l ⟨by omega, by omega⟩, ?_⟩ | refine ⟨DivOk.of (by omega) (by omega), ?_⟩ | refine ⟨(by omega : (0 : Int) < _), ?_⟩ | refine ⟨True.intro, ?_⟩ | refine ⟨rfl, ?_⟩ | refine ⟨(by repeat' (first | exact True.intro | refine ⟨?_, ?_⟩) : ShN 60 _), ?_⟩ | refine ⟨(Nat.le_of_ble_eq_true rfl : (_ : Nat) ≤ big), ?_⟩ | refine ⟨(by repeat (first | exact True.intro | refine ⟨True.intro, ?_⟩) : NRL _), Nat.le_of_ble_eq_true rfl, ?_⟩ | refine ⟨(⟨by omega, by omega, by decide⟩ : (0 : Int) ≤ _ ∧ _ ≤ _ ∧ Int.natAbs _ < _), ?_⟩); (try conv => whnf))))
        refine hN (m / p) hd _ _ ⟨f * (fac (m % p) % p) % p * (p - 1) % p, o + m / p, m / p, ?_, rfl, ?_, hl, rfl⟩
        · have e1 : (p : Int) - 1 = ((p - 1 : Nat) : Int) := by omega
          show [_, _, _, _, some (D.int (((f * (fac (m % p) % p) % p : Nat) : Int) * ((p : Int) - 1) % (p : Int))), _, _] = _
          rw [e1]
          rfl
        · rw [← hf, sg, if_pos hs']
          simp only [Nat.mul_assoc, mm1, mm2, mm3]
      · have hs : ¬ ((m : Int) / (p : Int)) % 2 = 1 := dec_f h
        have hs' : ¬ (m / p) % 2 = 1 := by
          intro z
          apply hs
          show ((m / p % 2 : Nat) : Int) = 1
          omega
        ((repeat first | refine ⟨_, rfl, ?_⟩ | refine ⟨MulOk.r ⟨by omega, by omega⟩, ?_⟩ | refine ⟨MulOk.l ⟨by omega, by omega⟩, ?_⟩ | refine ⟨DivOk.of (by omega) (by omega), ?_⟩ | refine ⟨(by omega : (0 : Int) < _), ?_⟩ | refine ⟨True.intro, ?_⟩ | refine ⟨rfl, ?_⟩ | refine ⟨(by repeat' (first | exact True.intro | refine ⟨?_, ?_⟩) : ShN 60 _), ?_⟩ | refine ⟨(Nat.le_of_ble_eq_true rfl : (_ : Nat) ≤ big), ?_⟩ | refine ⟨(by repeat (first | exact True.intro | refine ⟨True.intro, ?_⟩) : NRL _), Nat.le_of_ble_eq_true rfl, ?_⟩ | refine ⟨(⟨by omega, by omega, by decide⟩ : (0 : Int) ≤ _ ∧ _ ≤ _ ∧ Int.natAbs _ < _), ?_⟩); (try conv => whnf); (repeat ((first | with_reducible refine ifB_f ?_ | with_reducible refine ifB_t ?_ | with_reducible refine ifB_nt ?_ | with_reducible refine ifB_nf ?_); (repeat first | refine ⟨_, rfl, ?_⟩ | refine ⟨MulOk.r ⟨by omega, by omega⟩, ?_⟩ | refine ⟨MulOk.l ⟨by omega, by omega⟩, ?_⟩ | refine ⟨DivOk.of (by omega) (by omega), ?_⟩ | refine ⟨(by omega : (0 : Int) < _), ?_⟩ | refine ⟨True.intro, ?_⟩ | refine ⟨rfl, ?_⟩ | refine ⟨(by repeat' (first | exact True.intro | refine ⟨?_, ?_⟩) : ShN 60 _), ?_⟩ | refine ⟨(Nat.le_of_ble_eq_true rfl : (_ : Nat) ≤ big), ?_⟩ | refine ⟨(by repeat (first | exact True.intro | refine ⟨True.intro, ?_⟩) : NRL _), Nat.le_of_ble_eq_true rfl, ?_⟩ | refine ⟨(⟨by omega, by omega, by decide⟩ : (0 : Int) ≤ _ ∧ _ ≤ _ ∧ Int.natAbs _ < _), ?_⟩); (try conv => whnf))))
        refine hN (m / p) hd _ _ ⟨f * (fac (m % p) % p) % p, o + m / p, m / p, rfl, rfl, ?_, hl, rfl⟩
        rw [← hf, sg, if_neg hs', Nat.one_mul]
        simp only [Nat.mul_assoc, mm1, mm2, mm3]
    · have ha : ¬ (0 : Int) < m := dec_f h
      have ea : m = 0 := by omega
      subst ea
      rw [leg_0] at ho
      have e0 : strip p (fac 0) = 1 := strip_n (by show 1 % p ≠ 0; rw [Nat.mod_eq_of_lt (by omega)]; omega)
      rw [e0, Nat.mul_one] at he
      have ho' : o = leg p n := ho
      subst ho'
      ((repeat first | refine ⟨_, rfl, ?_⟩ | refine ⟨MulOk.r ⟨by omega, by omega⟩, ?_⟩ | refine ⟨MulOk.l ⟨by omega, by omega⟩, ?_⟩ | refine ⟨DivOk.of (by omega) (by omega), ?_⟩ | refine ⟨(by omega : (0 : Int) < _), ?_⟩ | refine ⟨True.intro, ?_⟩ | refine ⟨rfl, ?_⟩ | refine ⟨(by repeat' (first | exact True.intro | refine ⟨?_, ?_⟩) : ShN 60 _), ?_⟩ | refine ⟨(Nat.le_of_ble_eq_true rfl : (_ : Nat) ≤ big), ?_⟩ | refine ⟨(by repeat (first | exact True.intro | refine ⟨True.intro, ?_⟩) : NRL _), Nat.le_of_ble_eq_true rfl, ?_⟩ | refine ⟨(⟨by omega, by omega, by decide⟩ : (0 : Int) ≤ _ ∧ _ ≤ _ ∧ Int.natAbs _ < _), ?_⟩); (try conv => whnf); (repeat ((first | with_reducible refine ifB_f ?_ | with_reducible refine ifB_t ?_ | with_reducible refine ifB_nt ?_ | with_reducible refine ifB_nf ?_); (repeat first | refine ⟨_, rfl, ?_⟩ | refine ⟨MulOk.r ⟨by omega, by omega⟩, ?_⟩ | refine ⟨MulOk.l ⟨by omega, by omega⟩, ?_⟩ | refine ⟨DivOk.of (by omega) (by omega), ?_⟩ | refine ⟨(by omega : (0 : Int) < _), ?_⟩ | refine ⟨True.intro, ?_⟩ | refine ⟨rfl, ?_⟩ | refine ⟨(by repeat' (first | exact True.intro | refine ⟨?_, ?_⟩) : ShN 60 _), ?_⟩ | refine ⟨(Nat.le_of_ble_eq_true rfl : (_ : Nat) ≤ big), ?_⟩ | refine ⟨(by repeat (first | exact True.intro | refine ⟨True.intro, ?_⟩) : NRL _), Nat.le_of_ble_eq_true rfl, ?_⟩ | refine ⟨(⟨by omega, by omega, by decide⟩ : (0 : Int) ≤ _ ∧ _ ≤ _ ∧ Int.natAbs _ < _), ?_⟩); (try conv => whnf))))
      refine .inl ⟨True.intro, ?_⟩
      show Q (.tup [.int (leg p n : Nat), .int (f % p : Nat)]) []
      rw [he]
      exact hQ
theorem tri_succ {N : Nat} : tri (N + 1) = tri N ++ [D.lst ((List.range (N + 2)).map fun k => .int (ch (N + 1) k : Nat))] := by
  exact (congrArg (List.map _) (List.range_succ (n := N + 1))).trans List.map_append
theorem row_succ {k : Nat} : ((List.range (k + 2)).map fun i => D.int (ch (k + 1) i : Nat)) = [D.int 1] ++ ((List.range k).map fun i => D.int ((ch k i : Nat) + (ch k (i + 1) : Nat))) ++ [D.int 1] := by
  rw [List.range_succ, List.map_append, List.range_succ_eq_map, List.map_cons, List.map_map]
  have e : ch (k + 1) (k + 1) = 1 := ch_self _
  show _ :: _ ++ [D.int (ch (k + 1) (k + 1) : Nat)] = _
  rw [e, ch_0]
  rfl
theorem rd__law_triangle (ds : List D) (so : Sto) (Q : WK) (h : p__law_triangle ds so Q) : w__law_triangle (endK so.length Q) (startM 5 ds) so := by
  obtain ⟨rfl, rfl, hQ⟩ := h
  ((repeat first | refine ⟨_, rfl, ?_⟩ | refine ⟨MulOk.r ⟨by omega, by omega⟩, ?_⟩ | refine ⟨MulOk.l ⟨by omega, by omega⟩, ?_⟩ | refine ⟨DivOk.of (by omega) (by omega), ?_⟩ | refine ⟨(by omega : (0 : Int) < _), ?_⟩ | refine ⟨True.intro, ?_⟩ | refine ⟨rfl, ?_⟩ | refine ⟨(by repeat' (first | exact True.intro | refine ⟨?_, ?_⟩) : ShN 60 _), ?_⟩ | refine ⟨(Nat.le_of_ble_eq_true rfl : (_ : Nat) ≤ big), ?_⟩ | refine ⟨(by repeat (first | exact True.intro | refine ⟨True.intro, ?_⟩) : NRL _), Nat.le_of_ble_eq_true rfl, ?_⟩ | refine ⟨(⟨by omega, by omega, by decide⟩ : (0 : Int) ≤ _ ∧ _ ≤ _ ∧ Int.natAbs _ < _), ?_⟩); (try conv => whnf); (repeat ((first | with_reducible refine ifB_f ?_ | with_reducible refine ifB_t ?_ | with_reducible refine ifB_nt ?_ | with_reducible refine ifB_nf ?_); (repeat first | refine ⟨_, rfl, ?_⟩ | refine ⟨MulOk.r ⟨by omega, by omega⟩, ?_⟩ | refine ⟨MulOk.l ⟨by omega, by omega⟩, ?_⟩ | refine ⟨DivOk.of (by omega) (by omega), ?_⟩ | refine ⟨(by omega : (0 : Int) < _), ?_⟩ | refine ⟨True.intro, ?_⟩ | refine ⟨rfl, ?_⟩ | refine ⟨(by repeat' (first | exact True.intro | refine ⟨?_, ?_⟩) : ShN 60 _), ?_⟩ | refine ⟨(Nat.le_of_ble_eq_true rfl : (_ : Nat) ≤ big), ?_⟩ | refine ⟨(by repeat (first | exact True.intro | refine ⟨True.intro, ?_⟩) : NRL _), Nat.le_of_ble_eq_true rfl, ?_⟩ | refine ⟨(⟨by omega, by omega, by decide⟩ : (0 : Int) ≤ _ ∧ _ ≤ _ ∧ Int.natAbs _ < _), ?_⟩); (try conv => whnf))))
  refine ⟨⟨by omega, by omega⟩, ?_⟩
  refine for_rng (fun k env st => ∃ x y, env = [some (.int 60), some (.ref 0), x, y, none] ∧ st = [some (.lst (tri k))]) ⟨none, none, rfl, rfl⟩ ?_ ?_
  · rintro k hk e s ⟨x, y, rfl, rfl⟩ N hN
    have hk' : k < 60 := hk
    ((repeat first | refine ⟨_, rfl, ?_⟩ | refine ⟨MulOk.r ⟨by omega, by omega⟩, ?_⟩ | refine ⟨MulOk.l ⟨by omega, by omega⟩, ?_⟩ | refine ⟨DivOk.of (by omega) (by omega), ?_⟩ | refine ⟨(by omega : (0 : Int) < _), ?_⟩ | refine ⟨True.intro, ?_⟩ | refine ⟨rfl, ?_⟩ | refine ⟨(by repeat' (first | exact True.intro | refine ⟨?_, ?_⟩) : ShN 60 _), ?_⟩ | refine ⟨(Nat.le_of_ble_eq_true rfl : (_ : Nat) ≤ big), ?_⟩ | refine ⟨(by repeat (first | exact True.intro | refine ⟨True.intro, ?_⟩) : NRL _), Nat.le_of_ble_eq_true rfl, ?_⟩ | refine ⟨(⟨by omega, by omega, by decide⟩ : (0 : Int) ≤ _ ∧ _ ≤ _ ∧ Int.natAbs _ < _), ?_⟩); (try conv => whnf); (repeat ((first | with_reducible refine ifB_f ?_ | with_reducible refine ifB_t ?_ | with_reducible refine ifB_nt ?_ | with_reducible refine ifB_nf ?_); (repeat first | refine ⟨_, rfl, ?_⟩ | refine ⟨MulOk.r ⟨by omega, by omega⟩, ?_⟩ | refine ⟨MulOk.l ⟨by omega, by omega⟩, ?_⟩ | refine ⟨DivOk.of (by omega) (by omega), ?_⟩ | refine ⟨(by omega : (0 : Int) < _), ?_⟩ | refine ⟨True.intro, ?_⟩ | refine ⟨rfl, ?_⟩ | refine ⟨(by repeat' (first | exact True.intro | refine ⟨?_, ?_⟩) : ShN 60 _), ?_⟩ | refine ⟨(Nat.le_of_ble_eq_true rfl : (_ : Nat) ≤ big), ?_⟩ | refine ⟨(by repeat (first | exact True.intro | refine ⟨True.intro, ?_⟩) : NRL _), Nat.le_of_ble_eq_true rfl, ?_⟩ | refine ⟨(⟨by omega, by omega, by decide⟩ : (0 : Int) ≤ _ ∧ _ ≤ _ ∧ Int.natAbs _ < _), ?_⟩); (try conv => whnf))))
    refine ⟨_, tab_last (f := fun n => D.lst ((List.range (n + 1)).map fun k => .int (ch n k : Nat))), ?_⟩
    ((repeat first | refine ⟨_, rfl, ?_⟩ | refine ⟨MulOk.r ⟨by omega, by omega⟩, ?_⟩ | refine ⟨MulOk.l ⟨by omega, by omega⟩, ?_⟩ | refine ⟨DivOk.of (by omega) (by omega), ?_⟩ | refine ⟨(by omega : (0 : Int) < _), ?_⟩ | refine ⟨True.intro, ?_⟩ | refine ⟨rfl, ?_⟩ | refine ⟨(by repeat' (first | exact True.intro | refine ⟨?_, ?_⟩) : ShN 60 _), ?_⟩ | refine ⟨(Nat.le_of_ble_eq_true rfl : (_ : Nat) ≤ big), ?_⟩ | refine ⟨(by repeat (first | exact True.intro | refine ⟨True.intro, ?_⟩) : NRL _), Nat.le_of_ble_eq_true rfl, ?_⟩ | refine ⟨(⟨by omega, by omega, by decide⟩ : (0 : Int) ≤ _ ∧ _ ≤ _ ∧ Int.natAbs _ < _), ?_⟩); (try conv => whnf); (repeat ((first | with_reducible refine ifB_f ?_ | with_reducible refine ifB_t ?_ | with_reducible refine ifB_nt ?_ | with_reducible refine ifB_nf ?_); (repeat first | refine ⟨_, rfl, ?_⟩ | refine ⟨MulOk.r ⟨by omega, by omega⟩, ?_⟩ | refine ⟨MulOk.l ⟨by omega, by omega⟩, ?_⟩ | refine ⟨DivOk.of (by omega) (by omega), ?_⟩ | refine ⟨(by omega : (0 : Int) < _), ?_⟩ | refine ⟨True.intro, ?_⟩ | refine ⟨rfl, ?_⟩ | refine ⟨(by repeat' (first | exact True.intro | refine ⟨?_, ?_⟩) : ShN 60 _), ?_⟩ | refine ⟨(Nat.le_of_ble_eq_true rfl : (_ : Nat) ≤ big), ?_⟩ | refine ⟨(by repeat (first | exact True.intro | refine ⟨True.intro, ?_⟩) : NRL _), Nat.le_of_ble_eq_true rfl, ?_⟩ | refine ⟨(⟨by omega, by omega, by decide⟩ : (0 : Int) ≤ _ ∧ _ ≤ _ ∧ Int.natAbs _ < _), ?_⟩); (try conv => whnf))))
    have el : ((((List.range (k + 1)).map fun i => D.int (ch k i : Nat)).length : Nat) - 1 : Int).toNat = k := by
      rw [List.length_map, List.length_range]
      omega
    refine ⟨⟨by rw [List.length_map, List.length_range]; omega, by rw [List.length_map, List.length_range]; omega⟩, ?_⟩
    refine lc_rng (fun _ => true) (fun i => .int ((ch k i : Nat) + (ch k (i + 1) : Nat))) ?_ (fun _ _ => True.intro) ?_ ?_
    · rw [el]
      show 0 + k ≤ _
      omega
    · intro i hi A B h
      rw [el] at hi
      rw [ifB_pos rfl] at h
      ((repeat first | refine ⟨_, rfl, ?_⟩ | refine ⟨MulOk.r ⟨by omega, by omega⟩, ?_⟩ | refine ⟨MulOk.l ⟨by omega, by omega⟩, ?_⟩ | refine ⟨DivOk.of (by omega) (by omega), ?_⟩ | refine ⟨(by omega : (0 : Int) < _), ?_⟩ | refine ⟨True.intro, ?_⟩ | refine ⟨rfl, ?_⟩ | refine ⟨(by repeat' (first | exact True.intro | refine ⟨?_, ?_⟩) : ShN 60 _), ?_⟩ | refine ⟨(Nat.le_of_ble_eq_true rfl : (_ : Nat) ≤ big), ?_⟩ | refine ⟨(by repeat (first | exact True.intro | refine ⟨True.intro, ?_⟩) : NRL _), Nat.le_of_ble_eq_true rfl, ?_⟩ | refine ⟨(⟨by omega, by omega, by decide⟩ : (0 : Int) ≤ _ ∧ _ ≤ _ ∧ Int.natAbs _ < _), ?_⟩); (try conv => whnf); (repeat ((first | with_reducible refine ifB_f ?_ | with_reducible refine ifB_t ?_ | with_reducible refine ifB_nt ?_ | with_reducible refine ifB_nf ?_); (repeat first | refine ⟨_, rfl, ?_⟩ | refine ⟨MulOk.r ⟨by omega, by omega⟩, ?_⟩ | refine ⟨MulOk.l ⟨by omega, by omega⟩, ?_⟩ | refine ⟨DivOk.of (by omega) (by omega), ?_⟩ | refine ⟨(by omega : (0 : Int) < _), ?_⟩ | refine ⟨True.intro, ?_⟩ | refine ⟨rfl, ?_⟩ | refine ⟨(by repeat' (first | exact True.intro | refine ⟨?_, ?_⟩) : ShN 60 _), ?_⟩ | refine ⟨(Nat.le_of_ble_eq_true rfl : (_ : Nat) ≤ big), ?_⟩ | refine ⟨(by repeat (first | exact True.intro | refine ⟨True.intro, ?_⟩) : NRL _), Nat.le_of_ble_eq_true rfl, ?_⟩ | refine ⟨(⟨by omega, by omega, by decide⟩ : (0 : Int) ≤ _ ∧ _ ≤ _ ∧ Int.natAbs _ < _), ?_⟩); (try conv => whnf))))
      refine ⟨.int (ch k i : Nat), ?_, ?_⟩
      · have e0 : (0 + (i : Int) * 1) = ((i : Nat) : Int) := by omega
        rw [e0]
        exact atI_nat (tab_get (f := fun i => D.int (ch k i : Nat)) (by omega))
      · ((repeat first | refine ⟨_, rfl, ?_⟩ | refine ⟨MulOk.r ⟨by omega, by omega⟩, ?_⟩ | refine ⟨MulOk.l ⟨by omega, by omega⟩, ?_⟩ | refine ⟨DivOk.of (by omega) (by omega), ?_⟩ | refine ⟨(by omega : (0 : Int) < _), ?_⟩ | refine ⟨True.intro, ?_⟩ | refine ⟨rfl, ?_⟩ | refine ⟨(by repeat' (first | exact True.intro | refine ⟨?_, ?_⟩) : ShN 60 _), ?_⟩ | refine ⟨(Nat.le_of_ble_eq_true rfl : (_ : Nat) ≤ big), ?_⟩ | refine ⟨(by repeat (first | exact True.intro | refine ⟨True.intro, ?_⟩) : NRL _), Nat.le_of_ble_eq_true rfl, ?_⟩ | refine ⟨(⟨by omega, by omega, by decide⟩ : (0 : Int) ≤ _ ∧ _ ≤ _ ∧ Int.natAbs _ < _), ?_⟩); (try conv => whnf); (repeat ((first | with_reducible refine ifB_f ?_ | with_reducible refine ifB_t ?_ | with_reducible refine ifB_nt ?_ | with_reducible refine ifB_nf ?_); (repeat first | refine ⟨_, rfl, ?_⟩ | refine ⟨MulOk.r ⟨by omega, by omega⟩, ?_⟩ | refine ⟨MulOk.l ⟨by omega, by omega⟩, ?_⟩ | refine ⟨DivOk.of (by omega) (by omega), ?_⟩ | refine ⟨(by omega : (0 : Int) < _), ?_⟩ | refine ⟨True.intro, ?_⟩ | refine ⟨rfl, ?_⟩ | refine ⟨(by repeat' (first | exact True.intro | refine ⟨?_, ?_⟩) : ShN 60 _), ?_⟩ | refine ⟨(Nat.le_of_ble_eq_true rfl : (_ : Nat) ≤ big), ?_⟩ | refine ⟨(by repeat (first | exact True.intro | refine ⟨True.intro, ?_⟩) : NRL _), Nat.le_of_ble_eq_true rfl, ?_⟩ | refine ⟨(⟨by omega, by omega, by decide⟩ : (0 : Int) ≤ _ ∧ _ ≤ _ ∧ Int.natAbs _ < _), ?_⟩); (try conv => whnf))))
        refine ⟨.int (ch k (i + 1) : Nat), ?_, ?_⟩
        · have e0 : (0 + (i : Int) * 1 + 1) = ((i + 1 : Nat) : Int) := by omega
          rw [e0]
          exact atI_nat (tab_get (f := fun i => D.int (ch k i : Nat)) (by omega))
        · exact h
    · rw [el]
      have ef : (List.range k).filter (fun _ => true) = List.range k := List.filter_eq_self.mpr fun _ _ => rfl
      rw [ef]
      ((repeat first | refine ⟨_, rfl, ?_⟩ | refine ⟨MulOk.r ⟨by omega, by omega⟩, ?_⟩ | refine ⟨MulOk.l ⟨by omega, by omega⟩, ?_⟩ | refine ⟨DivOk.of (by omega) (by omega), ?_⟩ | refine ⟨(by omega : (0 : Int) < _), ?_⟩ | refine ⟨True.intro, ?_⟩ | refine ⟨rfl, ?_⟩ | refine ⟨(by repeat' (first | exact True.intro | refine ⟨?_, ?_⟩) : ShN 60 _), ?_⟩ | refine ⟨(Nat.le_of_ble_eq_true rfl : (_ : Nat) ≤ big), ?_⟩ | refine ⟨(by repeat (first | exact True.intro | refine ⟨True.intro, ?_⟩) : NRL _), Nat.le_of_ble_eq_true rfl, ?_⟩ | refine ⟨(⟨by omega, by omega, by decide⟩ : (0 : Int) ≤ _ ∧ _ ≤ _ ∧ Int.natAbs _ < _), ?_⟩); (try conv => whnf); (repeat ((first | with_reducible refine ifB_f ?_ | with_reducible refine ifB_t ?_ | with_reducible refine ifB_nt ?_ | with_reducible refine ifB_nf ?_); (repeat first | refine ⟨_, rfl, ?_⟩ | refine ⟨MulOk.r ⟨by omega, by omega⟩, ?_⟩ | refine ⟨MulOk.l ⟨by omega, by omega⟩, ?_⟩ | refine ⟨DivOk.of (by omega) (by omega), ?_⟩ | refine ⟨(by omega : (0 : Int) < _), ?_⟩ | refine ⟨True.intro, ?_⟩ | refine ⟨rfl, ?_⟩ | refine ⟨(by repeat' (first | exact True.intro | refine ⟨?_, ?_⟩) : ShN 60 _), ?_⟩ | refine ⟨(Nat.le_of_ble_eq_true rfl : (_ : Nat) ≤ big), ?_⟩ | refine ⟨(by repeat (first | exact True.intro | refine ⟨True.intro, ?_⟩) : NRL _), Nat.le_of_ble_eq_true rfl, ?_⟩ | refine ⟨(⟨by omega, by omega, by decide⟩ : (0 : Int) ≤ _ ∧ _ ≤ _ ∧ Int.natAbs _ < _), ?_⟩); (try conv => whnf))))
      refine ⟨?_, ?_⟩
      · simp [big]
        omega
      ((repeat first | refine ⟨_, rfl, ?_⟩ | refine ⟨MulOk.r ⟨by omega, by omega⟩, ?_⟩ | refine ⟨MulOk.l ⟨by omega, by omega⟩, ?_⟩ | refine ⟨DivOk.of (by omega) (by omega), ?_⟩ | refine ⟨(by omega : (0 : Int) < _), ?_⟩ | refine ⟨True.intro, ?_⟩ | refine ⟨rfl, ?_⟩ | refine ⟨(by repeat' (first | exact True.intro | refine ⟨?_, ?_⟩) : ShN 60 _), ?_⟩ | refine ⟨(Nat.le_of_ble_eq_true rfl : (_ : Nat) ≤ big), ?_⟩ | refine ⟨(by repeat (first | exact True.intro | refine ⟨True.intro, ?_⟩) : NRL _), Nat.le_of_ble_eq_true rfl, ?_⟩ | refine ⟨(⟨by omega, by omega, by decide⟩ : (0 : Int) ≤ _ ∧ _ ≤ _ ∧ Int.natAbs _ < _), ?_⟩); (try conv => whnf); (repeat ((first | with_reducible refine ifB_f ?_ | with_reducible refine ifB_t ?_ | with_reducible refine ifB_nt ?_ | with_reducible refine ifB_nf ?_); (repeat first | refine ⟨_, rfl, ?_⟩ | refine ⟨MulOk.r ⟨by omega, by omega⟩, ?_⟩ | refine ⟨MulOk.l ⟨by omega, by omega⟩, ?_⟩ | refine ⟨DivOk.of (by omega) (by omega), ?_⟩ | refine ⟨(by omega : (0 : Int) < _), ?_⟩ | refine ⟨True.intro, ?_⟩ | refine ⟨rfl, ?_⟩ | refine ⟨(by repeat' (first | exact True.intro | refine ⟨?_, ?_⟩) : ShN 60 _), ?_⟩ | refine ⟨(Nat.le_of_ble_eq_true rfl : (_ : Nat) ≤ big), ?_⟩ | refine ⟨(by repeat (first | exact True.intro | refine ⟨True.intro, ?_⟩) : NRL _), Nat.le_of_ble_eq_true rfl, ?_⟩ | refine ⟨(⟨by omega, by omega, by decide⟩ : (0 : Int) ≤ _ ∧ _ ≤ _ ∧ Int.natAbs _ < _), ?_⟩); (try conv => whnf))))
      refine ⟨?_, ?_⟩
      · simp [big]
        omega
      ((repeat first | refine ⟨_, rfl, ?_⟩ | refine ⟨MulOk.r ⟨by omega, by omega⟩, ?_⟩ | refine ⟨MulOk.l ⟨by omega, by omega⟩, ?_⟩ | refine ⟨DivOk.of (by omega) (by omega), ?_⟩ | refine ⟨(by omega : (0 : Int) < _), ?_⟩ | refine ⟨True.intro, ?_⟩ | refine ⟨rfl, ?_⟩ | refine ⟨(by repeat' (first | exact True.intro | refine ⟨?_, ?_⟩) : ShN 60 _), ?_⟩ | refine ⟨(Nat.le_of_ble_eq_true rfl : (_ : Nat) ≤ big), ?_⟩ | refine ⟨(by repeat (first | exact True.intro | refine ⟨True.intro, ?_⟩) : NRL _), Nat.le_of_ble_eq_true rfl, ?_⟩ | refine ⟨(⟨by omega, by omega, by decide⟩ : (0 : Int) ≤ _ ∧ _ ≤ _ ∧ Int.natAbs _ < _), ?_⟩); (try conv => whnf); (repeat ((first | with_reducible refine ifB_f ?_ | with_reducible refine ifB_t ?_ | with_reducible refine ifB_nt ?_ | with_reducible refine ifB_nf ?_); (repeat first | refine ⟨_, rfl, ?_⟩ | refine ⟨MulOk.r ⟨by omega, by omega⟩, ?_⟩ | refine ⟨MulOk.l ⟨by omega, by omega⟩, ?_⟩ | refine ⟨DivOk.of (by omega) (by omega), ?_⟩ | refine ⟨(by omega : (0 : Int) < _), ?_⟩ | refine ⟨True.intro, ?_⟩ | refine ⟨rfl, ?_⟩ | refine ⟨(by repeat' (first | exact True.intro | refine ⟨?_, ?_⟩) : ShN 60 _), ?_⟩ | refine ⟨(Nat.le_of_ble_eq_true rfl : (_ : Nat) ≤ big), ?_⟩ | refine ⟨(by repeat (first | exact True.intro | refine ⟨True.intro, ?_⟩) : NRL _), Nat.le_of_ble_eq_true rfl, ?_⟩ | refine ⟨(⟨by omega, by omega, by decide⟩ : (0 : Int) ≤ _ ∧ _ ≤ _ ∧ Int.natAbs _ < _), ?_⟩); (try conv => whnf))))
      refine ⟨⟨?_, True.intro⟩, ?_⟩
      · rw [tri, List.length_map, List.length_range]
        show _ < 16777216
        omega
      · refine hN _ _ ⟨_, _, rfl, ?_⟩
        rw [tri_succ, row_succ]
        rfl
  · rintro e s ⟨x, y, rfl, rfl⟩
    ((repeat first | refine ⟨_, rfl, ?_⟩ | refine ⟨MulOk.r ⟨by omega, by omega⟩, ?_⟩ | refine ⟨MulOk.l ⟨by omega, by omega⟩, ?_⟩ | refine ⟨DivOk.of (by omega) (by omega), ?_⟩ | refine ⟨(by omega : (0 : Int) < _), ?_⟩ | refine ⟨True.intro, ?_⟩ | refine ⟨rfl, ?_⟩ | refine ⟨(by repeat' (first | exact True.intro | refine ⟨?_, ?_⟩) : ShN 60 _), ?_⟩ | refine ⟨(Nat.le_of_ble_eq_true rfl : (_ : Nat) ≤ big), ?_⟩ | refine ⟨(by repeat (first | exact True.intro | refine ⟨True.intro, ?_⟩) : NRL _), Nat.le_of_ble_eq_true rfl, ?_⟩ | refine ⟨(⟨by omega, by omega, by decide⟩ : (0 : Int) ≤ _ ∧ _ ≤ _ ∧ Int.natAbs _ < _), ?_⟩); (try conv => whnf); (repeat ((first | with_reducible refine ifB_f ?_ | with_reducible refine ifB_t ?_ | with_reducible refine ifB_nt ?_ | with_reducible refine ifB_nf ?_); (repeat first | refine ⟨_, rfl, ?_⟩ | refine ⟨MulOk.r ⟨by omega, by omega⟩, ?_⟩ | refine ⟨MulOk.l ⟨by omega, by omega⟩, ?_⟩ | refine ⟨DivOk.of (by omega) (by omega), ?_⟩ | refine ⟨(by omega : (0 : Int) < _), ?_⟩ | refine ⟨True.intro, ?_⟩ | refine ⟨rfl, ?_⟩ | refine ⟨(by repeat' (first | exact True.intro | refine ⟨?_, ?_⟩) : ShN 60 _), ?_⟩ | refine ⟨(Nat.le_of_ble_eq_true rfl : (_ : Nat) ≤ big), ?_⟩ | refine ⟨(by repeat (first | exact True.intro | refine ⟨True.intro, ?_⟩) : NRL _), Nat.le_of_ble_eq_true rfl, ?_⟩ | refine ⟨(⟨by omega, by omega, by decide⟩ : (0 : Int) ≤ _ ∧ _ ≤ _ ∧ Int.natAbs _ < _), ?_⟩); (try conv => whnf))))
    exact .inl ⟨True.intro, hQ⟩

theorem rd__law_hand (ds : List D) (so : Sto) (Q : WK) (h : p__law_hand ds so Q) : w__law_hand (endK so.length Q) (startM 3 ds) so := by
  obtain ⟨ns, hl, rfl, rfl, hQ⟩ := h
  ((repeat first | refine ⟨_, rfl, ?_⟩ | refine ⟨MulOk.r ⟨by omega, by omega⟩, ?_⟩ | refine ⟨MulOk.l ⟨by omega, by omega⟩, ?_⟩ | refine ⟨DivOk.of (by omega) (by omega), ?_⟩ | refine ⟨(by omega : (0 : Int) < _), ?_⟩ | refine ⟨True.intro, ?_⟩ | refine ⟨rfl, ?_⟩ | refine ⟨(by repeat' (first | exact True.intro | refine ⟨?_, ?_⟩) : ShN 60 _), ?_⟩ | refine ⟨(Nat.le_of_ble_eq_true rfl : (_ : Nat) ≤ big), ?_⟩ | refine ⟨(by repeat (first | exact True.intro | refine ⟨True.intro, ?_⟩) : NRL _), Nat.le_of_ble_eq_true rfl, ?_⟩ | refine ⟨(⟨by omega, by omega, by decide⟩ : (0 : Int) ≤ _ ∧ _ ≤ _ ∧ Int.natAbs _ < _), ?_⟩); (try conv => whnf); (repeat ((first | with_reducible refine ifB_f ?_ | with_reducible refine ifB_t ?_ | with_reducible refine ifB_nt ?_ | with_reducible refine ifB_nf ?_); (repeat first | refine ⟨_, rfl, ?_⟩ | refine ⟨MulOk.r ⟨by omega, by omega⟩, ?_⟩ | refine ⟨MulOk.l ⟨by omega, by omega⟩, ?_⟩ | refine ⟨DivOk.of (by omega) (by omega), ?_⟩ | refine ⟨(by omega : (0 : Int) < _), ?_⟩ | refine ⟨True.intro, ?_⟩ | refine ⟨rfl, ?_⟩ | refine ⟨(by repeat' (first | exact True.intro | refine ⟨?_, ?_⟩) : ShN 60 _), ?_⟩ | refine ⟨(Nat.le_of_ble_eq_true rfl : (_ : Nat) ≤ big), ?_⟩ | refine ⟨(by repeat (first | exact True.intro | refine ⟨True.intro, ?_⟩) : NRL _), Nat.le_of_ble_eq_true rfl, ?_⟩ | refine ⟨(⟨by omega, by omega, by decide⟩ : (0 : Int) ≤ _ ∧ _ ≤ _ ∧ Int.natAbs _ < _), ?_⟩); (try conv => whnf))))
  obtain ⟨ms, e1, e2⟩ := cut_map (ms := ns) (lo := none) (hi := some 63)
  rw [e1]
  refine lc_map (fun _ => true) (fun i : Int => .int (if i < 0 then -i else i)) ?_ (fun _ _ => True.intro) ?_ ?_
  · show 0 + ms.length ≤ _
    omega
  · intro i hi A B h
    rw [ifB_pos rfl] at h
    ((repeat first | refine ⟨_, rfl, ?_⟩ | refine ⟨MulOk.r ⟨by omega, by omega⟩, ?_⟩ | refine ⟨MulOk.l ⟨by omega, by omega⟩, ?_⟩ | refine ⟨DivOk.of (by omega) (by omega), ?_⟩ | refine ⟨(by omega : (0 : Int) < _), ?_⟩ | refine ⟨True.intro, ?_⟩ | refine ⟨rfl, ?_⟩ | refine ⟨(by repeat' (first | exact True.intro | refine ⟨?_, ?_⟩) : ShN 60 _), ?_⟩ | refine ⟨(Nat.le_of_ble_eq_true rfl : (_ : Nat) ≤ big), ?_⟩ | refine ⟨(by repeat (first | exact True.intro | refine ⟨True.intro, ?_⟩) : NRL _), Nat.le_of_ble_eq_true rfl, ?_⟩ | refine ⟨(⟨by omega, by omega, by decide⟩ : (0 : Int) ≤ _ ∧ _ ≤ _ ∧ Int.natAbs _ < _), ?_⟩); (try conv => whnf); (repeat ((first | with_reducible refine ifB_f ?_ | with_reducible refine ifB_t ?_ | with_reducible refine ifB_nt ?_ | with_reducible refine ifB_nf ?_); (repeat first | refine ⟨_, rfl, ?_⟩ | refine ⟨MulOk.r ⟨by omega, by omega⟩, ?_⟩ | refine ⟨MulOk.l ⟨by omega, by omega⟩, ?_⟩ | refine ⟨DivOk.of (by omega) (by omega), ?_⟩ | refine ⟨(by omega : (0 : Int) < _), ?_⟩ | refine ⟨True.intro, ?_⟩ | refine ⟨rfl, ?_⟩ | refine ⟨(by repeat' (first | exact True.intro | refine ⟨?_, ?_⟩) : ShN 60 _), ?_⟩ | refine ⟨(Nat.le_of_ble_eq_true rfl : (_ : Nat) ≤ big), ?_⟩ | refine ⟨(by repeat (first | exact True.intro | refine ⟨True.intro, ?_⟩) : NRL _), Nat.le_of_ble_eq_true rfl, ?_⟩ | refine ⟨(⟨by omega, by omega, by decide⟩ : (0 : Int) ≤ _ ∧ _ ≤ _ ∧ Int.natAbs _ < _), ?_⟩); (try conv => whnf))))
    exact h
  · have ef : ms.filter (fun _ => true) = ms := List.filter_eq_self.mpr fun _ _ => rfl
    have em : (ms.map fun i : Int => D.int (if i < 0 then -i else i)) = (ms.map fun i : Int => if i < 0 then -i else i).map .int := by rw [List.map_map]; rfl
    rw [ef, em]
    ((repeat first | refine ⟨_, rfl, ?_⟩ | refine ⟨MulOk.r ⟨by omega, by omega⟩, ?_⟩ | refine ⟨MulOk.l ⟨by omega, by omega⟩, ?_⟩ | refine ⟨DivOk.of (by omega) (by omega), ?_⟩ | refine ⟨(by omega : (0 : Int) < _), ?_⟩ | refine ⟨True.intro, ?_⟩ | refine ⟨rfl, ?_⟩ | refine ⟨(by repeat' (first | exact True.intro | refine ⟨?_, ?_⟩) : ShN 60 _), ?_⟩ | refine ⟨(Nat.le_of_ble_eq_true rfl : (_ : Nat) ≤ big), ?_⟩ | refine ⟨(by repeat (first | exact True.intro | refine ⟨True.intro, ?_⟩) : NRL _), Nat.le_of_ble_eq_true rfl, ?_⟩ | refine ⟨(⟨by omega, by omega, by decide⟩ : (0 : Int) ≤ _ ∧ _ ≤ _ ∧ Int.natAbs _ < _), ?_⟩); (try conv => whnf); (repeat ((first | with_reducible refine ifB_f ?_ | with_reducible refine ifB_t ?_ | with_reducible refine ifB_nt ?_ | with_reducible refine ifB_nf ?_); (repeat first | refine ⟨_, rfl, ?_⟩ | refine ⟨MulOk.r ⟨by omega, by omega⟩, ?_⟩ | refine ⟨MulOk.l ⟨by omega, by omega⟩, ?_⟩ | refine ⟨DivOk.of (by omega) (by omega), ?_⟩ | refine ⟨(by omega : (0 : Int) < _), ?_⟩ | refine ⟨True.intro, ?_⟩ | refine ⟨rfl, ?_⟩ | refine ⟨(by repeat' (first | exact True.intro | refine ⟨?_, ?_⟩) : ShN 60 _), ?_⟩ | refine ⟨(Nat.le_of_ble_eq_true rfl : (_ : Nat) ≤ big), ?_⟩ | refine ⟨(by repeat (first | exact True.intro | refine ⟨True.intro, ?_⟩) : NRL _), Nat.le_of_ble_eq_true rfl, ?_⟩ | refine ⟨(⟨by omega, by omega, by decide⟩ : (0 : Int) ≤ _ ∧ _ ≤ _ ∧ Int.natAbs _ < _), ?_⟩); (try conv => whnf))))
    exact .inr (hQ _ ⟨_, _, _, _, _, rfl, Int.le_refl 0⟩)
theorem rd__law_draw (ds : List D) (so : Sto) (Q : WK) (h : p__law_draw ds so Q) : w__law_draw (endK so.length Q) (startM 5 ds) so := by
  obtain ⟨m, o, rfl, rfl, ⟨cells, i, b, s, c, rfl, hi⟩, ⟨m0, m1⟩, hQ⟩ := h
  refine seq_mid (fun env st => ∃ x o, env = [some (.ref 0), some (.int m), none, x, none] ∧ st = [some o] ∧ Hand o) ?_ ?_
  · rintro env st ⟨x, o, rfl, rfl, cells, i, b, s, c, rfl, hi⟩
    ((repeat first | refine ⟨_, rfl, ?_⟩ | refine ⟨MulOk.r ⟨by omega, by omega⟩, ?_⟩ | refine ⟨MulOk.l ⟨by omega, by omega⟩, ?_⟩ | refine ⟨DivOk.of (by omega) (by omega), ?_⟩ | refine ⟨(by omega : (0 : Int) < _), ?_⟩ | refine ⟨True.intro, ?_⟩ | refine ⟨rfl, ?_⟩ | refine ⟨(by repeat' (first | exact True.intro | refine ⟨?_, ?_⟩) : ShN 60 _), ?_⟩ | refine ⟨(Nat.le_of_ble_eq_true rfl : (_ : Nat) ≤ big), ?_⟩ | refine ⟨(by repeat (first | exact True.intro | refine ⟨True.intro, ?_⟩) : NRL _), Nat.le_of_ble_eq_true rfl, ?_⟩ | refine ⟨(⟨by omega, by omega, by decide⟩ : (0 : Int) ≤ _ ∧ _ ≤ _ ∧ Int.natAbs _ < _), ?_⟩); (try conv => whnf); (repeat ((first | with_reducible refine ifB_f ?_ | with_reducible refine ifB_t ?_ | with_reducible refine ifB_nt ?_ | with_reducible refine ifB_nf ?_); (repeat first | refine ⟨_, rfl, ?_⟩ | refine ⟨MulOk.r ⟨by omega, by omega⟩, ?_⟩ | refine ⟨MulOk.l ⟨by omega, by omega⟩, ?_⟩ | refine ⟨DivOk.of (by omega) (by omega), ?_⟩ | refine ⟨(by omega : (0 : Int) < _), ?_⟩ | refine ⟨True.intro, ?_⟩ | refine ⟨rfl, ?_⟩ | refine ⟨(by repeat' (first | exact True.intro | refine ⟨?_, ?_⟩) : ShN 60 _), ?_⟩ | refine ⟨(Nat.le_of_ble_eq_true rfl : (_ : Nat) ≤ big), ?_⟩ | refine ⟨(by repeat (first | exact True.intro | refine ⟨True.intro, ?_⟩) : NRL _), Nat.le_of_ble_eq_true rfl, ?_⟩ | refine ⟨(⟨by omega, by omega, by decide⟩ : (0 : Int) ≤ _ ∧ _ ≤ _ ∧ Int.natAbs _ < _), ?_⟩); (try conv => whnf))))
    refine ifB.of (fun h => ?_) (fun h => ?_)
    · ((repeat first | refine ⟨_, rfl, ?_⟩ | refine ⟨MulOk.r ⟨by omega, by omega⟩, ?_⟩ | refine ⟨MulOk.l ⟨by omega, by omega⟩, ?_⟩ | refine ⟨DivOk.of (by omega) (by omega), ?_⟩ | refine ⟨(by omega : (0 : Int) < _), ?_⟩ | refine ⟨True.intro, ?_⟩ | refine ⟨rfl, ?_⟩ | refine ⟨(by repeat' (first | exact True.intro | refine ⟨?_, ?_⟩) : ShN 60 _), ?_⟩ | refine ⟨(Nat.le_of_ble_eq_true rfl : (_ : Nat) ≤ big), ?_⟩ | refine ⟨(by repeat (first | exact True.intro | refine ⟨True.intro, ?_⟩) : NRL _), Nat.le_of_ble_eq_true rfl, ?_⟩ | refine ⟨(⟨by omega, by omega, by decide⟩ : (0 : Int) ≤ _ ∧ _ ≤ _ ∧ Int.natAbs _ < _), ?_⟩); (try conv => whnf); (repeat ((first | with_reducible refine ifB_f ?_ | with_reducible refine ifB_t ?_ | with_reducible refine ifB_nt ?_ | with_reducible refine ifB_nf ?_); (repeat first | refine ⟨_, rfl, ?_⟩ | refine ⟨MulOk.r ⟨by omega, by omega⟩, ?_⟩ | refine ⟨MulOk.l ⟨by omega, by omega⟩, ?_⟩ | refine ⟨DivOk.of (by omega) (by omega), ?_⟩ | refine ⟨(by omega : (0 : Int) < _), ?_⟩ | refine ⟨True.intro, ?_⟩ | refine ⟨rfl, ?_⟩ | refine ⟨(by repeat' (first | exact True.intro | refine ⟨?_, ?_⟩) : ShN 60 _), ?_⟩ | refine ⟨(Nat.le_of_ble_eq_true rfl : (_ : Nat) ≤ big), ?_⟩ | refine ⟨(by repeat (first | exact True.intro | refine ⟨True.intro, ?_⟩) : NRL _), Nat.le_of_ble_eq_true rfl, ?_⟩ | refine ⟨(⟨by omega, by omega, by decide⟩ : (0 : Int) ≤ _ ∧ _ ≤ _ ∧ Int.natAbs _ < _), ?_⟩); (try conv => whnf))))
      refine .inl ⟨trivial, hQ _ _ (Int.emod_nonneg _ (by omega)) (Int.emod_lt_of_pos _ m0) ⟨cells, i, _, s, c, rfl, hi⟩⟩
    · ((repeat first | refine ⟨_, rfl, ?_⟩ | refine ⟨MulOk.r ⟨by omega, by omega⟩, ?_⟩ | refine ⟨MulOk.l ⟨by omega, by omega⟩, ?_⟩ | refine ⟨DivOk.of (by omega) (by omega), ?_⟩ | refine ⟨(by omega : (0 : Int) < _), ?_⟩ | refine ⟨True.intro, ?_⟩ | refine ⟨rfl, ?_⟩ | refine ⟨(by repeat' (first | exact True.intro | refine ⟨?_, ?_⟩) : ShN 60 _), ?_⟩ | refine ⟨(Nat.le_of_ble_eq_true rfl : (_ : Nat) ≤ big), ?_⟩ | refine ⟨(by repeat (first | exact True.intro | refine ⟨True.intro, ?_⟩) : NRL _), Nat.le_of_ble_eq_true rfl, ?_⟩ | refine ⟨(⟨by omega, by omega, by decide⟩ : (0 : Int) ≤ _ ∧ _ ≤ _ ∧ Int.natAbs _ < _), ?_⟩); (try conv => whnf); (repeat ((first | with_reducible refine ifB_f ?_ | with_reducible refine ifB_t ?_ | with_reducible refine ifB_nt ?_ | with_reducible refine ifB_nf ?_); (repeat first | refine ⟨_, rfl, ?_⟩ | refine ⟨MulOk.r ⟨by omega, by omega⟩, ?_⟩ | refine ⟨MulOk.l ⟨by omega, by omega⟩, ?_⟩ | refine ⟨DivOk.of (by omega) (by omega), ?_⟩ | refine ⟨(by omega : (0 : Int) < _), ?_⟩ | refine ⟨True.intro, ?_⟩ | refine ⟨rfl, ?_⟩ | refine ⟨(by repeat' (first | exact True.intro | refine ⟨?_, ?_⟩) : ShN 60 _), ?_⟩ | refine ⟨(Nat.le_of_ble_eq_true rfl : (_ : Nat) ≤ big), ?_⟩ | refine ⟨(by repeat (first | exact True.intro | refine ⟨True.intro, ?_⟩) : NRL _), Nat.le_of_ble_eq_true rfl, ?_⟩ | refine ⟨(⟨by omega, by omega, by decide⟩ : (0 : Int) ≤ _ ∧ _ ≤ _ ∧ Int.natAbs _ < _), ?_⟩); (try conv => whnf))))
      refine .inl ⟨trivial, hQ _ _ (Int.emod_nonneg _ (by omega)) (Int.emod_lt_of_pos _ m0) ⟨cells, i, _, s, _, rfl, hi⟩⟩
  · intro N hN
    ((repeat first | refine ⟨_, rfl, ?_⟩ | refine ⟨MulOk.r ⟨by omega, by omega⟩, ?_⟩ | refine ⟨MulOk.l ⟨by omega, by omega⟩, ?_⟩ | refine ⟨DivOk.of (by omega) (by omega), ?_⟩ | refine ⟨(by omega : (0 : Int) < _), ?_⟩ | refine ⟨True.intro, ?_⟩ | refine ⟨rfl, ?_⟩ | refine ⟨(by repeat' (first | exact True.intro | refine ⟨?_, ?_⟩) : ShN 60 _), ?_⟩ | refine ⟨(Nat.le_of_ble_eq_true rfl : (_ : Nat) ≤ big), ?_⟩ | refine ⟨(by repeat (first | exact True.intro | refine ⟨True.intro, ?_⟩) : NRL _), Nat.le_of_ble_eq_true rfl, ?_⟩ | refine ⟨(⟨by omega, by omega, by decide⟩ : (0 : Int) ≤ _ ∧ _ ≤ _ ∧ Int.natAbs _ < _), ?_⟩); (try conv => whnf); (repeat ((first | with_reducible refine ifB_f ?_ | with_reducible refine ifB_t ?_ | with_reducible refine ifB_nt ?_ | with_reducible refine ifB_nf ?_); (repeat first | refine ⟨_, rfl, ?_⟩ | refine ⟨MulOk.r ⟨by omega, by omega⟩, ?_⟩ | refine ⟨MulOk.l ⟨by omega, by omega⟩, ?_⟩ | refine ⟨DivOk.of (by omega) (by omega), ?_⟩ | refine ⟨(by omega : (0 : Int) < _), ?_⟩ | refine ⟨True.intro, ?_⟩ | refine ⟨rfl, ?_⟩ | refine ⟨(by repeat' (first | exact True.intro | refine ⟨?_, ?_⟩) : ShN 60 _), ?_⟩ | refine ⟨(Nat.le_of_ble_eq_true rfl : (_ : Nat) ≤ big), ?_⟩ | refine ⟨(by repeat (first | exact True.intro | refine ⟨True.intro, ?_⟩) : NRL _), Nat.le_of_ble_eq_true rfl, ?_⟩ | refine ⟨(⟨by omega, by omega, by decide⟩ : (0 : Int) ≤ _ ∧ _ ≤ _ ∧ Int.natAbs _ < _), ?_⟩); (try conv => whnf))))
    refine ifB.of (fun h => ?_) (fun h => ?_)
    · ((repeat first | refine ⟨_, rfl, ?_⟩ | refine ⟨MulOk.r ⟨by omega, by omega⟩, ?_⟩ | refine ⟨MulOk.l ⟨by omega, by omega⟩, ?_⟩ | refine ⟨DivOk.of (by omega) (by omega), ?_⟩ | refine ⟨(by omega : (0 : Int) < _), ?_⟩ | refine ⟨True.intro, ?_⟩ | refine ⟨rfl, ?_⟩ | refine ⟨(by repeat' (first | exact True.intro | refine ⟨?_, ?_⟩) : ShN 60 _), ?_⟩ | refine ⟨(Nat.le_of_ble_eq_true rfl : (_ : Nat) ≤ big), ?_⟩ | refine ⟨(by repeat (first | exact True.intro | refine ⟨True.intro, ?_⟩) : NRL _), Nat.le_of_ble_eq_true rfl, ?_⟩ | refine ⟨(⟨by omega, by omega, by decide⟩ : (0 : Int) ≤ _ ∧ _ ≤ _ ∧ Int.natAbs _ < _), ?_⟩); (try conv => whnf); (repeat ((first | with_reducible refine ifB_f ?_ | with_reducible refine ifB_t ?_ | with_reducible refine ifB_nt ?_ | with_reducible refine ifB_nf ?_); (repeat first | refine ⟨_, rfl, ?_⟩ | refine ⟨MulOk.r ⟨by omega, by omega⟩, ?_⟩ | refine ⟨MulOk.l ⟨by omega, by omega⟩, ?_⟩ | refine ⟨DivOk.of (by omega) (by omega), ?_⟩ | refine ⟨(by omega : (0 : Int) < _), ?_⟩ | refine ⟨True.intro, ?_⟩ | refine ⟨rfl, ?_⟩ | refine ⟨(by repeat' (first | exact True.intro | refine ⟨?_, ?_⟩) : ShN 60 _), ?_⟩ | refine ⟨(Nat.le_of_ble_eq_true rfl : (_ : Nat) ≤ big), ?_⟩ | refine ⟨(by repeat (first | exact True.intro | refine ⟨True.intro, ?_⟩) : NRL _), Nat.le_of_ble_eq_true rfl, ?_⟩ | refine ⟨(⟨by omega, by omega, by decide⟩ : (0 : Int) ≤ _ ∧ _ ≤ _ ∧ Int.natAbs _ < _), ?_⟩); (try conv => whnf))))
      refine ifB.of (fun h' => ?_) (fun h' => ?_)
      · obtain ⟨x, _, _, hx⟩ := atI_map (f := D.int) (xs := cells) hi (by simpa using dec_t h')
        ((repeat first | refine ⟨_, rfl, ?_⟩ | refine ⟨MulOk.r ⟨by omega, by omega⟩, ?_⟩ | refine ⟨MulOk.l ⟨by omega, by omega⟩, ?_⟩ | refine ⟨DivOk.of (by omega) (by omega), ?_⟩ | refine ⟨(by omega : (0 : Int) < _), ?_⟩ | refine ⟨True.intro, ?_⟩ | refine ⟨rfl, ?_⟩ | refine ⟨(by repeat' (first | exact True.intro | refine ⟨?_, ?_⟩) : ShN 60 _), ?_⟩ | refine ⟨(Nat.le_of_ble_eq_true rfl : (_ : Nat) ≤ big), ?_⟩ | refine ⟨(by repeat (first | exact True.intro | refine ⟨True.intro, ?_⟩) : NRL _), Nat.le_of_ble_eq_true rfl, ?_⟩ | refine ⟨(⟨by omega, by omega, by decide⟩ : (0 : Int) ≤ _ ∧ _ ≤ _ ∧ Int.natAbs _ < _), ?_⟩); (try conv => whnf); (repeat ((first | with_reducible refine ifB_f ?_ | with_reducible refine ifB_t ?_ | with_reducible refine ifB_nt ?_ | with_reducible refine ifB_nf ?_); (repeat first | refine ⟨_, rfl, ?_⟩ | refine ⟨MulOk.r ⟨by omega, by omega⟩, ?_⟩ | refine ⟨MulOk.l ⟨by omega, by omega⟩, ?_⟩ | refine ⟨DivOk.of (by omega) (by omega), ?_⟩ | refine ⟨(by omega : (0 : Int) < _), ?_⟩ | refine ⟨True.intro, ?_⟩ | refine ⟨rfl, ?_⟩ | refine ⟨(by repeat' (first | exact True.intro | refine ⟨?_, ?_⟩) : ShN 60 _), ?_⟩ | refine ⟨(Nat.le_of_ble_eq_true rfl : (_ : Nat) ≤ big), ?_⟩ | refine ⟨(by repeat (first | exact True.intro | refine ⟨True.intro, ?_⟩) : NRL _), Nat.le_of_ble_eq_true rfl, ?_⟩ | refine ⟨(⟨by omega, by omega, by decide⟩ : (0 : Int) ≤ _ ∧ _ ≤ _ ∧ Int.natAbs _ < _), ?_⟩); (try conv => whnf))))
        refine ⟨_, hx, ?_⟩
        ((repeat first | refine ⟨_, rfl, ?_⟩ | refine ⟨MulOk.r ⟨by omega, by omega⟩, ?_⟩ | refine ⟨MulOk.l ⟨by omega, by omega⟩, ?_⟩ | refine ⟨DivOk.of (by omega) (by omega), ?_⟩ | refine ⟨(by omega : (0 : Int) < _), ?_⟩ | refine ⟨True.intro, ?_⟩ | refine ⟨rfl, ?_⟩ | refine ⟨(by repeat' (first | exact True.intro | refine ⟨?_, ?_⟩) : ShN 60 _), ?_⟩ | refine ⟨(Nat.le_of_ble_eq_true rfl : (_ : Nat) ≤ big), ?_⟩ | refine ⟨(by repeat (first | exact True.intro | refine ⟨True.intro, ?_⟩) : NRL _), Nat.le_of_ble_eq_true rfl, ?_⟩ | refine ⟨(⟨by omega, by omega, by decide⟩ : (0 : Int) ≤ _ ∧ _ ≤ _ ∧ Int.natAbs _ < _), ?_⟩); (try conv => whnf); (repeat ((first | with_reducible refine ifB_f ?_ | with_reducible refine ifB_t ?_ | with_reducible refine ifB_nt ?_ | with_reducible refine ifB_nf ?_); (repeat first | refine ⟨_, rfl, ?_⟩ | refine ⟨MulOk.r ⟨by omega, by omega⟩, ?_⟩ | refine ⟨MulOk.l ⟨by omega, by omega⟩, ?_⟩ | refine ⟨DivOk.of (by omega) (by omega), ?_⟩ | refine ⟨(by omega : (0 : Int) < _), ?_⟩ | refine ⟨True.intro, ?_⟩ | refine ⟨rfl, ?_⟩ | refine ⟨(by repeat' (first | exact True.intro | refine ⟨?_, ?_⟩) : ShN 60 _), ?_⟩ | refine ⟨(Nat.le_of_ble_eq_true rfl : (_ : Nat) ≤ big), ?_⟩ | refine ⟨(by repeat (first | exact True.intro | refine ⟨True.intro, ?_⟩) : NRL _), Nat.le_of_ble_eq_true rfl, ?_⟩ | refine ⟨(⟨by omega, by omega, by decide⟩ : (0 : Int) ≤ _ ∧ _ ≤ _ ∧ Int.natAbs _ < _), ?_⟩); (try conv => whnf))))
        refine ifB.of (fun h' => ?_) (fun h' => ?_)
        · ((repeat first | refine ⟨_, rfl, ?_⟩ | refine ⟨MulOk.r ⟨by omega, by omega⟩, ?_⟩ | refine ⟨MulOk.l ⟨by omega, by omega⟩, ?_⟩ | refine ⟨DivOk.of (by omega) (by omega), ?_⟩ | refine ⟨(by omega : (0 : Int) < _), ?_⟩ | refine ⟨True.intro, ?_⟩ | refine ⟨rfl, ?_⟩ | refine ⟨(by repeat' (first | exact True.intro | refine ⟨?_, ?_⟩) : ShN 60 _), ?_⟩ | refine ⟨(Nat.le_of_ble_eq_true rfl : (_ : Nat) ≤ big), ?_⟩ | refine ⟨(by repeat (first | exact True.intro | refine ⟨True.intro, ?_⟩) : NRL _), Nat.le_of_ble_eq_true rfl, ?_⟩ | refine ⟨(⟨by omega, by omega, by decide⟩ : (0 : Int) ≤ _ ∧ _ ≤ _ ∧ Int.natAbs _ < _), ?_⟩); (try conv => whnf); (repeat ((first | with_reducible refine ifB_f ?_ | with_reducible refine ifB_t ?_ | with_reducible refine ifB_nt ?_ | with_reducible refine ifB_nf ?_); (repeat first | refine ⟨_, rfl, ?_⟩ | refine ⟨MulOk.r ⟨by omega, by omega⟩, ?_⟩ | refine ⟨MulOk.l ⟨by omega, by omega⟩, ?_⟩ | refine ⟨DivOk.of (by omega) (by omega), ?_⟩ | refine ⟨(by omega : (0 : Int) < _), ?_⟩ | refine ⟨True.intro, ?_⟩ | refine ⟨rfl, ?_⟩ | refine ⟨(by repeat' (first | exact True.intro | refine ⟨?_, ?_⟩) : ShN 60 _), ?_⟩ | refine ⟨(Nat.le_of_ble_eq_true rfl : (_ : Nat) ≤ big), ?_⟩ | refine ⟨(by repeat (first | exact True.intro | refine ⟨True.intro, ?_⟩) : NRL _), Nat.le_of_ble_eq_true rfl, ?_⟩ | refine ⟨(⟨by omega, by omega, by decide⟩ : (0 : Int) ≤ _ ∧ _ ≤ _ ∧ Int.natAbs _ < _), ?_⟩); (try conv => whnf))))
          exact hN _ _ ⟨_, _, rfl, rfl, _, _, _, _, _, rfl, by omega⟩
        · ((repeat first | refine ⟨_, rfl, ?_⟩ | refine ⟨MulOk.r ⟨by omega, by omega⟩, ?_⟩ | refine ⟨MulOk.l ⟨by omega, by omega⟩, ?_⟩ | refine ⟨DivOk.of (by omega) (by omega), ?_⟩ | refine ⟨(by omega : (0 : Int) < _), ?_⟩ | refine ⟨True.intro, ?_⟩ | refine ⟨rfl, ?_⟩ | refine ⟨(by repeat' (first | exact True.intro | refine ⟨?_, ?_⟩) : ShN 60 _), ?_⟩ | refine ⟨(Nat.le_of_ble_eq_true rfl : (_ : Nat) ≤ big), ?_⟩ | refine ⟨(by repeat (first | exact True.intro | refine ⟨True.intro, ?_⟩) : NRL _), Nat.le_of_ble_eq_true rfl, ?_⟩ | refine ⟨(⟨by omega, by omega, by decide⟩ : (0 : Int) ≤ _ ∧ _ ≤ _ ∧ Int.natAbs _ < _), ?_⟩); (try conv => whnf); (repeat ((first | with_reducible refine ifB_f ?_ | with_reducible refine ifB_t ?_ | with_reducible refine ifB_nt ?_ | with_reducible refine ifB_nf ?_); (repeat first | refine ⟨_, rfl, ?_⟩ | refine ⟨MulOk.r ⟨by omega, by omega⟩, ?_⟩ | refine ⟨MulOk.l ⟨by omega, by omega⟩, ?_⟩ | refine ⟨DivOk.of (by omega) (by omega), ?_⟩ | refine ⟨(by omega : (0 : Int) < _), ?_⟩ | refine ⟨True.intro, ?_⟩ | refine ⟨rfl, ?_⟩ | refine ⟨(by repeat' (first | exact True.intro | refine ⟨?_, ?_⟩) : ShN 60 _), ?_⟩ | refine ⟨(Nat.le_of_ble_eq_true rfl : (_ : Nat) ≤ big), ?_⟩ | refine ⟨(by repeat (first | exact True.intro | refine ⟨True.intro, ?_⟩) : NRL _), Nat.le_of_ble_eq_true rfl, ?_⟩ | refine ⟨(⟨by omega, by omega, by decide⟩ : (0 : Int) ≤ _ ∧ _ ≤ _ ∧ Int.natAbs _ < _), ?_⟩); (try conv => whnf))))
          exact hN _ _ ⟨_, _, rfl, rfl, _, _, _, _, _, rfl, by omega⟩
      · ((repeat first | refine ⟨_, rfl, ?_⟩ | refine ⟨MulOk.r ⟨by omega, by omega⟩, ?_⟩ | refine ⟨MulOk.l ⟨by omega, by omega⟩, ?_⟩ | refine ⟨DivOk.of (by omega) (by omega), ?_⟩ | refine ⟨(by omega : (0 : Int) < _), ?_⟩ | refine ⟨True.intro, ?_⟩ | refine ⟨rfl, ?_⟩ | refine ⟨(by repeat' (first | exact True.intro | refine ⟨?_, ?_⟩) : ShN 60 _), ?_⟩ | refine ⟨(Nat.le_of_ble_eq_true rfl : (_ : Nat) ≤ big), ?_⟩ | refine ⟨(by repeat (first | exact True.intro | refine ⟨True.intro, ?_⟩) : NRL _), Nat.le_of_ble_eq_true rfl, ?_⟩ | refine ⟨(⟨by omega, by omega, by decide⟩ : (0 : Int) ≤ _ ∧ _ ≤ _ ∧ Int.natAbs _ < _), ?_⟩); (try conv => whnf); (repeat ((first | with_reducible refine ifB_f ?_ | with_reducible refine ifB_t ?_ | with_reducible refine ifB_nt ?_ | with_reducible refine ifB_nf ?_); (repeat first | refine ⟨_, rfl, ?_⟩ | refine ⟨MulOk.r ⟨by omega, by omega⟩, ?_⟩ | refine ⟨MulOk.l ⟨by omega, by omega⟩, ?_⟩ | refine ⟨DivOk.of (by omega) (by omega), ?_⟩ | refine ⟨(by omega : (0 : Int) < _), ?_⟩ | refine ⟨True.intro, ?_⟩ | refine ⟨rfl, ?_⟩ | refine ⟨(by repeat' (first | exact True.intro | refine ⟨?_, ?_⟩) : ShN 60 _), ?_⟩ | refine ⟨(Nat.le_of_ble_eq_true rfl : (_ : Nat) ≤ big), ?_⟩ | refine ⟨(by repeat (first | exact True.intro | refine ⟨True.intro, ?_⟩) : NRL _), Nat.le_of_ble_eq_true rfl, ?_⟩ | refine ⟨(⟨by omega, by omega, by decide⟩ : (0 : Int) ≤ _ ∧ _ ≤ _ ∧ Int.natAbs _ < _), ?_⟩); (try conv => whnf))))
        exact hN _ _ ⟨_, _, rfl, rfl, _, _, _, _, _, rfl, hi⟩
    · ((repeat first | refine ⟨_, rfl, ?_⟩ | refine ⟨MulOk.r ⟨by omega, by omega⟩, ?_⟩ | refine ⟨MulOk.l ⟨by omega, by omega⟩, ?_⟩ | refine ⟨DivOk.of (by omega) (by omega), ?_⟩ | refine ⟨(by omega : (0 : Int) < _), ?_⟩ | refine ⟨True.intro, ?_⟩ | refine ⟨rfl, ?_⟩ | refine ⟨(by repeat' (first | exact True.intro | refine ⟨?_, ?_⟩) : ShN 60 _), ?_⟩ | refine ⟨(Nat.le_of_ble_eq_true rfl : (_ : Nat) ≤ big), ?_⟩ | refine ⟨(by repeat (first | exact True.intro | refine ⟨True.intro, ?_⟩) : NRL _), Nat.le_of_ble_eq_true rfl, ?_⟩ | refine ⟨(⟨by omega, by omega, by decide⟩ : (0 : Int) ≤ _ ∧ _ ≤ _ ∧ Int.natAbs _ < _), ?_⟩); (try conv => whnf); (repeat ((first | with_reducible refine ifB_f ?_ | with_reducible refine ifB_t ?_ | with_reducible refine ifB_nt ?_ | with_reducible refine ifB_nf ?_); (repeat first | refine ⟨_, rfl, ?_⟩ | refine ⟨MulOk.r ⟨by omega, by omega⟩, ?_⟩ | refine ⟨MulOk.l ⟨by omega, by omega⟩, ?_⟩ | refine ⟨DivOk.of (by omega) (by omega), ?_⟩ | refine ⟨(by omega : (0 : Int) < _), ?_⟩ | refine ⟨True.intro, ?_⟩ | refine ⟨rfl, ?_⟩ | refine ⟨(by repeat' (first | exact True.intro | refine ⟨?_, ?_⟩) : ShN 60 _), ?_⟩ | refine ⟨(Nat.le_of_ble_eq_true rfl : (_ : Nat) ≤ big), ?_⟩ | refine ⟨(by repeat (first | exact True.intro | refine ⟨True.intro, ?_⟩) : NRL _), Nat.le_of_ble_eq_true rfl, ?_⟩ | refine ⟨(⟨by omega, by omega, by decide⟩ : (0 : Int) ≤ _ ∧ _ ≤ _ ∧ Int.natAbs _ < _), ?_⟩); (try conv => whnf))))
      exact hN _ _ ⟨_, _, rfl, rfl, _, _, _, _, _, rfl, hi⟩
theorem rd__law_any (ds : List D) (so : Sto) (Q : WK) (h : p__law_any ds so Q) : w__law_any (endK so.length Q) (startM 2 ds) so := by
  obtain ⟨d, xs, o, rfl, hd, h0, h1, rfl, ho, hQ⟩ := h
  rcases hd with rfl | rfl
  all_goals
    ((repeat first | refine ⟨_, rfl, ?_⟩ | refine ⟨MulOk.r ⟨by omega, by omega⟩, ?_⟩ | refine ⟨MulOk.l ⟨by omega, by omega⟩, ?_⟩ | refine ⟨DivOk.of (by omega) (by omega), ?_⟩ | refine ⟨(by omega : (0 : Int) < _), ?_⟩ | refine ⟨True.intro, ?_⟩ | refine ⟨rfl, ?_⟩ | refine ⟨(by repeat' (first | exact True.intro | refine ⟨?_, ?_⟩) : ShN 60 _), ?_⟩ | refine ⟨(Nat.le_of_ble_eq_true rfl : (_ : Nat) ≤ big), ?_⟩ | refine ⟨(by repeat (first | exact True.intro | refine ⟨True.intro, ?_⟩) : NRL _), Nat.le_of_ble_eq_true rfl, ?_⟩ | refine ⟨(⟨by omega, by omega, by decide⟩ : (0 : Int) ≤ _ ∧ _ ≤ _ ∧ Int.natAbs _ < _), ?_⟩); (try conv => whnf); (repeat ((first | with_reducible refine ifB_f ?_ | with_reducible refine ifB_t ?_ | with_reducible refine ifB_nt ?_ | with_reducible refine ifB_nf ?_); (repeat first | refine ⟨_, rfl, ?_⟩ | refine ⟨MulOk.r ⟨by omega, by omega⟩, ?_⟩ | refine ⟨MulOk.l ⟨by omega, by omega⟩, ?_⟩ | refine ⟨DivOk.of (by omega) (by omega), ?_⟩ | refine ⟨(by omega : (0 : Int) < _), ?_⟩ | refine ⟨True.intro, ?_⟩ | refine ⟨rfl, ?_⟩ | refine ⟨(by repeat' (first | exact True.intro | refine ⟨?_, ?_⟩) : ShN 60 _), ?_⟩ | refine ⟨(Nat.le_of_ble_eq_true rfl : (_ : Nat) ≤ big), ?_⟩ | refine ⟨(by repeat (first | exact True.intro | refine ⟨True.intro, ?_⟩) : NRL _), Nat.le_of_ble_eq_true rfl, ?_⟩ | refine ⟨(⟨by omega, by omega, by decide⟩ : (0 : Int) ≤ _ ∧ _ ≤ _ ∧ Int.natAbs _ < _), ?_⟩); (try conv => whnf))))
    refine ⟨_, o, rfl, rfl, ho, ⟨by omega, by omega⟩, fun r o' r0 r1 ho' => ?_⟩
    ((repeat first | refine ⟨_, rfl, ?_⟩ | refine ⟨MulOk.r ⟨by omega, by omega⟩, ?_⟩ | refine ⟨MulOk.l ⟨by omega, by omega⟩, ?_⟩ | refine ⟨DivOk.of (by omega) (by omega), ?_⟩ | refine ⟨(by omega : (0 : Int) < _), ?_⟩ | refine ⟨True.intro, ?_⟩ | refine ⟨rfl, ?_⟩ | refine ⟨(by repeat' (first | exact True.intro | refine ⟨?_, ?_⟩) : ShN 60 _), ?_⟩ | refine ⟨(Nat.le_of_ble_eq_true rfl : (_ : Nat) ≤ big), ?_⟩ | refine ⟨(by repeat (first | exact True.intro | refine ⟨True.intro, ?_⟩) : NRL _), Nat.le_of_ble_eq_true rfl, ?_⟩ | refine ⟨(⟨by omega, by omega, by decide⟩ : (0 : Int) ≤ _ ∧ _ ≤ _ ∧ Int.natAbs _ < _), ?_⟩); (try conv => whnf); (repeat ((first | with_reducible refine ifB_f ?_ | with_reducible refine ifB_t ?_ | with_reducible refine ifB_nt ?_ | with_reducible refine ifB_nf ?_); (repeat first | refine ⟨_, rfl, ?_⟩ | refine ⟨MulOk.r ⟨by omega, by omega⟩, ?_⟩ | refine ⟨MulOk.l ⟨by omega, by omega⟩, ?_⟩ | refine ⟨DivOk.of (by omega) (by omega), ?_⟩ | refine ⟨(by omega : (0 : Int) < _), ?_⟩ | refine ⟨True.intro, ?_⟩ | refine ⟨rfl, ?_⟩ | refine ⟨(by repeat' (first | exact True.intro | refine ⟨?_, ?_⟩) : ShN 60 _), ?_⟩ | refine ⟨(Nat.le_of_ble_eq_true rfl : (_ : Nat) ≤ big), ?_⟩ | refine ⟨(by repeat (first | exact True.intro | refine ⟨True.intro, ?_⟩) : NRL _), Nat.le_of_ble_eq_true rfl, ?_⟩ | refine ⟨(⟨by omega, by omega, by decide⟩ : (0 : Int) ≤ _ ∧ _ ≤ _ ∧ Int.natAbs _ < _), ?_⟩); (try conv => whnf))))
    obtain ⟨x, hx, _, hx2⟩ := atI_map (f := id) r0 r1
    refine ⟨x, by simpa using hx2, ?_⟩
    exact .inr (hQ x o' hx ho')

theorem rd__law_often (ds : List D) (so : Sto) (Q : WK) (h : p__law_often ds so Q) : w__law_often (endK so.length Q) (startM 3 ds) so := by
  obtain ⟨m, p, rfl, rfl, hm, h2, h3, hQ⟩ := h
  ((repeat first | refine ⟨_, rfl, ?_⟩ | refine ⟨MulOk.r ⟨by omega, by omega⟩, ?_⟩ | refine ⟨MulOk.l ⟨by omega, by omega⟩, ?_⟩ | refine ⟨DivOk.of (by omega) (by omega), ?_⟩ | refine ⟨(by omega : (0 : Int) < _), ?_⟩ | refine ⟨True.intro, ?_⟩ | refine ⟨rfl, ?_⟩ | refine ⟨(by repeat' (first | exact True.intro | refine ⟨?_, ?_⟩) : ShN 60 _), ?_⟩ | refine ⟨(Nat.le_of_ble_eq_true rfl : (_ : Nat) ≤ big), ?_⟩ | refine ⟨(by repeat (first | exact True.intro | refine ⟨True.intro, ?_⟩) : NRL _), Nat.le_of_ble_eq_true rfl, ?_⟩ | refine ⟨(⟨by omega, by omega, by decide⟩ : (0 : Int) ≤ _ ∧ _ ≤ _ ∧ Int.natAbs _ < _), ?_⟩); (try conv => whnf); (repeat ((first | with_reducible refine ifB_f ?_ | with_reducible refine ifB_t ?_ | with_reducible refine ifB_nt ?_ | with_reducible refine ifB_nf ?_); (repeat first | refine ⟨_, rfl, ?_⟩ | refine ⟨MulOk.r ⟨by omega, by omega⟩, ?_⟩ | refine ⟨MulOk.l ⟨by omega, by omega⟩, ?_⟩ | refine ⟨DivOk.of (by omega) (by omega), ?_⟩ | refine ⟨(by omega : (0 : Int) < _), ?_⟩ | refine ⟨True.intro, ?_⟩ | refine ⟨rfl, ?_⟩ | refine ⟨(by repeat' (first | exact True.intro | refine ⟨?_, ?_⟩) : ShN 60 _), ?_⟩ | refine ⟨(Nat.le_of_ble_eq_true rfl : (_ : Nat) ≤ big), ?_⟩ | refine ⟨(by repeat (first | exact True.intro | refine ⟨True.intro, ?_⟩) : NRL _), Nat.le_of_ble_eq_true rfl, ?_⟩ | refine ⟨(⟨by omega, by omega, by decide⟩ : (0 : Int) ≤ _ ∧ _ ≤ _ ∧ Int.natAbs _ < _), ?_⟩); (try conv => whnf))))
  refine while_inv (fun k env st => ∃ a f : Nat, env = [some (.int a), some (.int p), some (.int f)] ∧ st = [] ∧ 0 < a ∧ f + val p a = val p m ∧ k = a) m ⟨m, 0, rfl, rfl, hm, by omega, rfl⟩ ?_
  rintro k env st ⟨a, f, rfl, rfl, ha, he, rfl⟩ N hN
  ((repeat first | refine ⟨_, rfl, ?_⟩ | refine ⟨MulOk.r ⟨by omega, by omega⟩, ?_⟩ | refine ⟨MulOk.l ⟨by omega, by omega⟩, ?_⟩ | refine ⟨DivOk.of (by omega) (by omega), ?_⟩ | refine ⟨(by omega : (0 : Int) < _), ?_⟩ | refine ⟨True.intro, ?_⟩ | refine ⟨rfl, ?_⟩ | refine ⟨(by repeat' (first | exact True.intro | refine ⟨?_, ?_⟩) : ShN 60 _), ?_⟩ | refine ⟨(Nat.le_of_ble_eq_true rfl : (_ : Nat) ≤ big), ?_⟩ | refine ⟨(by repeat (first | exact True.intro | refine ⟨True.intro, ?_⟩) : NRL _), Nat.le_of_ble_eq_true rfl, ?_⟩ | refine ⟨(⟨by omega, by omega, by decide⟩ : (0 : Int) ≤ _ ∧ _ ≤ _ ∧ Int.natAbs _ < _), ?_⟩); (try conv => whnf); (repeat ((first | with_reducible refine ifB_f ?_ | with_reducible refine ifB_t ?_ | with_reducible refine ifB_nt ?_ | with_reducible refine ifB_nf ?_); (repeat first | refine ⟨_, rfl, ?_⟩ | refine ⟨MulOk.r ⟨by omega, by omega⟩, ?_⟩ | refine ⟨MulOk.l ⟨by omega, by omega⟩, ?_⟩ | refine ⟨DivOk.of (by omega) (by omega), ?_⟩ | refine ⟨(by omega : (0 : Int) < _), ?_⟩ | refine ⟨True.intro, ?_⟩ | refine ⟨rfl, ?_⟩ | refine ⟨(by repeat' (first | exact True.intro | refine ⟨?_, ?_⟩) : ShN 60 _), ?_⟩ | refine ⟨(Nat.le_of_ble_eq_true rfl : (_ : Nat) ≤ big), ?_⟩ | refine ⟨(by repeat (first | exact True.intro | refine ⟨True.intro, ?_⟩) : NRL _), Nat.le_of_ble_eq_true rfl, ?_⟩ | refine ⟨(⟨by omega, by omega, by decide⟩ : (0 : Int) ≤ _ ∧ _ ≤ _ ∧ Int.natAbs _ < _), ?_⟩); (try conv => whnf))))
  refine ifB.of (fun h => ?_) (fun h => ?_)
  · have hz : ((k : Int) % (p : Int)) = 0 := dec_t h
    have hz' : k % p = 0 := by
      have : ((k % p : Nat) : Int) = 0 := hz
      omega
    have hq : 0 < k / p := Nat.div_pos (Nat.le_of_dvd ha (Nat.dvd_of_mod_eq_zero hz')) (by omega)
    ((repeat first | refine ⟨_, rfl, ?_⟩ | refine ⟨MulOk.r ⟨by omega, by omega⟩, ?_⟩ | refine ⟨MulOk.l ⟨by omega, by omega⟩, ?_⟩ | refine ⟨DivOk.of (by omega) (by omega), ?_⟩ | refine ⟨(by omega : (0 : Int) < _), ?_⟩ | refine ⟨True.intro, ?_⟩ | refine ⟨rfl, ?_⟩ | refine ⟨(by repeat' (first | exact True.intro | refine ⟨?_, ?_⟩) : ShN 60 _), ?_⟩ | refine ⟨(Nat.le_of_ble_eq_true rfl : (_ : Nat) ≤ big), ?_⟩ | refine ⟨(by repeat (first | exact True.intro | refine ⟨True.intro, ?_⟩) : NRL _), Nat.le_of_ble_eq_true rfl, ?_⟩ | refine ⟨(⟨by omega, by omega, by decide⟩ : (0 : Int) ≤ _ ∧ _ ≤ _ ∧ Int.natAbs _ < _), ?_⟩); (try conv => whnf); (repeat ((first | with_reducible refine ifB_f ?_ | with_reducible refine ifB_t ?_ | with_reducible refine ifB_nt ?_ | with_reducible refine ifB_nf ?_); (repeat first | refine ⟨_, rfl, ?_⟩ | refine ⟨MulOk.r ⟨by omega, by omega⟩, ?_⟩ | refine ⟨MulOk.l ⟨by omega, by omega⟩, ?_⟩ | refine ⟨DivOk.of (by omega) (by omega), ?_⟩ | refine ⟨(by omega : (0 : Int) < _), ?_⟩ | refine ⟨True.intro, ?_⟩ | refine ⟨rfl, ?_⟩ | refine ⟨(by repeat' (first | exact True.intro | refine ⟨?_, ?_⟩) : ShN 60 _), ?_⟩ | refine ⟨(Nat.le_of_ble_eq_true rfl : (_ : Nat) ≤ big), ?_⟩ | refine ⟨(by repeat (first | exact True.intro | refine ⟨True.intro, ?_⟩) : NRL _), Nat.le_of_ble_eq_true rfl, ?_⟩ | refine ⟨(⟨by omega, by omega, by decide⟩ : (0 : Int) ≤ _ ∧ _ ≤ _ ∧ Int.natAbs _ < _), ?_⟩); (try conv => whnf))))
    refine hN (k / p) (Nat.div_lt_self ha h2) _ _ ⟨k / p, f + 1, rfl, rfl, hq, ?_, rfl⟩
    rw [← he, val_y h2 ha hz']
    omega
  · have hz : ¬ ((k : Int) % (p : Int)) = 0 := dec_f h
    have hz' : k % p ≠ 0 := by
      intro z
      apply hz
      show ((k % p : Nat) : Int) = 0
      omega
    rw [val_n hz'] at he
    have e : f = val p m := he
    subst e
    ((repeat first | refine ⟨_, rfl, ?_⟩ | refine ⟨MulOk.r ⟨by omega, by omega⟩, ?_⟩ | refine ⟨MulOk.l ⟨by omega, by omega⟩, ?_⟩ | refine ⟨DivOk.of (by omega) (by omega), ?_⟩ | refine ⟨(by omega : (0 : Int) < _), ?_⟩ | refine ⟨True.intro, ?_⟩ | refine ⟨rfl, ?_⟩ | refine ⟨(by repeat' (first | exact True.intro | refine ⟨?_, ?_⟩) : ShN 60 _), ?_⟩ | refine ⟨(Nat.le_of_ble_eq_true rfl : (_ : Nat) ≤ big), ?_⟩ | refine ⟨(by repeat (first | exact True.intro | refine ⟨True.intro, ?_⟩) : NRL _), Nat.le_of_ble_eq_true rfl, ?_⟩ | refine ⟨(⟨by omega, by omega, by decide⟩ : (0 : Int) ≤ _ ∧ _ ≤ _ ∧ Int.natAbs _ < _), ?_⟩); (try conv => whnf); (repeat ((first | with_reducible refine ifB_f ?_ | with_reducible refine ifB_t ?_ | with_reducible refine ifB_nt ?_ | with_reducible refine ifB_nf ?_); (repeat first | refine ⟨_, rfl, ?_⟩ | refine ⟨MulOk.r ⟨by omega, by omega⟩, ?_⟩ | refine ⟨MulOk.l ⟨by omega, by omega⟩, ?_⟩ | refine ⟨DivOk.of (by omega) (by omega), ?_⟩ | refine ⟨(by omega : (0 : Int) < _), ?_⟩ | refine ⟨True.intro, ?_⟩ | refine ⟨rfl, ?_⟩ | refine ⟨(by repeat' (first | exact True.intro | refine ⟨?_, ?_⟩) : ShN 60 _), ?_⟩ | refine ⟨(Nat.le_of_ble_eq_true rfl : (_ : Nat) ≤ big), ?_⟩ | refine ⟨(by repeat (first | exact True.intro | refine ⟨True.intro, ?_⟩) : NRL _), Nat.le_of_ble_eq_true rfl, ?_⟩ | refine ⟨(⟨by omega, by omega, by decide⟩ : (0 : Int) ≤ _ ∧ _ ≤ _ ∧ Int.natAbs _ < _), ?_⟩); (try conv => whnf))))
    exact .inl ⟨True.intro, hQ⟩
theorem rd__law_carried (ds : List D) (so : Sto) (Q : WK) (h : p__law_carried ds so Q) : w__law_carried (endK so.length Q) (startM 5 ds) so := by
  obtain ⟨A, B, p, rfl, rfl, h2, h3, hQ⟩ := h
  ((repeat first | refine ⟨_, rfl, ?_⟩ | refine ⟨MulOk.r ⟨by omega, by omega⟩, ?_⟩ | refine ⟨MulOk.l ⟨by omega, by omega⟩, ?_⟩ | refine ⟨DivOk.of (by omega) (by omega), ?_⟩ | refine ⟨(by omega : (0 : Int) < _), ?_⟩ | refine ⟨True.intro, ?_⟩ | refine ⟨rfl, ?_⟩ | refine ⟨(by repeat' (first | exact True.intro | refine ⟨?_, ?_⟩) : ShN 60 _), ?_⟩ | refine ⟨(Nat.le_of_ble_eq_true rfl : (_ : Nat) ≤ big), ?_⟩ | refine ⟨(by repeat (first | exact True.intro | refine ⟨True.intro, ?_⟩) : NRL _), Nat.le_of_ble_eq_true rfl, ?_⟩ | refine ⟨(⟨by omega, by omega, by decide⟩ : (0 : Int) ≤ _ ∧ _ ≤ _ ∧ Int.natAbs _ < _), ?_⟩); (try conv => whnf); (repeat ((first | with_reducible refine ifB_f ?_ | with_reducible refine ifB_t ?_ | with_reducible refine ifB_nt ?_ | with_reducible refine ifB_nf ?_); (repeat first | refine ⟨_, rfl, ?_⟩ | refine ⟨MulOk.r ⟨by omega, by omega⟩, ?_⟩ | refine ⟨MulOk.l ⟨by omega, by omega⟩, ?_⟩ | refine ⟨DivOk.of (by omega) (by omega), ?_⟩ | refine ⟨(by omega : (0 : Int) < _), ?_⟩ | refine ⟨True.intro, ?_⟩ | refine ⟨rfl, ?_⟩ | refine ⟨(by repeat' (first | exact True.intro | refine ⟨?_, ?_⟩) : ShN 60 _), ?_⟩ | refine ⟨(Nat.le_of_ble_eq_true rfl : (_ : Nat) ≤ big), ?_⟩ | refine ⟨(by repeat (first | exact True.intro | refine ⟨True.intro, ?_⟩) : NRL _), Nat.le_of_ble_eq_true rfl, ?_⟩ | refine ⟨(⟨by omega, by omega, by decide⟩ : (0 : Int) ≤ _ ∧ _ ≤ _ ∧ Int.natAbs _ < _), ?_⟩); (try conv => whnf))))
  refine while_inv (fun k env st => ∃ a b c f : Nat, env = [some (.int a), some (.int b), some (.int p), some (.int f), some (.int c)] ∧ st = [] ∧ c ≤ 1 ∧ leg p (A + B) + leg p a + leg p b = leg p A + leg p B + leg p (a + b + c) + f ∧ k = a + b + c) (A + B) ⟨A, B, 0, 0, rfl, rfl, by omega, by show _ = _ + leg p (A + B) + 0; omega, rfl⟩ ?_
  rintro k env st ⟨a, b, c, f, rfl, rfl, hc, he, rfl⟩ N hN
  ((repeat first | refine ⟨_, rfl, ?_⟩ | refine ⟨MulOk.r ⟨by omega, by omega⟩, ?_⟩ | refine ⟨MulOk.l ⟨by omega, by omega⟩, ?_⟩ | refine ⟨DivOk.of (by omega) (by omega), ?_⟩ | refine ⟨(by omega : (0 : Int) < _), ?_⟩ | refine ⟨True.intro, ?_⟩ | refine ⟨rfl, ?_⟩ | refine ⟨(by repeat' (first | exact True.intro | refine ⟨?_, ?_⟩) : ShN 60 _), ?_⟩ | refine ⟨(Nat.le_of_ble_eq_true rfl : (_ : Nat) ≤ big), ?_⟩ | refine ⟨(by repeat (first | exact True.intro | refine ⟨True.intro, ?_⟩) : NRL _), Nat.le_of_ble_eq_true rfl, ?_⟩ | refine ⟨(⟨by omega, by omega, by decide⟩ : (0 : Int) ≤ _ ∧ _ ≤ _ ∧ Int.natAbs _ < _), ?_⟩); (try conv => whnf); (repeat ((first | with_reducible refine ifB_f ?_ | with_reducible refine ifB_t ?_ | with_reducible refine ifB_nt ?_ | with_reducible refine ifB_nf ?_); (repeat first | refine ⟨_, rfl, ?_⟩ | refine ⟨MulOk.r ⟨by omega, by omega⟩, ?_⟩ | refine ⟨MulOk.l ⟨by omega, by omega⟩, ?_⟩ | refine ⟨DivOk.of (by omega) (by omega), ?_⟩ | refine ⟨(by omega : (0 : Int) < _), ?_⟩ | refine ⟨True.intro, ?_⟩ | refine ⟨rfl, ?_⟩ | refine ⟨(by repeat' (first | exact True.intro | refine ⟨?_, ?_⟩) : ShN 60 _), ?_⟩ | refine ⟨(Nat.le_of_ble_eq_true rfl : (_ : Nat) ≤ big), ?_⟩ | refine ⟨(by repeat (first | exact True.intro | refine ⟨True.intro, ?_⟩) : NRL _), Nat.le_of_ble_eq_true rfl, ?_⟩ | refine ⟨(⟨by omega, by omega, by decide⟩ : (0 : Int) ≤ _ ∧ _ ≤ _ ∧ Int.natAbs _ < _), ?_⟩); (try conv => whnf))))
  refine ifB_or3 (fun h => ?_) (fun ha hb hc' => ?_)
  · have h0 : 0 < a + b + c := by
      rcases h with h | h | h
      · have : (0 : Int) < a := dec_t h
        omega
      · have : (0 : Int) < b := dec_t h
        omega
      · have : (0 : Int) < c := dec_t h
        omega
    have da := Nat.div_add_mod a p
    have db := Nat.div_add_mod b p
    have ma : a % p < p := Nat.mod_lt _ (by omega)
    have mb : b % p < p := Nat.mod_lt _ (by omega)
    ((repeat first | refine ⟨_, rfl, ?_⟩ | refine ⟨MulOk.r ⟨by omega, by omega⟩, ?_⟩ | refine ⟨MulOk.l ⟨by omega, by omega⟩, ?_⟩ | refine ⟨DivOk.of (by omega) (by omega), ?_⟩ | refine ⟨(by omega : (0 : Int) < _), ?_⟩ | refine ⟨True.intro, ?_⟩ | refine ⟨rfl, ?_⟩ | refine ⟨(by repeat' (first | exact True.intro | refine ⟨?_, ?_⟩) : ShN 60 _), ?_⟩ | refine ⟨(Nat.le_of_ble_eq_true rfl : (_ : Nat) ≤ big), ?_⟩ | refine ⟨(by repeat (first | exact True.intro | refine ⟨True.intro, ?_⟩) : NRL _), Nat.le_of_ble_eq_true rfl, ?_⟩ | refine ⟨(⟨by omega, by omega, by decide⟩ : (0 : Int) ≤ _ ∧ _ ≤ _ ∧ Int.natAbs _ < _), ?_⟩); (try conv => whnf); (repeat ((first | with_reducible refine ifB_f ?_ | with_reducible refine ifB_t ?_ | with_reducible refine ifB_nt ?_ | with_reducible refine ifB_nf ?_); (repeat first | refine ⟨_, rfl, ?_⟩ | refine ⟨MulOk.r ⟨by omega, by omega⟩, ?_⟩ | refine ⟨MulOk.l ⟨by omega, by omega⟩, ?_⟩ | refine ⟨DivOk.of (by omega) (by omega), ?_⟩ | refine ⟨(by omega : (0 : Int) < _), ?_⟩ | refine ⟨True.intro, ?_⟩ | refine ⟨rfl, ?_⟩ | refine ⟨(by repeat' (first | exact True.intro | refine ⟨?_, ?_⟩) : ShN 60 _), ?_⟩ | refine ⟨(Nat.le_of_ble_eq_true rfl : (_ : Nat) ≤ big), ?_⟩ | refine ⟨(by repeat (first | exact True.intro | refine ⟨True.intro, ?_⟩) : NRL _), Nat.le_of_ble_eq_true rfl, ?_⟩ | refine ⟨(⟨by omega, by omega, by decide⟩ : (0 : Int) ≤ _ ∧ _ ≤ _ ∧ Int.natAbs _ < _), ?_⟩); (try conv => whnf))))
    have eD : ((p : Int) ≤ (a : Int) % (p : Int) + (b : Int) % (p : Int) + (c : Int)) ↔ p ≤ a % p + b % p + c := by
      show ((p : Int) ≤ ((a % p : Nat) : Int) + ((b % p : Nat) : Int) + (c : Int)) ↔ _
      omega
    obtain ⟨d, hd1, hd2⟩ : ∃ d : Nat, (if decide ((p : Int) ≤ (a : Int) % (p : Int) + (b : Int) % (p : Int) + (c : Int)) = true then (1 : Int) else 0) = (d : Nat) ∧ d = if p ≤ a % p + b % p + c then 1 else 0 := by
      by_cases hz : p ≤ a % p + b % p + c
      · exact ⟨1, by rw [if_pos (decide_eq_true (eD.mpr hz))]; rfl, by rw [if_pos hz]⟩
      · exact ⟨0, by rw [if_neg (fun z => hz (eD.mp (of_decide_eq_true z)))]; rfl, by rw [if_neg hz]⟩
    have hdiv : (a + b + c) / p = a / p + b / p + d := by
      have e1 : a + b + c = p * (a / p + b / p + d) + (a % p + b % p + c - p * d) := by
        have e2 : p * (a / p + b / p + d) = p * (a / p) + p * (b / p) + p * d := by rw [Nat.mul_add, Nat.mul_add]
        have e3 : p * d ≤ a % p + b % p + c := by
          split at hd2
          · rw [hd2]; omega
          · rw [hd2]; omega
        omega
      have e4 : a % p + b % p + c - p * d < p := by
        split at hd2
        · rw [hd2]; omega
        · rw [hd2]; omega
      rw [e1, Nat.mul_add_div (by omega), Nat.div_eq_of_lt e4, Nat.add_zero]
    have hlt : (a + b + c) / p < a + b + c := Nat.div_lt_self h0 h2
    refine hN (a / p + b / p + d) (by omega) _ _ ⟨a / p, b / p, d, f + d, ?_, rfl, by split at hd2 <;> omega, ?_, rfl⟩
    · show [_, _, _, some (D.int ((f : Int) + (if decide ((p : Int) ≤ (a : Int) % (p : Int) + (b : Int) % (p : Int) + (c : Int)) = true then (1 : Int) else 0))), some (D.int (if decide ((p : Int) ≤ (a : Int) % (p : Int) + (b : Int) % (p : Int) + (c : Int)) = true then (1 : Int) else 0))] = _
      rw [hd1]
      rfl
    · rw [leg_eq (n := a) h2, leg_eq (n := b) h2, leg_eq (n := a + b + c) h2, hdiv] at he
      omega
  · have ha : ¬ (0 : Int) < a := dec_f ha
    have hb : ¬ (0 : Int) < b := dec_f hb
    have hc' : ¬ (0 : Int) < c := dec_f hc'
    have ea : a = 0 := by omega
    have eb : b = 0 := by omega
    have ec : c = 0 := by omega
    subst ea eb ec
    ((repeat first | refine ⟨_, rfl, ?_⟩ | refine ⟨MulOk.r ⟨by omega, by omega⟩, ?_⟩ | refine ⟨MulOk.l ⟨by omega, by omega⟩, ?_⟩ | refine ⟨DivOk.of (by omega) (by omega), ?_⟩ | refine ⟨(by omega : (0 : Int) < _), ?_⟩ | refine ⟨True.intro, ?_⟩ | refine ⟨rfl, ?_⟩ | refine ⟨(by repeat' (first | exact True.intro | refine ⟨?_, ?_⟩) : ShN 60 _), ?_⟩ | refine ⟨(Nat.le_of_ble_eq_true rfl : (_ : Nat) ≤ big), ?_⟩ | refine ⟨(by repeat (first | exact True.intro | refine ⟨True.intro, ?_⟩) : NRL _), Nat.le_of_ble_eq_true rfl, ?_⟩ | refine ⟨(⟨by omega, by omega, by decide⟩ : (0 : Int) ≤ _ ∧ _ ≤ _ ∧ Int.natAbs _ < _), ?_⟩); (try conv => whnf); (repeat ((first | with_reducible refine ifB_f ?_ | with_reducible refine ifB_t ?_ | with_reducible refine ifB_nt ?_ | with_reducible refine ifB_nf ?_); (repeat first | refine ⟨_, rfl, ?_⟩ | refine ⟨MulOk.r ⟨by omega, by omega⟩, ?_⟩ | refine ⟨MulOk.l ⟨by omega, by omega⟩, ?_⟩ | refine ⟨DivOk.of (by omega) (by omega), ?_⟩ | refine ⟨(by omega : (0 : Int) < _), ?_⟩ | refine ⟨True.intro, ?_⟩ | refine ⟨rfl, ?_⟩ | refine ⟨(by repeat' (first | exact True.intro | refine ⟨?_, ?_⟩) : ShN 60 _), ?_⟩ | refine ⟨(Nat.le_of_ble_eq_true rfl : (_ : Nat) ≤ big), ?_⟩ | refine ⟨(by repeat (first | exact True.intro | refine ⟨True.intro, ?_⟩) : NRL _), Nat.le_of_ble_eq_true rfl, ?_⟩ | refine ⟨(⟨by omega, by omega, by decide⟩ : (0 : Int) ≤ _ ∧ _ ≤ _ ∧ Int.natAbs _ < _), ?_⟩); (try conv => whnf))))
    refine .inl ⟨True.intro, hQ f ?_⟩
    have e0 : leg p (0 + 0 + 0) = 0 := leg_0
    rw [leg_0] at he
    omega

theorem grow {a r p s : Nat} (ha : a < s) (hr : r < p) : a + r * s < s * p := by
  have h1 : r * s ≤ (p - 1) * s := Nat.mul_le_mul_right s (by omega)
  have h2 : s * p = (p - 1) * s + s := by
    obtain ⟨q, rfl⟩ : ∃ q, p = q + 1 := ⟨p - 1, by omega⟩
    rw [Nat.mul_comm, Nat.add_mul, Nat.one_mul]
    rfl
  omega
theorem rd__law_great (ds : List D) (so : Sto) (Q : WK) (h : p__law_great ds so Q) : w__law_great (endK so.length Q) (startM 6 ds) so := by
  obtain ⟨p, o, rfl, rfl, ho, h2, h3, hQ⟩ := h
  obtain ⟨T, hT⟩ : ∃ T : Nat, T = 1000000000000 := ⟨_, rfl⟩
  ((repeat first | refine ⟨_, rfl, ?_⟩ | refine ⟨MulOk.r ⟨by omega, by omega⟩, ?_⟩ | refine ⟨MulOk.l ⟨by omega, by omega⟩, ?_⟩ | refine ⟨DivOk.of (by omega) (by omega), ?_⟩ | refine ⟨(by omega : (0 : Int) < _), ?_⟩ | refine ⟨True.intro, ?_⟩ | refine ⟨rfl, ?_⟩ | refine ⟨(by repeat' (first | exact True.intro | refine ⟨?_, ?_⟩) : ShN 60 _), ?_⟩ | refine ⟨(Nat.le_of_ble_eq_true rfl : (_ : Nat) ≤ big), ?_⟩ | refine ⟨(by repeat (first | exact True.intro | refine ⟨True.intro, ?_⟩) : NRL _), Nat.le_of_ble_eq_true rfl, ?_⟩ | refine ⟨(⟨by omega, by omega, by decide⟩ : (0 : Int) ≤ _ ∧ _ ≤ _ ∧ Int.natAbs _ < _), ?_⟩); (try conv => whnf); (repeat ((first | with_reducible refine ifB_f ?_ | with_reducible refine ifB_t ?_ | with_reducible refine ifB_nt ?_ | with_reducible refine ifB_nf ?_); (repeat first | refine ⟨_, rfl, ?_⟩ | refine ⟨MulOk.r ⟨by omega, by omega⟩, ?_⟩ | refine ⟨MulOk.l ⟨by omega, by omega⟩, ?_⟩ | refine ⟨DivOk.of (by omega) (by omega), ?_⟩ | refine ⟨(by omega : (0 : Int) < _), ?_⟩ | refine ⟨True.intro, ?_⟩ | refine ⟨rfl, ?_⟩ | refine ⟨(by repeat' (first | exact True.intro | refine ⟨?_, ?_⟩) : ShN 60 _), ?_⟩ | refine ⟨(Nat.le_of_ble_eq_true rfl : (_ : Nat) ≤ big), ?_⟩ | refine ⟨(by repeat (first | exact True.intro | refine ⟨True.intro, ?_⟩) : NRL _), Nat.le_of_ble_eq_true rfl, ?_⟩ | refine ⟨(⟨by omega, by omega, by decide⟩ : (0 : Int) ≤ _ ∧ _ ≤ _ ∧ Int.natAbs _ < _), ?_⟩); (try conv => whnf))))
  refine while_inv (fun k env st => ∃ (a b s : Nat) (x : Option D) (o : Ob), env = [some (.ref 0), some (.int p), some (.int a), some (.int b), some (.int s), x] ∧ st = [some o] ∧ Hand o ∧ a < s ∧ b < s ∧ s ≤ T ∧ k = T - s) (T - 1) ⟨0, 0, 1, none, o, rfl, rfl, ho, by omega, by omega, by omega, by omega⟩ ?_
  rintro k env st ⟨a, b, s, x, o, rfl, rfl, ho, ha, hb, hs, rfl⟩ N hN
  ((repeat first | refine ⟨_, rfl, ?_⟩ | refine ⟨MulOk.r ⟨by omega, by omega⟩, ?_⟩ | refine ⟨MulOk.l ⟨by omega, by omega⟩, ?_⟩ | refine ⟨DivOk.of (by omega) (by omega), ?_⟩ | refine ⟨(by omega : (0 : Int) < _), ?_⟩ | refine ⟨True.intro, ?_⟩ | refine ⟨rfl, ?_⟩ | refine ⟨(by repeat' (first | exact True.intro | refine ⟨?_, ?_⟩) : ShN 60 _), ?_⟩ | refine ⟨(Nat.le_of_ble_eq_true rfl : (_ : Nat) ≤ big), ?_⟩ | refine ⟨(by repeat (first | exact True.intro | refine ⟨True.intro, ?_⟩) : NRL _), Nat.le_of_ble_eq_true rfl, ?_⟩ | refine ⟨(⟨by omega, by omega, by decide⟩ : (0 : Int) ≤ _ ∧ _ ≤ _ ∧ Int.natAbs _ < _), ?_⟩); (try conv => whnf); (repeat ((first | with_reducible refine ifB_f ?_ | with_reducible refine ifB_t ?_ | with_reducible refine ifB_nt ?_ | with_reducible refine ifB_nf ?_); (repeat first | refine ⟨_, rfl, ?_⟩ | refine ⟨MulOk.r ⟨by omega, by omega⟩, ?_⟩ | refine ⟨MulOk.l ⟨by omega, by omega⟩, ?_⟩ | refine ⟨DivOk.of (by omega) (by omega), ?_⟩ | refine ⟨(by omega : (0 : Int) < _), ?_⟩ | refine ⟨True.intro, ?_⟩ | refine ⟨rfl, ?_⟩ | refine ⟨(by repeat' (first | exact True.intro | refine ⟨?_, ?_⟩) : ShN 60 _), ?_⟩ | refine ⟨(Nat.le_of_ble_eq_true rfl : (_ : Nat) ≤ big), ?_⟩ | refine ⟨(by repeat (first | exact True.intro | refine ⟨True.intro, ?_⟩) : NRL _), Nat.le_of_ble_eq_true rfl, ?_⟩ | refine ⟨(⟨by omega, by omega, by decide⟩ : (0 : Int) ≤ _ ∧ _ ≤ _ ∧ Int.natAbs _ < _), ?_⟩); (try conv => whnf))))
  refine ifB.of (fun h => ?_) (fun h => ?_)
  · have hlt : (s : Int) * (p : Int) < 10 ^ 12 := dec_t h
    have hlt' : s * p < 1000000000000 := by
      have : ((s * p : Nat) : Int) < 10 ^ 12 := hlt
      omega
    have hsp : s * 2 ≤ s * p := Nat.mul_le_mul_left s h2
    ((repeat first | refine ⟨_, rfl, ?_⟩ | refine ⟨MulOk.r ⟨by omega, by omega⟩, ?_⟩ | refine ⟨MulOk.l ⟨by omega, by omega⟩, ?_⟩ | refine ⟨DivOk.of (by omega) (by omega), ?_⟩ | refine ⟨(by omega : (0 : Int) < _), ?_⟩ | refine ⟨True.intro, ?_⟩ | refine ⟨rfl, ?_⟩ | refine ⟨(by repeat' (first | exact True.intro | refine ⟨?_, ?_⟩) : ShN 60 _), ?_⟩ | refine ⟨(Nat.le_of_ble_eq_true rfl : (_ : Nat) ≤ big), ?_⟩ | refine ⟨(by repeat (first | exact True.intro | refine ⟨True.intro, ?_⟩) : NRL _), Nat.le_of_ble_eq_true rfl, ?_⟩ | refine ⟨(⟨by omega, by omega, by decide⟩ : (0 : Int) ≤ _ ∧ _ ≤ _ ∧ Int.natAbs _ < _), ?_⟩); (try conv => whnf); (repeat ((first | with_reducible refine ifB_f ?_ | with_reducible refine ifB_t ?_ | with_reducible refine ifB_nt ?_ | with_reducible refine ifB_nf ?_); (repeat first | refine ⟨_, rfl, ?_⟩ | refine ⟨MulOk.r ⟨by omega, by omega⟩, ?_⟩ | refine ⟨MulOk.l ⟨by omega, by omega⟩, ?_⟩ | refine ⟨DivOk.of (by omega) (by omega), ?_⟩ | refine ⟨(by omega : (0 : Int) < _), ?_⟩ | refine ⟨True.intro, ?_⟩ | refine ⟨rfl, ?_⟩ | refine ⟨(by repeat' (first | exact True.intro | refine ⟨?_, ?_⟩) : ShN 60 _), ?_⟩ | refine ⟨(Nat.le_of_ble_eq_true rfl : (_ : Nat) ≤ big), ?_⟩ | refine ⟨(by repeat (first | exact True.intro | refine ⟨True.intro, ?_⟩) : NRL _), Nat.le_of_ble_eq_true rfl, ?_⟩ | refine ⟨(⟨by omega, by omega, by decide⟩ : (0 : Int) ≤ _ ∧ _ ≤ _ ∧ Int.natAbs _ < _), ?_⟩); (try conv => whnf))))
    refine ⟨p, o, rfl, rfl, ho, ⟨by omega, by omega⟩, fun r o' r0 r1 ho' => ?_⟩
    obtain ⟨r, rfl⟩ := Int.eq_ofNat_of_zero_le r0
    ((repeat first | refine ⟨_, rfl, ?_⟩ | refine ⟨MulOk.r ⟨by omega, by omega⟩, ?_⟩ | refine ⟨MulOk.l ⟨by omega, by omega⟩, ?_⟩ | refine ⟨DivOk.of (by omega) (by omega), ?_⟩ | refine ⟨(by omega : (0 : Int) < _), ?_⟩ | refine ⟨True.intro, ?_⟩ | refine ⟨rfl, ?_⟩ | refine ⟨(by repeat' (first | exact True.intro | refine ⟨?_, ?_⟩) : ShN 60 _), ?_⟩ | refine ⟨(Nat.le_of_ble_eq_true rfl : (_ : Nat) ≤ big), ?_⟩ | refine ⟨(by repeat (first | exact True.intro | refine ⟨True.intro, ?_⟩) : NRL _), Nat.le_of_ble_eq_true rfl, ?_⟩ | refine ⟨(⟨by omega, by omega, by decide⟩ : (0 : Int) ≤ _ ∧ _ ≤ _ ∧ Int.natAbs _ < _), ?_⟩); (try conv => whnf); (repeat ((first | with_reducible refine ifB_f ?_ | with_reducible refine ifB_t ?_ | with_reducible refine ifB_nt ?_ | with_reducible refine ifB_nf ?_); (repeat first | refine ⟨_, rfl, ?_⟩ | refine ⟨MulOk.r ⟨by omega, by omega⟩, ?_⟩ | refine ⟨MulOk.l ⟨by omega, by omega⟩, ?_⟩ | refine ⟨DivOk.of (by omega) (by omega), ?_⟩ | refine ⟨(by omega : (0 : Int) < _), ?_⟩ | refine ⟨True.intro, ?_⟩ | refine ⟨rfl, ?_⟩ | refine ⟨(by repeat' (first | exact True.intro | refine ⟨?_, ?_⟩) : ShN 60 _), ?_⟩ | refine ⟨(Nat.le_of_ble_eq_true rfl : (_ : Nat) ≤ big), ?_⟩ | refine ⟨(by repeat (first | exact True.intro | refine ⟨True.intro, ?_⟩) : NRL _), Nat.le_of_ble_eq_true rfl, ?_⟩ | refine ⟨(⟨by omega, by omega, by decide⟩ : (0 : Int) ≤ _ ∧ _ ≤ _ ∧ Int.natAbs _ < _), ?_⟩); (try conv => whnf))))
    refine ⟨3, o', rfl, rfl, ho', ⟨by omega, by omega⟩, fun t o2 t0 t1 ho2 => ?_⟩
    ((repeat first | refine ⟨_, rfl, ?_⟩ | refine ⟨MulOk.r ⟨by omega, by omega⟩, ?_⟩ | refine ⟨MulOk.l ⟨by omega, by omega⟩, ?_⟩ | refine ⟨DivOk.of (by omega) (by omega), ?_⟩ | refine ⟨(by omega : (0 : Int) < _), ?_⟩ | refine ⟨True.intro, ?_⟩ | refine ⟨rfl, ?_⟩ | refine ⟨(by repeat' (first | exact True.intro | refine ⟨?_, ?_⟩) : ShN 60 _), ?_⟩ | refine ⟨(Nat.le_of_ble_eq_true rfl : (_ : Nat) ≤ big), ?_⟩ | refine ⟨(by repeat (first | exact True.intro | refine ⟨True.intro, ?_⟩) : NRL _), Nat.le_of_ble_eq_true rfl, ?_⟩ | refine ⟨(⟨by omega, by omega, by decide⟩ : (0 : Int) ≤ _ ∧ _ ≤ _ ∧ Int.natAbs _ < _), ?_⟩); (try conv => whnf); (repeat ((first | with_reducible refine ifB_f ?_ | with_reducible refine ifB_t ?_ | with_reducible refine ifB_nt ?_ | with_reducible refine ifB_nf ?_); (repeat first | refine ⟨_, rfl, ?_⟩ | refine ⟨MulOk.r ⟨by omega, by omega⟩, ?_⟩ | refine ⟨MulOk.l ⟨by omega, by omega⟩, ?_⟩ | refine ⟨DivOk.of (by omega) (by omega), ?_⟩ | refine ⟨(by omega : (0 : Int) < _), ?_⟩ | refine ⟨True.intro, ?_⟩ | refine ⟨rfl, ?_⟩ | refine ⟨(by repeat' (first | exact True.intro | refine ⟨?_, ?_⟩) : ShN 60 _), ?_⟩ | refine ⟨(Nat.le_of_ble_eq_true rfl : (_ : Nat) ≤ big), ?_⟩ | refine ⟨(by repeat (first | exact True.intro | refine ⟨True.intro, ?_⟩) : NRL _), Nat.le_of_ble_eq_true rfl, ?_⟩ | refine ⟨(⟨by omega, by omega, by decide⟩ : (0 : Int) ≤ _ ∧ _ ≤ _ ∧ Int.natAbs _ < _), ?_⟩); (try conv => whnf))))
    refine ifE (fun d st => ∃ (x : Nat) (o : Ob), d = .int x ∧ st = [some o] ∧ Hand o ∧ x < p) (fun h => ?_) (fun h => ?_) ?_
    · intro N hN
      ((repeat first | refine ⟨_, rfl, ?_⟩ | refine ⟨MulOk.r ⟨by omega, by omega⟩, ?_⟩ | refine ⟨MulOk.l ⟨by omega, by omega⟩, ?_⟩ | refine ⟨DivOk.of (by omega) (by omega), ?_⟩ | refine ⟨(by omega : (0 : Int) < _), ?_⟩ | refine ⟨True.intro, ?_⟩ | refine ⟨rfl, ?_⟩ | refine ⟨(by repeat' (first | exact True.intro | refine ⟨?_, ?_⟩) : ShN 60 _), ?_⟩ | refine ⟨(Nat.le_of_ble_eq_true rfl : (_ : Nat) ≤ big), ?_⟩ | refine ⟨(by repeat (first | exact True.intro | refine ⟨True.intro, ?_⟩) : NRL _), Nat.le_of_ble_eq_true rfl, ?_⟩ | refine ⟨(⟨by omega, by omega, by decide⟩ : (0 : Int) ≤ _ ∧ _ ≤ _ ∧ Int.natAbs _ < _), ?_⟩); (try conv => whnf); (repeat ((first | with_reducible refine ifB_f ?_ | with_reducible refine ifB_t ?_ | with_reducible refine ifB_nt ?_ | with_reducible refine ifB_nf ?_); (repeat first | refine ⟨_, rfl, ?_⟩ | refine ⟨MulOk.r ⟨by omega, by omega⟩, ?_⟩ | refine ⟨MulOk.l ⟨by omega, by omega⟩, ?_⟩ | refine ⟨DivOk.of (by omega) (by omega), ?_⟩ | refine ⟨(by omega : (0 : Int) < _), ?_⟩ | refine ⟨True.intro, ?_⟩ | refine ⟨rfl, ?_⟩ | refine ⟨(by repeat' (first | exact True.intro | refine ⟨?_, ?_⟩) : ShN 60 _), ?_⟩ | refine ⟨(Nat.le_of_ble_eq_true rfl : (_ : Nat) ≤ big), ?_⟩ | refine ⟨(by repeat (first | exact True.intro | refine ⟨True.intro, ?_⟩) : NRL _), Nat.le_of_ble_eq_true rfl, ?_⟩ | refine ⟨(⟨by omega, by omega, by decide⟩ : (0 : Int) ≤ _ ∧ _ ≤ _ ∧ Int.natAbs _ < _), ?_⟩); (try conv => whnf))))
      refine ⟨r + 1, o2, rfl, rfl, ho2, ⟨by omega, by omega⟩, fun y o3 y0 y1 ho3 => ?_⟩
      obtain ⟨y, rfl⟩ := Int.eq_ofNat_of_zero_le y0
      exact hN _ _ ⟨y, o3, rfl, rfl, ho3, by omega⟩
    · intro N hN
      ((repeat first | refine ⟨_, rfl, ?_⟩ | refine ⟨MulOk.r ⟨by omega, by omega⟩, ?_⟩ | refine ⟨MulOk.l ⟨by omega, by omega⟩, ?_⟩ | refine ⟨DivOk.of (by omega) (by omega), ?_⟩ | refine ⟨(by omega : (0 : Int) < _), ?_⟩ | refine ⟨True.intro, ?_⟩ | refine ⟨rfl, ?_⟩ | refine ⟨(by repeat' (first | exact True.intro | refine ⟨?_, ?_⟩) : ShN 60 _), ?_⟩ | refine ⟨(Nat.le_of_ble_eq_true rfl : (_ : Nat) ≤ big), ?_⟩ | refine ⟨(by repeat (first | exact True.intro | refine ⟨True.intro, ?_⟩) : NRL _), Nat.le_of_ble_eq_true rfl, ?_⟩ | refine ⟨(⟨by omega, by omega, by decide⟩ : (0 : Int) ≤ _ ∧ _ ≤ _ ∧ Int.natAbs _ < _), ?_⟩); (try conv => whnf); (repeat ((first | with_reducible refine ifB_f ?_ | with_reducible refine ifB_t ?_ | with_reducible refine ifB_nt ?_ | with_reducible refine ifB_nf ?_); (repeat first | refine ⟨_, rfl, ?_⟩ | refine ⟨MulOk.r ⟨by omega, by omega⟩, ?_⟩ | refine ⟨MulOk.l ⟨by omega, by omega⟩, ?_⟩ | refine ⟨DivOk.of (by omega) (by omega), ?_⟩ | refine ⟨(by omega : (0 : Int) < _), ?_⟩ | refine ⟨True.intro, ?_⟩ | refine ⟨rfl, ?_⟩ | refine ⟨(by repeat' (first | exact True.intro | refine ⟨?_, ?_⟩) : ShN 60 _), ?_⟩ | refine ⟨(Nat.le_of_ble_eq_true rfl : (_ : Nat) ≤ big), ?_⟩ | refine ⟨(by repeat (first | exact True.intro | refine ⟨True.intro, ?_⟩) : NRL _), Nat.le_of_ble_eq_true rfl, ?_⟩ | refine ⟨(⟨by omega, by omega, by decide⟩ : (0 : Int) ≤ _ ∧ _ ≤ _ ∧ Int.natAbs _ < _), ?_⟩); (try conv => whnf))))
      refine ⟨p, o2, rfl, rfl, ho2, ⟨by omega, by omega⟩, fun y o3 y0 y1 ho3 => ?_⟩
      obtain ⟨y, rfl⟩ := Int.eq_ofNat_of_zero_le y0
      exact hN _ _ ⟨y, o3, rfl, rfl, ho3, by omega⟩
    · rintro d st ⟨y, o3, rfl, rfl, ho3, hy⟩
      have g1 := grow ha (show r < p by omega)
      have g2 := grow hb hy
      have e1 : y * s = s * y := Nat.mul_comm _ _
      ((repeat first | refine ⟨_, rfl, ?_⟩ | refine ⟨MulOk.r ⟨by omega, by omega⟩, ?_⟩ | refine ⟨MulOk.l ⟨by omega, by omega⟩, ?_⟩ | refine ⟨DivOk.of (by omega) (by omega), ?_⟩ | refine ⟨(by omega : (0 : Int) < _), ?_⟩ | refine ⟨True.intro, ?_⟩ | refine ⟨rfl, ?_⟩ | refine ⟨(by repeat' (first | exact True.intro | refine ⟨?_, ?_⟩) : ShN 60 _), ?_⟩ | refine ⟨(Nat.le_of_ble_eq_true rfl : (_ : Nat) ≤ big), ?_⟩ | refine ⟨(by repeat (first | exact True.intro | refine ⟨True.intro, ?_⟩) : NRL _), Nat.le_of_ble_eq_true rfl, ?_⟩ | refine ⟨(⟨by omega, by omega, by decide⟩ : (0 : Int) ≤ _ ∧ _ ≤ _ ∧ Int.natAbs _ < _), ?_⟩); (try conv => whnf); (repeat ((first | with_reducible refine ifB_f ?_ | with_reducible refine ifB_t ?_ | with_reducible refine ifB_nt ?_ | with_reducible refine ifB_nf ?_); (repeat first | refine ⟨_, rfl, ?_⟩ | refine ⟨MulOk.r ⟨by omega, by omega⟩, ?_⟩ | refine ⟨MulOk.l ⟨by omega, by omega⟩, ?_⟩ | refine ⟨DivOk.of (by omega) (by omega), ?_⟩ | refine ⟨(by omega : (0 : Int) < _), ?_⟩ | refine ⟨True.intro, ?_⟩ | refine ⟨rfl, ?_⟩ | refine ⟨(by repeat' (first | exact True.intro | refine ⟨?_, ?_⟩) : ShN 60 _), ?_⟩ | refine ⟨(Nat.le_of_ble_eq_true rfl : (_ : Nat) ≤ big), ?_⟩ | refine ⟨(by repeat (first | exact True.intro | refine ⟨True.intro, ?_⟩) : NRL _), Nat.le_of_ble_eq_true rfl, ?_⟩ | refine ⟨(⟨by omega, by omega, by decide⟩ : (0 : Int) ≤ _ ∧ _ ≤ _ ∧ Int.natAbs _ < _), ?_⟩); (try conv => whnf))))
      exact hN (T - s * p) (by omega) _ _ ⟨a + r * s, b + s * y, s * p, _, o3, rfl, rfl, ho3, g1, by omega, by omega, rfl⟩
  · ((repeat first | refine ⟨_, rfl, ?_⟩ | refine ⟨MulOk.r ⟨by omega, by omega⟩, ?_⟩ | refine ⟨MulOk.l ⟨by omega, by omega⟩, ?_⟩ | refine ⟨DivOk.of (by omega) (by omega), ?_⟩ | refine ⟨(by omega : (0 : Int) < _), ?_⟩ | refine ⟨True.intro, ?_⟩ | refine ⟨rfl, ?_⟩ | refine ⟨(by repeat' (first | exact True.intro | refine ⟨?_, ?_⟩) : ShN 60 _), ?_⟩ | refine ⟨(Nat.le_of_ble_eq_true rfl : (_ : Nat) ≤ big), ?_⟩ | refine ⟨(by repeat (first | exact True.intro | refine ⟨True.intro, ?_⟩) : NRL _), Nat.le_of_ble_eq_true rfl, ?_⟩ | refine ⟨(⟨by omega, by omega, by decide⟩ : (0 : Int) ≤ _ ∧ _ ≤ _ ∧ Int.natAbs _ < _), ?_⟩); (try conv => whnf); (repeat ((first | with_reducible refine ifB_f ?_ | with_reducible refine ifB_t ?_ | with_reducible refine ifB_nt ?_ | with_reducible refine ifB_nf ?_); (repeat first | refine ⟨_, rfl, ?_⟩ | refine ⟨MulOk.r ⟨by omega, by omega⟩, ?_⟩ | refine ⟨MulOk.l ⟨by omega, by omega⟩, ?_⟩ | refine ⟨DivOk.of (by omega) (by omega), ?_⟩ | refine ⟨(by omega : (0 : Int) < _), ?_⟩ | refine ⟨True.intro, ?_⟩ | refine ⟨rfl, ?_⟩ | refine ⟨(by repeat' (first | exact True.intro | refine ⟨?_, ?_⟩) : ShN 60 _), ?_⟩ | refine ⟨(Nat.le_of_ble_eq_true rfl : (_ : Nat) ≤ big), ?_⟩ | refine ⟨(by repeat (first | exact True.intro | refine ⟨True.intro, ?_⟩) : NRL _), Nat.le_of_ble_eq_true rfl, ?_⟩ | refine ⟨(⟨by omega, by omega, by decide⟩ : (0 : Int) ≤ _ ∧ _ ≤ _ ∧ Int.natAbs _ < _), ?_⟩); (try conv => whnf))))
    refine ⟨2, o, rfl, rfl, ho, ⟨by omega, by omega⟩, fun t o2 t0 t1 ho2 => ?_⟩
    ((repeat first | refine ⟨_, rfl, ?_⟩ | refine ⟨MulOk.r ⟨by omega, by omega⟩, ?_⟩ | refine ⟨MulOk.l ⟨by omega, by omega⟩, ?_⟩ | refine ⟨DivOk.of (by omega) (by omega), ?_⟩ | refine ⟨(by omega : (0 : Int) < _), ?_⟩ | refine ⟨True.intro, ?_⟩ | refine ⟨rfl, ?_⟩ | refine ⟨(by repeat' (first | exact True.intro | refine ⟨?_, ?_⟩) : ShN 60 _), ?_⟩ | refine ⟨(Nat.le_of_ble_eq_true rfl : (_ : Nat) ≤ big), ?_⟩ | refine ⟨(by repeat (first | exact True.intro | refine ⟨True.intro, ?_⟩) : NRL _), Nat.le_of_ble_eq_true rfl, ?_⟩ | refine ⟨(⟨by omega, by omega, by decide⟩ : (0 : Int) ≤ _ ∧ _ ≤ _ ∧ Int.natAbs _ < _), ?_⟩); (try conv => whnf); (repeat ((first | with_reducible refine ifB_f ?_ | with_reducible refine ifB_t ?_ | with_reducible refine ifB_nt ?_ | with_reducible refine ifB_nf ?_); (repeat first | refine ⟨_, rfl, ?_⟩ | refine ⟨MulOk.r ⟨by omega, by omega⟩, ?_⟩ | refine ⟨MulOk.l ⟨by omega, by omega⟩, ?_⟩ | refine ⟨DivOk.of (by omega) (by omega), ?_⟩ | refine ⟨(by omega : (0 : Int) < _), ?_⟩ | refine ⟨True.intro, ?_⟩ | refine ⟨rfl, ?_⟩ | refine ⟨(by repeat' (first | exact True.intro | refine ⟨?_, ?_⟩) : ShN 60 _), ?_⟩ | refine ⟨(Nat.le_of_ble_eq_true rfl : (_ : Nat) ≤ big), ?_⟩ | refine ⟨(by repeat (first | exact True.intro | refine ⟨True.intro, ?_⟩) : NRL _), Nat.le_of_ble_eq_true rfl, ?_⟩ | refine ⟨(⟨by omega, by omega, by decide⟩ : (0 : Int) ≤ _ ∧ _ ≤ _ ∧ Int.natAbs _ < _), ?_⟩); (try conv => whnf))))
    refine ifB.of (fun h => ?_) (fun h => ?_)
    · ((repeat first | refine ⟨_, rfl, ?_⟩ | refine ⟨MulOk.r ⟨by omega, by omega⟩, ?_⟩ | refine ⟨MulOk.l ⟨by omega, by omega⟩, ?_⟩ | refine ⟨DivOk.of (by omega) (by omega), ?_⟩ | refine ⟨(by omega : (0 : Int) < _), ?_⟩ | refine ⟨True.intro, ?_⟩ | refine ⟨rfl, ?_⟩ | refine ⟨(by repeat' (first | exact True.intro | refine ⟨?_, ?_⟩) : ShN 60 _), ?_⟩ | refine ⟨(Nat.le_of_ble_eq_true rfl : (_ : Nat) ≤ big), ?_⟩ | refine ⟨(by repeat (first | exact True.intro | refine ⟨True.intro, ?_⟩) : NRL _), Nat.le_of_ble_eq_true rfl, ?_⟩ | refine ⟨(⟨by omega, by omega, by decide⟩ : (0 : Int) ≤ _ ∧ _ ≤ _ ∧ Int.natAbs _ < _), ?_⟩); (try conv => whnf); (repeat ((first | with_reducible refine ifB_f ?_ | with_reducible refine ifB_t ?_ | with_reducible refine ifB_nt ?_ | with_reducible refine ifB_nf ?_); (repeat first | refine ⟨_, rfl, ?_⟩ | refine ⟨MulOk.r ⟨by omega, by omega⟩, ?_⟩ | refine ⟨MulOk.l ⟨by omega, by omega⟩, ?_⟩ | refine ⟨DivOk.of (by omega) (by omega), ?_⟩ | refine ⟨(by omega : (0 : Int) < _), ?_⟩ | refine ⟨True.intro, ?_⟩ | refine ⟨rfl, ?_⟩ | refine ⟨(by repeat' (first | exact True.intro | refine ⟨?_, ?_⟩) : ShN 60 _), ?_⟩ | refine ⟨(Nat.le_of_ble_eq_true rfl : (_ : Nat) ≤ big), ?_⟩ | refine ⟨(by repeat (first | exact True.intro | refine ⟨True.intro, ?_⟩) : NRL _), Nat.le_of_ble_eq_true rfl, ?_⟩ | refine ⟨(⟨by omega, by omega, by decide⟩ : (0 : Int) ≤ _ ∧ _ ≤ _ ∧ Int.natAbs _ < _), ?_⟩); (try conv => whnf))))
      by_cases hab : a ≤ b
      · have e1 : (if (b : Int) > a then (b : Int) else a) = (b : Nat) := by split <;> omega
        have e2 : (if (b : Int) < a then (b : Int) else a) = (a : Nat) := by split <;> omega
        rw [e1, e2]
        exact .inl ⟨True.intro, hQ b a o2 (by omega) (by omega) ho2⟩
      · have e1 : (if (b : Int) > a then (b : Int) else a) = (a : Nat) := by split <;> omega
        have e2 : (if (b : Int) < a then (b : Int) else a) = (b : Nat) := by split <;> omega
        rw [e1, e2]
        exact .inl ⟨True.intro, hQ a b o2 (by omega) (by omega) ho2⟩
    · ((repeat first | refine ⟨_, rfl, ?_⟩ | refine ⟨MulOk.r ⟨by omega, by omega⟩, ?_⟩ | refine ⟨MulOk.l ⟨by omega, by omega⟩, ?_⟩ | refine ⟨DivOk.of (by omega) (by omega), ?_⟩ | refine ⟨(by omega : (0 : Int) < _), ?_⟩ | refine ⟨True.intro, ?_⟩ | refine ⟨rfl, ?_⟩ | refine ⟨(by repeat' (first | exact True.intro | refine ⟨?_, ?_⟩) : ShN 60 _), ?_⟩ | refine ⟨(Nat.le_of_ble_eq_true rfl : (_ : Nat) ≤ big), ?_⟩ | refine ⟨(by repeat (first | exact True.intro | refine ⟨True.intro, ?_⟩) : NRL _), Nat.le_of_ble_eq_true rfl, ?_⟩ | refine ⟨(⟨by omega, by omega, by decide⟩ : (0 : Int) ≤ _ ∧ _ ≤ _ ∧ Int.natAbs _ < _), ?_⟩); (try conv => whnf); (repeat ((first | with_reducible refine ifB_f ?_ | with_reducible refine ifB_t ?_ | with_reducible refine ifB_nt ?_ | with_reducible refine ifB_nf ?_); (repeat first | refine ⟨_, rfl, ?_⟩ | refine ⟨MulOk.r ⟨by omega, by omega⟩, ?_⟩ | refine ⟨MulOk.l ⟨by omega, by omega⟩, ?_⟩ | refine ⟨DivOk.of (by omega) (by omega), ?_⟩ | refine ⟨(by omega : (0 : Int) < _), ?_⟩ | refine ⟨True.intro, ?_⟩ | refine ⟨rfl, ?_⟩ | refine ⟨(by repeat' (first | exact True.intro | refine ⟨?_, ?_⟩) : ShN 60 _), ?_⟩ | refine ⟨(Nat.le_of_ble_eq_true rfl : (_ : Nat) ≤ big), ?_⟩ | refine ⟨(by repeat (first | exact True.intro | refine ⟨True.intro, ?_⟩) : NRL _), Nat.le_of_ble_eq_true rfl, ?_⟩ | refine ⟨(⟨by omega, by omega, by decide⟩ : (0 : Int) ≤ _ ∧ _ ≤ _ ∧ Int.natAbs _ < _), ?_⟩); (try conv => whnf))))
      exact .inl ⟨True.intro, hQ a b o2 (by omega) (by omega) ho2⟩
theorem strip_pos {p m : Nat} (hp : 2 ≤ p) (h : 0 < m) : 0 < strip p m := by
  have := (val_form hp m h).2
  rcases Nat.eq_zero_or_pos (strip p m) with e | e
  · rw [e, Nat.zero_mod] at this
    exact absurd rfl this
  · exact e
theorem rd__law_product_right (ds : List D) (so : Sto) (Q : WK) (h : p__law_product_right ds so Q) : w__law_product_right (endK so.length Q) (startM 6 ds) so := by
  obtain ⟨n, p, rfl, rfl, hn, hp, hQ⟩ := h
  have h2 := hp.pr.1
  have h3 := hp.lt
  have hf := (val_form h2 (fac n) (fac_pos n)).2
  have hfl : strip p (fac n) % p < p := Nat.mod_lt _ (by omega)
  ((repeat first | refine ⟨_, rfl, ?_⟩ | refine ⟨MulOk.r ⟨by omega, by omega⟩, ?_⟩ | refine ⟨MulOk.l ⟨by omega, by omega⟩, ?_⟩ | refine ⟨DivOk.of (by omega) (by omega), ?_⟩ | refine ⟨(by omega : (0 : Int) < _), ?_⟩ | refine ⟨True.intro, ?_⟩ | refine ⟨rfl, ?_⟩ | refine ⟨(by repeat' (first | exact True.intro | refine ⟨?_, ?_⟩) : ShN 60 _), ?_⟩ | refine ⟨(Nat.le_of_ble_eq_true rfl : (_ : Nat) ≤ big), ?_⟩ | refine ⟨(by repeat (first | exact True.intro | refine ⟨True.intro, ?_⟩) : NRL _), Nat.le_of_ble_eq_true rfl, ?_⟩ | refine ⟨(⟨by omega, by omega, by decide⟩ : (0 : Int) ≤ _ ∧ _ ≤ _ ∧ Int.natAbs _ < _), ?_⟩); (try conv => whnf); (repeat ((first | with_reducible refine ifB_f ?_ | with_reducible refine ifB_t ?_ | with_reducible refine ifB_nt ?_ | with_reducible refine ifB_nf ?_); (repeat first | refine ⟨_, rfl, ?_⟩ | refine ⟨MulOk.r ⟨by omega, by omega⟩, ?_⟩ | refine ⟨MulOk.l ⟨by omega, by omega⟩, ?_⟩ | refine ⟨DivOk.of (by omega) (by omega), ?_⟩ | refine ⟨(by omega : (0 : Int) < _), ?_⟩ | refine ⟨True.intro, ?_⟩ | refine ⟨rfl, ?_⟩ | refine ⟨(by repeat' (first | exact True.intro | refine ⟨?_, ?_⟩) : ShN 60 _), ?_⟩ | refine ⟨(Nat.le_of_ble_eq_true rfl : (_ : Nat) ≤ big), ?_⟩ | refine ⟨(by repeat (first | exact True.intro | refine ⟨True.intro, ?_⟩) : NRL _), Nat.le_of_ble_eq_true rfl, ?_⟩ | refine ⟨(⟨by omega, by omega, by decide⟩ : (0 : Int) ≤ _ ∧ _ ≤ _ ∧ Int.natAbs _ < _), ?_⟩); (try conv => whnf))))
  refine while_inv (fun k env st => ∃ f a : Nat, env = [some (.int n), some (.int p), none, none, some (.int f), some (.int a)] ∧ st = [] ∧ f + leg p a = leg p n ∧ k = a) n ⟨0, n, rfl, rfl, by omega, rfl⟩ ?_
  rintro k env st ⟨f, a, rfl, rfl, he, rfl⟩ N hN
  ((repeat first | refine ⟨_, rfl, ?_⟩ | refine ⟨MulOk.r ⟨by omega, by omega⟩, ?_⟩ | refine ⟨MulOk.l ⟨by omega, by omega⟩, ?_⟩ | refine ⟨DivOk.of (by omega) (by omega), ?_⟩ | refine ⟨(by omega : (0 : Int) < _), ?_⟩ | refine ⟨True.intro, ?_⟩ | refine ⟨rfl, ?_⟩ | refine ⟨(by repeat' (first | exact True.intro | refine ⟨?_, ?_⟩) : ShN 60 _), ?_⟩ | refine ⟨(Nat.le_of_ble_eq_true rfl : (_ : Nat) ≤ big), ?_⟩ | refine ⟨(by repeat (first | exact True.intro | refine ⟨True.intro, ?_⟩) : NRL _), Nat.le_of_ble_eq_true rfl, ?_⟩ | refine ⟨(⟨by omega, by omega, by decide⟩ : (0 : Int) ≤ _ ∧ _ ≤ _ ∧ Int.natAbs _ < _), ?_⟩); (try conv => whnf); (repeat ((first | with_reducible refine ifB_f ?_ | with_reducible refine ifB_t ?_ | with_reducible refine ifB_nt ?_ | with_reducible refine ifB_nf ?_); (repeat first | refine ⟨_, rfl, ?_⟩ | refine ⟨MulOk.r ⟨by omega, by omega⟩, ?_⟩ | refine ⟨MulOk.l ⟨by omega, by omega⟩, ?_⟩ | refine ⟨DivOk.of (by omega) (by omega), ?_⟩ | refine ⟨(by omega : (0 : Int) < _), ?_⟩ | refine ⟨True.intro, ?_⟩ | refine ⟨rfl, ?_⟩ | refine ⟨(by repeat' (first | exact True.intro | refine ⟨?_, ?_⟩) : ShN 60 _), ?_⟩ | refine ⟨(Nat.le_of_ble_eq_true rfl : (_ : Nat) ≤ big), ?_⟩ | refine ⟨(by repeat (first | exact True.intro | refine ⟨True.intro, ?_⟩) : NRL _), Nat.le_of_ble_eq_true rfl, ?_⟩ | refine ⟨(⟨by omega, by omega, by decide⟩ : (0 : Int) ≤ _ ∧ _ ≤ _ ∧ Int.natAbs _ < _), ?_⟩); (try conv => whnf))))
  refine ifB.of (fun h => ?_) (fun h => ?_)
  · have ha : (0 : Int) < k := dec_t h
    have hd := Nat.div_lt_self (show 0 < k by omega) h2
    ((repeat first | refine ⟨_, rfl, ?_⟩ | refine ⟨MulOk.r ⟨by omega, by omega⟩, ?_⟩ | refine ⟨MulOk.l ⟨by omega, by omega⟩, ?_⟩ | refine ⟨DivOk.of (by omega) (by omega), ?_⟩ | refine ⟨(by omega : (0 : Int) < _), ?_⟩ | refine ⟨True.intro, ?_⟩ | refine ⟨rfl, ?_⟩ | refine ⟨(by repeat' (first | exact True.intro | refine ⟨?_, ?_⟩) : ShN 60 _), ?_⟩ | refine ⟨(Nat.le_of_ble_eq_true rfl : (_ : Nat) ≤ big), ?_⟩ | refine ⟨(by repeat (first | exact True.intro | refine ⟨True.intro, ?_⟩) : NRL _), Nat.le_of_ble_eq_true rfl, ?_⟩ | refine ⟨(⟨by omega, by omega, by decide⟩ : (0 : Int) ≤ _ ∧ _ ≤ _ ∧ Int.natAbs _ < _), ?_⟩); (try conv => whnf); (repeat ((first | with_reducible refine ifB_f ?_ | with_reducible refine ifB_t ?_ | with_reducible refine ifB_nt ?_ | with_reducible refine ifB_nf ?_); (repeat first | refine ⟨_, rfl, ?_⟩ | refine ⟨MulOk.r ⟨by omega, by omega⟩, ?_⟩ | refine ⟨MulOk.l ⟨by omega, by omega⟩, ?_⟩ | refine ⟨DivOk.of (by omega) (by omega), ?_⟩ | refine ⟨(by omega : (0 : Int) < _), ?_⟩ | refine ⟨True.intro, ?_⟩ | refine ⟨rfl, ?_⟩ | refine ⟨(by repeat' (first | exact True.intro | refine ⟨?_, ?_⟩) : ShN 60 _), ?_⟩ | refine ⟨(Nat.le_of_ble_eq_true rfl : (_ : Nat) ≤ big), ?_⟩ | refine ⟨(by repeat (first | exact True.intro | refine ⟨True.intro, ?_⟩) : NRL _), Nat.le_of_ble_eq_true rfl, ?_⟩ | refine ⟨(⟨by omega, by omega, by decide⟩ : (0 : Int) ≤ _ ∧ _ ≤ _ ∧ Int.natAbs _ < _), ?_⟩); (try conv => whnf))))
    refine hN (k / p) hd _ _ ⟨f + k / p, k / p, rfl, rfl, ?_, rfl⟩
    rw [← he, leg_eq (n := k) h2]
    omega
  · have ha : ¬ (0 : Int) < k := dec_f h
    have ea : k = 0 := by omega
    subst ea
    rw [leg_0] at he
    have he' : f = leg p n := he
    subst he'
    clear hN
    ((repeat first | refine ⟨_, rfl, ?_⟩ | refine ⟨MulOk.r ⟨by omega, by omega⟩, ?_⟩ | refine ⟨MulOk.l ⟨by omega, by omega⟩, ?_⟩ | refine ⟨DivOk.of (by omega) (by omega), ?_⟩ | refine ⟨(by omega : (0 : Int) < _), ?_⟩ | refine ⟨True.intro, ?_⟩ | refine ⟨rfl, ?_⟩ | refine ⟨(by repeat' (first | exact True.intro | refine ⟨?_, ?_⟩) : ShN 60 _), ?_⟩ | refine ⟨(Nat.le_of_ble_eq_true rfl : (_ : Nat) ≤ big), ?_⟩ | refine ⟨(by repeat (first | exact True.intro | refine ⟨True.intro, ?_⟩) : NRL _), Nat.le_of_ble_eq_true rfl, ?_⟩ | refine ⟨(⟨by omega, by omega, by decide⟩ : (0 : Int) ≤ _ ∧ _ ≤ _ ∧ Int.natAbs _ < _), ?_⟩); (try conv => whnf); (repeat ((first | with_reducible refine ifB_f ?_ | with_reducible refine ifB_t ?_ | with_reducible refine ifB_nt ?_ | with_reducible refine ifB_nf ?_); (repeat first | refine ⟨_, rfl, ?_⟩ | refine ⟨MulOk.r ⟨by omega, by omega⟩, ?_⟩ | refine ⟨MulOk.l ⟨by omega, by omega⟩, ?_⟩ | refine ⟨DivOk.of (by omega) (by omega), ?_⟩ | refine ⟨(by omega : (0 : Int) < _), ?_⟩ | refine ⟨True.intro, ?_⟩ | refine ⟨rfl, ?_⟩ | refine ⟨(by repeat' (first | exact True.intro | refine ⟨?_, ?_⟩) : ShN 60 _), ?_⟩ | refine ⟨(Nat.le_of_ble_eq_true rfl : (_ : Nat) ≤ big), ?_⟩ | refine ⟨(by repeat (first | exact True.intro | refine ⟨True.intro, ?_⟩) : NRL _), Nat.le_of_ble_eq_true rfl, ?_⟩ | refine ⟨(⟨by omega, by omega, by decide⟩ : (0 : Int) ≤ _ ∧ _ ≤ _ ∧ Int.natAbs _ < _), ?_⟩); (try conv => whnf))))
    refine ⟨n, p, rfl, rfl, hn, hp, ?_⟩
    ((repeat first | refine ⟨_, rfl, ?_⟩ | refine ⟨MulOk.r ⟨by omega, by omega⟩, ?_⟩ | refine ⟨MulOk.l ⟨by omega, by omega⟩, ?_⟩ | refine ⟨DivOk.of (by omega) (by omega), ?_⟩ | refine ⟨(by omega : (0 : Int) < _), ?_⟩ | refine ⟨True.intro, ?_⟩ | refine ⟨rfl, ?_⟩ | refine ⟨(by repeat' (first | exact True.intro | refine ⟨?_, ?_⟩) : ShN 60 _), ?_⟩ | refine ⟨(Nat.le_of_ble_eq_true rfl : (_ : Nat) ≤ big), ?_⟩ | refine ⟨(by repeat (first | exact True.intro | refine ⟨True.intro, ?_⟩) : NRL _), Nat.le_of_ble_eq_true rfl, ?_⟩ | refine ⟨(⟨by omega, by omega, by decide⟩ : (0 : Int) ≤ _ ∧ _ ≤ _ ∧ Int.natAbs _ < _), ?_⟩); (try conv => whnf); (repeat ((first | with_reducible refine ifB_f ?_ | with_reducible refine ifB_t ?_ | with_reducible refine ifB_nt ?_ | with_reducible refine ifB_nf ?_); (repeat first | refine ⟨_, rfl, ?_⟩ | refine ⟨MulOk.r ⟨by omega, by omega⟩, ?_⟩ | refine ⟨MulOk.l ⟨by omega, by omega⟩, ?_⟩ | refine ⟨DivOk.of (by omega) (by omega), ?_⟩ | refine ⟨(by omega : (0 : Int) < _), ?_⟩ | refine ⟨True.intro, ?_⟩ | refine ⟨rfl, ?_⟩ | refine ⟨(by repeat' (first | exact True.intro | refine ⟨?_, ?_⟩) : ShN 60 _), ?_⟩ | refine ⟨(Nat.le_of_ble_eq_true rfl : (_ : Nat) ≤ big), ?_⟩ | refine ⟨(by repeat (first | exact True.intro | refine ⟨True.intro, ?_⟩) : NRL _), Nat.le_of_ble_eq_true rfl, ?_⟩ | refine ⟨(⟨by omega, by omega, by decide⟩ : (0 : Int) ≤ _ ∧ _ ≤ _ ∧ Int.natAbs _ < _), ?_⟩); (try conv => whnf))))
    refine ⟨n, p, rfl, rfl, hn, hp, ?_⟩
    ((repeat first | refine ⟨_, rfl, ?_⟩ | refine ⟨MulOk.r ⟨by omega, by omega⟩, ?_⟩ | refine ⟨MulOk.l ⟨by omega, by omega⟩, ?_⟩ | refine ⟨DivOk.of (by omega) (by omega), ?_⟩ | refine ⟨(by omega : (0 : Int) < _), ?_⟩ | refine ⟨True.intro, ?_⟩ | refine ⟨rfl, ?_⟩ | refine ⟨(by repeat' (first | exact True.intro | refine ⟨?_, ?_⟩) : ShN 60 _), ?_⟩ | refine ⟨(Nat.le_of_ble_eq_true rfl : (_ : Nat) ≤ big), ?_⟩ | refine ⟨(by repeat (first | exact True.intro | refine ⟨True.intro, ?_⟩) : NRL _), Nat.le_of_ble_eq_true rfl, ?_⟩ | refine ⟨(⟨by omega, by omega, by decide⟩ : (0 : Int) ≤ _ ∧ _ ≤ _ ∧ Int.natAbs _ < _), ?_⟩); (try conv => whnf); (repeat ((first | with_reducible refine ifB_f ?_ | with_reducible refine ifB_t ?_ | with_reducible refine ifB_nt ?_ | with_reducible refine ifB_nf ?_); (repeat first | refine ⟨_, rfl, ?_⟩ | refine ⟨MulOk.r ⟨by omega, by omega⟩, ?_⟩ | refine ⟨MulOk.l ⟨by omega, by omega⟩, ?_⟩ | refine ⟨DivOk.of (by omega) (by omega), ?_⟩ | refine ⟨(by omega : (0 : Int) < _), ?_⟩ | refine ⟨True.intro, ?_⟩ | refine ⟨rfl, ?_⟩ | refine ⟨(by repeat' (first | exact True.intro | refine ⟨?_, ?_⟩) : ShN 60 _), ?_⟩ | refine ⟨(Nat.le_of_ble_eq_true rfl : (_ : Nat) ≤ big), ?_⟩ | refine ⟨(by repeat (first | exact True.intro | refine ⟨True.intro, ?_⟩) : NRL _), Nat.le_of_ble_eq_true rfl, ?_⟩ | refine ⟨(⟨by omega, by omega, by decide⟩ : (0 : Int) ≤ _ ∧ _ ≤ _ ∧ Int.natAbs _ < _), ?_⟩); (try conv => whnf))))
    refine ifB.of (fun h => absurd rfl (ndec_t h)) (fun _ => ?_)
    ((repeat first | refine ⟨_, rfl, ?_⟩ | refine ⟨MulOk.r ⟨by omega, by omega⟩, ?_⟩ | refine ⟨MulOk.l ⟨by omega, by omega⟩, ?_⟩ | refine ⟨DivOk.of (by omega) (by omega), ?_⟩ | refine ⟨(by omega : (0 : Int) < _), ?_⟩ | refine ⟨True.intro, ?_⟩ | refine ⟨rfl, ?_⟩ | refine ⟨(by repeat' (first | exact True.intro | refine ⟨?_, ?_⟩) : ShN 60 _), ?_⟩ | refine ⟨(Nat.le_of_ble_eq_true rfl : (_ : Nat) ≤ big), ?_⟩ | refine ⟨(by repeat (first | exact True.intro | refine ⟨True.intro, ?_⟩) : NRL _), Nat.le_of_ble_eq_true rfl, ?_⟩ | refine ⟨(⟨by omega, by omega, by decide⟩ : (0 : Int) ≤ _ ∧ _ ≤ _ ∧ Int.natAbs _ < _), ?_⟩); (try conv => whnf); (repeat ((first | with_reducible refine ifB_f ?_ | with_reducible refine ifB_t ?_ | with_reducible refine ifB_nt ?_ | with_reducible refine ifB_nf ?_); (repeat first | refine ⟨_, rfl, ?_⟩ | refine ⟨MulOk.r ⟨by omega, by omega⟩, ?_⟩ | refine ⟨MulOk.l ⟨by omega, by omega⟩, ?_⟩ | refine ⟨DivOk.of (by omega) (by omega), ?_⟩ | refine ⟨(by omega : (0 : Int) < _), ?_⟩ | refine ⟨True.intro, ?_⟩ | refine ⟨rfl, ?_⟩ | refine ⟨(by repeat' (first | exact True.intro | refine ⟨?_, ?_⟩) : ShN 60 _), ?_⟩ | refine ⟨(Nat.le_of_ble_eq_true rfl : (_ : Nat) ≤ big), ?_⟩ | refine ⟨(by repeat (first | exact True.intro | refine ⟨True.intro, ?_⟩) : NRL _), Nat.le_of_ble_eq_true rfl, ?_⟩ | refine ⟨(⟨by omega, by omega, by decide⟩ : (0 : Int) ≤ _ ∧ _ ≤ _ ∧ Int.natAbs _ < _), ?_⟩); (try conv => whnf))))
    refine ifB.of (fun h => absurd rfl (ndec_t h)) (fun _ => ?_)
    ((repeat first | refine ⟨_, rfl, ?_⟩ | refine ⟨MulOk.r ⟨by omega, by omega⟩, ?_⟩ | refine ⟨MulOk.l ⟨by omega, by omega⟩, ?_⟩ | refine ⟨DivOk.of (by omega) (by omega), ?_⟩ | refine ⟨(by omega : (0 : Int) < _), ?_⟩ | refine ⟨True.intro, ?_⟩ | refine ⟨rfl, ?_⟩ | refine ⟨(by repeat' (first | exact True.intro | refine ⟨?_, ?_⟩) : ShN 60 _), ?_⟩ | refine ⟨(Nat.le_of_ble_eq_true rfl : (_ : Nat) ≤ big), ?_⟩ | refine ⟨(by repeat (first | exact True.intro | refine ⟨True.intro, ?_⟩) : NRL _), Nat.le_of_ble_eq_true rfl, ?_⟩ | refine ⟨(⟨by omega, by omega, by decide⟩ : (0 : Int) ≤ _ ∧ _ ≤ _ ∧ Int.natAbs _ < _), ?_⟩); (try conv => whnf); (repeat ((first | with_reducible refine ifB_f ?_ | with_reducible refine ifB_t ?_ | with_reducible refine ifB_nt ?_ | with_reducible refine ifB_nf ?_); (repeat first | refine ⟨_, rfl, ?_⟩ | refine ⟨MulOk.r ⟨by omega, by omega⟩, ?_⟩ | refine ⟨MulOk.l ⟨by omega, by omega⟩, ?_⟩ | refine ⟨DivOk.of (by omega) (by omega), ?_⟩ | refine ⟨(by omega : (0 : Int) < _), ?_⟩ | refine ⟨True.intro, ?_⟩ | refine ⟨rfl, ?_⟩ | refine ⟨(by repeat' (first | exact True.intro | refine ⟨?_, ?_⟩) : ShN 60 _), ?_⟩ | refine ⟨(Nat.le_of_ble_eq_true rfl : (_ : Nat) ≤ big), ?_⟩ | refine ⟨(by repeat (first | exact True.intro | refine ⟨True.intro, ?_⟩) : NRL _), Nat.le_of_ble_eq_true rfl, ?_⟩ | refine ⟨(⟨by omega, by omega, by decide⟩ : (0 : Int) ≤ _ ∧ _ ≤ _ ∧ Int.natAbs _ < _), ?_⟩); (try conv => whnf))))
    refine ifB.of (fun _ => ?_) (fun h => absurd (by omega) (dec_f h))
    ((repeat first | refine ⟨_, rfl, ?_⟩ | refine ⟨MulOk.r ⟨by omega, by omega⟩, ?_⟩ | refine ⟨MulOk.l ⟨by omega, by omega⟩, ?_⟩ | refine ⟨DivOk.of (by omega) (by omega), ?_⟩ | refine ⟨(by omega : (0 : Int) < _), ?_⟩ | refine ⟨True.intro, ?_⟩ | refine ⟨rfl, ?_⟩ | refine ⟨(by repeat' (first | exact True.intro | refine ⟨?_, ?_⟩) : ShN 60 _), ?_⟩ | refine ⟨(Nat.le_of_ble_eq_true rfl : (_ : Nat) ≤ big), ?_⟩ | refine ⟨(by repeat (first | exact True.intro | refine ⟨True.intro, ?_⟩) : NRL _), Nat.le_of_ble_eq_true rfl, ?_⟩ | refine ⟨(⟨by omega, by omega, by decide⟩ : (0 : Int) ≤ _ ∧ _ ≤ _ ∧ Int.natAbs _ < _), ?_⟩); (try conv => whnf); (repeat ((first | with_reducible refine ifB_f ?_ | with_reducible refine ifB_t ?_ | with_reducible refine ifB_nt ?_ | with_reducible refine ifB_nf ?_); (repeat first | refine ⟨_, rfl, ?_⟩ | refine ⟨MulOk.r ⟨by omega, by omega⟩, ?_⟩ | refine ⟨MulOk.l ⟨by omega, by omega⟩, ?_⟩ | refine ⟨DivOk.of (by omega) (by omega), ?_⟩ | refine ⟨(by omega : (0 : Int) < _), ?_⟩ | refine ⟨True.intro, ?_⟩ | refine ⟨rfl, ?_⟩ | refine ⟨(by repeat' (first | exact True.intro | refine ⟨?_, ?_⟩) : ShN 60 _), ?_⟩ | refine ⟨(Nat.le_of_ble_eq_true rfl : (_ : Nat) ≤ big), ?_⟩ | refine ⟨(by repeat (first | exact True.intro | refine ⟨True.intro, ?_⟩) : NRL _), Nat.le_of_ble_eq_true rfl, ?_⟩ | refine ⟨(⟨by omega, by omega, by decide⟩ : (0 : Int) ≤ _ ∧ _ ≤ _ ∧ Int.natAbs _ < _), ?_⟩); (try conv => whnf))))
    refine ifB.of (fun h => absurd (by omega) (ndec_t h)) (fun _ => ?_)
    ((repeat first | refine ⟨_, rfl, ?_⟩ | refine ⟨MulOk.r ⟨by omega, by omega⟩, ?_⟩ | refine ⟨MulOk.l ⟨by omega, by omega⟩, ?_⟩ | refine ⟨DivOk.of (by omega) (by omega), ?_⟩ | refine ⟨(by omega : (0 : Int) < _), ?_⟩ | refine ⟨True.intro, ?_⟩ | refine ⟨rfl, ?_⟩ | refine ⟨(by repeat' (first | exact True.intro | refine ⟨?_, ?_⟩) : ShN 60 _), ?_⟩ | refine ⟨(Nat.le_of_ble_eq_true rfl : (_ : Nat) ≤ big), ?_⟩ | refine ⟨(by repeat (first | exact True.intro | refine ⟨True.intro, ?_⟩) : NRL _), Nat.le_of_ble_eq_true rfl, ?_⟩ | refine ⟨(⟨by omega, by omega, by decide⟩ : (0 : Int) ≤ _ ∧ _ ≤ _ ∧ Int.natAbs _ < _), ?_⟩); (try conv => whnf); (repeat ((first | with_reducible refine ifB_f ?_ | with_reducible refine ifB_t ?_ | with_reducible refine ifB_nt ?_ | with_reducible refine ifB_nf ?_); (repeat first | refine ⟨_, rfl, ?_⟩ | refine ⟨MulOk.r ⟨by omega, by omega⟩, ?_⟩ | refine ⟨MulOk.l ⟨by omega, by omega⟩, ?_⟩ | refine ⟨DivOk.of (by omega) (by omega), ?_⟩ | refine ⟨(by omega : (0 : Int) < _), ?_⟩ | refine ⟨True.intro, ?_⟩ | refine ⟨rfl, ?_⟩ | refine ⟨(by repeat' (first | exact True.intro | refine ⟨?_, ?_⟩) : ShN 60 _), ?_⟩ | refine ⟨(Nat.le_of_ble_eq_true rfl : (_ : Nat) ≤ big), ?_⟩ | refine ⟨(by repeat (first | exact True.intro | refine ⟨True.intro, ?_⟩) : NRL _), Nat.le_of_ble_eq_true rfl, ?_⟩ | refine ⟨(⟨by omega, by omega, by decide⟩ : (0 : Int) ≤ _ ∧ _ ≤ _ ∧ Int.natAbs _ < _), ?_⟩); (try conv => whnf))))
    refine ifB.of (fun h => ?_) (fun h => ?_)
    · have hz : (n : Int) = 0 := dec_t h
      have hz' : n = 0 := by omega
      subst hz'
      have e0 : strip p (fac 0) % p = 1 := by
        have : strip p (fac 0) = 1 := strip_n (by show 1 % p ≠ 0; rw [Nat.mod_eq_of_lt (by omega)]; omega)
        rw [this, Nat.mod_eq_of_lt (by omega)]
      rw [e0, leg_0]
      ((repeat first | refine ⟨_, rfl, ?_⟩ | refine ⟨MulOk.r ⟨by omega, by omega⟩, ?_⟩ | refine ⟨MulOk.l ⟨by omega, by omega⟩, ?_⟩ | refine ⟨DivOk.of (by omega) (by omega), ?_⟩ | refine ⟨(by omega : (0 : Int) < _), ?_⟩ | refine ⟨True.intro, ?_⟩ | refine ⟨rfl, ?_⟩ | refine ⟨(by repeat' (first | exact True.intro | refine ⟨?_, ?_⟩) : ShN 60 _), ?_⟩ | refine ⟨(Nat.le_of_ble_eq_true rfl : (_ : Nat) ≤ big), ?_⟩ | refine ⟨(by repeat (first | exact True.intro | refine ⟨True.intro, ?_⟩) : NRL _), Nat.le_of_ble_eq_true rfl, ?_⟩ | refine ⟨(⟨by omega, by omega, by decide⟩ : (0 : Int) ≤ _ ∧ _ ≤ _ ∧ Int.natAbs _ < _), ?_⟩); (try conv => whnf); (repeat ((first | with_reducible refine ifB_f ?_ | with_reducible refine ifB_t ?_ | with_reducible refine ifB_nt ?_ | with_reducible refine ifB_nf ?_); (repeat first | refine ⟨_, rfl, ?_⟩ | refine ⟨MulOk.r ⟨by omega, by omega⟩, ?_⟩ | refine ⟨MulOk.l ⟨by omega, by omega⟩, ?_⟩ | refine ⟨DivOk.of (by omega) (by omega), ?_⟩ | refine ⟨(by omega : (0 : Int) < _), ?_⟩ | refine ⟨True.intro, ?_⟩ | refine ⟨rfl, ?_⟩ | refine ⟨(by repeat' (first | exact True.intro | refine ⟨?_, ?_⟩) : ShN 60 _), ?_⟩ | refine ⟨(Nat.le_of_ble_eq_true rfl : (_ : Nat) ≤ big), ?_⟩ | refine ⟨(by repeat (first | exact True.intro | refine ⟨True.intro, ?_⟩) : NRL _), Nat.le_of_ble_eq_true rfl, ?_⟩ | refine ⟨(⟨by omega, by omega, by decide⟩ : (0 : Int) ≤ _ ∧ _ ≤ _ ∧ Int.natAbs _ < _), ?_⟩); (try conv => whnf))))
      exact .inl ⟨True.intro, hQ⟩
    · have hz : ¬ (n : Int) = 0 := dec_f h
      have hz' : 0 < n := by omega
      obtain ⟨m, rfl⟩ : ∃ m, n = m + 1 := ⟨n - 1, by omega⟩
      ((repeat first | refine ⟨_, rfl, ?_⟩ | refine ⟨MulOk.r ⟨by omega, by omega⟩, ?_⟩ | refine ⟨MulOk.l ⟨by omega, by omega⟩, ?_⟩ | refine ⟨DivOk.of (by omega) (by omega), ?_⟩ | refine ⟨(by omega : (0 : Int) < _), ?_⟩ | refine ⟨True.intro, ?_⟩ | refine ⟨rfl, ?_⟩ | refine ⟨(by repeat' (first | exact True.intro | refine ⟨?_, ?_⟩) : ShN 60 _), ?_⟩ | refine ⟨(Nat.le_of_ble_eq_true rfl : (_ : Nat) ≤ big), ?_⟩ | refine ⟨(by repeat (first | exact True.intro | refine ⟨True.intro, ?_⟩) : NRL _), Nat.le_of_ble_eq_true rfl, ?_⟩ | refine ⟨(⟨by omega, by omega, by decide⟩ : (0 : Int) ≤ _ ∧ _ ≤ _ ∧ Int.natAbs _ < _), ?_⟩); (try conv => whnf); (repeat ((first | with_reducible refine ifB_f ?_ | with_reducible refine ifB_t ?_ | with_reducible refine ifB_nt ?_ | with_reducible refine ifB_nf ?_); (repeat first | refine ⟨_, rfl, ?_⟩ | refine ⟨MulOk.r ⟨by omega, by omega⟩, ?_⟩ | refine ⟨MulOk.l ⟨by omega, by omega⟩, ?_⟩ | refine ⟨DivOk.of (by omega) (by omega), ?_⟩ | refine ⟨(by omega : (0 : Int) < _), ?_⟩ | refine ⟨True.intro, ?_⟩ | refine ⟨rfl, ?_⟩ | refine ⟨(by repeat' (first | exact True.intro | refine ⟨?_, ?_⟩) : ShN 60 _), ?_⟩ | refine ⟨(Nat.le_of_ble_eq_true rfl : (_ : Nat) ≤ big), ?_⟩ | refine ⟨(by repeat (first | exact True.intro | refine ⟨True.intro, ?_⟩) : NRL _), Nat.le_of_ble_eq_true rfl, ?_⟩ | refine ⟨(⟨by omega, by omega, by decide⟩ : (0 : Int) ≤ _ ∧ _ ≤ _ ∧ Int.natAbs _ < _), ?_⟩); (try conv => whnf))))
      refine while_inv (fun k env st => ∃ a : Nat, ∃ x y z, env = [some (.int (m + 1 : Nat)), some (.int p), x, some (.int a), y, z] ∧ st = [] ∧ 0 < a ∧ strip p a = strip p (m + 1) ∧ k = a ∧ x = some (.tup [.int (leg p (m + 1) : Nat), .int (strip p (fac (m + 1)) % p : Nat)])) (m + 1) ⟨m + 1, _, _, _, rfl, rfl, by omega, rfl, rfl, rfl⟩ ?_
      rintro k env st ⟨a, x, y, z, rfl, rfl, ha, he, rfl, rfl⟩ N hN
      ((repeat first | refine ⟨_, rfl, ?_⟩ | refine ⟨MulOk.r ⟨by omega, by omega⟩, ?_⟩ | refine ⟨MulOk.l ⟨by omega, by omega⟩, ?_⟩ | refine ⟨DivOk.of (by omega) (by omega), ?_⟩ | refine ⟨(by omega : (0 : Int) < _), ?_⟩ | refine ⟨True.intro, ?_⟩ | refine ⟨rfl, ?_⟩ | refine ⟨(by repeat' (first | exact True.intro | refine ⟨?_, ?_⟩) : ShN 60 _), ?_⟩ | refine ⟨(Nat.le_of_ble_eq_true rfl : (_ : Nat) ≤ big), ?_⟩ | refine ⟨(by repeat (first | exact True.intro | refine ⟨True.intro, ?_⟩) : NRL _), Nat.le_of_ble_eq_true rfl, ?_⟩ | refine ⟨(⟨by omega, by omega, by decide⟩ : (0 : Int) ≤ _ ∧ _ ≤ _ ∧ Int.natAbs _ < _), ?_⟩); (try conv => whnf); (repeat ((first | with_reducible refine ifB_f ?_ | with_reducible refine ifB_t ?_ | with_reducible refine ifB_nt ?_ | with_reducible refine ifB_nf ?_); (repeat first | refine ⟨_, rfl, ?_⟩ | refine ⟨MulOk.r ⟨by omega, by omega⟩, ?_⟩ | refine ⟨MulOk.l ⟨by omega, by omega⟩, ?_⟩ | refine ⟨DivOk.of (by omega) (by omega), ?_⟩ | refine ⟨(by omega : (0 : Int) < _), ?_⟩ | refine ⟨True.intro, ?_⟩ | refine ⟨rfl, ?_⟩ | refine ⟨(by repeat' (first | exact True.intro | refine ⟨?_, ?_⟩) : ShN 60 _), ?_⟩ | refine ⟨(Nat.le_of_ble_eq_true rfl : (_ : Nat) ≤ big), ?_⟩ | refine ⟨(by repeat (first | exact True.intro | refine ⟨True.intro, ?_⟩) : NRL _), Nat.le_of_ble_eq_true rfl, ?_⟩ | refine ⟨(⟨by omega, by omega, by decide⟩ : (0 : Int) ≤ _ ∧ _ ≤ _ ∧ Int.natAbs _ < _), ?_⟩); (try conv => whnf))))
      refine ifB.of (fun h => ?_) (fun h => ?_)
      · have hq : ((k : Int) % (p : Int)) = 0 := dec_t h
        have hq' : k % p = 0 := by
          have : ((k % p : Nat) : Int) = 0 := hq
          omega
        have h0 : 0 < k / p := Nat.div_pos (Nat.le_of_dvd ha (Nat.dvd_of_mod_eq_zero hq')) (by omega)
        ((repeat first | refine ⟨_, rfl, ?_⟩ | refine ⟨MulOk.r ⟨by omega, by omega⟩, ?_⟩ | refine ⟨MulOk.l ⟨by omega, by omega⟩, ?_⟩ | refine ⟨DivOk.of (by omega) (by omega), ?_⟩ | refine ⟨(by omega : (0 : Int) < _), ?_⟩ | refine ⟨True.intro, ?_⟩ | refine ⟨rfl, ?_⟩ | refine ⟨(by repeat' (first | exact True.intro | refine ⟨?_, ?_⟩) : ShN 60 _), ?_⟩ | refine ⟨(Nat.le_of_ble_eq_true rfl : (_ : Nat) ≤ big), ?_⟩ | refine ⟨(by repeat (first | exact True.intro | refine ⟨True.intro, ?_⟩) : NRL _), Nat.le_of_ble_eq_true rfl, ?_⟩ | refine ⟨(⟨by omega, by omega, by decide⟩ : (0 : Int) ≤ _ ∧ _ ≤ _ ∧ Int.natAbs _ < _), ?_⟩); (try conv => whnf); (repeat ((first | with_reducible refine ifB_f ?_ | with_reducible refine ifB_t ?_ | with_reducible refine ifB_nt ?_ | with_reducible refine ifB_nf ?_); (repeat first | refine ⟨_, rfl, ?_⟩ | refine ⟨MulOk.r ⟨by omega, by omega⟩, ?_⟩ | refine ⟨MulOk.l ⟨by omega, by omega⟩, ?_⟩ | refine ⟨DivOk.of (by omega) (by omega), ?_⟩ | refine ⟨(by omega : (0 : Int) < _), ?_⟩ | refine ⟨True.intro, ?_⟩ | refine ⟨rfl, ?_⟩ | refine ⟨(by repeat' (first | exact True.intro | refine ⟨?_, ?_⟩) : ShN 60 _), ?_⟩ | refine ⟨(Nat.le_of_ble_eq_true rfl : (_ : Nat) ≤ big), ?_⟩ | refine ⟨(by repeat (first | exact True.intro | refine ⟨True.intro, ?_⟩) : NRL _), Nat.le_of_ble_eq_true rfl, ?_⟩ | refine ⟨(⟨by omega, by omega, by decide⟩ : (0 : Int) ≤ _ ∧ _ ≤ _ ∧ Int.natAbs _ < _), ?_⟩); (try conv => whnf))))
        exact hN (k / p) (Nat.div_lt_self ha h2) _ _ ⟨k / p, _, _, _, rfl, rfl, h0, by rw [← he, strip_y h2 ha hq'], rfl, rfl⟩
      · have hq : ¬ ((k : Int) % (p : Int)) = 0 := dec_f h
        have hq' : k % p ≠ 0 := by
          intro z
          apply hq
          show ((k % p : Nat) : Int) = 0
          omega
        rw [strip_n hq'] at he
        have hb1 : k % p < p := Nat.mod_lt _ (by omega)
        ((repeat first | refine ⟨_, rfl, ?_⟩ | refine ⟨MulOk.r ⟨by omega, by omega⟩, ?_⟩ | refine ⟨MulOk.l ⟨by omega, by omega⟩, ?_⟩ | refine ⟨DivOk.of (by omega) (by omega), ?_⟩ | refine ⟨(by omega : (0 : Int) < _), ?_⟩ | refine ⟨True.intro, ?_⟩ | refine ⟨rfl, ?_⟩ | refine ⟨(by repeat' (first | exact True.intro | refine ⟨?_, ?_⟩) : ShN 60 _), ?_⟩ | refine ⟨(Nat.le_of_ble_eq_true rfl : (_ : Nat) ≤ big), ?_⟩ | refine ⟨(by repeat (first | exact True.intro | refine ⟨True.intro, ?_⟩) : NRL _), Nat.le_of_ble_eq_true rfl, ?_⟩ | refine ⟨(⟨by omega, by omega, by decide⟩ : (0 : Int) ≤ _ ∧ _ ≤ _ ∧ Int.natAbs _ < _), ?_⟩); (try conv => whnf); (repeat ((first | with_reducible refine ifB_f ?_ | with_reducible refine ifB_t ?_ | with_reducible refine ifB_nt ?_ | with_reducible refine ifB_nf ?_); (repeat first | refine ⟨_, rfl, ?_⟩ | refine ⟨MulOk.r ⟨by omega, by omega⟩, ?_⟩ | refine ⟨MulOk.l ⟨by omega, by omega⟩, ?_⟩ | refine ⟨DivOk.of (by omega) (by omega), ?_⟩ | refine ⟨(by omega : (0 : Int) < _), ?_⟩ | refine ⟨True.intro, ?_⟩ | refine ⟨rfl, ?_⟩ | refine ⟨(by repeat' (first | exact True.intro | refine ⟨?_, ?_⟩) : ShN 60 _), ?_⟩ | refine ⟨(Nat.le_of_ble_eq_true rfl : (_ : Nat) ≤ big), ?_⟩ | refine ⟨(by repeat (first | exact True.intro | refine ⟨True.intro, ?_⟩) : NRL _), Nat.le_of_ble_eq_true rfl, ?_⟩ | refine ⟨(⟨by omega, by omega, by decide⟩ : (0 : Int) ≤ _ ∧ _ ≤ _ ∧ Int.natAbs _ < _), ?_⟩); (try conv => whnf))))
        refine ⟨m, p, ?_, rfl, by omega, hp, ?_⟩
        · have e1 : ((m + 1 : Nat) : Int) - 1 = (m : Nat) := by omega
          rw [e1]
        ((repeat first | refine ⟨_, rfl, ?_⟩ | refine ⟨MulOk.r ⟨by omega, by omega⟩, ?_⟩ | refine ⟨MulOk.l ⟨by omega, by omega⟩, ?_⟩ | refine ⟨DivOk.of (by omega) (by omega), ?_⟩ | refine ⟨(by omega : (0 : Int) < _), ?_⟩ | refine ⟨True.intro, ?_⟩ | refine ⟨rfl, ?_⟩ | refine ⟨(by repeat' (first | exact True.intro | refine ⟨?_, ?_⟩) : ShN 60 _), ?_⟩ | refine ⟨(Nat.le_of_ble_eq_true rfl : (_ : Nat) ≤ big), ?_⟩ | refine ⟨(by repeat (first | exact True.intro | refine ⟨True.intro, ?_⟩) : NRL _), Nat.le_of_ble_eq_true rfl, ?_⟩ | refine ⟨(⟨by omega, by omega, by decide⟩ : (0 : Int) ≤ _ ∧ _ ≤ _ ∧ Int.natAbs _ < _), ?_⟩); (try conv => whnf); (repeat ((first | with_reducible refine ifB_f ?_ | with_reducible refine ifB_t ?_ | with_reducible refine ifB_nt ?_ | with_reducible refine ifB_nf ?_); (repeat first | refine ⟨_, rfl, ?_⟩ | refine ⟨MulOk.r ⟨by omega, by omega⟩, ?_⟩ | refine ⟨MulOk.l ⟨by omega, by omega⟩, ?_⟩ | refine ⟨DivOk.of (by omega) (by omega), ?_⟩ | refine ⟨(by omega : (0 : Int) < _), ?_⟩ | refine ⟨True.intro, ?_⟩ | refine ⟨rfl, ?_⟩ | refine ⟨(by repeat' (first | exact True.intro | refine ⟨?_, ?_⟩) : ShN 60 _), ?_⟩ | refine ⟨(Nat.le_of_ble_eq_true rfl : (_ : Nat) ≤ big), ?_⟩ | refine ⟨(by repeat (first | exact True.intro | refine ⟨True.intro, ?_⟩) : NRL _), Nat.le_of_ble_eq_true rfl, ?_⟩ | refine ⟨(⟨by omega, by omega, by decide⟩ : (0 : Int) ≤ _ ∧ _ ≤ _ ∧ Int.natAbs _ < _), ?_⟩); (try conv => whnf))))
        refine .inl ⟨True.intro, ?_⟩
        have e2 : ((strip p (fac (m + 1)) % p : Nat) : Int) = ((strip p (fac m) % p : Nat) : Int) * ((k : Int) % (p : Int)) % (p : Int) := by
          show ((strip p (fac (m + 1)) % p : Nat) : Int) = (((strip p (fac m) % p) * (k % p) % p : Nat) : Int)
          have e3 : strip p (fac (m + 1)) = strip p (m + 1) * strip p (fac m) := (val_mul hp.pr (Nat.succ_pos m) (fac_pos m)).2
          rw [e3, ← he, ← Nat.mul_mod, Nat.mul_comm]
        have e4 : decide (((strip p (fac (m + 1)) % p : Nat) : Int) = ((strip p (fac m) % p : Nat) : Int) * ((k : Int) % (p : Int)) % (p : Int)) = true := decide_eq_true e2
        exact e4 ▸ hQ

theorem leg_le {p : Nat} (hp : 2 ≤ p) : ∀ n, leg p n ≤ n := by
  intro n
  induction n using Nat.strongRecOn with
  | _ n ih =>
    rcases Nat.eq_zero_or_pos n with e | e
    · subst e
      rw [leg_0]
      exact Nat.le_refl 0
    · rw [leg_eq hp]
      have h1 := ih (n / p) (Nat.div_lt_self e hp)
      have h2 : 2 * (n / p) ≤ p * (n / p) := Nat.mul_le_mul_right _ hp
      have h3 := Nat.mul_div_le n p
      omega
theorem rd__law_small_right (ds : List D) (so : Sto) (Q : WK) (h : p__law_small_right ds so Q) : w__law_small_right (endK so.length Q) (startM 10 ds) so := by
  obtain ⟨p, o, rfl, rfl, ho, hp, hQ⟩ := h
  have h2 := hp.pr.1
  have h3 := hp.lt
  ((repeat first | refine ⟨_, rfl, ?_⟩ | refine ⟨MulOk.r ⟨by omega, by omega⟩, ?_⟩ | refine ⟨MulOk.l ⟨by omega, by omega⟩, ?_⟩ | refine ⟨DivOk.of (by omega) (by omega), ?_⟩ | refine ⟨(by omega : (0 : Int) < _), ?_⟩ | refine ⟨True.intro, ?_⟩ | refine ⟨rfl, ?_⟩ | refine ⟨(by repeat' (first | exact True.intro | refine ⟨?_, ?_⟩) : ShN 60 _), ?_⟩ | refine ⟨(Nat.le_of_ble_eq_true rfl : (_ : Nat) ≤ big), ?_⟩ | refine ⟨(by repeat (first | exact True.intro | refine ⟨True.intro, ?_⟩) : NRL _), Nat.le_of_ble_eq_true rfl, ?_⟩ | refine ⟨(⟨by omega, by omega, by decide⟩ : (0 : Int) ≤ _ ∧ _ ≤ _ ∧ Int.natAbs _ < _), ?_⟩); (try conv => whnf); (repeat ((first | with_reducible refine ifB_f ?_ | with_reducible refine ifB_t ?_ | with_reducible refine ifB_nt ?_ | with_reducible refine ifB_nf ?_); (repeat first | refine ⟨_, rfl, ?_⟩ | refine ⟨MulOk.r ⟨by omega, by omega⟩, ?_⟩ | refine ⟨MulOk.l ⟨by omega, by omega⟩, ?_⟩ | refine ⟨DivOk.of (by omega) (by omega), ?_⟩ | refine ⟨(by omega : (0 : Int) < _), ?_⟩ | refine ⟨True.intro, ?_⟩ | refine ⟨rfl, ?_⟩ | refine ⟨(by repeat' (first | exact True.intro | refine ⟨?_, ?_⟩) : ShN 60 _), ?_⟩ | refine ⟨(Nat.le_of_ble_eq_true rfl : (_ : Nat) ≤ big), ?_⟩ | refine ⟨(by repeat (first | exact True.intro | refine ⟨True.intro, ?_⟩) : NRL _), Nat.le_of_ble_eq_true rfl, ?_⟩ | refine ⟨(⟨by omega, by omega, by decide⟩ : (0 : Int) ≤ _ ∧ _ ≤ _ ∧ Int.natAbs _ < _), ?_⟩); (try conv => whnf))))
  refine ⟨61, o, rfl, rfl, ho, ⟨by omega, by omega⟩, fun n o n0 n1 ho => ?_⟩
  obtain ⟨n, rfl⟩ := Int.eq_ofNat_of_zero_le n0
  ((repeat first | refine ⟨_, rfl, ?_⟩ | refine ⟨MulOk.r ⟨by omega, by omega⟩, ?_⟩ | refine ⟨MulOk.l ⟨by omega, by omega⟩, ?_⟩ | refine ⟨DivOk.of (by omega) (by omega), ?_⟩ | refine ⟨(by omega : (0 : Int) < _), ?_⟩ | refine ⟨True.intro, ?_⟩ | refine ⟨rfl, ?_⟩ | refine ⟨(by repeat' (first | exact True.intro | refine ⟨?_, ?_⟩) : ShN 60 _), ?_⟩ | refine ⟨(Nat.le_of_ble_eq_true rfl : (_ : Nat) ≤ big), ?_⟩ | refine ⟨(by repeat (first | exact True.intro | refine ⟨True.intro, ?_⟩) : NRL _), Nat.le_of_ble_eq_true rfl, ?_⟩ | refine ⟨(⟨by omega, by omega, by decide⟩ : (0 : Int) ≤ _ ∧ _ ≤ _ ∧ Int.natAbs _ < _), ?_⟩); (try conv => whnf); (repeat ((first | with_reducible refine ifB_f ?_ | with_reducible refine ifB_t ?_ | with_reducible refine ifB_nt ?_ | with_reducible refine ifB_nf ?_); (repeat first | refine ⟨_, rfl, ?_⟩ | refine ⟨MulOk.r ⟨by omega, by omega⟩, ?_⟩ | refine ⟨MulOk.l ⟨by omega, by omega⟩, ?_⟩ | refine ⟨DivOk.of (by omega) (by omega), ?_⟩ | refine ⟨(by omega : (0 : Int) < _), ?_⟩ | refine ⟨True.intro, ?_⟩ | refine ⟨rfl, ?_⟩ | refine ⟨(by repeat' (first | exact True.intro | refine ⟨?_, ?_⟩) : ShN 60 _), ?_⟩ | refine ⟨(Nat.le_of_ble_eq_true rfl : (_ : Nat) ≤ big), ?_⟩ | refine ⟨(by repeat (first | exact True.intro | refine ⟨True.intro, ?_⟩) : NRL _), Nat.le_of_ble_eq_true rfl, ?_⟩ | refine ⟨(⟨by omega, by omega, by decide⟩ : (0 : Int) ≤ _ ∧ _ ≤ _ ∧ Int.natAbs _ < _), ?_⟩); (try conv => whnf))))
  refine ⟨n + 3, o, rfl, rfl, ho, ⟨by omega, by omega⟩, fun k o k0 k1 ho => ?_⟩
  obtain ⟨k, rfl⟩ := Int.eq_ofNat_of_zero_le k0
  have hrow : atI (tri 60) (n : Int) = some (.lst ((List.range (n + 1)).map fun k => .int (ch n k : Nat))) := atI_nat (tab_get (f := fun n => D.lst ((List.range (n + 1)).map fun k => .int (ch n k : Nat))) (by omega))
  ((repeat first | refine ⟨_, rfl, ?_⟩ | refine ⟨MulOk.r ⟨by omega, by omega⟩, ?_⟩ | refine ⟨MulOk.l ⟨by omega, by omega⟩, ?_⟩ | refine ⟨DivOk.of (by omega) (by omega), ?_⟩ | refine ⟨(by omega : (0 : Int) < _), ?_⟩ | refine ⟨True.intro, ?_⟩ | refine ⟨rfl, ?_⟩ | refine ⟨(by repeat' (first | exact True.intro | refine ⟨?_, ?_⟩) : ShN 60 _), ?_⟩ | refine ⟨(Nat.le_of_ble_eq_true rfl : (_ : Nat) ≤ big), ?_⟩ | refine ⟨(by repeat (first | exact True.intro | refine ⟨True.intro, ?_⟩) : NRL _), Nat.le_of_ble_eq_true rfl, ?_⟩ | refine ⟨(⟨by omega, by omega, by decide⟩ : (0 : Int) ≤ _ ∧ _ ≤ _ ∧ Int.natAbs _ < _), ?_⟩); (try conv => whnf); (repeat ((first | with_reducible refine ifB_f ?_ | with_reducible refine ifB_t ?_ | with_reducible refine ifB_nt ?_ | with_reducible refine ifB_nf ?_); (repeat first | refine ⟨_, rfl, ?_⟩ | refine ⟨MulOk.r ⟨by omega, by omega⟩, ?_⟩ | refine ⟨MulOk.l ⟨by omega, by omega⟩, ?_⟩ | refine ⟨DivOk.of (by omega) (by omega), ?_⟩ | refine ⟨(by omega : (0 : Int) < _), ?_⟩ | refine ⟨True.intro, ?_⟩ | refine ⟨rfl, ?_⟩ | refine ⟨(by repeat' (first | exact True.intro | refine ⟨?_, ?_⟩) : ShN 60 _), ?_⟩ | refine ⟨(Nat.le_of_ble_eq_true rfl : (_ : Nat) ≤ big), ?_⟩ | refine ⟨(by repeat (first | exact True.intro | refine ⟨True.intro, ?_⟩) : NRL _), Nat.le_of_ble_eq_true rfl, ?_⟩ | refine ⟨(⟨by omega, by omega, by decide⟩ : (0 : Int) ≤ _ ∧ _ ≤ _ ∧ Int.natAbs _ < _), ?_⟩); (try conv => whnf))))
  refine ifE (fun d st => d = .int (ch n k : Nat) ∧ st = [some o]) (fun h N hN => ?_) (fun h N hN => ?_) ?_
  · have hk : (k : Int) ≤ n := dec_t h
    ((repeat first | refine ⟨_, rfl, ?_⟩ | refine ⟨MulOk.r ⟨by omega, by omega⟩, ?_⟩ | refine ⟨MulOk.l ⟨by omega, by omega⟩, ?_⟩ | refine ⟨DivOk.of (by omega) (by omega), ?_⟩ | refine ⟨(by omega : (0 : Int) < _), ?_⟩ | refine ⟨True.intro, ?_⟩ | refine ⟨rfl, ?_⟩ | refine ⟨(by repeat' (first | exact True.intro | refine ⟨?_, ?_⟩) : ShN 60 _), ?_⟩ | refine ⟨(Nat.le_of_ble_eq_true rfl : (_ : Nat) ≤ big), ?_⟩ | refine ⟨(by repeat (first | exact True.intro | refine ⟨True.intro, ?_⟩) : NRL _), Nat.le_of_ble_eq_true rfl, ?_⟩ | refine ⟨(⟨by omega, by omega, by decide⟩ : (0 : Int) ≤ _ ∧ _ ≤ _ ∧ Int.natAbs _ < _), ?_⟩); (try conv => whnf); (repeat ((first | with_reducible refine ifB_f ?_ | with_reducible refine ifB_t ?_ | with_reducible refine ifB_nt ?_ | with_reducible refine ifB_nf ?_); (repeat first | refine ⟨_, rfl, ?_⟩ | refine ⟨MulOk.r ⟨by omega, by omega⟩, ?_⟩ | refine ⟨MulOk.l ⟨by omega, by omega⟩, ?_⟩ | refine ⟨DivOk.of (by omega) (by omega), ?_⟩ | refine ⟨(by omega : (0 : Int) < _), ?_⟩ | refine ⟨True.intro, ?_⟩ | refine ⟨rfl, ?_⟩ | refine ⟨(by repeat' (first | exact True.intro | refine ⟨?_, ?_⟩) : ShN 60 _), ?_⟩ | refine ⟨(Nat.le_of_ble_eq_true rfl : (_ : Nat) ≤ big), ?_⟩ | refine ⟨(by repeat (first | exact True.intro | refine ⟨True.intro, ?_⟩) : NRL _), Nat.le_of_ble_eq_true rfl, ?_⟩ | refine ⟨(⟨by omega, by omega, by decide⟩ : (0 : Int) ≤ _ ∧ _ ≤ _ ∧ Int.natAbs _ < _), ?_⟩); (try conv => whnf))))
    refine ⟨_, hrow, ?_⟩
    ((repeat first | refine ⟨_, rfl, ?_⟩ | refine ⟨MulOk.r ⟨by omega, by omega⟩, ?_⟩ | refine ⟨MulOk.l ⟨by omega, by omega⟩, ?_⟩ | refine ⟨DivOk.of (by omega) (by omega), ?_⟩ | refine ⟨(by omega : (0 : Int) < _), ?_⟩ | refine ⟨True.intro, ?_⟩ | refine ⟨rfl, ?_⟩ | refine ⟨(by repeat' (first | exact True.intro | refine ⟨?_, ?_⟩) : ShN 60 _), ?_⟩ | refine ⟨(Nat.le_of_ble_eq_true rfl : (_ : Nat) ≤ big), ?_⟩ | refine ⟨(by repeat (first | exact True.intro | refine ⟨True.intro, ?_⟩) : NRL _), Nat.le_of_ble_eq_true rfl, ?_⟩ | refine ⟨(⟨by omega, by omega, by decide⟩ : (0 : Int) ≤ _ ∧ _ ≤ _ ∧ Int.natAbs _ < _), ?_⟩); (try conv => whnf); (repeat ((first | with_reducible refine ifB_f ?_ | with_reducible refine ifB_t ?_ | with_reducible refine ifB_nt ?_ | with_reducible refine ifB_nf ?_); (repeat first | refine ⟨_, rfl, ?_⟩ | refine ⟨MulOk.r ⟨by omega, by omega⟩, ?_⟩ | refine ⟨MulOk.l ⟨by omega, by omega⟩, ?_⟩ | refine ⟨DivOk.of (by omega) (by omega), ?_⟩ | refine ⟨(by omega : (0 : Int) < _), ?_⟩ | refine ⟨True.intro, ?_⟩ | refine ⟨rfl, ?_⟩ | refine ⟨(by repeat' (first | exact True.intro | refine ⟨?_, ?_⟩) : ShN 60 _), ?_⟩ | refine ⟨(Nat.le_of_ble_eq_true rfl : (_ : Nat) ≤ big), ?_⟩ | refine ⟨(by repeat (first | exact True.intro | refine ⟨True.intro, ?_⟩) : NRL _), Nat.le_of_ble_eq_true rfl, ?_⟩ | refine ⟨(⟨by omega, by omega, by decide⟩ : (0 : Int) ≤ _ ∧ _ ≤ _ ∧ Int.natAbs _ < _), ?_⟩); (try conv => whnf))))
    refine ⟨_, atI_nat (tab_get (f := fun k => D.int (ch n k : Nat)) (by omega)), ?_⟩
    exact hN _ _ ⟨rfl, rfl⟩
  · have hk : ¬ (k : Int) ≤ n := dec_f h
    rw [ch_lt (by omega)] at hN
    exact hN _ _ ⟨rfl, rfl⟩
  rintro d st ⟨rfl, rfl⟩
  ((repeat first | refine ⟨_, rfl, ?_⟩ | refine ⟨MulOk.r ⟨by omega, by omega⟩, ?_⟩ | refine ⟨MulOk.l ⟨by omega, by omega⟩, ?_⟩ | refine ⟨DivOk.of (by omega) (by omega), ?_⟩ | refine ⟨(by omega : (0 : Int) < _), ?_⟩ | refine ⟨True.intro, ?_⟩ | refine ⟨rfl, ?_⟩ | refine ⟨(by repeat' (first | exact True.intro | refine ⟨?_, ?_⟩) : ShN 60 _), ?_⟩ | refine ⟨(Nat.le_of_ble_eq_true rfl : (_ : Nat) ≤ big), ?_⟩ | refine ⟨(by repeat (first | exact True.intro | refine ⟨True.intro, ?_⟩) : NRL _), Nat.le_of_ble_eq_true rfl, ?_⟩ | refine ⟨(⟨by omega, by omega, by decide⟩ : (0 : Int) ≤ _ ∧ _ ≤ _ ∧ Int.natAbs _ < _), ?_⟩); (try conv => whnf); (repeat ((first | with_reducible refine ifB_f ?_ | with_reducible refine ifB_t ?_ | with_reducible refine ifB_nt ?_ | with_reducible refine ifB_nf ?_); (repeat first | refine ⟨_, rfl, ?_⟩ | refine ⟨MulOk.r ⟨by omega, by omega⟩, ?_⟩ | refine ⟨MulOk.l ⟨by omega, by omega⟩, ?_⟩ | refine ⟨DivOk.of (by omega) (by omega), ?_⟩ | refine ⟨(by omega : (0 : Int) < _), ?_⟩ | refine ⟨True.intro, ?_⟩ | refine ⟨rfl, ?_⟩ | refine ⟨(by repeat' (first | exact True.intro | refine ⟨?_, ?_⟩) : ShN 60 _), ?_⟩ | refine ⟨(Nat.le_of_ble_eq_true rfl : (_ : Nat) ≤ big), ?_⟩ | refine ⟨(by repeat (first | exact True.intro | refine ⟨True.intro, ?_⟩) : NRL _), Nat.le_of_ble_eq_true rfl, ?_⟩ | refine ⟨(⟨by omega, by omega, by decide⟩ : (0 : Int) ≤ _ ∧ _ ≤ _ ∧ Int.natAbs _ < _), ?_⟩); (try conv => whnf))))
  refine ⟨n, k, rfl, rfl, by omega, by omega, ?_⟩
  ((repeat first | refine ⟨_, rfl, ?_⟩ | refine ⟨MulOk.r ⟨by omega, by omega⟩, ?_⟩ | refine ⟨MulOk.l ⟨by omega, by omega⟩, ?_⟩ | refine ⟨DivOk.of (by omega) (by omega), ?_⟩ | refine ⟨(by omega : (0 : Int) < _), ?_⟩ | refine ⟨True.intro, ?_⟩ | refine ⟨rfl, ?_⟩ | refine ⟨(by repeat' (first | exact True.intro | refine ⟨?_, ?_⟩) : ShN 60 _), ?_⟩ | refine ⟨(Nat.le_of_ble_eq_true rfl : (_ : Nat) ≤ big), ?_⟩ | refine ⟨(by repeat (first | exact True.intro | refine ⟨True.intro, ?_⟩) : NRL _), Nat.le_of_ble_eq_true rfl, ?_⟩ | refine ⟨(⟨by omega, by omega, by decide⟩ : (0 : Int) ≤ _ ∧ _ ≤ _ ∧ Int.natAbs _ < _), ?_⟩); (try conv => whnf); (repeat ((first | with_reducible refine ifB_f ?_ | with_reducible refine ifB_t ?_ | with_reducible refine ifB_nt ?_ | with_reducible refine ifB_nf ?_); (repeat first | refine ⟨_, rfl, ?_⟩ | refine ⟨MulOk.r ⟨by omega, by omega⟩, ?_⟩ | refine ⟨MulOk.l ⟨by omega, by omega⟩, ?_⟩ | refine ⟨DivOk.of (by omega) (by omega), ?_⟩ | refine ⟨(by omega : (0 : Int) < _), ?_⟩ | refine ⟨True.intro, ?_⟩ | refine ⟨rfl, ?_⟩ | refine ⟨(by repeat' (first | exact True.intro | refine ⟨?_, ?_⟩) : ShN 60 _), ?_⟩ | refine ⟨(Nat.le_of_ble_eq_true rfl : (_ : Nat) ≤ big), ?_⟩ | refine ⟨(by repeat (first | exact True.intro | refine ⟨True.intro, ?_⟩) : NRL _), Nat.le_of_ble_eq_true rfl, ?_⟩ | refine ⟨(⟨by omega, by omega, by decide⟩ : (0 : Int) ≤ _ ∧ _ ≤ _ ∧ Int.natAbs _ < _), ?_⟩); (try conv => whnf))))
  refine ifB.of (fun h => absurd rfl (ndec_t h)) (fun _ => ?_)
  ((repeat first | refine ⟨_, rfl, ?_⟩ | refine ⟨MulOk.r ⟨by omega, by omega⟩, ?_⟩ | refine ⟨MulOk.l ⟨by omega, by omega⟩, ?_⟩ | refine ⟨DivOk.of (by omega) (by omega), ?_⟩ | refine ⟨(by omega : (0 : Int) < _), ?_⟩ | refine ⟨True.intro, ?_⟩ | refine ⟨rfl, ?_⟩ | refine ⟨(by repeat' (first | exact True.intro | refine ⟨?_, ?_⟩) : ShN 60 _), ?_⟩ | refine ⟨(Nat.le_of_ble_eq_true rfl : (_ : Nat) ≤ big), ?_⟩ | refine ⟨(by repeat (first | exact True.intro | refine ⟨True.intro, ?_⟩) : NRL _), Nat.le_of_ble_eq_true rfl, ?_⟩ | refine ⟨(⟨by omega, by omega, by decide⟩ : (0 : Int) ≤ _ ∧ _ ≤ _ ∧ Int.natAbs _ < _), ?_⟩); (try conv => whnf); (repeat ((first | with_reducible refine ifB_f ?_ | with_reducible refine ifB_t ?_ | with_reducible refine ifB_nt ?_ | with_reducible refine ifB_nf ?_); (repeat first | refine ⟨_, rfl, ?_⟩ | refine ⟨MulOk.r ⟨by omega, by omega⟩, ?_⟩ | refine ⟨MulOk.l ⟨by omega, by omega⟩, ?_⟩ | refine ⟨DivOk.of (by omega) (by omega), ?_⟩ | refine ⟨(by omega : (0 : Int) < _), ?_⟩ | refine ⟨True.intro, ?_⟩ | refine ⟨rfl, ?_⟩ | refine ⟨(by repeat' (first | exact True.intro | refine ⟨?_, ?_⟩) : ShN 60 _), ?_⟩ | refine ⟨(Nat.le_of_ble_eq_true rfl : (_ : Nat) ≤ big), ?_⟩ | refine ⟨(by repeat (first | exact True.intro | refine ⟨True.intro, ?_⟩) : NRL _), Nat.le_of_ble_eq_true rfl, ?_⟩ | refine ⟨(⟨by omega, by omega, by decide⟩ : (0 : Int) ≤ _ ∧ _ ≤ _ ∧ Int.natAbs _ < _), ?_⟩); (try conv => whnf))))
  refine ⟨n, k, p, rfl, rfl, by omega, by omega, hp, ?_⟩
  ((repeat first | refine ⟨_, rfl, ?_⟩ | refine ⟨MulOk.r ⟨by omega, by omega⟩, ?_⟩ | refine ⟨MulOk.l ⟨by omega, by omega⟩, ?_⟩ | refine ⟨DivOk.of (by omega) (by omega), ?_⟩ | refine ⟨(by omega : (0 : Int) < _), ?_⟩ | refine ⟨True.intro, ?_⟩ | refine ⟨rfl, ?_⟩ | refine ⟨(by repeat' (first | exact True.intro | refine ⟨?_, ?_⟩) : ShN 60 _), ?_⟩ | refine ⟨(Nat.le_of_ble_eq_true rfl : (_ : Nat) ≤ big), ?_⟩ | refine ⟨(by repeat (first | exact True.intro | refine ⟨True.intro, ?_⟩) : NRL _), Nat.le_of_ble_eq_true rfl, ?_⟩ | refine ⟨(⟨by omega, by omega, by decide⟩ : (0 : Int) ≤ _ ∧ _ ≤ _ ∧ Int.natAbs _ < _), ?_⟩); (try conv => whnf); (repeat ((first | with_reducible refine ifB_f ?_ | with_reducible refine ifB_t ?_ | with_reducible refine ifB_nt ?_ | with_reducible refine ifB_nf ?_); (repeat first | refine ⟨_, rfl, ?_⟩ | refine ⟨MulOk.r ⟨by omega, by omega⟩, ?_⟩ | refine ⟨MulOk.l ⟨by omega, by omega⟩, ?_⟩ | refine ⟨DivOk.of (by omega) (by omega), ?_⟩ | refine ⟨(by omega : (0 : Int) < _), ?_⟩ | refine ⟨True.intro, ?_⟩ | refine ⟨rfl, ?_⟩ | refine ⟨(by repeat' (first | exact True.intro | refine ⟨?_, ?_⟩) : ShN 60 _), ?_⟩ | refine ⟨(Nat.le_of_ble_eq_true rfl : (_ : Nat) ≤ big), ?_⟩ | refine ⟨(by repeat (first | exact True.intro | refine ⟨True.intro, ?_⟩) : NRL _), Nat.le_of_ble_eq_true rfl, ?_⟩ | refine ⟨(⟨by omega, by omega, by decide⟩ : (0 : Int) ≤ _ ∧ _ ≤ _ ∧ Int.natAbs _ < _), ?_⟩); (try conv => whnf))))
  refine ifB.of (fun h => absurd rfl (ndec_t h)) (fun _ => ?_)
  ((repeat first | refine ⟨_, rfl, ?_⟩ | refine ⟨MulOk.r ⟨by omega, by omega⟩, ?_⟩ | refine ⟨MulOk.l ⟨by omega, by omega⟩, ?_⟩ | refine ⟨DivOk.of (by omega) (by omega), ?_⟩ | refine ⟨(by omega : (0 : Int) < _), ?_⟩ | refine ⟨True.intro, ?_⟩ | refine ⟨rfl, ?_⟩ | refine ⟨(by repeat' (first | exact True.intro | refine ⟨?_, ?_⟩) : ShN 60 _), ?_⟩ | refine ⟨(Nat.le_of_ble_eq_true rfl : (_ : Nat) ≤ big), ?_⟩ | refine ⟨(by repeat (first | exact True.intro | refine ⟨True.intro, ?_⟩) : NRL _), Nat.le_of_ble_eq_true rfl, ?_⟩ | refine ⟨(⟨by omega, by omega, by decide⟩ : (0 : Int) ≤ _ ∧ _ ≤ _ ∧ Int.natAbs _ < _), ?_⟩); (try conv => whnf); (repeat ((first | with_reducible refine ifB_f ?_ | with_reducible refine ifB_t ?_ | with_reducible refine ifB_nt ?_ | with_reducible refine ifB_nf ?_); (repeat first | refine ⟨_, rfl, ?_⟩ | refine ⟨MulOk.r ⟨by omega, by omega⟩, ?_⟩ | refine ⟨MulOk.l ⟨by omega, by omega⟩, ?_⟩ | refine ⟨DivOk.of (by omega) (by omega), ?_⟩ | refine ⟨(by omega : (0 : Int) < _), ?_⟩ | refine ⟨True.intro, ?_⟩ | refine ⟨rfl, ?_⟩ | refine ⟨(by repeat' (first | exact True.intro | refine ⟨?_, ?_⟩) : ShN 60 _), ?_⟩ | refine ⟨(Nat.le_of_ble_eq_true rfl : (_ : Nat) ≤ big), ?_⟩ | refine ⟨(by repeat (first | exact True.intro | refine ⟨True.intro, ?_⟩) : NRL _), Nat.le_of_ble_eq_true rfl, ?_⟩ | refine ⟨(⟨by omega, by omega, by decide⟩ : (0 : Int) ≤ _ ∧ _ ≤ _ ∧ Int.natAbs _ < _), ?_⟩); (try conv => whnf))))
  refine ⟨n, k, p, rfl, rfl, by omega, by omega, hp, ?_⟩
  refine back0_nr oig_nr ?_
  ((repeat first | refine ⟨_, rfl, ?_⟩ | refine ⟨MulOk.r ⟨by omega, by omega⟩, ?_⟩ | refine ⟨MulOk.l ⟨by omega, by omega⟩, ?_⟩ | refine ⟨DivOk.of (by omega) (by omega), ?_⟩ | refine ⟨(by omega : (0 : Int) < _), ?_⟩ | refine ⟨True.intro, ?_⟩ | refine ⟨rfl, ?_⟩ | refine ⟨(by repeat' (first | exact True.intro | refine ⟨?_, ?_⟩) : ShN 60 _), ?_⟩ | refine ⟨(Nat.le_of_ble_eq_true rfl : (_ : Nat) ≤ big), ?_⟩ | refine ⟨(by repeat (first | exact True.intro | refine ⟨True.intro, ?_⟩) : NRL _), Nat.le_of_ble_eq_true rfl, ?_⟩ | refine ⟨(⟨by omega, by omega, by decide⟩ : (0 : Int) ≤ _ ∧ _ ≤ _ ∧ Int.natAbs _ < _), ?_⟩); (try conv => whnf); (repeat ((first | with_reducible refine ifB_f ?_ | with_reducible refine ifB_t ?_ | with_reducible refine ifB_nt ?_ | with_reducible refine ifB_nf ?_); (repeat first | refine ⟨_, rfl, ?_⟩ | refine ⟨MulOk.r ⟨by omega, by omega⟩, ?_⟩ | refine ⟨MulOk.l ⟨by omega, by omega⟩, ?_⟩ | refine ⟨DivOk.of (by omega) (by omega), ?_⟩ | refine ⟨(by omega : (0 : Int) < _), ?_⟩ | refine ⟨True.intro, ?_⟩ | refine ⟨rfl, ?_⟩ | refine ⟨(by repeat' (first | exact True.intro | refine ⟨?_, ?_⟩) : ShN 60 _), ?_⟩ | refine ⟨(Nat.le_of_ble_eq_true rfl : (_ : Nat) ≤ big), ?_⟩ | refine ⟨(by repeat (first | exact True.intro | refine ⟨True.intro, ?_⟩) : NRL _), Nat.le_of_ble_eq_true rfl, ?_⟩ | refine ⟨(⟨by omega, by omega, by decide⟩ : (0 : Int) ≤ _ ∧ _ ≤ _ ∧ Int.natAbs _ < _), ?_⟩); (try conv => whnf))))
  refine ifE (fun d st => d = oig n k p ∧ st = [some o]) (fun h N hN => ?_) (fun h N hN => ?_) ?_
  · have hk : (n : Int) < k := dec_t h
    exact hN _ _ ⟨(oig_lt (by omega)).symm, rfl⟩
  · have hk : ¬ (n : Int) < k := dec_f h
    ((repeat first | refine ⟨_, rfl, ?_⟩ | refine ⟨MulOk.r ⟨by omega, by omega⟩, ?_⟩ | refine ⟨MulOk.l ⟨by omega, by omega⟩, ?_⟩ | refine ⟨DivOk.of (by omega) (by omega), ?_⟩ | refine ⟨(by omega : (0 : Int) < _), ?_⟩ | refine ⟨True.intro, ?_⟩ | refine ⟨rfl, ?_⟩ | refine ⟨(by repeat' (first | exact True.intro | refine ⟨?_, ?_⟩) : ShN 60 _), ?_⟩ | refine ⟨(Nat.le_of_ble_eq_true rfl : (_ : Nat) ≤ big), ?_⟩ | refine ⟨(by repeat (first | exact True.intro | refine ⟨True.intro, ?_⟩) : NRL _), Nat.le_of_ble_eq_true rfl, ?_⟩ | refine ⟨(⟨by omega, by omega, by decide⟩ : (0 : Int) ≤ _ ∧ _ ≤ _ ∧ Int.natAbs _ < _), ?_⟩); (try conv => whnf); (repeat ((first | with_reducible refine ifB_f ?_ | with_reducible refine ifB_t ?_ | with_reducible refine ifB_nt ?_ | with_reducible refine ifB_nf ?_); (repeat first | refine ⟨_, rfl, ?_⟩ | refine ⟨MulOk.r ⟨by omega, by omega⟩, ?_⟩ | refine ⟨MulOk.l ⟨by omega, by omega⟩, ?_⟩ | refine ⟨DivOk.of (by omega) (by omega), ?_⟩ | refine ⟨(by omega : (0 : Int) < _), ?_⟩ | refine ⟨True.intro, ?_⟩ | refine ⟨rfl, ?_⟩ | refine ⟨(by repeat' (first | exact True.intro | refine ⟨?_, ?_⟩) : ShN 60 _), ?_⟩ | refine ⟨(Nat.le_of_ble_eq_true rfl : (_ : Nat) ≤ big), ?_⟩ | refine ⟨(by repeat (first | exact True.intro | refine ⟨True.intro, ?_⟩) : NRL _), Nat.le_of_ble_eq_true rfl, ?_⟩ | refine ⟨(⟨by omega, by omega, by decide⟩ : (0 : Int) ≤ _ ∧ _ ≤ _ ∧ Int.natAbs _ < _), ?_⟩); (try conv => whnf))))
    refine ⟨ch n k, p, rfl, rfl, ch_pos (by omega), h2, h3, ?_⟩
    exact hN _ _ ⟨(oig_ge (by omega)).symm, rfl⟩
  rintro d st ⟨rfl, rfl⟩
  refine ne_same oig_sh ?_
  ((repeat first | refine ⟨_, rfl, ?_⟩ | refine ⟨MulOk.r ⟨by omega, by omega⟩, ?_⟩ | refine ⟨MulOk.l ⟨by omega, by omega⟩, ?_⟩ | refine ⟨DivOk.of (by omega) (by omega), ?_⟩ | refine ⟨(by omega : (0 : Int) < _), ?_⟩ | refine ⟨True.intro, ?_⟩ | refine ⟨rfl, ?_⟩ | refine ⟨(by repeat' (first | exact True.intro | refine ⟨?_, ?_⟩) : ShN 60 _), ?_⟩ | refine ⟨(Nat.le_of_ble_eq_true rfl : (_ : Nat) ≤ big), ?_⟩ | refine ⟨(by repeat (first | exact True.intro | refine ⟨True.intro, ?_⟩) : NRL _), Nat.le_of_ble_eq_true rfl, ?_⟩ | refine ⟨(⟨by omega, by omega, by decide⟩ : (0 : Int) ≤ _ ∧ _ ≤ _ ∧ Int.natAbs _ < _), ?_⟩); (try conv => whnf); (repeat ((first | with_reducible refine ifB_f ?_ | with_reducible refine ifB_t ?_ | with_reducible refine ifB_nt ?_ | with_reducible refine ifB_nf ?_); (repeat first | refine ⟨_, rfl, ?_⟩ | refine ⟨MulOk.r ⟨by omega, by omega⟩, ?_⟩ | refine ⟨MulOk.l ⟨by omega, by omega⟩, ?_⟩ | refine ⟨DivOk.of (by omega) (by omega), ?_⟩ | refine ⟨(by omega : (0 : Int) < _), ?_⟩ | refine ⟨True.intro, ?_⟩ | refine ⟨rfl, ?_⟩ | refine ⟨(by repeat' (first | exact True.intro | refine ⟨?_, ?_⟩) : ShN 60 _), ?_⟩ | refine ⟨(Nat.le_of_ble_eq_true rfl : (_ : Nat) ≤ big), ?_⟩ | refine ⟨(by repeat (first | exact True.intro | refine ⟨True.intro, ?_⟩) : NRL _), Nat.le_of_ble_eq_true rfl, ?_⟩ | refine ⟨(⟨by omega, by omega, by decide⟩ : (0 : Int) ≤ _ ∧ _ ≤ _ ∧ Int.natAbs _ < _), ?_⟩); (try conv => whnf))))
  refine ⟨n, p, rfl, rfl, by omega, hp, ?_⟩
  ((repeat first | refine ⟨_, rfl, ?_⟩ | refine ⟨MulOk.r ⟨by omega, by omega⟩, ?_⟩ | refine ⟨MulOk.l ⟨by omega, by omega⟩, ?_⟩ | refine ⟨DivOk.of (by omega) (by omega), ?_⟩ | refine ⟨(by omega : (0 : Int) < _), ?_⟩ | refine ⟨True.intro, ?_⟩ | refine ⟨rfl, ?_⟩ | refine ⟨(by repeat' (first | exact True.intro | refine ⟨?_, ?_⟩) : ShN 60 _), ?_⟩ | refine ⟨(Nat.le_of_ble_eq_true rfl : (_ : Nat) ≤ big), ?_⟩ | refine ⟨(by repeat (first | exact True.intro | refine ⟨True.intro, ?_⟩) : NRL _), Nat.le_of_ble_eq_true rfl, ?_⟩ | refine ⟨(⟨by omega, by omega, by decide⟩ : (0 : Int) ≤ _ ∧ _ ≤ _ ∧ Int.natAbs _ < _), ?_⟩); (try conv => whnf); (repeat ((first | with_reducible refine ifB_f ?_ | with_reducible refine ifB_t ?_ | with_reducible refine ifB_nt ?_ | with_reducible refine ifB_nf ?_); (repeat first | refine ⟨_, rfl, ?_⟩ | refine ⟨MulOk.r ⟨by omega, by omega⟩, ?_⟩ | refine ⟨MulOk.l ⟨by omega, by omega⟩, ?_⟩ | refine ⟨DivOk.of (by omega) (by omega), ?_⟩ | refine ⟨(by omega : (0 : Int) < _), ?_⟩ | refine ⟨True.intro, ?_⟩ | refine ⟨rfl, ?_⟩ | refine ⟨(by repeat' (first | exact True.intro | refine ⟨?_, ?_⟩) : ShN 60 _), ?_⟩ | refine ⟨(Nat.le_of_ble_eq_true rfl : (_ : Nat) ≤ big), ?_⟩ | refine ⟨(by repeat (first | exact True.intro | refine ⟨True.intro, ?_⟩) : NRL _), Nat.le_of_ble_eq_true rfl, ?_⟩ | refine ⟨(⟨by omega, by omega, by decide⟩ : (0 : Int) ≤ _ ∧ _ ≤ _ ∧ Int.natAbs _ < _), ?_⟩); (try conv => whnf))))
  refine ⟨_, hrow, ?_⟩
  ((repeat first | refine ⟨_, rfl, ?_⟩ | refine ⟨MulOk.r ⟨by omega, by omega⟩, ?_⟩ | refine ⟨MulOk.l ⟨by omega, by omega⟩, ?_⟩ | refine ⟨DivOk.of (by omega) (by omega), ?_⟩ | refine ⟨(by omega : (0 : Int) < _), ?_⟩ | refine ⟨True.intro, ?_⟩ | refine ⟨rfl, ?_⟩ | refine ⟨(by repeat' (first | exact True.intro | refine ⟨?_, ?_⟩) : ShN 60 _), ?_⟩ | refine ⟨(Nat.le_of_ble_eq_true rfl : (_ : Nat) ≤ big), ?_⟩ | refine ⟨(by repeat (first | exact True.intro | refine ⟨True.intro, ?_⟩) : NRL _), Nat.le_of_ble_eq_true rfl, ?_⟩ | refine ⟨(⟨by omega, by omega, by decide⟩ : (0 : Int) ≤ _ ∧ _ ≤ _ ∧ Int.natAbs _ < _), ?_⟩); (try conv => whnf); (repeat ((first | with_reducible refine ifB_f ?_ | with_reducible refine ifB_t ?_ | with_reducible refine ifB_nt ?_ | with_reducible refine ifB_nf ?_); (repeat first | refine ⟨_, rfl, ?_⟩ | refine ⟨MulOk.r ⟨by omega, by omega⟩, ?_⟩ | refine ⟨MulOk.l ⟨by omega, by omega⟩, ?_⟩ | refine ⟨DivOk.of (by omega) (by omega), ?_⟩ | refine ⟨(by omega : (0 : Int) < _), ?_⟩ | refine ⟨True.intro, ?_⟩ | refine ⟨rfl, ?_⟩ | refine ⟨(by repeat' (first | exact True.intro | refine ⟨?_, ?_⟩) : ShN 60 _), ?_⟩ | refine ⟨(Nat.le_of_ble_eq_true rfl : (_ : Nat) ≤ big), ?_⟩ | refine ⟨(by repeat (first | exact True.intro | refine ⟨True.intro, ?_⟩) : NRL _), Nat.le_of_ble_eq_true rfl, ?_⟩ | refine ⟨(⟨by omega, by omega, by decide⟩ : (0 : Int) ≤ _ ∧ _ ≤ _ ∧ Int.natAbs _ < _), ?_⟩); (try conv => whnf))))
  refine lc_map (fun k => !decide (((ch n k : Nat) : Int) % (p : Int) = 0)) (fun k => D.int (ch n k : Nat)) ?_ (fun _ _ => True.intro) ?_ ?_
  · rw [List.length_range]
    show 0 + (n + 1) ≤ _
    omega
  · intro i hi A B h
    ((repeat first | refine ⟨_, rfl, ?_⟩ | refine ⟨MulOk.r ⟨by omega, by omega⟩, ?_⟩ | refine ⟨MulOk.l ⟨by omega, by omega⟩, ?_⟩ | refine ⟨DivOk.of (by omega) (by omega), ?_⟩ | refine ⟨(by omega : (0 : Int) < _), ?_⟩ | refine ⟨True.intro, ?_⟩ | refine ⟨rfl, ?_⟩ | refine ⟨(by repeat' (first | exact True.intro | refine ⟨?_, ?_⟩) : ShN 60 _), ?_⟩ | refine ⟨(Nat.le_of_ble_eq_true rfl : (_ : Nat) ≤ big), ?_⟩ | refine ⟨(by repeat (first | exact True.intro | refine ⟨True.intro, ?_⟩) : NRL _), Nat.le_of_ble_eq_true rfl, ?_⟩ | refine ⟨(⟨by omega, by omega, by decide⟩ : (0 : Int) ≤ _ ∧ _ ≤ _ ∧ Int.natAbs _ < _), ?_⟩); (try conv => whnf); (repeat ((first | with_reducible refine ifB_f ?_ | with_reducible refine ifB_t ?_ | with_reducible refine ifB_nt ?_ | with_reducible refine ifB_nf ?_); (repeat first | refine ⟨_, rfl, ?_⟩ | refine ⟨MulOk.r ⟨by omega, by omega⟩, ?_⟩ | refine ⟨MulOk.l ⟨by omega, by omega⟩, ?_⟩ | refine ⟨DivOk.of (by omega) (by omega), ?_⟩ | refine ⟨(by omega : (0 : Int) < _), ?_⟩ | refine ⟨True.intro, ?_⟩ | refine ⟨rfl, ?_⟩ | refine ⟨(by repeat' (first | exact True.intro | refine ⟨?_, ?_⟩) : ShN 60 _), ?_⟩ | refine ⟨(Nat.le_of_ble_eq_true rfl : (_ : Nat) ≤ big), ?_⟩ | refine ⟨(by repeat (first | exact True.intro | refine ⟨True.intro, ?_⟩) : NRL _), Nat.le_of_ble_eq_true rfl, ?_⟩ | refine ⟨(⟨by omega, by omega, by decide⟩ : (0 : Int) ≤ _ ∧ _ ≤ _ ∧ Int.natAbs _ < _), ?_⟩); (try conv => whnf))))
    exact h
  have hc : (((List.range (n + 1)).filter fun k => !decide (((ch n k : Nat) : Int) % (p : Int) = 0)).map fun k => D.int (ch n k : Nat)).length = rk p n := by
    rw [List.length_map, ← hp.cnt n (by omega)]
    congr 1
    apply List.filter_congr
    intro x _
    have : (((ch n x : Nat) : Int) % (p : Int) = 0) ↔ ch n x % p = 0 := by
      show (((ch n x % p : Nat) : Int) = 0) ↔ _
      omega
    by_cases hz : ch n x % p = 0
    · simp [this, hz]
    · simp [this, hz]
  ((repeat first | refine ⟨_, rfl, ?_⟩ | refine ⟨MulOk.r ⟨by omega, by omega⟩, ?_⟩ | refine ⟨MulOk.l ⟨by omega, by omega⟩, ?_⟩ | refine ⟨DivOk.of (by omega) (by omega), ?_⟩ | refine ⟨(by omega : (0 : Int) < _), ?_⟩ | refine ⟨True.intro, ?_⟩ | refine ⟨rfl, ?_⟩ | refine ⟨(by repeat' (first | exact True.intro | refine ⟨?_, ?_⟩) : ShN 60 _), ?_⟩ | refine ⟨(Nat.le_of_ble_eq_true rfl : (_ : Nat) ≤ big), ?_⟩ | refine ⟨(by repeat (first | exact True.intro | refine ⟨True.intro, ?_⟩) : NRL _), Nat.le_of_ble_eq_true rfl, ?_⟩ | refine ⟨(⟨by omega, by omega, by decide⟩ : (0 : Int) ≤ _ ∧ _ ≤ _ ∧ Int.natAbs _ < _), ?_⟩); (try conv => whnf); (repeat ((first | with_reducible refine ifB_f ?_ | with_reducible refine ifB_t ?_ | with_reducible refine ifB_nt ?_ | with_reducible refine ifB_nf ?_); (repeat first | refine ⟨_, rfl, ?_⟩ | refine ⟨MulOk.r ⟨by omega, by omega⟩, ?_⟩ | refine ⟨MulOk.l ⟨by omega, by omega⟩, ?_⟩ | refine ⟨DivOk.of (by omega) (by omega), ?_⟩ | refine ⟨(by omega : (0 : Int) < _), ?_⟩ | refine ⟨True.intro, ?_⟩ | refine ⟨rfl, ?_⟩ | refine ⟨(by repeat' (first | exact True.intro | refine ⟨?_, ?_⟩) : ShN 60 _), ?_⟩ | refine ⟨(Nat.le_of_ble_eq_true rfl : (_ : Nat) ≤ big), ?_⟩ | refine ⟨(by repeat (first | exact True.intro | refine ⟨True.intro, ?_⟩) : NRL _), Nat.le_of_ble_eq_true rfl, ?_⟩ | refine ⟨(⟨by omega, by omega, by decide⟩ : (0 : Int) ≤ _ ∧ _ ≤ _ ∧ Int.natAbs _ < _), ?_⟩); (try conv => whnf))))
  refine ifB.of (fun h => absurd ?_ (ndec_t h)) (fun _ => ?_)
  · rw [List.nil_append, hc]
  clear hc
  ((repeat first | refine ⟨_, rfl, ?_⟩ | refine ⟨MulOk.r ⟨by omega, by omega⟩, ?_⟩ | refine ⟨MulOk.l ⟨by omega, by omega⟩, ?_⟩ | refine ⟨DivOk.of (by omega) (by omega), ?_⟩ | refine ⟨(by omega : (0 : Int) < _), ?_⟩ | refine ⟨True.intro, ?_⟩ | refine ⟨rfl, ?_⟩ | refine ⟨(by repeat' (first | exact True.intro | refine ⟨?_, ?_⟩) : ShN 60 _), ?_⟩ | refine ⟨(Nat.le_of_ble_eq_true rfl : (_ : Nat) ≤ big), ?_⟩ | refine ⟨(by repeat (first | exact True.intro | refine ⟨True.intro, ?_⟩) : NRL _), Nat.le_of_ble_eq_true rfl, ?_⟩ | refine ⟨(⟨by omega, by omega, by decide⟩ : (0 : Int) ≤ _ ∧ _ ≤ _ ∧ Int.natAbs _ < _), ?_⟩); (try conv => whnf); (repeat ((first | with_reducible refine ifB_f ?_ | with_reducible refine ifB_t ?_ | with_reducible refine ifB_nt ?_ | with_reducible refine ifB_nf ?_); (repeat first | refine ⟨_, rfl, ?_⟩ | refine ⟨MulOk.r ⟨by omega, by omega⟩, ?_⟩ | refine ⟨MulOk.l ⟨by omega, by omega⟩, ?_⟩ | refine ⟨DivOk.of (by omega) (by omega), ?_⟩ | refine ⟨(by omega : (0 : Int) < _), ?_⟩ | refine ⟨True.intro, ?_⟩ | refine ⟨rfl, ?_⟩ | refine ⟨(by repeat' (first | exact True.intro | refine ⟨?_, ?_⟩) : ShN 60 _), ?_⟩ | refine ⟨(Nat.le_of_ble_eq_true rfl : (_ : Nat) ≤ big), ?_⟩ | refine ⟨(by repeat (first | exact True.intro | refine ⟨True.intro, ?_⟩) : NRL _), Nat.le_of_ble_eq_true rfl, ?_⟩ | refine ⟨(⟨by omega, by omega, by decide⟩ : (0 : Int) ≤ _ ∧ _ ≤ _ ∧ Int.natAbs _ < _), ?_⟩); (try conv => whnf))))
  refine ⟨⟨by omega, by omega⟩, ⟨by omega, by omega⟩, ?_⟩
  refine for_rng (fun i env st => ∃ x, env = [some (.ref 0), some (.lst (tri 60)), some (.int p), some (.int n), some (.int k), some (.int (ch n k : Nat)), some (.int (fac (i + 1) : Nat)), x, none, none] ∧ st = [some o]) ⟨_, rfl, rfl⟩ ?_ ?_
  · rintro i hi e s ⟨x, rfl, rfl⟩ N hN
    ((repeat first | refine ⟨_, rfl, ?_⟩ | refine ⟨MulOk.r ⟨by omega, by omega⟩, ?_⟩ | refine ⟨MulOk.l ⟨by omega, by omega⟩, ?_⟩ | refine ⟨DivOk.of (by omega) (by omega), ?_⟩ | refine ⟨(by omega : (0 : Int) < _), ?_⟩ | refine ⟨True.intro, ?_⟩ | refine ⟨rfl, ?_⟩ | refine ⟨(by repeat' (first | exact True.intro | refine ⟨?_, ?_⟩) : ShN 60 _), ?_⟩ | refine ⟨(Nat.le_of_ble_eq_true rfl : (_ : Nat) ≤ big), ?_⟩ | refine ⟨(by repeat (first | exact True.intro | refine ⟨True.intro, ?_⟩) : NRL _), Nat.le_of_ble_eq_true rfl, ?_⟩ | refine ⟨(⟨by omega, by omega, by decide⟩ : (0 : Int) ≤ _ ∧ _ ≤ _ ∧ Int.natAbs _ < _), ?_⟩); (try conv => whnf); (repeat ((first | with_reducible refine ifB_f ?_ | with_reducible refine ifB_t ?_ | with_reducible refine ifB_nt ?_ | with_reducible refine ifB_nf ?_); (repeat first | refine ⟨_, rfl, ?_⟩ | refine ⟨MulOk.r ⟨by omega, by omega⟩, ?_⟩ | refine ⟨MulOk.l ⟨by omega, by omega⟩, ?_⟩ | refine ⟨DivOk.of (by omega) (by omega), ?_⟩ | refine ⟨(by omega : (0 : Int) < _), ?_⟩ | refine ⟨True.intro, ?_⟩ | refine ⟨rfl, ?_⟩ | refine ⟨(by repeat' (first | exact True.intro | refine ⟨?_, ?_⟩) : ShN 60 _), ?_⟩ | refine ⟨(Nat.le_of_ble_eq_true rfl : (_ : Nat) ≤ big), ?_⟩ | refine ⟨(by repeat (first | exact True.intro | refine ⟨True.intro, ?_⟩) : NRL _), Nat.le_of_ble_eq_true rfl, ?_⟩ | refine ⟨(⟨by omega, by omega, by decide⟩ : (0 : Int) ≤ _ ∧ _ ≤ _ ∧ Int.natAbs _ < _), ?_⟩); (try conv => whnf))))
    refine hN _ _ ⟨some (.int (2 + (i : Int) * 1)), ?_, rfl⟩
    have e1 : ((fac (i + 1) : Nat) : Int) * (2 + (i : Int) * 1) = (fac (i + 1 + 1) : Nat) := by
      have e2 : (2 + (i : Int) * 1) = ((i + 1 + 1 : Nat) : Int) := by omega
      rw [e2, ← Int.natCast_mul, Nat.mul_comm]
      rfl
    show [_, _, _, _, _, _, some (D.int _), _, _, _] = _
    rw [e1]
  · rintro e s ⟨x, rfl, rfl⟩
    have e1 : fac (((n : Int) + 1 - 2).toNat + 1) = fac n := by
      rcases Nat.eq_zero_or_pos n with z | z
      · subst z
        rfl
      · congr 1
        omega
    rw [e1]
    ((repeat first | refine ⟨_, rfl, ?_⟩ | refine ⟨MulOk.r ⟨by omega, by omega⟩, ?_⟩ | refine ⟨MulOk.l ⟨by omega, by omega⟩, ?_⟩ | refine ⟨DivOk.of (by omega) (by omega), ?_⟩ | refine ⟨(by omega : (0 : Int) < _), ?_⟩ | refine ⟨True.intro, ?_⟩ | refine ⟨rfl, ?_⟩ | refine ⟨(by repeat' (first | exact True.intro | refine ⟨?_, ?_⟩) : ShN 60 _), ?_⟩ | refine ⟨(Nat.le_of_ble_eq_true rfl : (_ : Nat) ≤ big), ?_⟩ | refine ⟨(by repeat (first | exact True.intro | refine ⟨True.intro, ?_⟩) : NRL _), Nat.le_of_ble_eq_true rfl, ?_⟩ | refine ⟨(⟨by omega, by omega, by decide⟩ : (0 : Int) ≤ _ ∧ _ ≤ _ ∧ Int.natAbs _ < _), ?_⟩); (try conv => whnf); (repeat ((first | with_reducible refine ifB_f ?_ | with_reducible refine ifB_t ?_ | with_reducible refine ifB_nt ?_ | with_reducible refine ifB_nf ?_); (repeat first | refine ⟨_, rfl, ?_⟩ | refine ⟨MulOk.r ⟨by omega, by omega⟩, ?_⟩ | refine ⟨MulOk.l ⟨by omega, by omega⟩, ?_⟩ | refine ⟨DivOk.of (by omega) (by omega), ?_⟩ | refine ⟨(by omega : (0 : Int) < _), ?_⟩ | refine ⟨True.intro, ?_⟩ | refine ⟨rfl, ?_⟩ | refine ⟨(by repeat' (first | exact True.intro | refine ⟨?_, ?_⟩) : ShN 60 _), ?_⟩ | refine ⟨(Nat.le_of_ble_eq_true rfl : (_ : Nat) ≤ big), ?_⟩ | refine ⟨(by repeat (first | exact True.intro | refine ⟨True.intro, ?_⟩) : NRL _), Nat.le_of_ble_eq_true rfl, ?_⟩ | refine ⟨(⟨by omega, by omega, by decide⟩ : (0 : Int) ≤ _ ∧ _ ≤ _ ∧ Int.natAbs _ < _), ?_⟩); (try conv => whnf))))
    refine ⟨fac n, p, rfl, rfl, fac_pos n, h2, h3, ?_⟩
    rw [leg_fac hp.pr]
    ((repeat first | refine ⟨_, rfl, ?_⟩ | refine ⟨MulOk.r ⟨by omega, by omega⟩, ?_⟩ | refine ⟨MulOk.l ⟨by omega, by omega⟩, ?_⟩ | refine ⟨DivOk.of (by omega) (by omega), ?_⟩ | refine ⟨(by omega : (0 : Int) < _), ?_⟩ | refine ⟨True.intro, ?_⟩ | refine ⟨rfl, ?_⟩ | refine ⟨(by repeat' (first | exact True.intro | refine ⟨?_, ?_⟩) : ShN 60 _), ?_⟩ | refine ⟨(Nat.le_of_ble_eq_true rfl : (_ : Nat) ≤ big), ?_⟩ | refine ⟨(by repeat (first | exact True.intro | refine ⟨True.intro, ?_⟩) : NRL _), Nat.le_of_ble_eq_true rfl, ?_⟩ | refine ⟨(⟨by omega, by omega, by decide⟩ : (0 : Int) ≤ _ ∧ _ ≤ _ ∧ Int.natAbs _ < _), ?_⟩); (try conv => whnf); (repeat ((first | with_reducible refine ifB_f ?_ | with_reducible refine ifB_t ?_ | with_reducible refine ifB_nt ?_ | with_reducible refine ifB_nf ?_); (repeat first | refine ⟨_, rfl, ?_⟩ | refine ⟨MulOk.r ⟨by omega, by omega⟩, ?_⟩ | refine ⟨MulOk.l ⟨by omega, by omega⟩, ?_⟩ | refine ⟨DivOk.of (by omega) (by omega), ?_⟩ | refine ⟨(by omega : (0 : Int) < _), ?_⟩ | refine ⟨True.intro, ?_⟩ | refine ⟨rfl, ?_⟩ | refine ⟨(by repeat' (first | exact True.intro | refine ⟨?_, ?_⟩) : ShN 60 _), ?_⟩ | refine ⟨(Nat.le_of_ble_eq_true rfl : (_ : Nat) ≤ big), ?_⟩ | refine ⟨(by repeat (first | exact True.intro | refine ⟨True.intro, ?_⟩) : NRL _), Nat.le_of_ble_eq_true rfl, ?_⟩ | refine ⟨(⟨by omega, by omega, by decide⟩ : (0 : Int) ≤ _ ∧ _ ≤ _ ∧ Int.natAbs _ < _), ?_⟩); (try conv => whnf))))
    refine ⟨n, p, rfl, rfl, by omega, hp, ?_⟩
    ((repeat first | refine ⟨_, rfl, ?_⟩ | refine ⟨MulOk.r ⟨by omega, by omega⟩, ?_⟩ | refine ⟨MulOk.l ⟨by omega, by omega⟩, ?_⟩ | refine ⟨DivOk.of (by omega) (by omega), ?_⟩ | refine ⟨(by omega : (0 : Int) < _), ?_⟩ | refine ⟨True.intro, ?_⟩ | refine ⟨rfl, ?_⟩ | refine ⟨(by repeat' (first | exact True.intro | refine ⟨?_, ?_⟩) : ShN 60 _), ?_⟩ | refine ⟨(Nat.le_of_ble_eq_true rfl : (_ : Nat) ≤ big), ?_⟩ | refine ⟨(by repeat (first | exact True.intro | refine ⟨True.intro, ?_⟩) : NRL _), Nat.le_of_ble_eq_true rfl, ?_⟩ | refine ⟨(⟨by omega, by omega, by decide⟩ : (0 : Int) ≤ _ ∧ _ ≤ _ ∧ Int.natAbs _ < _), ?_⟩); (try conv => whnf); (repeat ((first | with_reducible refine ifB_f ?_ | with_reducible refine ifB_t ?_ | with_reducible refine ifB_nt ?_ | with_reducible refine ifB_nf ?_); (repeat first | refine ⟨_, rfl, ?_⟩ | refine ⟨MulOk.r ⟨by omega, by omega⟩, ?_⟩ | refine ⟨MulOk.l ⟨by omega, by omega⟩, ?_⟩ | refine ⟨DivOk.of (by omega) (by omega), ?_⟩ | refine ⟨(by omega : (0 : Int) < _), ?_⟩ | refine ⟨True.intro, ?_⟩ | refine ⟨rfl, ?_⟩ | refine ⟨(by repeat' (first | exact True.intro | refine ⟨?_, ?_⟩) : ShN 60 _), ?_⟩ | refine ⟨(Nat.le_of_ble_eq_true rfl : (_ : Nat) ≤ big), ?_⟩ | refine ⟨(by repeat (first | exact True.intro | refine ⟨True.intro, ?_⟩) : NRL _), Nat.le_of_ble_eq_true rfl, ?_⟩ | refine ⟨(⟨by omega, by omega, by decide⟩ : (0 : Int) ≤ _ ∧ _ ≤ _ ∧ Int.natAbs _ < _), ?_⟩); (try conv => whnf))))
    refine ifB.of (fun h => absurd rfl (ndec_t h)) (fun _ => ?_)
    have hl := leg_le h2 n
    ((repeat first | refine ⟨_, rfl, ?_⟩ | refine ⟨MulOk.r ⟨by omega, by omega⟩, ?_⟩ | refine ⟨MulOk.l ⟨by omega, by omega⟩, ?_⟩ | refine ⟨DivOk.of (by omega) (by omega), ?_⟩ | refine ⟨(by omega : (0 : Int) < _), ?_⟩ | refine ⟨True.intro, ?_⟩ | refine ⟨rfl, ?_⟩ | refine ⟨(by repeat' (first | exact True.intro | refine ⟨?_, ?_⟩) : ShN 60 _), ?_⟩ | refine ⟨(Nat.le_of_ble_eq_true rfl : (_ : Nat) ≤ big), ?_⟩ | refine ⟨(by repeat (first | exact True.intro | refine ⟨True.intro, ?_⟩) : NRL _), Nat.le_of_ble_eq_true rfl, ?_⟩ | refine ⟨(⟨by omega, by omega, by decide⟩ : (0 : Int) ≤ _ ∧ _ ≤ _ ∧ Int.natAbs _ < _), ?_⟩); (try conv => whnf); (repeat ((first | with_reducible refine ifB_f ?_ | with_reducible refine ifB_t ?_ | with_reducible refine ifB_nt ?_ | with_reducible refine ifB_nf ?_); (repeat first | refine ⟨_, rfl, ?_⟩ | refine ⟨MulOk.r ⟨by omega, by omega⟩, ?_⟩ | refine ⟨MulOk.l ⟨by omega, by omega⟩, ?_⟩ | refine ⟨DivOk.of (by omega) (by omega), ?_⟩ | refine ⟨(by omega : (0 : Int) < _), ?_⟩ | refine ⟨True.intro, ?_⟩ | refine ⟨rfl, ?_⟩ | refine ⟨(by repeat' (first | exact True.intro | refine ⟨?_, ?_⟩) : ShN 60 _), ?_⟩ | refine ⟨(Nat.le_of_ble_eq_true rfl : (_ : Nat) ≤ big), ?_⟩ | refine ⟨(by repeat (first | exact True.intro | refine ⟨True.intro, ?_⟩) : NRL _), Nat.le_of_ble_eq_true rfl, ?_⟩ | refine ⟨(⟨by omega, by omega, by decide⟩ : (0 : Int) ≤ _ ∧ _ ≤ _ ∧ Int.natAbs _ < _), ?_⟩); (try conv => whnf))))
    refine ⟨⟨by omega, by omega⟩, ?_⟩
    refine for_rng (fun i env st => ∃ z, env = [some (.ref 0), some (.lst (tri 60)), some (.int p), some (.int n), some (.int k), some (.int (ch n k : Nat)), some (.int (p ^ (leg p n - i) * strip p (fac n) : Nat)), x, some (.int (leg p n : Nat)), z] ∧ st = [some o]) ⟨none, ?_, rfl⟩ ?_ ?_
    · have := (val_form h2 (fac n) (fac_pos n)).1
      rw [leg_fac hp.pr] at this
      rw [Nat.sub_zero, ← this]
      rfl
    · rintro i hi e s ⟨z, rfl, rfl⟩ N hN
      have hi' : i < leg p n := by omega
      ((repeat first | refine ⟨_, rfl, ?_⟩ | refine ⟨MulOk.r ⟨by omega, by omega⟩, ?_⟩ | refine ⟨MulOk.l ⟨by omega, by omega⟩, ?_⟩ | refine ⟨DivOk.of (by omega) (by omega), ?_⟩ | refine ⟨(by omega : (0 : Int) < _), ?_⟩ | refine ⟨True.intro, ?_⟩ | refine ⟨rfl, ?_⟩ | refine ⟨(by repeat' (first | exact True.intro | refine ⟨?_, ?_⟩) : ShN 60 _), ?_⟩ | refine ⟨(Nat.le_of_ble_eq_true rfl : (_ : Nat) ≤ big), ?_⟩ | refine ⟨(by repeat (first | exact True.intro | refine ⟨True.intro, ?_⟩) : NRL _), Nat.le_of_ble_eq_true rfl, ?_⟩ | refine ⟨(⟨by omega, by omega, by decide⟩ : (0 : Int) ≤ _ ∧ _ ≤ _ ∧ Int.natAbs _ < _), ?_⟩); (try conv => whnf); (repeat ((first | with_reducible refine ifB_f ?_ | with_reducible refine ifB_t ?_ | with_reducible refine ifB_nt ?_ | with_reducible refine ifB_nf ?_); (repeat first | refine ⟨_, rfl, ?_⟩ | refine ⟨MulOk.r ⟨by omega, by omega⟩, ?_⟩ | refine ⟨MulOk.l ⟨by omega, by omega⟩, ?_⟩ | refine ⟨DivOk.of (by omega) (by omega), ?_⟩ | refine ⟨(by omega : (0 : Int) < _), ?_⟩ | refine ⟨True.intro, ?_⟩ | refine ⟨rfl, ?_⟩ | refine ⟨(by repeat' (first | exact True.intro | refine ⟨?_, ?_⟩) : ShN 60 _), ?_⟩ | refine ⟨(Nat.le_of_ble_eq_true rfl : (_ : Nat) ≤ big), ?_⟩ | refine ⟨(by repeat (first | exact True.intro | refine ⟨True.intro, ?_⟩) : NRL _), Nat.le_of_ble_eq_true rfl, ?_⟩ | refine ⟨(⟨by omega, by omega, by decide⟩ : (0 : Int) ≤ _ ∧ _ ≤ _ ∧ Int.natAbs _ < _), ?_⟩); (try conv => whnf))))
      refine hN _ _ ⟨some (.int (0 + (i : Int) * 1)), ?_, rfl⟩
      have e1 : ((p ^ (leg p n - i) * strip p (fac n) : Nat) : Int) / (p : Int) = (p ^ (leg p n - (i + 1)) * strip p (fac n) : Nat) := by
        rw [← Int.natCast_ediv]
        have e2 : leg p n - i = (leg p n - (i + 1)) + 1 := by omega
        rw [e2, Nat.pow_succ, Nat.mul_assoc, Nat.mul_left_comm, Nat.mul_div_cancel_left _ (by omega)]
      show [_, _, _, _, _, _, some (D.int _), _, _, _] = _
      rw [e1]
    · rintro e s ⟨z, rfl, rfl⟩
      have e1 : p ^ (leg p n - ((leg p n : Nat) : Int).toNat) * strip p (fac n) = strip p (fac n) := by
        rw [Int.toNat_natCast, Nat.sub_self, Nat.pow_zero, Nat.one_mul]
      rw [show ((leg p n : Nat) : Int).toNat = leg p n from Int.toNat_natCast _, Nat.sub_self, Nat.pow_zero, Nat.one_mul]
      ((repeat first | refine ⟨_, rfl, ?_⟩ | refine ⟨MulOk.r ⟨by omega, by omega⟩, ?_⟩ | refine ⟨MulOk.l ⟨by omega, by omega⟩, ?_⟩ | refine ⟨DivOk.of (by omega) (by omega), ?_⟩ | refine ⟨(by omega : (0 : Int) < _), ?_⟩ | refine ⟨True.intro, ?_⟩ | refine ⟨rfl, ?_⟩ | refine ⟨(by repeat' (first | exact True.intro | refine ⟨?_, ?_⟩) : ShN 60 _), ?_⟩ | refine ⟨(Nat.le_of_ble_eq_true rfl : (_ : Nat) ≤ big), ?_⟩ | refine ⟨(by repeat (first | exact True.intro | refine ⟨True.intro, ?_⟩) : NRL _), Nat.le_of_ble_eq_true rfl, ?_⟩ | refine ⟨(⟨by omega, by omega, by decide⟩ : (0 : Int) ≤ _ ∧ _ ≤ _ ∧ Int.natAbs _ < _), ?_⟩); (try conv => whnf); (repeat ((first | with_reducible refine ifB_f ?_ | with_reducible refine ifB_t ?_ | with_reducible refine ifB_nt ?_ | with_reducible refine ifB_nf ?_); (repeat first | refine ⟨_, rfl, ?_⟩ | refine ⟨MulOk.r ⟨by omega, by omega⟩, ?_⟩ | refine ⟨MulOk.l ⟨by omega, by omega⟩, ?_⟩ | refine ⟨DivOk.of (by omega) (by omega), ?_⟩ | refine ⟨(by omega : (0 : Int) < _), ?_⟩ | refine ⟨True.intro, ?_⟩ | refine ⟨rfl, ?_⟩ | refine ⟨(by repeat' (first | exact True.intro | refine ⟨?_, ?_⟩) : ShN 60 _), ?_⟩ | refine ⟨(Nat.le_of_ble_eq_true rfl : (_ : Nat) ≤ big), ?_⟩ | refine ⟨(by repeat (first | exact True.intro | refine ⟨True.intro, ?_⟩) : NRL _), Nat.le_of_ble_eq_true rfl, ?_⟩ | refine ⟨(⟨by omega, by omega, by decide⟩ : (0 : Int) ≤ _ ∧ _ ≤ _ ∧ Int.natAbs _ < _), ?_⟩); (try conv => whnf))))
      refine ⟨n, p, rfl, rfl, by omega, hp, ?_⟩
      ((repeat first | refine ⟨_, rfl, ?_⟩ | refine ⟨MulOk.r ⟨by omega, by omega⟩, ?_⟩ | refine ⟨MulOk.l ⟨by omega, by omega⟩, ?_⟩ | refine ⟨DivOk.of (by omega) (by omega), ?_⟩ | refine ⟨(by omega : (0 : Int) < _), ?_⟩ | refine ⟨True.intro, ?_⟩ | refine ⟨rfl, ?_⟩ | refine ⟨(by repeat' (first | exact True.intro | refine ⟨?_, ?_⟩) : ShN 60 _), ?_⟩ | refine ⟨(Nat.le_of_ble_eq_true rfl : (_ : Nat) ≤ big), ?_⟩ | refine ⟨(by repeat (first | exact True.intro | refine ⟨True.intro, ?_⟩) : NRL _), Nat.le_of_ble_eq_true rfl, ?_⟩ | refine ⟨(⟨by omega, by omega, by decide⟩ : (0 : Int) ≤ _ ∧ _ ≤ _ ∧ Int.natAbs _ < _), ?_⟩); (try conv => whnf); (repeat ((first | with_reducible refine ifB_f ?_ | with_reducible refine ifB_t ?_ | with_reducible refine ifB_nt ?_ | with_reducible refine ifB_nf ?_); (repeat first | refine ⟨_, rfl, ?_⟩ | refine ⟨MulOk.r ⟨by omega, by omega⟩, ?_⟩ | refine ⟨MulOk.l ⟨by omega, by omega⟩, ?_⟩ | refine ⟨DivOk.of (by omega) (by omega), ?_⟩ | refine ⟨(by omega : (0 : Int) < _), ?_⟩ | refine ⟨True.intro, ?_⟩ | refine ⟨rfl, ?_⟩ | refine ⟨(by repeat' (first | exact True.intro | refine ⟨?_, ?_⟩) : ShN 60 _), ?_⟩ | refine ⟨(Nat.le_of_ble_eq_true rfl : (_ : Nat) ≤ big), ?_⟩ | refine ⟨(by repeat (first | exact True.intro | refine ⟨True.intro, ?_⟩) : NRL _), Nat.le_of_ble_eq_true rfl, ?_⟩ | refine ⟨(⟨by omega, by omega, by decide⟩ : (0 : Int) ≤ _ ∧ _ ≤ _ ∧ Int.natAbs _ < _), ?_⟩); (try conv => whnf))))
      refine .inl ⟨True.intro, ?_⟩
      have e2 : eqD (.tup [.int (leg p n : Nat), .int (strip p (fac n) % p : Nat)]) (.tup [.int (leg p n : Nat), .int (strip p (fac n) % p : Nat)]) = true := eqD_refl 60 _ ⟨True.intro, True.intro, True.intro⟩
      show Q (.bl (eqD (.tup [.int (leg p n : Nat), .int (strip p (fac n) % p : Nat)]) (.tup [.int (leg p n : Nat), .int (strip p (fac n) % p : Nat)]))) [some o]
      rw [e2]
      exact hQ o ho

theorem enum_get {xs : List D} {k : Nat} {d : D} (h : (enumD xs)[k]? = some d) : ∃ x, xs[k]? = some x ∧ d = .tup [.int k, x] := by
  unfold enumD at h
  have key : ∀ (is xs : List D) (k : Nat), (zipD is xs)[k]? = some d → ∃ i x, is[k]? = some i ∧ xs[k]? = some x ∧ d = .tup [i, x] := by
    intro is
    induction is with
    | nil => intro xs k h; cases xs <;> simp [zipD] at h
    | cons i is ih =>
      intro xs k h
      cases xs with
      | nil => simp [zipD] at h
      | cons x xs =>
        cases k with
        | zero => exact ⟨i, x, rfl, rfl, by simpa [zipD] using h.symm⟩
        | succ k => exact ih xs k (by simpa [zipD] using h)
  obtain ⟨i, x, h1, h2, h3⟩ := key _ _ _ h
  obtain ⟨_, rfl⟩ := rngD_get h1
  refine ⟨x, h2, ?_⟩
  rw [h3]
  congr 3
  congr 1
  omega
theorem enum_len {xs : List D} : (enumD xs).length = xs.length := by
  unfold enumD
  have key : ∀ (is xs : List D), is.length = xs.length → (zipD is xs).length = xs.length := by
    intro is
    induction is with
    | nil => intro xs h; cases xs with
      | nil => rfl
      | cons x xs => simp at h
    | cons i is ih =>
      intro xs h
      cases xs with
      | nil => simp at h
      | cons x xs => simp [zipD, ih xs (by simpa using h)]
  exact key _ _ rangeD_len
theorem digs_at {p n a t v : Nat} (hp : 2 ≤ p) (h : (digs p n).drop t = digs p a) (hv : (digs p n)[t]? = some v) : 0 < a ∧ v = a % p ∧ (digs p n).drop (t + 1) = digs p (a / p) := by
  have h1 : ((digs p n).drop t)[0]? = some v := by rw [List.getElem?_drop]; exact hv
  rw [h] at h1
  rcases Nat.eq_zero_or_pos a with z | z
  · subst z
    rw [digs_0] at h1
    cases h1
  · rw [digs_y hp z] at h1 h
    refine ⟨z, by simpa using h1.symm, ?_⟩
    rw [← List.drop_drop, h]
    rfl
theorem digs_end {p n a t : Nat} (hp : 2 ≤ p) (h : (digs p n).drop t = digs p a) (hv : (digs p n).length ≤ t) : a = 0 := by
  rw [List.drop_eq_nil_of_le hv] at h
  rcases Nat.eq_zero_or_pos a with z | z
  · exact z
  · rw [digs_y hp z] at h
    cases h
theorem digs_more {p n a t : Nat} (h : (digs p n).drop t = digs p a) (hv : t < (digs p n).length) : 0 < a := by
  rcases Nat.eq_zero_or_pos a with z | z
  · subst z
    rw [digs_0] at h
    have := congrArg List.length h
    rw [List.length_drop] at this
    simp at this
    omega
  · exact z
theorem rd__law_great_right (ds : List D) (so : Sto) (Q : WK) (h : p__law_great_right ds so Q) : w__law_great_right (endK so.length Q) (startM 14 ds) so := by
  obtain ⟨p, o, rfl, rfl, ho, hp, hQ⟩ := h
  have h2 := hp.pr.1
  have h3 := hp.lt
  refine seq_mid (fun env st => ∃ (n k : Nat) (o : Ob), env = [some (.ref 0), some (.lst (tri 60)), some (.int p), none, some (.int n), some (.int k), none, none, none, none, none, none, none, none] ∧ st = [some o] ∧ Hand o ∧ n ≤ 1000000000000 ∧ k ≤ 1000000000000) ?_ ?_
  rotate_left
  · intro N hN
    ((repeat first | refine ⟨_, rfl, ?_⟩ | refine ⟨MulOk.r ⟨by omega, by omega⟩, ?_⟩ | refine ⟨MulOk.l ⟨by omega, by omega⟩, ?_⟩ | refine ⟨DivOk.of (by omega) (by omega), ?_⟩ | refine ⟨(by omega : (0 : Int) < _), ?_⟩ | refine ⟨True.intro, ?_⟩ | refine ⟨rfl, ?_⟩ | refine ⟨(by repeat' (first | exact True.intro | refine ⟨?_, ?_⟩) : ShN 60 _), ?_⟩ | refine ⟨(Nat.le_of_ble_eq_true rfl : (_ : Nat) ≤ big), ?_⟩ | refine ⟨(by repeat (first | exact True.intro | refine ⟨True.intro, ?_⟩) : NRL _), Nat.le_of_ble_eq_true rfl, ?_⟩ | refine ⟨(⟨by omega, by omega, by decide⟩ : (0 : Int) ≤ _ ∧ _ ≤ _ ∧ Int.natAbs _ < _), ?_⟩); (try conv => whnf); (repeat ((first | with_reducible refine ifB_f ?_ | with_reducible refine ifB_t ?_ | with_reducible refine ifB_nt ?_ | with_reducible refine ifB_nf ?_); (repeat first | refine ⟨_, rfl, ?_⟩ | refine ⟨MulOk.r ⟨by omega, by omega⟩, ?_⟩ | refine ⟨MulOk.l ⟨by omega, by omega⟩, ?_⟩ | refine ⟨DivOk.of (by omega) (by omega), ?_⟩ | refine ⟨(by omega : (0 : Int) < _), ?_⟩ | refine ⟨True.intro, ?_⟩ | refine ⟨rfl, ?_⟩ | refine ⟨(by repeat' (first | exact True.intro | refine ⟨?_, ?_⟩) : ShN 60 _), ?_⟩ | refine ⟨(Nat.le_of_ble_eq_true rfl : (_ : Nat) ≤ big), ?_⟩ | refine ⟨(by repeat (first | exact True.intro | refine ⟨True.intro, ?_⟩) : NRL _), Nat.le_of_ble_eq_true rfl, ?_⟩ | refine ⟨(⟨by omega, by omega, by decide⟩ : (0 : Int) ≤ _ ∧ _ ≤ _ ∧ Int.natAbs _ < _), ?_⟩); (try conv => whnf))))
    refine ⟨p, o, rfl, rfl, ho, h2, h3, fun a b o ha hb ho => ?_⟩
    ((repeat first | refine ⟨_, rfl, ?_⟩ | refine ⟨MulOk.r ⟨by omega, by omega⟩, ?_⟩ | refine ⟨MulOk.l ⟨by omega, by omega⟩, ?_⟩ | refine ⟨DivOk.of (by omega) (by omega), ?_⟩ | refine ⟨(by omega : (0 : Int) < _), ?_⟩ | refine ⟨True.intro, ?_⟩ | refine ⟨rfl, ?_⟩ | refine ⟨(by repeat' (first | exact True.intro | refine ⟨?_, ?_⟩) : ShN 60 _), ?_⟩ | refine ⟨(Nat.le_of_ble_eq_true rfl : (_ : Nat) ≤ big), ?_⟩ | refine ⟨(by repeat (first | exact True.intro | refine ⟨True.intro, ?_⟩) : NRL _), Nat.le_of_ble_eq_true rfl, ?_⟩ | refine ⟨(⟨by omega, by omega, by decide⟩ : (0 : Int) ≤ _ ∧ _ ≤ _ ∧ Int.natAbs _ < _), ?_⟩); (try conv => whnf); (repeat ((first | with_reducible refine ifB_f ?_ | with_reducible refine ifB_t ?_ | with_reducible refine ifB_nt ?_ | with_reducible refine ifB_nf ?_); (repeat first | refine ⟨_, rfl, ?_⟩ | refine ⟨MulOk.r ⟨by omega, by omega⟩, ?_⟩ | refine ⟨MulOk.l ⟨by omega, by omega⟩, ?_⟩ | refine ⟨DivOk.of (by omega) (by omega), ?_⟩ | refine ⟨(by omega : (0 : Int) < _), ?_⟩ | refine ⟨True.intro, ?_⟩ | refine ⟨rfl, ?_⟩ | refine ⟨(by repeat' (first | exact True.intro | refine ⟨?_, ?_⟩) : ShN 60 _), ?_⟩ | refine ⟨(Nat.le_of_ble_eq_true rfl : (_ : Nat) ≤ big), ?_⟩ | refine ⟨(by repeat (first | exact True.intro | refine ⟨True.intro, ?_⟩) : NRL _), Nat.le_of_ble_eq_true rfl, ?_⟩ | refine ⟨(⟨by omega, by omega, by decide⟩ : (0 : Int) ≤ _ ∧ _ ≤ _ ∧ Int.natAbs _ < _), ?_⟩); (try conv => whnf))))
    exact hN _ _ ⟨a, b, o, rfl, rfl, ho, ha, hb⟩
  rintro env st ⟨n, k, o, rfl, rfl, ho, hn, hk⟩
  refine seq_mid (fun env st => env = [some (.ref 0), some (.lst (tri 60)), some (.int p), none, some (.int n), some (.int k), some (.lst ((digs p n).map fun x => .int (x : Nat))), some (.lst ((digs p k).map fun x => .int (x : Nat))), none, none, none, none, none, none] ∧ st = [some o]) ?_ ?_
  rotate_left
  · intro N hN
    ((repeat first | refine ⟨_, rfl, ?_⟩ | refine ⟨MulOk.r ⟨by omega, by omega⟩, ?_⟩ | refine ⟨MulOk.l ⟨by omega, by omega⟩, ?_⟩ | refine ⟨DivOk.of (by omega) (by omega), ?_⟩ | refine ⟨(by omega : (0 : Int) < _), ?_⟩ | refine ⟨True.intro, ?_⟩ | refine ⟨rfl, ?_⟩ | refine ⟨(by repeat' (first | exact True.intro | refine ⟨?_, ?_⟩) : ShN 60 _), ?_⟩ | refine ⟨(Nat.le_of_ble_eq_true rfl : (_ : Nat) ≤ big), ?_⟩ | refine ⟨(by repeat (first | exact True.intro | refine ⟨True.intro, ?_⟩) : NRL _), Nat.le_of_ble_eq_true rfl, ?_⟩ | refine ⟨(⟨by omega, by omega, by decide⟩ : (0 : Int) ≤ _ ∧ _ ≤ _ ∧ Int.natAbs _ < _), ?_⟩); (try conv => whnf); (repeat ((first | with_reducible refine ifB_f ?_ | with_reducible refine ifB_t ?_ | with_reducible refine ifB_nt ?_ | with_reducible refine ifB_nf ?_); (repeat first | refine ⟨_, rfl, ?_⟩ | refine ⟨MulOk.r ⟨by omega, by omega⟩, ?_⟩ | refine ⟨MulOk.l ⟨by omega, by omega⟩, ?_⟩ | refine ⟨DivOk.of (by omega) (by omega), ?_⟩ | refine ⟨(by omega : (0 : Int) < _), ?_⟩ | refine ⟨True.intro, ?_⟩ | refine ⟨rfl, ?_⟩ | refine ⟨(by repeat' (first | exact True.intro | refine ⟨?_, ?_⟩) : ShN 60 _), ?_⟩ | refine ⟨(Nat.le_of_ble_eq_true rfl : (_ : Nat) ≤ big), ?_⟩ | refine ⟨(by repeat (first | exact True.intro | refine ⟨True.intro, ?_⟩) : NRL _), Nat.le_of_ble_eq_true rfl, ?_⟩ | refine ⟨(⟨by omega, by omega, by decide⟩ : (0 : Int) ≤ _ ∧ _ ≤ _ ∧ Int.natAbs _ < _), ?_⟩); (try conv => whnf))))
    refine ⟨n, p, rfl, rfl, hn, h2, h3, ?_⟩
    ((repeat first | refine ⟨_, rfl, ?_⟩ | refine ⟨MulOk.r ⟨by omega, by omega⟩, ?_⟩ | refine ⟨MulOk.l ⟨by omega, by omega⟩, ?_⟩ | refine ⟨DivOk.of (by omega) (by omega), ?_⟩ | refine ⟨(by omega : (0 : Int) < _), ?_⟩ | refine ⟨True.intro, ?_⟩ | refine ⟨rfl, ?_⟩ | refine ⟨(by repeat' (first | exact True.intro | refine ⟨?_, ?_⟩) : ShN 60 _), ?_⟩ | refine ⟨(Nat.le_of_ble_eq_true rfl : (_ : Nat) ≤ big), ?_⟩ | refine ⟨(by repeat (first | exact True.intro | refine ⟨True.intro, ?_⟩) : NRL _), Nat.le_of_ble_eq_true rfl, ?_⟩ | refine ⟨(⟨by omega, by omega, by decide⟩ : (0 : Int) ≤ _ ∧ _ ≤ _ ∧ Int.natAbs _ < _), ?_⟩); (try conv => whnf); (repeat ((first | with_reducible refine ifB_f ?_ | with_reducible refine ifB_t ?_ | with_reducible refine ifB_nt ?_ | with_reducible refine ifB_nf ?_); (repeat first | refine ⟨_, rfl, ?_⟩ | refine ⟨MulOk.r ⟨by omega, by omega⟩, ?_⟩ | refine ⟨MulOk.l ⟨by omega, by omega⟩, ?_⟩ | refine ⟨DivOk.of (by omega) (by omega), ?_⟩ | refine ⟨(by omega : (0 : Int) < _), ?_⟩ | refine ⟨True.intro, ?_⟩ | refine ⟨rfl, ?_⟩ | refine ⟨(by repeat' (first | exact True.intro | refine ⟨?_, ?_⟩) : ShN 60 _), ?_⟩ | refine ⟨(Nat.le_of_ble_eq_true rfl : (_ : Nat) ≤ big), ?_⟩ | refine ⟨(by repeat (first | exact True.intro | refine ⟨True.intro, ?_⟩) : NRL _), Nat.le_of_ble_eq_true rfl, ?_⟩ | refine ⟨(⟨by omega, by omega, by decide⟩ : (0 : Int) ≤ _ ∧ _ ≤ _ ∧ Int.natAbs _ < _), ?_⟩); (try conv => whnf))))
    refine ⟨k, p, rfl, rfl, hk, h2, h3, ?_⟩
    ((repeat first | refine ⟨_, rfl, ?_⟩ | refine ⟨MulOk.r ⟨by omega, by omega⟩, ?_⟩ | refine ⟨MulOk.l ⟨by omega, by omega⟩, ?_⟩ | refine ⟨DivOk.of (by omega) (by omega), ?_⟩ | refine ⟨(by omega : (0 : Int) < _), ?_⟩ | refine ⟨True.intro, ?_⟩ | refine ⟨rfl, ?_⟩ | refine ⟨(by repeat' (first | exact True.intro | refine ⟨?_, ?_⟩) : ShN 60 _), ?_⟩ | refine ⟨(Nat.le_of_ble_eq_true rfl : (_ : Nat) ≤ big), ?_⟩ | refine ⟨(by repeat (first | exact True.intro | refine ⟨True.intro, ?_⟩) : NRL _), Nat.le_of_ble_eq_true rfl, ?_⟩ | refine ⟨(⟨by omega, by omega, by decide⟩ : (0 : Int) ≤ _ ∧ _ ≤ _ ∧ Int.natAbs _ < _), ?_⟩); (try conv => whnf); (repeat ((first | with_reducible refine ifB_f ?_ | with_reducible refine ifB_t ?_ | with_reducible refine ifB_nt ?_ | with_reducible refine ifB_nf ?_); (repeat first | refine ⟨_, rfl, ?_⟩ | refine ⟨MulOk.r ⟨by omega, by omega⟩, ?_⟩ | refine ⟨MulOk.l ⟨by omega, by omega⟩, ?_⟩ | refine ⟨DivOk.of (by omega) (by omega), ?_⟩ | refine ⟨(by omega : (0 : Int) < _), ?_⟩ | refine ⟨True.intro, ?_⟩ | refine ⟨rfl, ?_⟩ | refine ⟨(by repeat' (first | exact True.intro | refine ⟨?_, ?_⟩) : ShN 60 _), ?_⟩ | refine ⟨(Nat.le_of_ble_eq_true rfl : (_ : Nat) ≤ big), ?_⟩ | refine ⟨(by repeat (first | exact True.intro | refine ⟨True.intro, ?_⟩) : NRL _), Nat.le_of_ble_eq_true rfl, ?_⟩ | refine ⟨(⟨by omega, by omega, by decide⟩ : (0 : Int) ≤ _ ∧ _ ≤ _ ∧ Int.natAbs _ < _), ?_⟩); (try conv => whnf))))
    exact hN _ _ ⟨rfl, rfl⟩
  rintro env st ⟨rfl, rfl⟩
  refine seq_mid (fun env st => env = [some (.ref 0), some (.lst (tri 60)), some (.int p), none, some (.int n), some (.int k), some (.lst ((digs p n).map fun x => .int (x : Nat))), some (.lst ((digs p k).map fun x => .int (x : Nat))), some (.int 1), some (.int 1), none, none, none, none] ∧ st = [some o]) ?_ ?_
  rotate_left
  · intro N hN
    ((repeat first | refine ⟨_, rfl, ?_⟩ | refine ⟨MulOk.r ⟨by omega, by omega⟩, ?_⟩ | refine ⟨MulOk.l ⟨by omega, by omega⟩, ?_⟩ | refine ⟨DivOk.of (by omega) (by omega), ?_⟩ | refine ⟨(by omega : (0 : Int) < _), ?_⟩ | refine ⟨True.intro, ?_⟩ | refine ⟨rfl, ?_⟩ | refine ⟨(by repeat' (first | exact True.intro | refine ⟨?_, ?_⟩) : ShN 60 _), ?_⟩ | refine ⟨(Nat.le_of_ble_eq_true rfl : (_ : Nat) ≤ big), ?_⟩ | refine ⟨(by repeat (first | exact True.intro | refine ⟨True.intro, ?_⟩) : NRL _), Nat.le_of_ble_eq_true rfl, ?_⟩ | refine ⟨(⟨by omega, by omega, by decide⟩ : (0 : Int) ≤ _ ∧ _ ≤ _ ∧ Int.natAbs _ < _), ?_⟩); (try conv => whnf); (repeat ((first | with_reducible refine ifB_f ?_ | with_reducible refine ifB_t ?_ | with_reducible refine ifB_nt ?_ | with_reducible refine ifB_nf ?_); (repeat first | refine ⟨_, rfl, ?_⟩ | refine ⟨MulOk.r ⟨by omega, by omega⟩, ?_⟩ | refine ⟨MulOk.l ⟨by omega, by omega⟩, ?_⟩ | refine ⟨DivOk.of (by omega) (by omega), ?_⟩ | refine ⟨(by omega : (0 : Int) < _), ?_⟩ | refine ⟨True.intro, ?_⟩ | refine ⟨rfl, ?_⟩ | refine ⟨(by repeat' (first | exact True.intro | refine ⟨?_, ?_⟩) : ShN 60 _), ?_⟩ | refine ⟨(Nat.le_of_ble_eq_true rfl : (_ : Nat) ≤ big), ?_⟩ | refine ⟨(by repeat (first | exact True.intro | refine ⟨True.intro, ?_⟩) : NRL _), Nat.le_of_ble_eq_true rfl, ?_⟩ | refine ⟨(⟨by omega, by omega, by decide⟩ : (0 : Int) ≤ _ ∧ _ ≤ _ ∧ Int.natAbs _ < _), ?_⟩); (try conv => whnf))))
    exact hN _ _ ⟨rfl, rfl⟩
  rintro env st ⟨rfl, rfl⟩
  refine seq_mid (fun env st => ∃ x y z u v, env = [some (.ref 0), some (.lst (tri 60)), some (.int p), none, some (.int n), some (.int k), some (.lst ((digs p n).map fun x => .int (x : Nat))), some (.lst ((digs p k).map fun x => .int (x : Nat))), x, y, none, z, u, v] ∧ st = [some o]) ?_ ?_
  rotate_left
  · intro N hN
    ((repeat first | refine ⟨_, rfl, ?_⟩ | refine ⟨MulOk.r ⟨by omega, by omega⟩, ?_⟩ | refine ⟨MulOk.l ⟨by omega, by omega⟩, ?_⟩ | refine ⟨DivOk.of (by omega) (by omega), ?_⟩ | refine ⟨(by omega : (0 : Int) < _), ?_⟩ | refine ⟨True.intro, ?_⟩ | refine ⟨rfl, ?_⟩ | refine ⟨(by repeat' (first | exact True.intro | refine ⟨?_, ?_⟩) : ShN 60 _), ?_⟩ | refine ⟨(Nat.le_of_ble_eq_true rfl : (_ : Nat) ≤ big), ?_⟩ | refine ⟨(by repeat (first | exact True.intro | refine ⟨True.intro, ?_⟩) : NRL _), Nat.le_of_ble_eq_true rfl, ?_⟩ | refine ⟨(⟨by omega, by omega, by decide⟩ : (0 : Int) ≤ _ ∧ _ ≤ _ ∧ Int.natAbs _ < _), ?_⟩); (try conv => whnf); (repeat ((first | with_reducible refine ifB_f ?_ | with_reducible refine ifB_t ?_ | with_reducible refine ifB_nt ?_ | with_reducible refine ifB_nf ?_); (repeat first | refine ⟨_, rfl, ?_⟩ | refine ⟨MulOk.r ⟨by omega, by omega⟩, ?_⟩ | refine ⟨MulOk.l ⟨by omega, by omega⟩, ?_⟩ | refine ⟨DivOk.of (by omega) (by omega), ?_⟩ | refine ⟨(by omega : (0 : Int) < _), ?_⟩ | refine ⟨True.intro, ?_⟩ | refine ⟨rfl, ?_⟩ | refine ⟨(by repeat' (first | exact True.intro | refine ⟨?_, ?_⟩) : ShN 60 _), ?_⟩ | refine ⟨(Nat.le_of_ble_eq_true rfl : (_ : Nat) ≤ big), ?_⟩ | refine ⟨(by repeat (first | exact True.intro | refine ⟨True.intro, ?_⟩) : NRL _), Nat.le_of_ble_eq_true rfl, ?_⟩ | refine ⟨(⟨by omega, by omega, by decide⟩ : (0 : Int) ≤ _ ∧ _ ≤ _ ∧ Int.natAbs _ < _), ?_⟩); (try conv => whnf))))
    refine ifB.of (fun h => ?_) (fun h => hN _ _ ⟨_, _, _, _, _, rfl, rfl⟩)
    have h61 : (p : Int) < 61 := dec_t h
    ((repeat first | refine ⟨_, rfl, ?_⟩ | refine ⟨MulOk.r ⟨by omega, by omega⟩, ?_⟩ | refine ⟨MulOk.l ⟨by omega, by omega⟩, ?_⟩ | refine ⟨DivOk.of (by omega) (by omega), ?_⟩ | refine ⟨(by omega : (0 : Int) < _), ?_⟩ | refine ⟨True.intro, ?_⟩ | refine ⟨rfl, ?_⟩ | refine ⟨(by repeat' (first | exact True.intro | refine ⟨?_, ?_⟩) : ShN 60 _), ?_⟩ | refine ⟨(Nat.le_of_ble_eq_true rfl : (_ : Nat) ≤ big), ?_⟩ | refine ⟨(by repeat (first | exact True.intro | refine ⟨True.intro, ?_⟩) : NRL _), Nat.le_of_ble_eq_true rfl, ?_⟩ | refine ⟨(⟨by omega, by omega, by decide⟩ : (0 : Int) ≤ _ ∧ _ ≤ _ ∧ Int.natAbs _ < _), ?_⟩); (try conv => whnf); (repeat ((first | with_reducible refine ifB_f ?_ | with_reducible refine ifB_t ?_ | with_reducible refine ifB_nt ?_ | with_reducible refine ifB_nf ?_); (repeat first | refine ⟨_, rfl, ?_⟩ | refine ⟨MulOk.r ⟨by omega, by omega⟩, ?_⟩ | refine ⟨MulOk.l ⟨by omega, by omega⟩, ?_⟩ | refine ⟨DivOk.of (by omega) (by omega), ?_⟩ | refine ⟨(by omega : (0 : Int) < _), ?_⟩ | refine ⟨True.intro, ?_⟩ | refine ⟨rfl, ?_⟩ | refine ⟨(by repeat' (first | exact True.intro | refine ⟨?_, ?_⟩) : ShN 60 _), ?_⟩ | refine ⟨(Nat.le_of_ble_eq_true rfl : (_ : Nat) ≤ big), ?_⟩ | refine ⟨(by repeat (first | exact True.intro | refine ⟨True.intro, ?_⟩) : NRL _), Nat.le_of_ble_eq_true rfl, ?_⟩ | refine ⟨(⟨by omega, by omega, by decide⟩ : (0 : Int) ≤ _ ∧ _ ≤ _ ∧ Int.natAbs _ < _), ?_⟩); (try conv => whnf))))
    refine for_inv (fun t env st => ∃ (a b due kind : Nat) (x y z : Option D), env = [some (.ref 0), some (.lst (tri 60)), some (.int p), none, some (.int n), some (.int k), some (.lst ((digs p n).map fun x => .int (x : Nat))), some (.lst ((digs p k).map fun x => .int (x : Nat))), some (.int due), some (.int kind), none, x, y, z] ∧ st = [some o] ∧ (digs p n).drop t = digs p a ∧ (digs p k).drop t = digs p b ∧ due < p ∧ (due * ch a b) % p = ch n k % p ∧ kind * rk p a = rk p n) ⟨n, k, 1, 1, none, none, none, rfl, rfl, rfl, rfl, by omega, by rw [Nat.one_mul], by rw [Nat.one_mul]⟩ ?_ ?_
    · rintro t d hd e s ⟨a, b, due, kind, x, y, z, rfl, rfl, hda, hdb, hdue, he, hr⟩ N hN
      obtain ⟨v, hv, rfl⟩ := enum_get hd
      rw [List.getElem?_map] at hv
      obtain ⟨v', hv', rfl⟩ := Option.map_eq_some_iff.mp hv
      obtain ⟨ha, rfl, hda'⟩ := digs_at h2 hda hv'
      have hva : a % p < p := Nat.mod_lt _ (by omega)
      have hvb : b % p < p := Nat.mod_lt _ (by omega)
      ((repeat first | refine ⟨_, rfl, ?_⟩ | refine ⟨MulOk.r ⟨by omega, by omega⟩, ?_⟩ | refine ⟨MulOk.l ⟨by omega, by omega⟩, ?_⟩ | refine ⟨DivOk.of (by omega) (by omega), ?_⟩ | refine ⟨(by omega : (0 : Int) < _), ?_⟩ | refine ⟨True.intro, ?_⟩ | refine ⟨rfl, ?_⟩ | refine ⟨(by repeat' (first | exact True.intro | refine ⟨?_, ?_⟩) : ShN 60 _), ?_⟩ | refine ⟨(Nat.le_of_ble_eq_true rfl : (_ : Nat) ≤ big), ?_⟩ | refine ⟨(by repeat (first | exact True.intro | refine ⟨True.intro, ?_⟩) : NRL _), Nat.le_of_ble_eq_true rfl, ?_⟩ | refine ⟨(⟨by omega, by omega, by decide⟩ : (0 : Int) ≤ _ ∧ _ ≤ _ ∧ Int.natAbs _ < _), ?_⟩); (try conv => whnf); (repeat ((first | with_reducible refine ifB_f ?_ | with_reducible refine ifB_t ?_ | with_reducible refine ifB_nt ?_ | with_reducible refine ifB_nf ?_); (repeat first | refine ⟨_, rfl, ?_⟩ | refine ⟨MulOk.r ⟨by omega, by omega⟩, ?_⟩ | refine ⟨MulOk.l ⟨by omega, by omega⟩, ?_⟩ | refine ⟨DivOk.of (by omega) (by omega), ?_⟩ | refine ⟨(by omega : (0 : Int) < _), ?_⟩ | refine ⟨True.intro, ?_⟩ | refine ⟨rfl, ?_⟩ | refine ⟨(by repeat' (first | exact True.intro | refine ⟨?_, ?_⟩) : ShN 60 _), ?_⟩ | refine ⟨(Nat.le_of_ble_eq_true rfl : (_ : Nat) ≤ big), ?_⟩ | refine ⟨(by repeat (first | exact True.intro | refine ⟨True.intro, ?_⟩) : NRL _), Nat.le_of_ble_eq_true rfl, ?_⟩ | refine ⟨(⟨by omega, by omega, by decide⟩ : (0 : Int) ≤ _ ∧ _ ≤ _ ∧ Int.natAbs _ < _), ?_⟩); (try conv => whnf))))
      refine ifE (fun d st => d = .int (b % p : Nat) ∧ st = [some o] ∧ (digs p k).drop (t + 1) = digs p (b / p)) (fun h N hN => ?_) (fun h N hN => ?_) ?_
      · have ht : (t : Int) < (((digs p k).map fun x => D.int (x : Nat)).length : Nat) := dec_t h
        rw [List.length_map] at ht
        have hw : (digs p k)[t]? = some ((digs p k)[t]'(by omega)) := List.getElem?_eq_getElem _
        obtain ⟨hb, hw2, hdb'⟩ := digs_at h2 hdb hw
        ((repeat first | refine ⟨_, rfl, ?_⟩ | refine ⟨MulOk.r ⟨by omega, by omega⟩, ?_⟩ | refine ⟨MulOk.l ⟨by omega, by omega⟩, ?_⟩ | refine ⟨DivOk.of (by omega) (by omega), ?_⟩ | refine ⟨(by omega : (0 : Int) < _), ?_⟩ | refine ⟨True.intro, ?_⟩ | refine ⟨rfl, ?_⟩ | refine ⟨(by repeat' (first | exact True.intro | refine ⟨?_, ?_⟩) : ShN 60 _), ?_⟩ | refine ⟨(Nat.le_of_ble_eq_true rfl : (_ : Nat) ≤ big), ?_⟩ | refine ⟨(by repeat (first | exact True.intro | refine ⟨True.intro, ?_⟩) : NRL _), Nat.le_of_ble_eq_true rfl, ?_⟩ | refine ⟨(⟨by omega, by omega, by decide⟩ : (0 : Int) ≤ _ ∧ _ ≤ _ ∧ Int.natAbs _ < _), ?_⟩); (try conv => whnf); (repeat ((first | with_reducible refine ifB_f ?_ | with_reducible refine ifB_t ?_ | with_reducible refine ifB_nt ?_ | with_reducible refine ifB_nf ?_); (repeat first | refine ⟨_, rfl, ?_⟩ | refine ⟨MulOk.r ⟨by omega, by omega⟩, ?_⟩ | refine ⟨MulOk.l ⟨by omega, by omega⟩, ?_⟩ | refine ⟨DivOk.of (by omega) (by omega), ?_⟩ | refine ⟨(by omega : (0 : Int) < _), ?_⟩ | refine ⟨True.intro, ?_⟩ | refine ⟨rfl, ?_⟩ | refine ⟨(by repeat' (first | exact True.intro | refine ⟨?_, ?_⟩) : ShN 60 _), ?_⟩ | refine ⟨(Nat.le_of_ble_eq_true rfl : (_ : Nat) ≤ big), ?_⟩ | refine ⟨(by repeat (first | exact True.intro | refine ⟨True.intro, ?_⟩) : NRL _), Nat.le_of_ble_eq_true rfl, ?_⟩ | refine ⟨(⟨by omega, by omega, by decide⟩ : (0 : Int) ≤ _ ∧ _ ≤ _ ∧ Int.natAbs _ < _), ?_⟩); (try conv => whnf))))
        refine ⟨_, atI_nat (by rw [List.getElem?_map, hw]; rfl), ?_⟩
        rw [hw2]
        exact hN _ _ ⟨rfl, rfl, hdb'⟩
      · have ht : ¬ (t : Int) < (((digs p k).map fun x => D.int (x : Nat)).length : Nat) := dec_f h
        rw [List.length_map] at ht
        have hb := digs_end h2 hdb (by omega)
        subst hb
        refine hN _ _ ⟨by rw [Nat.zero_mod]; rfl, rfl, ?_⟩
        rw [Nat.zero_div, digs_0, List.drop_eq_nil_of_le (by omega)]
      rintro d st ⟨rfl, rfl, hdb'⟩
      ((repeat first | refine ⟨_, rfl, ?_⟩ | refine ⟨MulOk.r ⟨by omega, by omega⟩, ?_⟩ | refine ⟨MulOk.l ⟨by omega, by omega⟩, ?_⟩ | refine ⟨DivOk.of (by omega) (by omega), ?_⟩ | refine ⟨(by omega : (0 : Int) < _), ?_⟩ | refine ⟨True.intro, ?_⟩ | refine ⟨rfl, ?_⟩ | refine ⟨(by repeat' (first | exact True.intro | refine ⟨?_, ?_⟩) : ShN 60 _), ?_⟩ | refine ⟨(Nat.le_of_ble_eq_true rfl : (_ : Nat) ≤ big), ?_⟩ | refine ⟨(by repeat (first | exact True.intro | refine ⟨True.intro, ?_⟩) : NRL _), Nat.le_of_ble_eq_true rfl, ?_⟩ | refine ⟨(⟨by omega, by omega, by decide⟩ : (0 : Int) ≤ _ ∧ _ ≤ _ ∧ Int.natAbs _ < _), ?_⟩); (try conv => whnf); (repeat ((first | with_reducible refine ifB_f ?_ | with_reducible refine ifB_t ?_ | with_reducible refine ifB_nt ?_ | with_reducible refine ifB_nf ?_); (repeat first | refine ⟨_, rfl, ?_⟩ | refine ⟨MulOk.r ⟨by omega, by omega⟩, ?_⟩ | refine ⟨MulOk.l ⟨by omega, by omega⟩, ?_⟩ | refine ⟨DivOk.of (by omega) (by omega), ?_⟩ | refine ⟨(by omega : (0 : Int) < _), ?_⟩ | refine ⟨True.intro, ?_⟩ | refine ⟨rfl, ?_⟩ | refine ⟨(by repeat' (first | exact True.intro | refine ⟨?_, ?_⟩) : ShN 60 _), ?_⟩ | refine ⟨(Nat.le_of_ble_eq_true rfl : (_ : Nat) ≤ big), ?_⟩ | refine ⟨(by repeat (first | exact True.intro | refine ⟨True.intro, ?_⟩) : NRL _), Nat.le_of_ble_eq_true rfl, ?_⟩ | refine ⟨(⟨by omega, by omega, by decide⟩ : (0 : Int) ≤ _ ∧ _ ≤ _ ∧ Int.natAbs _ < _), ?_⟩); (try conv => whnf))))
      refine ifE (fun d st => d = .int (ch (a % p) (b % p) : Nat) ∧ st = [some o]) (fun h N hN => ?_) (fun h N hN => ?_) ?_
      · have hle : ((b % p : Nat) : Int) ≤ ((a % p : Nat) : Int) := dec_t h
        ((repeat first | refine ⟨_, rfl, ?_⟩ | refine ⟨MulOk.r ⟨by omega, by omega⟩, ?_⟩ | refine ⟨MulOk.l ⟨by omega, by omega⟩, ?_⟩ | refine ⟨DivOk.of (by omega) (by omega), ?_⟩ | refine ⟨(by omega : (0 : Int) < _), ?_⟩ | refine ⟨True.intro, ?_⟩ | refine ⟨rfl, ?_⟩ | refine ⟨(by repeat' (first | exact True.intro | refine ⟨?_, ?_⟩) : ShN 60 _), ?_⟩ | refine ⟨(Nat.le_of_ble_eq_true rfl : (_ : Nat) ≤ big), ?_⟩ | refine ⟨(by repeat (first | exact True.intro | refine ⟨True.intro, ?_⟩) : NRL _), Nat.le_of_ble_eq_true rfl, ?_⟩ | refine ⟨(⟨by omega, by omega, by decide⟩ : (0 : Int) ≤ _ ∧ _ ≤ _ ∧ Int.natAbs _ < _), ?_⟩); (try conv => whnf); (repeat ((first | with_reducible refine ifB_f ?_ | with_reducible refine ifB_t ?_ | with_reducible refine ifB_nt ?_ | with_reducible refine ifB_nf ?_); (repeat first | refine ⟨_, rfl, ?_⟩ | refine ⟨MulOk.r ⟨by omega, by omega⟩, ?_⟩ | refine ⟨MulOk.l ⟨by omega, by omega⟩, ?_⟩ | refine ⟨DivOk.of (by omega) (by omega), ?_⟩ | refine ⟨(by omega : (0 : Int) < _), ?_⟩ | refine ⟨True.intro, ?_⟩ | refine ⟨rfl, ?_⟩ | refine ⟨(by repeat' (first | exact True.intro | refine ⟨?_, ?_⟩) : ShN 60 _), ?_⟩ | refine ⟨(Nat.le_of_ble_eq_true rfl : (_ : Nat) ≤ big), ?_⟩ | refine ⟨(by repeat (first | exact True.intro | refine ⟨True.intro, ?_⟩) : NRL _), Nat.le_of_ble_eq_true rfl, ?_⟩ | refine ⟨(⟨by omega, by omega, by decide⟩ : (0 : Int) ≤ _ ∧ _ ≤ _ ∧ Int.natAbs _ < _), ?_⟩); (try conv => whnf))))
        refine ⟨_, atI_nat (tab_get (f := fun n => D.lst ((List.range (n + 1)).map fun k => .int (ch n k : Nat))) (by omega)), ?_⟩
        ((repeat first | refine ⟨_, rfl, ?_⟩ | refine ⟨MulOk.r ⟨by omega, by omega⟩, ?_⟩ | refine ⟨MulOk.l ⟨by omega, by omega⟩, ?_⟩ | refine ⟨DivOk.of (by omega) (by omega), ?_⟩ | refine ⟨(by omega : (0 : Int) < _), ?_⟩ | refine ⟨True.intro, ?_⟩ | refine ⟨rfl, ?_⟩ | refine ⟨(by repeat' (first | exact True.intro | refine ⟨?_, ?_⟩) : ShN 60 _), ?_⟩ | refine ⟨(Nat.le_of_ble_eq_true rfl : (_ : Nat) ≤ big), ?_⟩ | refine ⟨(by repeat (first | exact True.intro | refine ⟨True.intro, ?_⟩) : NRL _), Nat.le_of_ble_eq_true rfl, ?_⟩ | refine ⟨(⟨by omega, by omega, by decide⟩ : (0 : Int) ≤ _ ∧ _ ≤ _ ∧ Int.natAbs _ < _), ?_⟩); (try conv => whnf); (repeat ((first | with_reducible refine ifB_f ?_ | with_reducible refine ifB_t ?_ | with_reducible refine ifB_nt ?_ | with_reducible refine ifB_nf ?_); (repeat first | refine ⟨_, rfl, ?_⟩ | refine ⟨MulOk.r ⟨by omega, by omega⟩, ?_⟩ | refine ⟨MulOk.l ⟨by omega, by omega⟩, ?_⟩ | refine ⟨DivOk.of (by omega) (by omega), ?_⟩ | refine ⟨(by omega : (0 : Int) < _), ?_⟩ | refine ⟨True.intro, ?_⟩ | refine ⟨rfl, ?_⟩ | refine ⟨(by repeat' (first | exact True.intro | refine ⟨?_, ?_⟩) : ShN 60 _), ?_⟩ | refine ⟨(Nat.le_of_ble_eq_true rfl : (_ : Nat) ≤ big), ?_⟩ | refine ⟨(by repeat (first | exact True.intro | refine ⟨True.intro, ?_⟩) : NRL _), Nat.le_of_ble_eq_true rfl, ?_⟩ | refine ⟨(⟨by omega, by omega, by decide⟩ : (0 : Int) ≤ _ ∧ _ ≤ _ ∧ Int.natAbs _ < _), ?_⟩); (try conv => whnf))))
        refine ⟨_, atI_nat (tab_get (f := fun k => D.int (ch (a % p) k : Nat)) (by omega)), ?_⟩
        exact hN _ _ ⟨rfl, rfl⟩
      · have hle : ¬ ((b % p : Nat) : Int) ≤ ((a % p : Nat) : Int) := dec_f h
        rw [ch_lt (by omega)] at hN
        exact hN _ _ ⟨rfl, rfl⟩
      rintro d st ⟨rfl, rfl⟩
      ((repeat first | refine ⟨_, rfl, ?_⟩ | refine ⟨MulOk.r ⟨by omega, by omega⟩, ?_⟩ | refine ⟨MulOk.l ⟨by omega, by omega⟩, ?_⟩ | refine ⟨DivOk.of (by omega) (by omega), ?_⟩ | refine ⟨(by omega : (0 : Int) < _), ?_⟩ | refine ⟨True.intro, ?_⟩ | refine ⟨rfl, ?_⟩ | refine ⟨(by repeat' (first | exact True.intro | refine ⟨?_, ?_⟩) : ShN 60 _), ?_⟩ | refine ⟨(Nat.le_of_ble_eq_true rfl : (_ : Nat) ≤ big), ?_⟩ | refine ⟨(by repeat (first | exact True.intro | refine ⟨True.intro, ?_⟩) : NRL _), Nat.le_of_ble_eq_true rfl, ?_⟩ | refine ⟨(⟨by omega, by omega, by decide⟩ : (0 : Int) ≤ _ ∧ _ ≤ _ ∧ Int.natAbs _ < _), ?_⟩); (try conv => whnf); (repeat ((first | with_reducible refine ifB_f ?_ | with_reducible refine ifB_t ?_ | with_reducible refine ifB_nt ?_ | with_reducible refine ifB_nf ?_); (repeat first | refine ⟨_, rfl, ?_⟩ | refine ⟨MulOk.r ⟨by omega, by omega⟩, ?_⟩ | refine ⟨MulOk.l ⟨by omega, by omega⟩, ?_⟩ | refine ⟨DivOk.of (by omega) (by omega), ?_⟩ | refine ⟨(by omega : (0 : Int) < _), ?_⟩ | refine ⟨True.intro, ?_⟩ | refine ⟨rfl, ?_⟩ | refine ⟨(by repeat' (first | exact True.intro | refine ⟨?_, ?_⟩) : ShN 60 _), ?_⟩ | refine ⟨(Nat.le_of_ble_eq_true rfl : (_ : Nat) ≤ big), ?_⟩ | refine ⟨(by repeat (first | exact True.intro | refine ⟨True.intro, ?_⟩) : NRL _), Nat.le_of_ble_eq_true rfl, ?_⟩ | refine ⟨(⟨by omega, by omega, by decide⟩ : (0 : Int) ≤ _ ∧ _ ≤ _ ∧ Int.natAbs _ < _), ?_⟩); (try conv => whnf))))
      refine hN _ _ ⟨a / p, b / p, due * ch (a % p) (b % p) % p, kind * (a % p + 1), _, _, _, rfl, rfl, hda', hdb', Nat.mod_lt _ (by omega), ?_, ?_⟩
      · rw [← he, Nat.mul_mod due (ch a b), luc_step hp.pr a b, ← Nat.mul_mod, mm1]
        congr 1
        simp only [Nat.mul_assoc, Nat.mul_comm, Nat.mul_left_comm]
      · rw [← hr, rk_y (n := a) h2 ha, Nat.mul_assoc]
    · rintro e s ⟨a, b, due, kind, x, y, z, rfl, rfl, hda, hdb, hdue, he, hr⟩
      rw [enum_len, List.length_map] at hda hdb
      have ha := digs_end h2 hda (Nat.le_refl _)
      subst ha
      rw [rk_0, Nat.mul_one] at hr
      subst hr
      ((repeat first | refine ⟨_, rfl, ?_⟩ | refine ⟨MulOk.r ⟨by omega, by omega⟩, ?_⟩ | refine ⟨MulOk.l ⟨by omega, by omega⟩, ?_⟩ | refine ⟨DivOk.of (by omega) (by omega), ?_⟩ | refine ⟨(by omega : (0 : Int) < _), ?_⟩ | refine ⟨True.intro, ?_⟩ | refine ⟨rfl, ?_⟩ | refine ⟨(by repeat' (first | exact True.intro | refine ⟨?_, ?_⟩) : ShN 60 _), ?_⟩ | refine ⟨(Nat.le_of_ble_eq_true rfl : (_ : Nat) ≤ big), ?_⟩ | refine ⟨(by repeat (first | exact True.intro | refine ⟨True.intro, ?_⟩) : NRL _), Nat.le_of_ble_eq_true rfl, ?_⟩ | refine ⟨(⟨by omega, by omega, by decide⟩ : (0 : Int) ≤ _ ∧ _ ≤ _ ∧ Int.natAbs _ < _), ?_⟩); (try conv => whnf); (repeat ((first | with_reducible refine ifB_f ?_ | with_reducible refine ifB_t ?_ | with_reducible refine ifB_nt ?_ | with_reducible refine ifB_nf ?_); (repeat first | refine ⟨_, rfl, ?_⟩ | refine ⟨MulOk.r ⟨by omega, by omega⟩, ?_⟩ | refine ⟨MulOk.l ⟨by omega, by omega⟩, ?_⟩ | refine ⟨DivOk.of (by omega) (by omega), ?_⟩ | refine ⟨(by omega : (0 : Int) < _), ?_⟩ | refine ⟨True.intro, ?_⟩ | refine ⟨rfl, ?_⟩ | refine ⟨(by repeat' (first | exact True.intro | refine ⟨?_, ?_⟩) : ShN 60 _), ?_⟩ | refine ⟨(Nat.le_of_ble_eq_true rfl : (_ : Nat) ≤ big), ?_⟩ | refine ⟨(by repeat (first | exact True.intro | refine ⟨True.intro, ?_⟩) : NRL _), Nat.le_of_ble_eq_true rfl, ?_⟩ | refine ⟨(⟨by omega, by omega, by decide⟩ : (0 : Int) ≤ _ ∧ _ ≤ _ ∧ Int.natAbs _ < _), ?_⟩); (try conv => whnf))))
      refine ifE (fun d st => d = .int (ch n k % p : Nat) ∧ st = [some o]) (fun h N hN => ?_) (fun h N hN => ?_) ?_
      · have hl : (((digs p n).map fun x => D.int (x : Nat)).length : Int) < (((digs p k).map fun x => D.int (x : Nat)).length : Nat) := dec_t h
        rw [List.length_map, List.length_map] at hl
        have hb := digs_more hdb (by omega)
        rw [ch_lt hb, Nat.mul_zero, Nat.zero_mod] at he
        rw [← he] at hN
        exact hN _ _ ⟨rfl, rfl⟩
      · have hl : ¬ (((digs p n).map fun x => D.int (x : Nat)).length : Int) < (((digs p k).map fun x => D.int (x : Nat)).length : Nat) := dec_f h
        rw [List.length_map, List.length_map] at hl
        have hb := digs_end h2 hdb (by omega)
        subst hb
        rw [ch_0, Nat.mul_one, Nat.mod_eq_of_lt hdue] at he
        subst he
        exact hN _ _ ⟨rfl, rfl⟩
      rintro d st ⟨rfl, rfl⟩
      ((repeat first | refine ⟨_, rfl, ?_⟩ | refine ⟨MulOk.r ⟨by omega, by omega⟩, ?_⟩ | refine ⟨MulOk.l ⟨by omega, by omega⟩, ?_⟩ | refine ⟨DivOk.of (by omega) (by omega), ?_⟩ | refine ⟨(by omega : (0 : Int) < _), ?_⟩ | refine ⟨True.intro, ?_⟩ | refine ⟨rfl, ?_⟩ | refine ⟨(by repeat' (first | exact True.intro | refine ⟨?_, ?_⟩) : ShN 60 _), ?_⟩ | refine ⟨(Nat.le_of_ble_eq_true rfl : (_ : Nat) ≤ big), ?_⟩ | refine ⟨(by repeat (first | exact True.intro | refine ⟨True.intro, ?_⟩) : NRL _), Nat.le_of_ble_eq_true rfl, ?_⟩ | refine ⟨(⟨by omega, by omega, by decide⟩ : (0 : Int) ≤ _ ∧ _ ≤ _ ∧ Int.natAbs _ < _), ?_⟩); (try conv => whnf); (repeat ((first | with_reducible refine ifB_f ?_ | with_reducible refine ifB_t ?_ | with_reducible refine ifB_nt ?_ | with_reducible refine ifB_nf ?_); (repeat first | refine ⟨_, rfl, ?_⟩ | refine ⟨MulOk.r ⟨by omega, by omega⟩, ?_⟩ | refine ⟨MulOk.l ⟨by omega, by omega⟩, ?_⟩ | refine ⟨DivOk.of (by omega) (by omega), ?_⟩ | refine ⟨(by omega : (0 : Int) < _), ?_⟩ | refine ⟨True.intro, ?_⟩ | refine ⟨rfl, ?_⟩ | refine ⟨(by repeat' (first | exact True.intro | refine ⟨?_, ?_⟩) : ShN 60 _), ?_⟩ | refine ⟨(Nat.le_of_ble_eq_true rfl : (_ : Nat) ≤ big), ?_⟩ | refine ⟨(by repeat (first | exact True.intro | refine ⟨True.intro, ?_⟩) : NRL _), Nat.le_of_ble_eq_true rfl, ?_⟩ | refine ⟨(⟨by omega, by omega, by decide⟩ : (0 : Int) ≤ _ ∧ _ ≤ _ ∧ Int.natAbs _ < _), ?_⟩); (try conv => whnf))))
      refine ⟨n, k, p, rfl, rfl, hn, hk, hp, ?_⟩
      ((repeat first | refine ⟨_, rfl, ?_⟩ | refine ⟨MulOk.r ⟨by omega, by omega⟩, ?_⟩ | refine ⟨MulOk.l ⟨by omega, by omega⟩, ?_⟩ | refine ⟨DivOk.of (by omega) (by omega), ?_⟩ | refine ⟨(by omega : (0 : Int) < _), ?_⟩ | refine ⟨True.intro, ?_⟩ | refine ⟨rfl, ?_⟩ | refine ⟨(by repeat' (first | exact True.intro | refine ⟨?_, ?_⟩) : ShN 60 _), ?_⟩ | refine ⟨(Nat.le_of_ble_eq_true rfl : (_ : Nat) ≤ big), ?_⟩ | refine ⟨(by repeat (first | exact True.intro | refine ⟨True.intro, ?_⟩) : NRL _), Nat.le_of_ble_eq_true rfl, ?_⟩ | refine ⟨(⟨by omega, by omega, by decide⟩ : (0 : Int) ≤ _ ∧ _ ≤ _ ∧ Int.natAbs _ < _), ?_⟩); (try conv => whnf); (repeat ((first | with_reducible refine ifB_f ?_ | with_reducible refine ifB_t ?_ | with_reducible refine ifB_nt ?_ | with_reducible refine ifB_nf ?_); (repeat first | refine ⟨_, rfl, ?_⟩ | refine ⟨MulOk.r ⟨by omega, by omega⟩, ?_⟩ | refine ⟨MulOk.l ⟨by omega, by omega⟩, ?_⟩ | refine ⟨DivOk.of (by omega) (by omega), ?_⟩ | refine ⟨(by omega : (0 : Int) < _), ?_⟩ | refine ⟨True.intro, ?_⟩ | refine ⟨rfl, ?_⟩ | refine ⟨(by repeat' (first | exact True.intro | refine ⟨?_, ?_⟩) : ShN 60 _), ?_⟩ | refine ⟨(Nat.le_of_ble_eq_true rfl : (_ : Nat) ≤ big), ?_⟩ | refine ⟨(by repeat (first | exact True.intro | refine ⟨True.intro, ?_⟩) : NRL _), Nat.le_of_ble_eq_true rfl, ?_⟩ | refine ⟨(⟨by omega, by omega, by decide⟩ : (0 : Int) ≤ _ ∧ _ ≤ _ ∧ Int.natAbs _ < _), ?_⟩); (try conv => whnf))))
      refine ifB.of (fun h => absurd rfl (ndec_t h)) (fun _ => ?_)
      ((repeat first | refine ⟨_, rfl, ?_⟩ | refine ⟨MulOk.r ⟨by omega, by omega⟩, ?_⟩ | refine ⟨MulOk.l ⟨by omega, by omega⟩, ?_⟩ | refine ⟨DivOk.of (by omega) (by omega), ?_⟩ | refine ⟨(by omega : (0 : Int) < _), ?_⟩ | refine ⟨True.intro, ?_⟩ | refine ⟨rfl, ?_⟩ | refine ⟨(by repeat' (first | exact True.intro | refine ⟨?_, ?_⟩) : ShN 60 _), ?_⟩ | refine ⟨(Nat.le_of_ble_eq_true rfl : (_ : Nat) ≤ big), ?_⟩ | refine ⟨(by repeat (first | exact True.intro | refine ⟨True.intro, ?_⟩) : NRL _), Nat.le_of_ble_eq_true rfl, ?_⟩ | refine ⟨(⟨by omega, by omega, by decide⟩ : (0 : Int) ≤ _ ∧ _ ≤ _ ∧ Int.natAbs _ < _), ?_⟩); (try conv => whnf); (repeat ((first | with_reducible refine ifB_f ?_ | with_reducible refine ifB_t ?_ | with_reducible refine ifB_nt ?_ | with_reducible refine ifB_nf ?_); (repeat first | refine ⟨_, rfl, ?_⟩ | refine ⟨MulOk.r ⟨by omega, by omega⟩, ?_⟩ | refine ⟨MulOk.l ⟨by omega, by omega⟩, ?_⟩ | refine ⟨DivOk.of (by omega) (by omega), ?_⟩ | refine ⟨(by omega : (0 : Int) < _), ?_⟩ | refine ⟨True.intro, ?_⟩ | refine ⟨rfl, ?_⟩ | refine ⟨(by repeat' (first | exact True.intro | refine ⟨?_, ?_⟩) : ShN 60 _), ?_⟩ | refine ⟨(Nat.le_of_ble_eq_true rfl : (_ : Nat) ≤ big), ?_⟩ | refine ⟨(by repeat (first | exact True.intro | refine ⟨True.intro, ?_⟩) : NRL _), Nat.le_of_ble_eq_true rfl, ?_⟩ | refine ⟨(⟨by omega, by omega, by decide⟩ : (0 : Int) ≤ _ ∧ _ ≤ _ ∧ Int.natAbs _ < _), ?_⟩); (try conv => whnf))))
      refine ⟨n, p, rfl, rfl, hn, hp, ?_⟩
      ((repeat first | refine ⟨_, rfl, ?_⟩ | refine ⟨MulOk.r ⟨by omega, by omega⟩, ?_⟩ | refine ⟨MulOk.l ⟨by omega, by omega⟩, ?_⟩ | refine ⟨DivOk.of (by omega) (by omega), ?_⟩ | refine ⟨(by omega : (0 : Int) < _), ?_⟩ | refine ⟨True.intro, ?_⟩ | refine ⟨rfl, ?_⟩ | refine ⟨(by repeat' (first | exact True.intro | refine ⟨?_, ?_⟩) : ShN 60 _), ?_⟩ | refine ⟨(Nat.le_of_ble_eq_true rfl : (_ : Nat) ≤ big), ?_⟩ | refine ⟨(by repeat (first | exact True.intro | refine ⟨True.intro, ?_⟩) : NRL _), Nat.le_of_ble_eq_true rfl, ?_⟩ | refine ⟨(⟨by omega, by omega, by decide⟩ : (0 : Int) ≤ _ ∧ _ ≤ _ ∧ Int.natAbs _ < _), ?_⟩); (try conv => whnf); (repeat ((first | with_reducible refine ifB_f ?_ | with_reducible refine ifB_t ?_ | with_reducible refine ifB_nt ?_ | with_reducible refine ifB_nf ?_); (repeat first | refine ⟨_, rfl, ?_⟩ | refine ⟨MulOk.r ⟨by omega, by omega⟩, ?_⟩ | refine ⟨MulOk.l ⟨by omega, by omega⟩, ?_⟩ | refine ⟨DivOk.of (by omega) (by omega), ?_⟩ | refine ⟨(by omega : (0 : Int) < _), ?_⟩ | refine ⟨True.intro, ?_⟩ | refine ⟨rfl, ?_⟩ | refine ⟨(by repeat' (first | exact True.intro | refine ⟨?_, ?_⟩) : ShN 60 _), ?_⟩ | refine ⟨(Nat.le_of_ble_eq_true rfl : (_ : Nat) ≤ big), ?_⟩ | refine ⟨(by repeat (first | exact True.intro | refine ⟨True.intro, ?_⟩) : NRL _), Nat.le_of_ble_eq_true rfl, ?_⟩ | refine ⟨(⟨by omega, by omega, by decide⟩ : (0 : Int) ≤ _ ∧ _ ≤ _ ∧ Int.natAbs _ < _), ?_⟩); (try conv => whnf))))
      refine ifB.of (fun h => absurd rfl (ndec_t h)) (fun _ => ?_)
      exact hN _ _ ⟨_, _, _, _, _, rfl, rfl⟩
  rintro env st ⟨x, y, z, u, v, rfl, rfl⟩
  ((repeat first | refine ⟨_, rfl, ?_⟩ | refine ⟨MulOk.r ⟨by omega, by omega⟩, ?_⟩ | refine ⟨MulOk.l ⟨by omega, by omega⟩, ?_⟩ | refine ⟨DivOk.of (by omega) (by omega), ?_⟩ | refine ⟨(by omega : (0 : Int) < _), ?_⟩ | refine ⟨True.intro, ?_⟩ | refine ⟨rfl, ?_⟩ | refine ⟨(by repeat' (first | exact True.intro | refine ⟨?_, ?_⟩) : ShN 60 _), ?_⟩ | refine ⟨(Nat.le_of_ble_eq_true rfl : (_ : Nat) ≤ big), ?_⟩ | refine ⟨(by repeat (first | exact True.intro | refine ⟨True.intro, ?_⟩) : NRL _), Nat.le_of_ble_eq_true rfl, ?_⟩ | refine ⟨(⟨by omega, by omega, by decide⟩ : (0 : Int) ≤ _ ∧ _ ≤ _ ∧ Int.natAbs _ < _), ?_⟩); (try conv => whnf); (repeat ((first | with_reducible refine ifB_f ?_ | with_reducible refine ifB_t ?_ | with_reducible refine ifB_nt ?_ | with_reducible refine ifB_nf ?_); (repeat first | refine ⟨_, rfl, ?_⟩ | refine ⟨MulOk.r ⟨by omega, by omega⟩, ?_⟩ | refine ⟨MulOk.l ⟨by omega, by omega⟩, ?_⟩ | refine ⟨DivOk.of (by omega) (by omega), ?_⟩ | refine ⟨(by omega : (0 : Int) < _), ?_⟩ | refine ⟨True.intro, ?_⟩ | refine ⟨rfl, ?_⟩ | refine ⟨(by repeat' (first | exact True.intro | refine ⟨?_, ?_⟩) : ShN 60 _), ?_⟩ | refine ⟨(Nat.le_of_ble_eq_true rfl : (_ : Nat) ≤ big), ?_⟩ | refine ⟨(by repeat (first | exact True.intro | refine ⟨True.intro, ?_⟩) : NRL _), Nat.le_of_ble_eq_true rfl, ?_⟩ | refine ⟨(⟨by omega, by omega, by decide⟩ : (0 : Int) ≤ _ ∧ _ ≤ _ ∧ Int.natAbs _ < _), ?_⟩); (try conv => whnf))))
  refine ifB.of (fun h => ?_) (fun h => ?_)
  · have hkn : (n : Int) < k := dec_t h
    ((repeat first | refine ⟨_, rfl, ?_⟩ | refine ⟨MulOk.r ⟨by omega, by omega⟩, ?_⟩ | refine ⟨MulOk.l ⟨by omega, by omega⟩, ?_⟩ | refine ⟨DivOk.of (by omega) (by omega), ?_⟩ | refine ⟨(by omega : (0 : Int) < _), ?_⟩ | refine ⟨True.intro, ?_⟩ | refine ⟨rfl, ?_⟩ | refine ⟨(by repeat' (first | exact True.intro | refine ⟨?_, ?_⟩) : ShN 60 _), ?_⟩ | refine ⟨(Nat.le_of_ble_eq_true rfl : (_ : Nat) ≤ big), ?_⟩ | refine ⟨(by repeat (first | exact True.intro | refine ⟨True.intro, ?_⟩) : NRL _), Nat.le_of_ble_eq_true rfl, ?_⟩ | refine ⟨(⟨by omega, by omega, by decide⟩ : (0 : Int) ≤ _ ∧ _ ≤ _ ∧ Int.natAbs _ < _), ?_⟩); (try conv => whnf); (repeat ((first | with_reducible refine ifB_f ?_ | with_reducible refine ifB_t ?_ | with_reducible refine ifB_nt ?_ | with_reducible refine ifB_nf ?_); (repeat first | refine ⟨_, rfl, ?_⟩ | refine ⟨MulOk.r ⟨by omega, by omega⟩, ?_⟩ | refine ⟨MulOk.l ⟨by omega, by omega⟩, ?_⟩ | refine ⟨DivOk.of (by omega) (by omega), ?_⟩ | refine ⟨(by omega : (0 : Int) < _), ?_⟩ | refine ⟨True.intro, ?_⟩ | refine ⟨rfl, ?_⟩ | refine ⟨(by repeat' (first | exact True.intro | refine ⟨?_, ?_⟩) : ShN 60 _), ?_⟩ | refine ⟨(Nat.le_of_ble_eq_true rfl : (_ : Nat) ≤ big), ?_⟩ | refine ⟨(by repeat (first | exact True.intro | refine ⟨True.intro, ?_⟩) : NRL _), Nat.le_of_ble_eq_true rfl, ?_⟩ | refine ⟨(⟨by omega, by omega, by decide⟩ : (0 : Int) ≤ _ ∧ _ ≤ _ ∧ Int.natAbs _ < _), ?_⟩); (try conv => whnf))))
    refine ⟨n, k, p, rfl, rfl, hn, hk, hp, ?_⟩
    rw [oig_lt (by omega)]
    ((repeat first | refine ⟨_, rfl, ?_⟩ | refine ⟨MulOk.r ⟨by omega, by omega⟩, ?_⟩ | refine ⟨MulOk.l ⟨by omega, by omega⟩, ?_⟩ | refine ⟨DivOk.of (by omega) (by omega), ?_⟩ | refine ⟨(by omega : (0 : Int) < _), ?_⟩ | refine ⟨True.intro, ?_⟩ | refine ⟨rfl, ?_⟩ | refine ⟨(by repeat' (first | exact True.intro | refine ⟨?_, ?_⟩) : ShN 60 _), ?_⟩ | refine ⟨(Nat.le_of_ble_eq_true rfl : (_ : Nat) ≤ big), ?_⟩ | refine ⟨(by repeat (first | exact True.intro | refine ⟨True.intro, ?_⟩) : NRL _), Nat.le_of_ble_eq_true rfl, ?_⟩ | refine ⟨(⟨by omega, by omega, by decide⟩ : (0 : Int) ≤ _ ∧ _ ≤ _ ∧ Int.natAbs _ < _), ?_⟩); (try conv => whnf); (repeat ((first | with_reducible refine ifB_f ?_ | with_reducible refine ifB_t ?_ | with_reducible refine ifB_nt ?_ | with_reducible refine ifB_nf ?_); (repeat first | refine ⟨_, rfl, ?_⟩ | refine ⟨MulOk.r ⟨by omega, by omega⟩, ?_⟩ | refine ⟨MulOk.l ⟨by omega, by omega⟩, ?_⟩ | refine ⟨DivOk.of (by omega) (by omega), ?_⟩ | refine ⟨(by omega : (0 : Int) < _), ?_⟩ | refine ⟨True.intro, ?_⟩ | refine ⟨rfl, ?_⟩ | refine ⟨(by repeat' (first | exact True.intro | refine ⟨?_, ?_⟩) : ShN 60 _), ?_⟩ | refine ⟨(Nat.le_of_ble_eq_true rfl : (_ : Nat) ≤ big), ?_⟩ | refine ⟨(by repeat (first | exact True.intro | refine ⟨True.intro, ?_⟩) : NRL _), Nat.le_of_ble_eq_true rfl, ?_⟩ | refine ⟨(⟨by omega, by omega, by decide⟩ : (0 : Int) ≤ _ ∧ _ ≤ _ ∧ Int.natAbs _ < _), ?_⟩); (try conv => whnf))))
    refine ifB_t ?_
    ((repeat first | refine ⟨_, rfl, ?_⟩ | refine ⟨MulOk.r ⟨by omega, by omega⟩, ?_⟩ | refine ⟨MulOk.l ⟨by omega, by omega⟩, ?_⟩ | refine ⟨DivOk.of (by omega) (by omega), ?_⟩ | refine ⟨(by omega : (0 : Int) < _), ?_⟩ | refine ⟨True.intro, ?_⟩ | refine ⟨rfl, ?_⟩ | refine ⟨(by repeat' (first | exact True.intro | refine ⟨?_, ?_⟩) : ShN 60 _), ?_⟩ | refine ⟨(Nat.le_of_ble_eq_true rfl : (_ : Nat) ≤ big), ?_⟩ | refine ⟨(by repeat (first | exact True.intro | refine ⟨True.intro, ?_⟩) : NRL _), Nat.le_of_ble_eq_true rfl, ?_⟩ | refine ⟨(⟨by omega, by omega, by decide⟩ : (0 : Int) ≤ _ ∧ _ ≤ _ ∧ Int.natAbs _ < _), ?_⟩); (try conv => whnf); (repeat ((first | with_reducible refine ifB_f ?_ | with_reducible refine ifB_t ?_ | with_reducible refine ifB_nt ?_ | with_reducible refine ifB_nf ?_); (repeat first | refine ⟨_, rfl, ?_⟩ | refine ⟨MulOk.r ⟨by omega, by omega⟩, ?_⟩ | refine ⟨MulOk.l ⟨by omega, by omega⟩, ?_⟩ | refine ⟨DivOk.of (by omega) (by omega), ?_⟩ | refine ⟨(by omega : (0 : Int) < _), ?_⟩ | refine ⟨True.intro, ?_⟩ | refine ⟨rfl, ?_⟩ | refine ⟨(by repeat' (first | exact True.intro | refine ⟨?_, ?_⟩) : ShN 60 _), ?_⟩ | refine ⟨(Nat.le_of_ble_eq_true rfl : (_ : Nat) ≤ big), ?_⟩ | refine ⟨(by repeat (first | exact True.intro | refine ⟨True.intro, ?_⟩) : NRL _), Nat.le_of_ble_eq_true rfl, ?_⟩ | refine ⟨(⟨by omega, by omega, by decide⟩ : (0 : Int) ≤ _ ∧ _ ≤ _ ∧ Int.natAbs _ < _), ?_⟩); (try conv => whnf))))
    refine ⟨n, k, p, rfl, rfl, hn, hk, hp, ?_⟩
    rw [ch_lt (by omega), Nat.zero_mod]
    ((repeat first | refine ⟨_, rfl, ?_⟩ | refine ⟨MulOk.r ⟨by omega, by omega⟩, ?_⟩ | refine ⟨MulOk.l ⟨by omega, by omega⟩, ?_⟩ | refine ⟨DivOk.of (by omega) (by omega), ?_⟩ | refine ⟨(by omega : (0 : Int) < _), ?_⟩ | refine ⟨True.intro, ?_⟩ | refine ⟨rfl, ?_⟩ | refine ⟨(by repeat' (first | exact True.intro | refine ⟨?_, ?_⟩) : ShN 60 _), ?_⟩ | refine ⟨(Nat.le_of_ble_eq_true rfl : (_ : Nat) ≤ big), ?_⟩ | refine ⟨(by repeat (first | exact True.intro | refine ⟨True.intro, ?_⟩) : NRL _), Nat.le_of_ble_eq_true rfl, ?_⟩ | refine ⟨(⟨by omega, by omega, by decide⟩ : (0 : Int) ≤ _ ∧ _ ≤ _ ∧ Int.natAbs _ < _), ?_⟩); (try conv => whnf); (repeat ((first | with_reducible refine ifB_f ?_ | with_reducible refine ifB_t ?_ | with_reducible refine ifB_nt ?_ | with_reducible refine ifB_nf ?_); (repeat first | refine ⟨_, rfl, ?_⟩ | refine ⟨MulOk.r ⟨by omega, by omega⟩, ?_⟩ | refine ⟨MulOk.l ⟨by omega, by omega⟩, ?_⟩ | refine ⟨DivOk.of (by omega) (by omega), ?_⟩ | refine ⟨(by omega : (0 : Int) < _), ?_⟩ | refine ⟨True.intro, ?_⟩ | refine ⟨rfl, ?_⟩ | refine ⟨(by repeat' (first | exact True.intro | refine ⟨?_, ?_⟩) : ShN 60 _), ?_⟩ | refine ⟨(Nat.le_of_ble_eq_true rfl : (_ : Nat) ≤ big), ?_⟩ | refine ⟨(by repeat (first | exact True.intro | refine ⟨True.intro, ?_⟩) : NRL _), Nat.le_of_ble_eq_true rfl, ?_⟩ | refine ⟨(⟨by omega, by omega, by decide⟩ : (0 : Int) ≤ _ ∧ _ ≤ _ ∧ Int.natAbs _ < _), ?_⟩); (try conv => whnf))))
    exact .inl ⟨True.intro, hQ o ho⟩
  · have hkn : ¬ (n : Int) < k := dec_f h
    have hkn' : k ≤ n := by omega
    have esub : (n : Int) - (k : Int) = (n - k : Nat) := by omega
    ((repeat first | refine ⟨_, rfl, ?_⟩ | refine ⟨MulOk.r ⟨by omega, by omega⟩, ?_⟩ | refine ⟨MulOk.l ⟨by omega, by omega⟩, ?_⟩ | refine ⟨DivOk.of (by omega) (by omega), ?_⟩ | refine ⟨(by omega : (0 : Int) < _), ?_⟩ | refine ⟨True.intro, ?_⟩ | refine ⟨rfl, ?_⟩ | refine ⟨(by repeat' (first | exact True.intro | refine ⟨?_, ?_⟩) : ShN 60 _), ?_⟩ | refine ⟨(Nat.le_of_ble_eq_true rfl : (_ : Nat) ≤ big), ?_⟩ | refine ⟨(by repeat (first | exact True.intro | refine ⟨True.intro, ?_⟩) : NRL _), Nat.le_of_ble_eq_true rfl, ?_⟩ | refine ⟨(⟨by omega, by omega, by decide⟩ : (0 : Int) ≤ _ ∧ _ ≤ _ ∧ Int.natAbs _ < _), ?_⟩); (try conv => whnf); (repeat ((first | with_reducible refine ifB_f ?_ | with_reducible refine ifB_t ?_ | with_reducible refine ifB_nt ?_ | with_reducible refine ifB_nf ?_); (repeat first | refine ⟨_, rfl, ?_⟩ | refine ⟨MulOk.r ⟨by omega, by omega⟩, ?_⟩ | refine ⟨MulOk.l ⟨by omega, by omega⟩, ?_⟩ | refine ⟨DivOk.of (by omega) (by omega), ?_⟩ | refine ⟨(by omega : (0 : Int) < _), ?_⟩ | refine ⟨True.intro, ?_⟩ | refine ⟨rfl, ?_⟩ | refine ⟨(by repeat' (first | exact True.intro | refine ⟨?_, ?_⟩) : ShN 60 _), ?_⟩ | refine ⟨(Nat.le_of_ble_eq_true rfl : (_ : Nat) ≤ big), ?_⟩ | refine ⟨(by repeat (first | exact True.intro | refine ⟨True.intro, ?_⟩) : NRL _), Nat.le_of_ble_eq_true rfl, ?_⟩ | refine ⟨(⟨by omega, by omega, by decide⟩ : (0 : Int) ≤ _ ∧ _ ≤ _ ∧ Int.natAbs _ < _), ?_⟩); (try conv => whnf))))
    refine ⟨n, k, p, rfl, rfl, hn, hk, hp, ?_⟩
    rw [oig_ge hkn']
    ((repeat first | refine ⟨_, rfl, ?_⟩ | refine ⟨MulOk.r ⟨by omega, by omega⟩, ?_⟩ | refine ⟨MulOk.l ⟨by omega, by omega⟩, ?_⟩ | refine ⟨DivOk.of (by omega) (by omega), ?_⟩ | refine ⟨(by omega : (0 : Int) < _), ?_⟩ | refine ⟨True.intro, ?_⟩ | refine ⟨rfl, ?_⟩ | refine ⟨(by repeat' (first | exact True.intro | refine ⟨?_, ?_⟩) : ShN 60 _), ?_⟩ | refine ⟨(Nat.le_of_ble_eq_true rfl : (_ : Nat) ≤ big), ?_⟩ | refine ⟨(by repeat (first | exact True.intro | refine ⟨True.intro, ?_⟩) : NRL _), Nat.le_of_ble_eq_true rfl, ?_⟩ | refine ⟨(⟨by omega, by omega, by decide⟩ : (0 : Int) ≤ _ ∧ _ ≤ _ ∧ Int.natAbs _ < _), ?_⟩); (try conv => whnf); (repeat ((first | with_reducible refine ifB_f ?_ | with_reducible refine ifB_t ?_ | with_reducible refine ifB_nt ?_ | with_reducible refine ifB_nf ?_); (repeat first | refine ⟨_, rfl, ?_⟩ | refine ⟨MulOk.r ⟨by omega, by omega⟩, ?_⟩ | refine ⟨MulOk.l ⟨by omega, by omega⟩, ?_⟩ | refine ⟨DivOk.of (by omega) (by omega), ?_⟩ | refine ⟨(by omega : (0 : Int) < _), ?_⟩ | refine ⟨True.intro, ?_⟩ | refine ⟨rfl, ?_⟩ | refine ⟨(by repeat' (first | exact True.intro | refine ⟨?_, ?_⟩) : ShN 60 _), ?_⟩ | refine ⟨(Nat.le_of_ble_eq_true rfl : (_ : Nat) ≤ big), ?_⟩ | refine ⟨(by repeat (first | exact True.intro | refine ⟨True.intro, ?_⟩) : NRL _), Nat.le_of_ble_eq_true rfl, ?_⟩ | refine ⟨(⟨by omega, by omega, by decide⟩ : (0 : Int) ≤ _ ∧ _ ≤ _ ∧ Int.natAbs _ < _), ?_⟩); (try conv => whnf))))
    refine ⟨k, n - k, p, by rw [esub], rfl, h2, h3, fun t ht => ?_⟩
    have et : val p (ch n k) = t := by
      have := val_ch hp.pr hkn'
      rw [show k + (n - k) = n by omega] at ht
      omega
    subst et
    ((repeat first | refine ⟨_, rfl, ?_⟩ | refine ⟨MulOk.r ⟨by omega, by omega⟩, ?_⟩ | refine ⟨MulOk.l ⟨by omega, by omega⟩, ?_⟩ | refine ⟨DivOk.of (by omega) (by omega), ?_⟩ | refine ⟨(by omega : (0 : Int) < _), ?_⟩ | refine ⟨True.intro, ?_⟩ | refine ⟨rfl, ?_⟩ | refine ⟨(by repeat' (first | exact True.intro | refine ⟨?_, ?_⟩) : ShN 60 _), ?_⟩ | refine ⟨(Nat.le_of_ble_eq_true rfl : (_ : Nat) ≤ big), ?_⟩ | refine ⟨(by repeat (first | exact True.intro | refine ⟨True.intro, ?_⟩) : NRL _), Nat.le_of_ble_eq_true rfl, ?_⟩ | refine ⟨(⟨by omega, by omega, by decide⟩ : (0 : Int) ≤ _ ∧ _ ≤ _ ∧ Int.natAbs _ < _), ?_⟩); (try conv => whnf); (repeat ((first | with_reducible refine ifB_f ?_ | with_reducible refine ifB_t ?_ | with_reducible refine ifB_nt ?_ | with_reducible refine ifB_nf ?_); (repeat first | refine ⟨_, rfl, ?_⟩ | refine ⟨MulOk.r ⟨by omega, by omega⟩, ?_⟩ | refine ⟨MulOk.l ⟨by omega, by omega⟩, ?_⟩ | refine ⟨DivOk.of (by omega) (by omega), ?_⟩ | refine ⟨(by omega : (0 : Int) < _), ?_⟩ | refine ⟨True.intro, ?_⟩ | refine ⟨rfl, ?_⟩ | refine ⟨(by repeat' (first | exact True.intro | refine ⟨?_, ?_⟩) : ShN 60 _), ?_⟩ | refine ⟨(Nat.le_of_ble_eq_true rfl : (_ : Nat) ≤ big), ?_⟩ | refine ⟨(by repeat (first | exact True.intro | refine ⟨True.intro, ?_⟩) : NRL _), Nat.le_of_ble_eq_true rfl, ?_⟩ | refine ⟨(⟨by omega, by omega, by decide⟩ : (0 : Int) ≤ _ ∧ _ ≤ _ ∧ Int.natAbs _ < _), ?_⟩); (try conv => whnf))))
    refine ifB.of (fun h => absurd rfl (ndec_t h)) (fun _ => ?_)
    ((repeat first | refine ⟨_, rfl, ?_⟩ | refine ⟨MulOk.r ⟨by omega, by omega⟩, ?_⟩ | refine ⟨MulOk.l ⟨by omega, by omega⟩, ?_⟩ | refine ⟨DivOk.of (by omega) (by omega), ?_⟩ | refine ⟨(by omega : (0 : Int) < _), ?_⟩ | refine ⟨True.intro, ?_⟩ | refine ⟨rfl, ?_⟩ | refine ⟨(by repeat' (first | exact True.intro | refine ⟨?_, ?_⟩) : ShN 60 _), ?_⟩ | refine ⟨(Nat.le_of_ble_eq_true rfl : (_ : Nat) ≤ big), ?_⟩ | refine ⟨(by repeat (first | exact True.intro | refine ⟨True.intro, ?_⟩) : NRL _), Nat.le_of_ble_eq_true rfl, ?_⟩ | refine ⟨(⟨by omega, by omega, by decide⟩ : (0 : Int) ≤ _ ∧ _ ≤ _ ∧ Int.natAbs _ < _), ?_⟩); (try conv => whnf); (repeat ((first | with_reducible refine ifB_f ?_ | with_reducible refine ifB_t ?_ | with_reducible refine ifB_nt ?_ | with_reducible refine ifB_nf ?_); (repeat first | refine ⟨_, rfl, ?_⟩ | refine ⟨MulOk.r ⟨by omega, by omega⟩, ?_⟩ | refine ⟨MulOk.l ⟨by omega, by omega⟩, ?_⟩ | refine ⟨DivOk.of (by omega) (by omega), ?_⟩ | refine ⟨(by omega : (0 : Int) < _), ?_⟩ | refine ⟨True.intro, ?_⟩ | refine ⟨rfl, ?_⟩ | refine ⟨(by repeat' (first | exact True.intro | refine ⟨?_, ?_⟩) : ShN 60 _), ?_⟩ | refine ⟨(Nat.le_of_ble_eq_true rfl : (_ : Nat) ≤ big), ?_⟩ | refine ⟨(by repeat (first | exact True.intro | refine ⟨True.intro, ?_⟩) : NRL _), Nat.le_of_ble_eq_true rfl, ?_⟩ | refine ⟨(⟨by omega, by omega, by decide⟩ : (0 : Int) ≤ _ ∧ _ ≤ _ ∧ Int.natAbs _ < _), ?_⟩); (try conv => whnf))))
    refine ⟨n, k, p, rfl, rfl, hn, hk, hp, ?_⟩
    ((repeat first | refine ⟨_, rfl, ?_⟩ | refine ⟨MulOk.r ⟨by omega, by omega⟩, ?_⟩ | refine ⟨MulOk.l ⟨by omega, by omega⟩, ?_⟩ | refine ⟨DivOk.of (by omega) (by omega), ?_⟩ | refine ⟨(by omega : (0 : Int) < _), ?_⟩ | refine ⟨True.intro, ?_⟩ | refine ⟨rfl, ?_⟩ | refine ⟨(by repeat' (first | exact True.intro | refine ⟨?_, ?_⟩) : ShN 60 _), ?_⟩ | refine ⟨(Nat.le_of_ble_eq_true rfl : (_ : Nat) ≤ big), ?_⟩ | refine ⟨(by repeat (first | exact True.intro | refine ⟨True.intro, ?_⟩) : NRL _), Nat.le_of_ble_eq_true rfl, ?_⟩ | refine ⟨(⟨by omega, by omega, by decide⟩ : (0 : Int) ≤ _ ∧ _ ≤ _ ∧ Int.natAbs _ < _), ?_⟩); (try conv => whnf); (repeat ((first | with_reducible refine ifB_f ?_ | with_reducible refine ifB_t ?_ | with_reducible refine ifB_nt ?_ | with_reducible refine ifB_nf ?_); (repeat first | refine ⟨_, rfl, ?_⟩ | refine ⟨MulOk.r ⟨by omega, by omega⟩, ?_⟩ | refine ⟨MulOk.l ⟨by omega, by omega⟩, ?_⟩ | refine ⟨DivOk.of (by omega) (by omega), ?_⟩ | refine ⟨(by omega : (0 : Int) < _), ?_⟩ | refine ⟨True.intro, ?_⟩ | refine ⟨rfl, ?_⟩ | refine ⟨(by repeat' (first | exact True.intro | refine ⟨?_, ?_⟩) : ShN 60 _), ?_⟩ | refine ⟨(Nat.le_of_ble_eq_true rfl : (_ : Nat) ≤ big), ?_⟩ | refine ⟨(by repeat (first | exact True.intro | refine ⟨True.intro, ?_⟩) : NRL _), Nat.le_of_ble_eq_true rfl, ?_⟩ | refine ⟨(⟨by omega, by omega, by decide⟩ : (0 : Int) ≤ _ ∧ _ ≤ _ ∧ Int.natAbs _ < _), ?_⟩); (try conv => whnf))))
    have eb : decide (((val p (ch n k) : Nat) : Int) = 0) = !decide (((ch n k % p : Nat) : Int) = 0) := by
      have := val_0 (m := ch n k) h2 (ch_pos hkn')
      by_cases hz : val p (ch n k) = 0
      · have h1 := this.mp hz
        rw [decide_eq_true (by omega), decide_eq_false (by omega)]
        rfl
      · have h1 : ch n k % p = 0 := Decidable.byContradiction fun z => hz (this.mpr z)
        rw [decide_eq_false (by omega), decide_eq_true (by omega)]
        rfl
    refine ifB.of (fun h => absurd h ?_) (fun _ => ?_)
    · show ¬ (!(decide (((val p (ch n k) : Nat) : Int) = 0) == !decide (((ch n k % p : Nat) : Int) = 0))) = true
      rw [eb, beq_self_eq_true]
      exact Bool.false_ne_true
    clear eb
    ((repeat first | refine ⟨_, rfl, ?_⟩ | refine ⟨MulOk.r ⟨by omega, by omega⟩, ?_⟩ | refine ⟨MulOk.l ⟨by omega, by omega⟩, ?_⟩ | refine ⟨DivOk.of (by omega) (by omega), ?_⟩ | refine ⟨(by omega : (0 : Int) < _), ?_⟩ | refine ⟨True.intro, ?_⟩ | refine ⟨rfl, ?_⟩ | refine ⟨(by repeat' (first | exact True.intro | refine ⟨?_, ?_⟩) : ShN 60 _), ?_⟩ | refine ⟨(Nat.le_of_ble_eq_true rfl : (_ : Nat) ≤ big), ?_⟩ | refine ⟨(by repeat (first | exact True.intro | refine ⟨True.intro, ?_⟩) : NRL _), Nat.le_of_ble_eq_true rfl, ?_⟩ | refine ⟨(⟨by omega, by omega, by decide⟩ : (0 : Int) ≤ _ ∧ _ ≤ _ ∧ Int.natAbs _ < _), ?_⟩); (try conv => whnf); (repeat ((first | with_reducible refine ifB_f ?_ | with_reducible refine ifB_t ?_ | with_reducible refine ifB_nt ?_ | with_reducible refine ifB_nf ?_); (repeat first | refine ⟨_, rfl, ?_⟩ | refine ⟨MulOk.r ⟨by omega, by omega⟩, ?_⟩ | refine ⟨MulOk.l ⟨by omega, by omega⟩, ?_⟩ | refine ⟨DivOk.of (by omega) (by omega), ?_⟩ | refine ⟨(by omega : (0 : Int) < _), ?_⟩ | refine ⟨True.intro, ?_⟩ | refine ⟨rfl, ?_⟩ | refine ⟨(by repeat' (first | exact True.intro | refine ⟨?_, ?_⟩) : ShN 60 _), ?_⟩ | refine ⟨(Nat.le_of_ble_eq_true rfl : (_ : Nat) ≤ big), ?_⟩ | refine ⟨(by repeat (first | exact True.intro | refine ⟨True.intro, ?_⟩) : NRL _), Nat.le_of_ble_eq_true rfl, ?_⟩ | refine ⟨(⟨by omega, by omega, by decide⟩ : (0 : Int) ≤ _ ∧ _ ≤ _ ∧ Int.natAbs _ < _), ?_⟩); (try conv => whnf))))
    refine ⟨n, n - k, p, by rw [esub], rfl, hn, by omega, hp, ?_⟩
    rw [oig_ge (by omega), ch_symm hkn']
    ((repeat first | refine ⟨_, rfl, ?_⟩ | refine ⟨MulOk.r ⟨by omega, by omega⟩, ?_⟩ | refine ⟨MulOk.l ⟨by omega, by omega⟩, ?_⟩ | refine ⟨DivOk.of (by omega) (by omega), ?_⟩ | refine ⟨(by omega : (0 : Int) < _), ?_⟩ | refine ⟨True.intro, ?_⟩ | refine ⟨rfl, ?_⟩ | refine ⟨(by repeat' (first | exact True.intro | refine ⟨?_, ?_⟩) : ShN 60 _), ?_⟩ | refine ⟨(Nat.le_of_ble_eq_true rfl : (_ : Nat) ≤ big), ?_⟩ | refine ⟨(by repeat (first | exact True.intro | refine ⟨True.intro, ?_⟩) : NRL _), Nat.le_of_ble_eq_true rfl, ?_⟩ | refine ⟨(⟨by omega, by omega, by decide⟩ : (0 : Int) ≤ _ ∧ _ ≤ _ ∧ Int.natAbs _ < _), ?_⟩); (try conv => whnf); (repeat ((first | with_reducible refine ifB_f ?_ | with_reducible refine ifB_t ?_ | with_reducible refine ifB_nt ?_ | with_reducible refine ifB_nf ?_); (repeat first | refine ⟨_, rfl, ?_⟩ | refine ⟨MulOk.r ⟨by omega, by omega⟩, ?_⟩ | refine ⟨MulOk.l ⟨by omega, by omega⟩, ?_⟩ | refine ⟨DivOk.of (by omega) (by omega), ?_⟩ | refine ⟨(by omega : (0 : Int) < _), ?_⟩ | refine ⟨True.intro, ?_⟩ | refine ⟨rfl, ?_⟩ | refine ⟨(by repeat' (first | exact True.intro | refine ⟨?_, ?_⟩) : ShN 60 _), ?_⟩ | refine ⟨(Nat.le_of_ble_eq_true rfl : (_ : Nat) ≤ big), ?_⟩ | refine ⟨(by repeat (first | exact True.intro | refine ⟨True.intro, ?_⟩) : NRL _), Nat.le_of_ble_eq_true rfl, ?_⟩ | refine ⟨(⟨by omega, by omega, by decide⟩ : (0 : Int) ≤ _ ∧ _ ≤ _ ∧ Int.natAbs _ < _), ?_⟩); (try conv => whnf))))
    refine ifB.of (fun h => absurd rfl (ndec_t h)) (fun _ => ?_)
    ((repeat first | refine ⟨_, rfl, ?_⟩ | refine ⟨MulOk.r ⟨by omega, by omega⟩, ?_⟩ | refine ⟨MulOk.l ⟨by omega, by omega⟩, ?_⟩ | refine ⟨DivOk.of (by omega) (by omega), ?_⟩ | refine ⟨(by omega : (0 : Int) < _), ?_⟩ | refine ⟨True.intro, ?_⟩ | refine ⟨rfl, ?_⟩ | refine ⟨(by repeat' (first | exact True.intro | refine ⟨?_, ?_⟩) : ShN 60 _), ?_⟩ | refine ⟨(Nat.le_of_ble_eq_true rfl : (_ : Nat) ≤ big), ?_⟩ | refine ⟨(by repeat (first | exact True.intro | refine ⟨True.intro, ?_⟩) : NRL _), Nat.le_of_ble_eq_true rfl, ?_⟩ | refine ⟨(⟨by omega, by omega, by decide⟩ : (0 : Int) ≤ _ ∧ _ ≤ _ ∧ Int.natAbs _ < _), ?_⟩); (try conv => whnf); (repeat ((first | with_reducible refine ifB_f ?_ | with_reducible refine ifB_t ?_ | with_reducible refine ifB_nt ?_ | with_reducible refine ifB_nf ?_); (repeat first | refine ⟨_, rfl, ?_⟩ | refine ⟨MulOk.r ⟨by omega, by omega⟩, ?_⟩ | refine ⟨MulOk.l ⟨by omega, by omega⟩, ?_⟩ | refine ⟨DivOk.of (by omega) (by omega), ?_⟩ | refine ⟨(by omega : (0 : Int) < _), ?_⟩ | refine ⟨True.intro, ?_⟩ | refine ⟨rfl, ?_⟩ | refine ⟨(by repeat' (first | exact True.intro | refine ⟨?_, ?_⟩) : ShN 60 _), ?_⟩ | refine ⟨(Nat.le_of_ble_eq_true rfl : (_ : Nat) ≤ big), ?_⟩ | refine ⟨(by repeat (first | exact True.intro | refine ⟨True.intro, ?_⟩) : NRL _), Nat.le_of_ble_eq_true rfl, ?_⟩ | refine ⟨(⟨by omega, by omega, by decide⟩ : (0 : Int) ≤ _ ∧ _ ≤ _ ∧ Int.natAbs _ < _), ?_⟩); (try conv => whnf))))
    refine ⟨n, n - k, p, by rw [esub], rfl, hn, by omega, hp, ?_⟩
    rw [ch_symm hkn']
    ((repeat first | refine ⟨_, rfl, ?_⟩ | refine ⟨MulOk.r ⟨by omega, by omega⟩, ?_⟩ | refine ⟨MulOk.l ⟨by omega, by omega⟩, ?_⟩ | refine ⟨DivOk.of (by omega) (by omega), ?_⟩ | refine ⟨(by omega : (0 : Int) < _), ?_⟩ | refine ⟨True.intro, ?_⟩ | refine ⟨rfl, ?_⟩ | refine ⟨(by repeat' (first | exact True.intro | refine ⟨?_, ?_⟩) : ShN 60 _), ?_⟩ | refine ⟨(Nat.le_of_ble_eq_true rfl : (_ : Nat) ≤ big), ?_⟩ | refine ⟨(by repeat (first | exact True.intro | refine ⟨True.intro, ?_⟩) : NRL _), Nat.le_of_ble_eq_true rfl, ?_⟩ | refine ⟨(⟨by omega, by omega, by decide⟩ : (0 : Int) ≤ _ ∧ _ ≤ _ ∧ Int.natAbs _ < _), ?_⟩); (try conv => whnf); (repeat ((first | with_reducible refine ifB_f ?_ | with_reducible refine ifB_t ?_ | with_reducible refine ifB_nt ?_ | with_reducible refine ifB_nf ?_); (repeat first | refine ⟨_, rfl, ?_⟩ | refine ⟨MulOk.r ⟨by omega, by omega⟩, ?_⟩ | refine ⟨MulOk.l ⟨by omega, by omega⟩, ?_⟩ | refine ⟨DivOk.of (by omega) (by omega), ?_⟩ | refine ⟨(by omega : (0 : Int) < _), ?_⟩ | refine ⟨True.intro, ?_⟩ | refine ⟨rfl, ?_⟩ | refine ⟨(by repeat' (first | exact True.intro | refine ⟨?_, ?_⟩) : ShN 60 _), ?_⟩ | refine ⟨(Nat.le_of_ble_eq_true rfl : (_ : Nat) ≤ big), ?_⟩ | refine ⟨(by repeat (first | exact True.intro | refine ⟨True.intro, ?_⟩) : NRL _), Nat.le_of_ble_eq_true rfl, ?_⟩ | refine ⟨(⟨by omega, by omega, by decide⟩ : (0 : Int) ≤ _ ∧ _ ≤ _ ∧ Int.natAbs _ < _), ?_⟩); (try conv => whnf))))
    refine ⟨n, k, p, rfl, rfl, hn, hk, hp, ?_⟩
    ((repeat first | refine ⟨_, rfl, ?_⟩ | refine ⟨MulOk.r ⟨by omega, by omega⟩, ?_⟩ | refine ⟨MulOk.l ⟨by omega, by omega⟩, ?_⟩ | refine ⟨DivOk.of (by omega) (by omega), ?_⟩ | refine ⟨(by omega : (0 : Int) < _), ?_⟩ | refine ⟨True.intro, ?_⟩ | refine ⟨rfl, ?_⟩ | refine ⟨(by repeat' (first | exact True.intro | refine ⟨?_, ?_⟩) : ShN 60 _), ?_⟩ | refine ⟨(Nat.le_of_ble_eq_true rfl : (_ : Nat) ≤ big), ?_⟩ | refine ⟨(by repeat (first | exact True.intro | refine ⟨True.intro, ?_⟩) : NRL _), Nat.le_of_ble_eq_true rfl, ?_⟩ | refine ⟨(⟨by omega, by omega, by decide⟩ : (0 : Int) ≤ _ ∧ _ ≤ _ ∧ Int.natAbs _ < _), ?_⟩); (try conv => whnf); (repeat ((first | with_reducible refine ifB_f ?_ | with_reducible refine ifB_t ?_ | with_reducible refine ifB_nt ?_ | with_reducible refine ifB_nf ?_); (repeat first | refine ⟨_, rfl, ?_⟩ | refine ⟨MulOk.r ⟨by omega, by omega⟩, ?_⟩ | refine ⟨MulOk.l ⟨by omega, by omega⟩, ?_⟩ | refine ⟨DivOk.of (by omega) (by omega), ?_⟩ | refine ⟨(by omega : (0 : Int) < _), ?_⟩ | refine ⟨True.intro, ?_⟩ | refine ⟨rfl, ?_⟩ | refine ⟨(by repeat' (first | exact True.intro | refine ⟨?_, ?_⟩) : ShN 60 _), ?_⟩ | refine ⟨(Nat.le_of_ble_eq_true rfl : (_ : Nat) ≤ big), ?_⟩ | refine ⟨(by repeat (first | exact True.intro | refine ⟨True.intro, ?_⟩) : NRL _), Nat.le_of_ble_eq_true rfl, ?_⟩ | refine ⟨(⟨by omega, by omega, by decide⟩ : (0 : Int) ≤ _ ∧ _ ≤ _ ∧ Int.natAbs _ < _), ?_⟩); (try conv => whnf))))
    refine ifB.of (fun h => absurd rfl (ndec_t h)) (fun _ => ?_)
    ((repeat first | refine ⟨_, rfl, ?_⟩ | refine ⟨MulOk.r ⟨by omega, by omega⟩, ?_⟩ | refine ⟨MulOk.l ⟨by omega, by omega⟩, ?_⟩ | refine ⟨DivOk.of (by omega) (by omega), ?_⟩ | refine ⟨(by omega : (0 : Int) < _), ?_⟩ | refine ⟨True.intro, ?_⟩ | refine ⟨rfl, ?_⟩ | refine ⟨(by repeat' (first | exact True.intro | refine ⟨?_, ?_⟩) : ShN 60 _), ?_⟩ | refine ⟨(Nat.le_of_ble_eq_true rfl : (_ : Nat) ≤ big), ?_⟩ | refine ⟨(by repeat (first | exact True.intro | refine ⟨True.intro, ?_⟩) : NRL _), Nat.le_of_ble_eq_true rfl, ?_⟩ | refine ⟨(⟨by omega, by omega, by decide⟩ : (0 : Int) ≤ _ ∧ _ ≤ _ ∧ Int.natAbs _ < _), ?_⟩); (try conv => whnf); (repeat ((first | with_reducible refine ifB_f ?_ | with_reducible refine ifB_t ?_ | with_reducible refine ifB_nt ?_ | with_reducible refine ifB_nf ?_); (repeat first | refine ⟨_, rfl, ?_⟩ | refine ⟨MulOk.r ⟨by omega, by omega⟩, ?_⟩ | refine ⟨MulOk.l ⟨by omega, by omega⟩, ?_⟩ | refine ⟨DivOk.of (by omega) (by omega), ?_⟩ | refine ⟨(by omega : (0 : Int) < _), ?_⟩ | refine ⟨True.intro, ?_⟩ | refine ⟨rfl, ?_⟩ | refine ⟨(by repeat' (first | exact True.intro | refine ⟨?_, ?_⟩) : ShN 60 _), ?_⟩ | refine ⟨(Nat.le_of_ble_eq_true rfl : (_ : Nat) ≤ big), ?_⟩ | refine ⟨(by repeat (first | exact True.intro | refine ⟨True.intro, ?_⟩) : NRL _), Nat.le_of_ble_eq_true rfl, ?_⟩ | refine ⟨(⟨by omega, by omega, by decide⟩ : (0 : Int) ≤ _ ∧ _ ≤ _ ∧ Int.natAbs _ < _), ?_⟩); (try conv => whnf))))
    refine ifB_and (fun h h' => ?_) (fun _ => ?_)
    · have hk0 : (0 : Int) < k := dec_t h
      have hn0 : (0 : Int) < n := dec_t h'
      obtain ⟨m, rfl⟩ : ∃ m, n = m + 1 := ⟨n - 1, by omega⟩
      obtain ⟨j, rfl⟩ : ∃ j, k = j + 1 := ⟨k - 1, by omega⟩
      have em : ((m + 1 : Nat) : Int) - 1 = (m : Nat) := by omega
      have ej : ((j + 1 : Nat) : Int) - 1 = (j : Nat) := by omega
      ((repeat first | refine ⟨_, rfl, ?_⟩ | refine ⟨MulOk.r ⟨by omega, by omega⟩, ?_⟩ | refine ⟨MulOk.l ⟨by omega, by omega⟩, ?_⟩ | refine ⟨DivOk.of (by omega) (by omega), ?_⟩ | refine ⟨(by omega : (0 : Int) < _), ?_⟩ | refine ⟨True.intro, ?_⟩ | refine ⟨rfl, ?_⟩ | refine ⟨(by repeat' (first | exact True.intro | refine ⟨?_, ?_⟩) : ShN 60 _), ?_⟩ | refine ⟨(Nat.le_of_ble_eq_true rfl : (_ : Nat) ≤ big), ?_⟩ | refine ⟨(by repeat (first | exact True.intro | refine ⟨True.intro, ?_⟩) : NRL _), Nat.le_of_ble_eq_true rfl, ?_⟩ | refine ⟨(⟨by omega, by omega, by decide⟩ : (0 : Int) ≤ _ ∧ _ ≤ _ ∧ Int.natAbs _ < _), ?_⟩); (try conv => whnf); (repeat ((first | with_reducible refine ifB_f ?_ | with_reducible refine ifB_t ?_ | with_reducible refine ifB_nt ?_ | with_reducible refine ifB_nf ?_); (repeat first | refine ⟨_, rfl, ?_⟩ | refine ⟨MulOk.r ⟨by omega, by omega⟩, ?_⟩ | refine ⟨MulOk.l ⟨by omega, by omega⟩, ?_⟩ | refine ⟨DivOk.of (by omega) (by omega), ?_⟩ | refine ⟨(by omega : (0 : Int) < _), ?_⟩ | refine ⟨True.intro, ?_⟩ | refine ⟨rfl, ?_⟩ | refine ⟨(by repeat' (first | exact True.intro | refine ⟨?_, ?_⟩) : ShN 60 _), ?_⟩ | refine ⟨(Nat.le_of_ble_eq_true rfl : (_ : Nat) ≤ big), ?_⟩ | refine ⟨(by repeat (first | exact True.intro | refine ⟨True.intro, ?_⟩) : NRL _), Nat.le_of_ble_eq_true rfl, ?_⟩ | refine ⟨(⟨by omega, by omega, by decide⟩ : (0 : Int) ≤ _ ∧ _ ≤ _ ∧ Int.natAbs _ < _), ?_⟩); (try conv => whnf))))
      refine ⟨m, j, p, by rw [em, ej], rfl, by omega, by omega, hp, ?_⟩
      ((repeat first | refine ⟨_, rfl, ?_⟩ | refine ⟨MulOk.r ⟨by omega, by omega⟩, ?_⟩ | refine ⟨MulOk.l ⟨by omega, by omega⟩, ?_⟩ | refine ⟨DivOk.of (by omega) (by omega), ?_⟩ | refine ⟨(by omega : (0 : Int) < _), ?_⟩ | refine ⟨True.intro, ?_⟩ | refine ⟨rfl, ?_⟩ | refine ⟨(by repeat' (first | exact True.intro | refine ⟨?_, ?_⟩) : ShN 60 _), ?_⟩ | refine ⟨(Nat.le_of_ble_eq_true rfl : (_ : Nat) ≤ big), ?_⟩ | refine ⟨(by repeat (first | exact True.intro | refine ⟨True.intro, ?_⟩) : NRL _), Nat.le_of_ble_eq_true rfl, ?_⟩ | refine ⟨(⟨by omega, by omega, by decide⟩ : (0 : Int) ≤ _ ∧ _ ≤ _ ∧ Int.natAbs _ < _), ?_⟩); (try conv => whnf); (repeat ((first | with_reducible refine ifB_f ?_ | with_reducible refine ifB_t ?_ | with_reducible refine ifB_nt ?_ | with_reducible refine ifB_nf ?_); (repeat first | refine ⟨_, rfl, ?_⟩ | refine ⟨MulOk.r ⟨by omega, by omega⟩, ?_⟩ | refine ⟨MulOk.l ⟨by omega, by omega⟩, ?_⟩ | refine ⟨DivOk.of (by omega) (by omega), ?_⟩ | refine ⟨(by omega : (0 : Int) < _), ?_⟩ | refine ⟨True.intro, ?_⟩ | refine ⟨rfl, ?_⟩ | refine ⟨(by repeat' (first | exact True.intro | refine ⟨?_, ?_⟩) : ShN 60 _), ?_⟩ | refine ⟨(Nat.le_of_ble_eq_true rfl : (_ : Nat) ≤ big), ?_⟩ | refine ⟨(by repeat (first | exact True.intro | refine ⟨True.intro, ?_⟩) : NRL _), Nat.le_of_ble_eq_true rfl, ?_⟩ | refine ⟨(⟨by omega, by omega, by decide⟩ : (0 : Int) ≤ _ ∧ _ ≤ _ ∧ Int.natAbs _ < _), ?_⟩); (try conv => whnf))))
      refine ⟨m, j + 1, p, by rw [em], rfl, by omega, by omega, hp, ?_⟩
      ((repeat first | refine ⟨_, rfl, ?_⟩ | refine ⟨MulOk.r ⟨by omega, by omega⟩, ?_⟩ | refine ⟨MulOk.l ⟨by omega, by omega⟩, ?_⟩ | refine ⟨DivOk.of (by omega) (by omega), ?_⟩ | refine ⟨(by omega : (0 : Int) < _), ?_⟩ | refine ⟨True.intro, ?_⟩ | refine ⟨rfl, ?_⟩ | refine ⟨(by repeat' (first | exact True.intro | refine ⟨?_, ?_⟩) : ShN 60 _), ?_⟩ | refine ⟨(Nat.le_of_ble_eq_true rfl : (_ : Nat) ≤ big), ?_⟩ | refine ⟨(by repeat (first | exact True.intro | refine ⟨True.intro, ?_⟩) : NRL _), Nat.le_of_ble_eq_true rfl, ?_⟩ | refine ⟨(⟨by omega, by omega, by decide⟩ : (0 : Int) ≤ _ ∧ _ ≤ _ ∧ Int.natAbs _ < _), ?_⟩); (try conv => whnf); (repeat ((first | with_reducible refine ifB_f ?_ | with_reducible refine ifB_t ?_ | with_reducible refine ifB_nt ?_ | with_reducible refine ifB_nf ?_); (repeat first | refine ⟨_, rfl, ?_⟩ | refine ⟨MulOk.r ⟨by omega, by omega⟩, ?_⟩ | refine ⟨MulOk.l ⟨by omega, by omega⟩, ?_⟩ | refine ⟨DivOk.of (by omega) (by omega), ?_⟩ | refine ⟨(by omega : (0 : Int) < _), ?_⟩ | refine ⟨True.intro, ?_⟩ | refine ⟨rfl, ?_⟩ | refine ⟨(by repeat' (first | exact True.intro | refine ⟨?_, ?_⟩) : ShN 60 _), ?_⟩ | refine ⟨(Nat.le_of_ble_eq_true rfl : (_ : Nat) ≤ big), ?_⟩ | refine ⟨(by repeat (first | exact True.intro | refine ⟨True.intro, ?_⟩) : NRL _), Nat.le_of_ble_eq_true rfl, ?_⟩ | refine ⟨(⟨by omega, by omega, by decide⟩ : (0 : Int) ≤ _ ∧ _ ≤ _ ∧ Int.natAbs _ < _), ?_⟩); (try conv => whnf))))
      refine ⟨m + 1, j + 1, p, rfl, rfl, hn, hk, hp, ?_⟩
      ((repeat first | refine ⟨_, rfl, ?_⟩ | refine ⟨MulOk.r ⟨by omega, by omega⟩, ?_⟩ | refine ⟨MulOk.l ⟨by omega, by omega⟩, ?_⟩ | refine ⟨DivOk.of (by omega) (by omega), ?_⟩ | refine ⟨(by omega : (0 : Int) < _), ?_⟩ | refine ⟨True.intro, ?_⟩ | refine ⟨rfl, ?_⟩ | refine ⟨(by repeat' (first | exact True.intro | refine ⟨?_, ?_⟩) : ShN 60 _), ?_⟩ | refine ⟨(Nat.le_of_ble_eq_true rfl : (_ : Nat) ≤ big), ?_⟩ | refine ⟨(by repeat (first | exact True.intro | refine ⟨True.intro, ?_⟩) : NRL _), Nat.le_of_ble_eq_true rfl, ?_⟩ | refine ⟨(⟨by omega, by omega, by decide⟩ : (0 : Int) ≤ _ ∧ _ ≤ _ ∧ Int.natAbs _ < _), ?_⟩); (try conv => whnf); (repeat ((first | with_reducible refine ifB_f ?_ | with_reducible refine ifB_t ?_ | with_reducible refine ifB_nt ?_ | with_reducible refine ifB_nf ?_); (repeat first | refine ⟨_, rfl, ?_⟩ | refine ⟨MulOk.r ⟨by omega, by omega⟩, ?_⟩ | refine ⟨MulOk.l ⟨by omega, by omega⟩, ?_⟩ | refine ⟨DivOk.of (by omega) (by omega), ?_⟩ | refine ⟨(by omega : (0 : Int) < _), ?_⟩ | refine ⟨True.intro, ?_⟩ | refine ⟨rfl, ?_⟩ | refine ⟨(by repeat' (first | exact True.intro | refine ⟨?_, ?_⟩) : ShN 60 _), ?_⟩ | refine ⟨(Nat.le_of_ble_eq_true rfl : (_ : Nat) ≤ big), ?_⟩ | refine ⟨(by repeat (first | exact True.intro | refine ⟨True.intro, ?_⟩) : NRL _), Nat.le_of_ble_eq_true rfl, ?_⟩ | refine ⟨(⟨by omega, by omega, by decide⟩ : (0 : Int) ≤ _ ∧ _ ≤ _ ∧ Int.natAbs _ < _), ?_⟩); (try conv => whnf))))
      have es : (((ch m j % p : Nat) : Int) + ((ch m (j + 1) % p : Nat) : Int)) % (p : Int) = ((ch (m + 1) (j + 1) % p : Nat) : Int) := by
        show (((ch m j % p + ch m (j + 1) % p) % p : Nat) : Int) = (((ch m j + ch m (j + 1)) % p : Nat) : Int)
        rw [← Nat.add_mod]
      refine ifB.of (fun h => absurd es (ndec_t h)) (fun _ => ?_)
      ((repeat first | refine ⟨_, rfl, ?_⟩ | refine ⟨MulOk.r ⟨by omega, by omega⟩, ?_⟩ | refine ⟨MulOk.l ⟨by omega, by omega⟩, ?_⟩ | refine ⟨DivOk.of (by omega) (by omega), ?_⟩ | refine ⟨(by omega : (0 : Int) < _), ?_⟩ | refine ⟨True.intro, ?_⟩ | refine ⟨rfl, ?_⟩ | refine ⟨(by repeat' (first | exact True.intro | refine ⟨?_, ?_⟩) : ShN 60 _), ?_⟩ | refine ⟨(Nat.le_of_ble_eq_true rfl : (_ : Nat) ≤ big), ?_⟩ | refine ⟨(by repeat (first | exact True.intro | refine ⟨True.intro, ?_⟩) : NRL _), Nat.le_of_ble_eq_true rfl, ?_⟩ | refine ⟨(⟨by omega, by omega, by decide⟩ : (0 : Int) ≤ _ ∧ _ ≤ _ ∧ Int.natAbs _ < _), ?_⟩); (try conv => whnf); (repeat ((first | with_reducible refine ifB_f ?_ | with_reducible refine ifB_t ?_ | with_reducible refine ifB_nt ?_ | with_reducible refine ifB_nf ?_); (repeat first | refine ⟨_, rfl, ?_⟩ | refine ⟨MulOk.r ⟨by omega, by omega⟩, ?_⟩ | refine ⟨MulOk.l ⟨by omega, by omega⟩, ?_⟩ | refine ⟨DivOk.of (by omega) (by omega), ?_⟩ | refine ⟨(by omega : (0 : Int) < _), ?_⟩ | refine ⟨True.intro, ?_⟩ | refine ⟨rfl, ?_⟩ | refine ⟨(by repeat' (first | exact True.intro | refine ⟨?_, ?_⟩) : ShN 60 _), ?_⟩ | refine ⟨(Nat.le_of_ble_eq_true rfl : (_ : Nat) ≤ big), ?_⟩ | refine ⟨(by repeat (first | exact True.intro | refine ⟨True.intro, ?_⟩) : NRL _), Nat.le_of_ble_eq_true rfl, ?_⟩ | refine ⟨(⟨by omega, by omega, by decide⟩ : (0 : Int) ≤ _ ∧ _ ≤ _ ∧ Int.natAbs _ < _), ?_⟩); (try conv => whnf))))
      refine ⟨m + 1, p, rfl, rfl, hn, hp, ?_⟩
      exact .inl ⟨True.intro, hQ o ho⟩
    · ((repeat first | refine ⟨_, rfl, ?_⟩ | refine ⟨MulOk.r ⟨by omega, by omega⟩, ?_⟩ | refine ⟨MulOk.l ⟨by omega, by omega⟩, ?_⟩ | refine ⟨DivOk.of (by omega) (by omega), ?_⟩ | refine ⟨(by omega : (0 : Int) < _), ?_⟩ | refine ⟨True.intro, ?_⟩ | refine ⟨rfl, ?_⟩ | refine ⟨(by repeat' (first | exact True.intro | refine ⟨?_, ?_⟩) : ShN 60 _), ?_⟩ | refine ⟨(Nat.le_of_ble_eq_true rfl : (_ : Nat) ≤ big), ?_⟩ | refine ⟨(by repeat (first | exact True.intro | refine ⟨True.intro, ?_⟩) : NRL _), Nat.le_of_ble_eq_true rfl, ?_⟩ | refine ⟨(⟨by omega, by omega, by decide⟩ : (0 : Int) ≤ _ ∧ _ ≤ _ ∧ Int.natAbs _ < _), ?_⟩); (try conv => whnf); (repeat ((first | with_reducible refine ifB_f ?_ | with_reducible refine ifB_t ?_ | with_reducible refine ifB_nt ?_ | with_reducible refine ifB_nf ?_); (repeat first | refine ⟨_, rfl, ?_⟩ | refine ⟨MulOk.r ⟨by omega, by omega⟩, ?_⟩ | refine ⟨MulOk.l ⟨by omega, by omega⟩, ?_⟩ | refine ⟨DivOk.of (by omega) (by omega), ?_⟩ | refine ⟨(by omega : (0 : Int) < _), ?_⟩ | refine ⟨True.intro, ?_⟩ | refine ⟨rfl, ?_⟩ | refine ⟨(by repeat' (first | exact True.intro | refine ⟨?_, ?_⟩) : ShN 60 _), ?_⟩ | refine ⟨(Nat.le_of_ble_eq_true rfl : (_ : Nat) ≤ big), ?_⟩ | refine ⟨(by repeat (first | exact True.intro | refine ⟨True.intro, ?_⟩) : NRL _), Nat.le_of_ble_eq_true rfl, ?_⟩ | refine ⟨(⟨by omega, by omega, by decide⟩ : (0 : Int) ≤ _ ∧ _ ≤ _ ∧ Int.natAbs _ < _), ?_⟩); (try conv => whnf))))
      refine ⟨n, p, rfl, rfl, hn, hp, ?_⟩
      exact .inl ⟨True.intro, hQ o ho⟩

/-! ### the primes of the law -/
def nxa : List Nat → List Nat
  | [] => []
  | [_] => [1]
  | x :: y :: t => (x + y) :: nxa (y :: t)
def rowF : Nat → List Nat
  | 0 => [1]
  | n + 1 => 1 :: nxa (rowF n)
theorem nxa_seg (n : Nat) : ∀ m k, k + m = n → nxa ((List.range' k (m + 1)).map (ch n)) = (List.range' (k + 1) (m + 1)).map (ch (n + 1))
  | 0, k, h => by
    have e : k = n := by omega
    subst e
    show [1] = [ch (k + 1) (k + 1)]
    rw [ch_self]
  | m + 1, k, h => by
    have ih := nxa_seg n m (k + 1) (by omega)
    show (ch n k + ch n (k + 1)) :: nxa ((List.range' (k + 1) (m + 1)).map (ch n)) = ch (n + 1) (k + 1) :: (List.range' (k + 1 + 1) (m + 1)).map (ch (n + 1))
    rw [ih]
    rfl
theorem rowF_eq : ∀ n, rowF n = (List.range (n + 1)).map (ch n)
  | 0 => rfl
  | n + 1 => by
    rw [List.range_eq_range']
    show 1 :: nxa (rowF n) = ch (n + 1) 0 :: (List.range' (0 + 1) (n + 1)).map (ch (n + 1))
    rw [rowF_eq n, List.range_eq_range', nxa_seg n n 0 (by omega), ch_0]
def rkF : Nat → Nat → Nat → Nat
  | 0, _, _ => 1
  | f + 1, p, n => if n = 0 then 1 else (n % p + 1) * rkF f p (n / p)
theorem rkF_eq {p : Nat} (hp : 2 ≤ p) : ∀ f n, n ≤ f → rkF f p n = rk p n
  | 0, n, h => by
    have e : n = 0 := by omega
    subst e
    rw [rk_0]
    rfl
  | f + 1, n, h => by
    show (if n = 0 then 1 else (n % p + 1) * rkF f p (n / p)) = _
    by_cases hz : n = 0
    · subst hz
      rw [rk_0]
      rfl
    · rw [if_neg hz, rk_y hp (by omega), rkF_eq hp f (n / p)]
      have := Nat.div_lt_self (show 0 < n by omega) hp
      omega
def cntF (p : Nat) : Nat → List Nat → Bool
  | 0, _ => true
  | f + 1, r => ((r.filter fun x => !(x % p == 0)).length == rkF 60 p (r.length - 1)) && cntF p f (1 :: nxa r)
theorem cntF_at (p : Nat) : ∀ f m, cntF p f (rowF m) = true → ∀ n, m ≤ n → n < m + f → ((rowF n).filter fun x => !(x % p == 0)).length = rkF 60 p n
  | 0, m, h, n, h1, h2 => by omega
  | f + 1, m, h, n, h1, h2 => by
    have h' := Bool.and_eq_true_iff.mp h
    by_cases e : n = m
    · subst e
      have e1 := eq_of_beq h'.1
      rw [rowF_eq] at e1 ⊢
      rw [e1, List.length_map, List.length_range]
      rfl
    · exact cntF_at p f (m + 1) h'.2 n (by omega) (by omega)
def prF (p : Nat) : Bool := (List.range (p + 1)).all fun d => !(p % d == 0) || d == 1 || d == p || d == 0
theorem good_of {p : Nat} (h2 : 2 ≤ p) (h3 : p ≤ 1000) (h1 : prF p = true) (hw : fac (p - 1) % p = p - 1) (hc : cntF p 61 (rowF 0) = true) : Good p := by
  refine ⟨⟨h2, fun d hd => ?_⟩, hw, h3, fun n hn => ?_⟩
  · have hle := Nat.le_of_dvd (by omega) hd
    have := List.all_eq_true.mp h1 d (List.mem_range.mpr (by omega))
    have hz : p % d = 0 := Nat.mod_eq_zero_of_dvd hd
    rw [hz] at this
    have hd0 : d ≠ 0 := by
      rintro rfl
      have := Nat.eq_zero_of_zero_dvd hd
      omega
    simp at this
    omega
  · have := cntF_at p 61 0 hc n (by omega) (by omega)
    rw [← rkF_eq h2 60 n hn, ← this, rowF_eq, List.filter_map, List.length_map]
    congr 1
    apply List.filter_congr
    intro x _
    show decide _ = !(ch n x % p == 0)
    by_cases hz : ch n x % p = 0
    · simp [hz]
    · simp [hz]
theorem good_2 : Good 2 := good_of (by decide) (by decide) (by decide +kernel) (by decide +kernel) (by decide +kernel)
theorem good_3 : Good 3 := good_of (by decide) (by decide) (by decide +kernel) (by decide +kernel) (by decide +kernel)
theorem good_5 : Good 5 := good_of (by decide) (by decide) (by decide +kernel) (by decide +kernel) (by decide +kernel)
theorem good_7 : Good 7 := good_of (by decide) (by decide) (by decide +kernel) (by decide +kernel) (by decide +kernel)
theorem good_13 : Good 13 := good_of (by decide) (by decide) (by decide +kernel) (by decide +kernel) (by decide +kernel)
theorem good_59 : Good 59 := good_of (by decide) (by decide) (by decide +kernel) (by decide +kernel) (by decide +kernel)
theorem good_101 : Good 101 := good_of (by decide) (by decide) (by decide +kernel) (by decide +kernel) (by decide +kernel)
theorem good_997 : Good 997 := good_of (by decide) (by decide) (by decide +kernel) (by decide +kernel) (by decide +kernel)
theorem ch_1 : ∀ n, ch n 1 = n
  | 0 => rfl
  | n + 1 => by
    show ch n 0 + ch n 1 = n + 1
    rw [ch_0, ch_1 n]
    omega

theorem rd_law (ds : List D) (so : Sto) (Q : WK) (h : p_law ds so Q) : w_law (endK so.length Q) (startM 6 ds) so := by
  obtain ⟨ns, hl, rfl, rfl, hQ⟩ := h
  have c1 : ch 10 3 = 120 := by decide +kernel
  have c2 : ch 1000 999 = 1000 := by
    have := ch_symm (n := 1000) (k := 1) (by decide)
    rw [ch_1] at this
    exact this
  have c3 : val 2 120 = 3 := (val_uni (p := 2) (by decide) (u := 15) (by decide) 3).1
  have c4 : leg 3 6 = 2 := by
    rw [leg_eq (by decide), show 6 / 3 = 2 from rfl, leg_eq (by decide), show 2 / 3 = 0 from rfl, leg_0]
  have c5 : strip 3 (fac 6) = 80 := (val_uni (p := 3) (by decide) (u := 80) (by decide) 2).2
  have c6 : rk 2 6 = 4 := by
    rw [rk_y (by decide) (by decide), show 6 / 2 = 3 from rfl, rk_y (by decide) (by decide), show 3 / 2 = 1 from rfl, rk_y (by decide) (by decide), show 1 / 2 = 0 from rfl, rk_0]
  ((repeat first | refine ⟨_, rfl, ?_⟩ | refine ⟨MulOk.r ⟨by omega, by omega⟩, ?_⟩ | refine ⟨MulOk.l ⟨by omega, by omega⟩, ?_⟩ | refine ⟨DivOk.of (by omega) (by omega), ?_⟩ | refine ⟨(by omega : (0 : Int) < _), ?_⟩ | refine ⟨True.intro, ?_⟩ | refine ⟨rfl, ?_⟩ | refine ⟨(by repeat' (first | exact True.intro | refine ⟨?_, ?_⟩) : ShN 60 _), ?_⟩ | refine ⟨(Nat.le_of_ble_eq_true rfl : (_ : Nat) ≤ big), ?_⟩ | refine ⟨(by repeat (first | exact True.intro | refine ⟨True.intro, ?_⟩) : NRL _), Nat.le_of_ble_eq_true rfl, ?_⟩ | refine ⟨(⟨by omega, by omega, by decide⟩ : (0 : Int) ≤ _ ∧ _ ≤ _ ∧ Int.natAbs _ < _), ?_⟩); (try conv => whnf); (repeat ((first | with_reducible refine ifB_f ?_ | with_reducible refine ifB_t ?_ | with_reducible refine ifB_nt ?_ | with_reducible refine ifB_nf ?_); (repeat first | refine ⟨_, rfl, ?_⟩ | refine ⟨MulOk.r ⟨by omega, by omega⟩, ?_⟩ | refine ⟨MulOk.l ⟨by omega, by omega⟩, ?_⟩ | refine ⟨DivOk.of (by omega) (by omega), ?_⟩ | refine ⟨(by omega : (0 : Int) < _), ?_⟩ | refine ⟨True.intro, ?_⟩ | refine ⟨rfl, ?_⟩ | refine ⟨(by repeat' (first | exact True.intro | refine ⟨?_, ?_⟩) : ShN 60 _), ?_⟩ | refine ⟨(Nat.le_of_ble_eq_true rfl : (_ : Nat) ≤ big), ?_⟩ | refine ⟨(by repeat (first | exact True.intro | refine ⟨True.intro, ?_⟩) : NRL _), Nat.le_of_ble_eq_true rfl, ?_⟩ | refine ⟨(⟨by omega, by omega, by decide⟩ : (0 : Int) ≤ _ ∧ _ ≤ _ ∧ Int.natAbs _ < _), ?_⟩); (try conv => whnf))))
  refine ⟨ns, hl, rfl, rfl, fun o ho => ?_⟩
  ((repeat first | refine ⟨_, rfl, ?_⟩ | refine ⟨MulOk.r ⟨by omega, by omega⟩, ?_⟩ | refine ⟨MulOk.l ⟨by omega, by omega⟩, ?_⟩ | refine ⟨DivOk.of (by omega) (by omega), ?_⟩ | refine ⟨(by omega : (0 : Int) < _), ?_⟩ | refine ⟨True.intro, ?_⟩ | refine ⟨rfl, ?_⟩ | refine ⟨(by repeat' (first | exact True.intro | refine ⟨?_, ?_⟩) : ShN 60 _), ?_⟩ | refine ⟨(Nat.le_of_ble_eq_true rfl : (_ : Nat) ≤ big), ?_⟩ | refine ⟨(by repeat (first | exact True.intro | refine ⟨True.intro, ?_⟩) : NRL _), Nat.le_of_ble_eq_true rfl, ?_⟩ | refine ⟨(⟨by omega, by omega, by decide⟩ : (0 : Int) ≤ _ ∧ _ ≤ _ ∧ Int.natAbs _ < _), ?_⟩); (try conv => whnf); (repeat ((first | with_reducible refine ifB_f ?_ | with_reducible refine ifB_t ?_ | with_reducible refine ifB_nt ?_ | with_reducible refine ifB_nf ?_); (repeat first | refine ⟨_, rfl, ?_⟩ | refine ⟨MulOk.r ⟨by omega, by omega⟩, ?_⟩ | refine ⟨MulOk.l ⟨by omega, by omega⟩, ?_⟩ | refine ⟨DivOk.of (by omega) (by omega), ?_⟩ | refine ⟨(by omega : (0 : Int) < _), ?_⟩ | refine ⟨True.intro, ?_⟩ | refine ⟨rfl, ?_⟩ | refine ⟨(by repeat' (first | exact True.intro | refine ⟨?_, ?_⟩) : ShN 60 _), ?_⟩ | refine ⟨(Nat.le_of_ble_eq_true rfl : (_ : Nat) ≤ big), ?_⟩ | refine ⟨(by repeat (first | exact True.intro | refine ⟨True.intro, ?_⟩) : NRL _), Nat.le_of_ble_eq_true rfl, ?_⟩ | refine ⟨(⟨by omega, by omega, by decide⟩ : (0 : Int) ≤ _ ∧ _ ≤ _ ∧ Int.natAbs _ < _), ?_⟩); (try conv => whnf))))
  refine ⟨10, 3, rfl, rfl, by omega, by omega, ?_⟩
  rw [c1]
  ((repeat first | refine ⟨_, rfl, ?_⟩ | refine ⟨MulOk.r ⟨by omega, by omega⟩, ?_⟩ | refine ⟨MulOk.l ⟨by omega, by omega⟩, ?_⟩ | refine ⟨DivOk.of (by omega) (by omega), ?_⟩ | refine ⟨(by omega : (0 : Int) < _), ?_⟩ | refine ⟨True.intro, ?_⟩ | refine ⟨rfl, ?_⟩ | refine ⟨(by repeat' (first | exact True.intro | refine ⟨?_, ?_⟩) : ShN 60 _), ?_⟩ | refine ⟨(Nat.le_of_ble_eq_true rfl : (_ : Nat) ≤ big), ?_⟩ | refine ⟨(by repeat (first | exact True.intro | refine ⟨True.intro, ?_⟩) : NRL _), Nat.le_of_ble_eq_true rfl, ?_⟩ | refine ⟨(⟨by omega, by omega, by decide⟩ : (0 : Int) ≤ _ ∧ _ ≤ _ ∧ Int.natAbs _ < _), ?_⟩); (try conv => whnf); (repeat ((first | with_reducible refine ifB_f ?_ | with_reducible refine ifB_t ?_ | with_reducible refine ifB_nt ?_ | with_reducible refine ifB_nf ?_); (repeat first | refine ⟨_, rfl, ?_⟩ | refine ⟨MulOk.r ⟨by omega, by omega⟩, ?_⟩ | refine ⟨MulOk.l ⟨by omega, by omega⟩, ?_⟩ | refine ⟨DivOk.of (by omega) (by omega), ?_⟩ | refine ⟨(by omega : (0 : Int) < _), ?_⟩ | refine ⟨True.intro, ?_⟩ | refine ⟨rfl, ?_⟩ | refine ⟨(by repeat' (first | exact True.intro | refine ⟨?_, ?_⟩) : ShN 60 _), ?_⟩ | refine ⟨(Nat.le_of_ble_eq_true rfl : (_ : Nat) ≤ big), ?_⟩ | refine ⟨(by repeat (first | exact True.intro | refine ⟨True.intro, ?_⟩) : NRL _), Nat.le_of_ble_eq_true rfl, ?_⟩ | refine ⟨(⟨by omega, by omega, by decide⟩ : (0 : Int) ≤ _ ∧ _ ≤ _ ∧ Int.natAbs _ < _), ?_⟩); (try conv => whnf))))
  refine ⟨10, 3, 7, rfl, rfl, by omega, by omega, good_7, ?_⟩
  rw [c1]
  ((repeat first | refine ⟨_, rfl, ?_⟩ | refine ⟨MulOk.r ⟨by omega, by omega⟩, ?_⟩ | refine ⟨MulOk.l ⟨by omega, by omega⟩, ?_⟩ | refine ⟨DivOk.of (by omega) (by omega), ?_⟩ | refine ⟨(by omega : (0 : Int) < _), ?_⟩ | refine ⟨True.intro, ?_⟩ | refine ⟨rfl, ?_⟩ | refine ⟨(by repeat' (first | exact True.intro | refine ⟨?_, ?_⟩) : ShN 60 _), ?_⟩ | refine ⟨(Nat.le_of_ble_eq_true rfl : (_ : Nat) ≤ big), ?_⟩ | refine ⟨(by repeat (first | exact True.intro | refine ⟨True.intro, ?_⟩) : NRL _), Nat.le_of_ble_eq_true rfl, ?_⟩ | refine ⟨(⟨by omega, by omega, by decide⟩ : (0 : Int) ≤ _ ∧ _ ≤ _ ∧ Int.natAbs _ < _), ?_⟩); (try conv => whnf); (repeat ((first | with_reducible refine ifB_f ?_ | with_reducible refine ifB_t ?_ | with_reducible refine ifB_nt ?_ | with_reducible refine ifB_nf ?_); (repeat first | refine ⟨_, rfl, ?_⟩ | refine ⟨MulOk.r ⟨by omega, by omega⟩, ?_⟩ | refine ⟨MulOk.l ⟨by omega, by omega⟩, ?_⟩ | refine ⟨DivOk.of (by omega) (by omega), ?_⟩ | refine ⟨(by omega : (0 : Int) < _), ?_⟩ | refine ⟨True.intro, ?_⟩ | refine ⟨rfl, ?_⟩ | refine ⟨(by repeat' (first | exact True.intro | refine ⟨?_, ?_⟩) : ShN 60 _), ?_⟩ | refine ⟨(Nat.le_of_ble_eq_true rfl : (_ : Nat) ≤ big), ?_⟩ | refine ⟨(by repeat (first | exact True.intro | refine ⟨True.intro, ?_⟩) : NRL _), Nat.le_of_ble_eq_true rfl, ?_⟩ | refine ⟨(⟨by omega, by omega, by decide⟩ : (0 : Int) ≤ _ ∧ _ ≤ _ ∧ Int.natAbs _ < _), ?_⟩); (try conv => whnf))))
  refine ⟨10, 3, 2, rfl, rfl, by omega, by omega, good_2, ?_⟩
  rw [oig_ge (by omega), c1, c3]
  ((repeat first | refine ⟨_, rfl, ?_⟩ | refine ⟨MulOk.r ⟨by omega, by omega⟩, ?_⟩ | refine ⟨MulOk.l ⟨by omega, by omega⟩, ?_⟩ | refine ⟨DivOk.of (by omega) (by omega), ?_⟩ | refine ⟨(by omega : (0 : Int) < _), ?_⟩ | refine ⟨True.intro, ?_⟩ | refine ⟨rfl, ?_⟩ | refine ⟨(by repeat' (first | exact True.intro | refine ⟨?_, ?_⟩) : ShN 60 _), ?_⟩ | refine ⟨(Nat.le_of_ble_eq_true rfl : (_ : Nat) ≤ big), ?_⟩ | refine ⟨(by repeat (first | exact True.intro | refine ⟨True.intro, ?_⟩) : NRL _), Nat.le_of_ble_eq_true rfl, ?_⟩ | refine ⟨(⟨by omega, by omega, by decide⟩ : (0 : Int) ≤ _ ∧ _ ≤ _ ∧ Int.natAbs _ < _), ?_⟩); (try conv => whnf); (repeat ((first | with_reducible refine ifB_f ?_ | with_reducible refine ifB_t ?_ | with_reducible refine ifB_nt ?_ | with_reducible refine ifB_nf ?_); (repeat first | refine ⟨_, rfl, ?_⟩ | refine ⟨MulOk.r ⟨by omega, by omega⟩, ?_⟩ | refine ⟨MulOk.l ⟨by omega, by omega⟩, ?_⟩ | refine ⟨DivOk.of (by omega) (by omega), ?_⟩ | refine ⟨(by omega : (0 : Int) < _), ?_⟩ | refine ⟨True.intro, ?_⟩ | refine ⟨rfl, ?_⟩ | refine ⟨(by repeat' (first | exact True.intro | refine ⟨?_, ?_⟩) : ShN 60 _), ?_⟩ | refine ⟨(Nat.le_of_ble_eq_true rfl : (_ : Nat) ≤ big), ?_⟩ | refine ⟨(by repeat (first | exact True.intro | refine ⟨True.intro, ?_⟩) : NRL _), Nat.le_of_ble_eq_true rfl, ?_⟩ | refine ⟨(⟨by omega, by omega, by decide⟩ : (0 : Int) ≤ _ ∧ _ ≤ _ ∧ Int.natAbs _ < _), ?_⟩); (try conv => whnf))))
  refine ⟨6, 3, rfl, rfl, by omega, good_3, ?_⟩
  rw [c4, c5]
  ((repeat first | refine ⟨_, rfl, ?_⟩ | refine ⟨MulOk.r ⟨by omega, by omega⟩, ?_⟩ | refine ⟨MulOk.l ⟨by omega, by omega⟩, ?_⟩ | refine ⟨DivOk.of (by omega) (by omega), ?_⟩ | refine ⟨(by omega : (0 : Int) < _), ?_⟩ | refine ⟨True.intro, ?_⟩ | refine ⟨rfl, ?_⟩ | refine ⟨(by repeat' (first | exact True.intro | refine ⟨?_, ?_⟩) : ShN 60 _), ?_⟩ | refine ⟨(Nat.le_of_ble_eq_true rfl : (_ : Nat) ≤ big), ?_⟩ | refine ⟨(by repeat (first | exact True.intro | refine ⟨True.intro, ?_⟩) : NRL _), Nat.le_of_ble_eq_true rfl, ?_⟩ | refine ⟨(⟨by omega, by omega, by decide⟩ : (0 : Int) ≤ _ ∧ _ ≤ _ ∧ Int.natAbs _ < _), ?_⟩); (try conv => whnf); (repeat ((first | with_reducible refine ifB_f ?_ | with_reducible refine ifB_t ?_ | with_reducible refine ifB_nt ?_ | with_reducible refine ifB_nf ?_); (repeat first | refine ⟨_, rfl, ?_⟩ | refine ⟨MulOk.r ⟨by omega, by omega⟩, ?_⟩ | refine ⟨MulOk.l ⟨by omega, by omega⟩, ?_⟩ | refine ⟨DivOk.of (by omega) (by omega), ?_⟩ | refine ⟨(by omega : (0 : Int) < _), ?_⟩ | refine ⟨True.intro, ?_⟩ | refine ⟨rfl, ?_⟩ | refine ⟨(by repeat' (first | exact True.intro | refine ⟨?_, ?_⟩) : ShN 60 _), ?_⟩ | refine ⟨(Nat.le_of_ble_eq_true rfl : (_ : Nat) ≤ big), ?_⟩ | refine ⟨(by repeat (first | exact True.intro | refine ⟨True.intro, ?_⟩) : NRL _), Nat.le_of_ble_eq_true rfl, ?_⟩ | refine ⟨(⟨by omega, by omega, by decide⟩ : (0 : Int) ≤ _ ∧ _ ≤ _ ∧ Int.natAbs _ < _), ?_⟩); (try conv => whnf))))
  refine ⟨6, 2, rfl, rfl, by omega, good_2, ?_⟩
  rw [c6]
  ((repeat first | refine ⟨_, rfl, ?_⟩ | refine ⟨MulOk.r ⟨by omega, by omega⟩, ?_⟩ | refine ⟨MulOk.l ⟨by omega, by omega⟩, ?_⟩ | refine ⟨DivOk.of (by omega) (by omega), ?_⟩ | refine ⟨(by omega : (0 : Int) < _), ?_⟩ | refine ⟨True.intro, ?_⟩ | refine ⟨rfl, ?_⟩ | refine ⟨(by repeat' (first | exact True.intro | refine ⟨?_, ?_⟩) : ShN 60 _), ?_⟩ | refine ⟨(Nat.le_of_ble_eq_true rfl : (_ : Nat) ≤ big), ?_⟩ | refine ⟨(by repeat (first | exact True.intro | refine ⟨True.intro, ?_⟩) : NRL _), Nat.le_of_ble_eq_true rfl, ?_⟩ | refine ⟨(⟨by omega, by omega, by decide⟩ : (0 : Int) ≤ _ ∧ _ ≤ _ ∧ Int.natAbs _ < _), ?_⟩); (try conv => whnf); (repeat ((first | with_reducible refine ifB_f ?_ | with_reducible refine ifB_t ?_ | with_reducible refine ifB_nt ?_ | with_reducible refine ifB_nf ?_); (repeat first | refine ⟨_, rfl, ?_⟩ | refine ⟨MulOk.r ⟨by omega, by omega⟩, ?_⟩ | refine ⟨MulOk.l ⟨by omega, by omega⟩, ?_⟩ | refine ⟨DivOk.of (by omega) (by omega), ?_⟩ | refine ⟨(by omega : (0 : Int) < _), ?_⟩ | refine ⟨True.intro, ?_⟩ | refine ⟨rfl, ?_⟩ | refine ⟨(by repeat' (first | exact True.intro | refine ⟨?_, ?_⟩) : ShN 60 _), ?_⟩ | refine ⟨(Nat.le_of_ble_eq_true rfl : (_ : Nat) ≤ big), ?_⟩ | refine ⟨(by repeat (first | exact True.intro | refine ⟨True.intro, ?_⟩) : NRL _), Nat.le_of_ble_eq_true rfl, ?_⟩ | refine ⟨(⟨by omega, by omega, by decide⟩ : (0 : Int) ≤ _ ∧ _ ≤ _ ∧ Int.natAbs _ < _), ?_⟩); (try conv => whnf))))
  refine ifB.of (fun h => absurd h (by decide)) (fun _ => ?_)
  ((repeat first | refine ⟨_, rfl, ?_⟩ | refine ⟨MulOk.r ⟨by omega, by omega⟩, ?_⟩ | refine ⟨MulOk.l ⟨by omega, by omega⟩, ?_⟩ | refine ⟨DivOk.of (by omega) (by omega), ?_⟩ | refine ⟨(by omega : (0 : Int) < _), ?_⟩ | refine ⟨True.intro, ?_⟩ | refine ⟨rfl, ?_⟩ | refine ⟨(by repeat' (first | exact True.intro | refine ⟨?_, ?_⟩) : ShN 60 _), ?_⟩ | refine ⟨(Nat.le_of_ble_eq_true rfl : (_ : Nat) ≤ big), ?_⟩ | refine ⟨(by repeat (first | exact True.intro | refine ⟨True.intro, ?_⟩) : NRL _), Nat.le_of_ble_eq_true rfl, ?_⟩ | refine ⟨(⟨by omega, by omega, by decide⟩ : (0 : Int) ≤ _ ∧ _ ≤ _ ∧ Int.natAbs _ < _), ?_⟩); (try conv => whnf); (repeat ((first | with_reducible refine ifB_f ?_ | with_reducible refine ifB_t ?_ | with_reducible refine ifB_nt ?_ | with_reducible refine ifB_nf ?_); (repeat first | refine ⟨_, rfl, ?_⟩ | refine ⟨MulOk.r ⟨by omega, by omega⟩, ?_⟩ | refine ⟨MulOk.l ⟨by omega, by omega⟩, ?_⟩ | refine ⟨DivOk.of (by omega) (by omega), ?_⟩ | refine ⟨(by omega : (0 : Int) < _), ?_⟩ | refine ⟨True.intro, ?_⟩ | refine ⟨rfl, ?_⟩ | refine ⟨(by repeat' (first | exact True.intro | refine ⟨?_, ?_⟩) : ShN 60 _), ?_⟩ | refine ⟨(Nat.le_of_ble_eq_true rfl : (_ : Nat) ≤ big), ?_⟩ | refine ⟨(by repeat (first | exact True.intro | refine ⟨True.intro, ?_⟩) : NRL _), Nat.le_of_ble_eq_true rfl, ?_⟩ | refine ⟨(⟨by omega, by omega, by decide⟩ : (0 : Int) ≤ _ ∧ _ ≤ _ ∧ Int.natAbs _ < _), ?_⟩); (try conv => whnf))))
  refine ⟨1000, 999, rfl, rfl, by omega, by omega, ?_⟩
  rw [c2]
  ((repeat first | refine ⟨_, rfl, ?_⟩ | refine ⟨MulOk.r ⟨by omega, by omega⟩, ?_⟩ | refine ⟨MulOk.l ⟨by omega, by omega⟩, ?_⟩ | refine ⟨DivOk.of (by omega) (by omega), ?_⟩ | refine ⟨(by omega : (0 : Int) < _), ?_⟩ | refine ⟨True.intro, ?_⟩ | refine ⟨rfl, ?_⟩ | refine ⟨(by repeat' (first | exact True.intro | refine ⟨?_, ?_⟩) : ShN 60 _), ?_⟩ | refine ⟨(Nat.le_of_ble_eq_true rfl : (_ : Nat) ≤ big), ?_⟩ | refine ⟨(by repeat (first | exact True.intro | refine ⟨True.intro, ?_⟩) : NRL _), Nat.le_of_ble_eq_true rfl, ?_⟩ | refine ⟨(⟨by omega, by omega, by decide⟩ : (0 : Int) ≤ _ ∧ _ ≤ _ ∧ Int.natAbs _ < _), ?_⟩); (try conv => whnf); (repeat ((first | with_reducible refine ifB_f ?_ | with_reducible refine ifB_t ?_ | with_reducible refine ifB_nt ?_ | with_reducible refine ifB_nf ?_); (repeat first | refine ⟨_, rfl, ?_⟩ | refine ⟨MulOk.r ⟨by omega, by omega⟩, ?_⟩ | refine ⟨MulOk.l ⟨by omega, by omega⟩, ?_⟩ | refine ⟨DivOk.of (by omega) (by omega), ?_⟩ | refine ⟨(by omega : (0 : Int) < _), ?_⟩ | refine ⟨True.intro, ?_⟩ | refine ⟨rfl, ?_⟩ | refine ⟨(by repeat' (first | exact True.intro | refine ⟨?_, ?_⟩) : ShN 60 _), ?_⟩ | refine ⟨(Nat.le_of_ble_eq_true rfl : (_ : Nat) ≤ big), ?_⟩ | refine ⟨(by repeat (first | exact True.intro | refine ⟨True.intro, ?_⟩) : NRL _), Nat.le_of_ble_eq_true rfl, ?_⟩ | refine ⟨(⟨by omega, by omega, by decide⟩ : (0 : Int) ≤ _ ∧ _ ≤ _ ∧ Int.natAbs _ < _), ?_⟩); (try conv => whnf))))
  refine ifB.of (fun h => absurd h (by decide)) (fun _ => ?_)
  ((repeat first | refine ⟨_, rfl, ?_⟩ | refine ⟨MulOk.r ⟨by omega, by omega⟩, ?_⟩ | refine ⟨MulOk.l ⟨by omega, by omega⟩, ?_⟩ | refine ⟨DivOk.of (by omega) (by omega), ?_⟩ | refine ⟨(by omega : (0 : Int) < _), ?_⟩ | refine ⟨True.intro, ?_⟩ | refine ⟨rfl, ?_⟩ | refine ⟨(by repeat' (first | exact True.intro | refine ⟨?_, ?_⟩) : ShN 60 _), ?_⟩ | refine ⟨(Nat.le_of_ble_eq_true rfl : (_ : Nat) ≤ big), ?_⟩ | refine ⟨(by repeat (first | exact True.intro | refine ⟨True.intro, ?_⟩) : NRL _), Nat.le_of_ble_eq_true rfl, ?_⟩ | refine ⟨(⟨by omega, by omega, by decide⟩ : (0 : Int) ≤ _ ∧ _ ≤ _ ∧ Int.natAbs _ < _), ?_⟩); (try conv => whnf); (repeat ((first | with_reducible refine ifB_f ?_ | with_reducible refine ifB_t ?_ | with_reducible refine ifB_nt ?_ | with_reducible refine ifB_nf ?_); (repeat first | refine ⟨_, rfl, ?_⟩ | refine ⟨MulOk.r ⟨by omega, by omega⟩, ?_⟩ | refine ⟨MulOk.l ⟨by omega, by omega⟩, ?_⟩ | refine ⟨DivOk.of (by omega) (by omega), ?_⟩ | refine ⟨(by omega : (0 : Int) < _), ?_⟩ | refine ⟨True.intro, ?_⟩ | refine ⟨rfl, ?_⟩ | refine ⟨(by repeat' (first | exact True.intro | refine ⟨?_, ?_⟩) : ShN 60 _), ?_⟩ | refine ⟨(Nat.le_of_ble_eq_true rfl : (_ : Nat) ≤ big), ?_⟩ | refine ⟨(by repeat (first | exact True.intro | refine ⟨True.intro, ?_⟩) : NRL _), Nat.le_of_ble_eq_true rfl, ?_⟩ | refine ⟨(⟨by omega, by omega, by decide⟩ : (0 : Int) ≤ _ ∧ _ ≤ _ ∧ Int.natAbs _ < _), ?_⟩); (try conv => whnf))))
  refine ⟨1000000000000, 0, 2, ?_, rfl, by omega, by omega, good_2, ?_⟩
  · have : (10 : Int) ^ Int.toNat 12 = ((1000000000000 : Nat) : Int) := by decide +kernel
    rw [this]
    rfl
  rw [ch_0]
  ((repeat first | refine ⟨_, rfl, ?_⟩ | refine ⟨MulOk.r ⟨by omega, by omega⟩, ?_⟩ | refine ⟨MulOk.l ⟨by omega, by omega⟩, ?_⟩ | refine ⟨DivOk.of (by omega) (by omega), ?_⟩ | refine ⟨(by omega : (0 : Int) < _), ?_⟩ | refine ⟨True.intro, ?_⟩ | refine ⟨rfl, ?_⟩ | refine ⟨(by repeat' (first | exact True.intro | refine ⟨?_, ?_⟩) : ShN 60 _), ?_⟩ | refine ⟨(Nat.le_of_ble_eq_true rfl : (_ : Nat) ≤ big), ?_⟩ | refine ⟨(by repeat (first | exact True.intro | refine ⟨True.intro, ?_⟩) : NRL _), Nat.le_of_ble_eq_true rfl, ?_⟩ | refine ⟨(⟨by omega, by omega, by decide⟩ : (0 : Int) ≤ _ ∧ _ ≤ _ ∧ Int.natAbs _ < _), ?_⟩); (try conv => whnf); (repeat ((first | with_reducible refine ifB_f ?_ | with_reducible refine ifB_t ?_ | with_reducible refine ifB_nt ?_ | with_reducible refine ifB_nf ?_); (repeat first | refine ⟨_, rfl, ?_⟩ | refine ⟨MulOk.r ⟨by omega, by omega⟩, ?_⟩ | refine ⟨MulOk.l ⟨by omega, by omega⟩, ?_⟩ | refine ⟨DivOk.of (by omega) (by omega), ?_⟩ | refine ⟨(by omega : (0 : Int) < _), ?_⟩ | refine ⟨True.intro, ?_⟩ | refine ⟨rfl, ?_⟩ | refine ⟨(by repeat' (first | exact True.intro | refine ⟨?_, ?_⟩) : ShN 60 _), ?_⟩ | refine ⟨(Nat.le_of_ble_eq_true rfl : (_ : Nat) ≤ big), ?_⟩ | refine ⟨(by repeat (first | exact True.intro | refine ⟨True.intro, ?_⟩) : NRL _), Nat.le_of_ble_eq_true rfl, ?_⟩ | refine ⟨(⟨by omega, by omega, by decide⟩ : (0 : Int) ≤ _ ∧ _ ≤ _ ∧ Int.natAbs _ < _), ?_⟩); (try conv => whnf))))
  refine ifB.of (fun h => absurd h (by decide)) (fun _ => ?_)
  ((repeat first | refine ⟨_, rfl, ?_⟩ | refine ⟨MulOk.r ⟨by omega, by omega⟩, ?_⟩ | refine ⟨MulOk.l ⟨by omega, by omega⟩, ?_⟩ | refine ⟨DivOk.of (by omega) (by omega), ?_⟩ | refine ⟨(by omega : (0 : Int) < _), ?_⟩ | refine ⟨True.intro, ?_⟩ | refine ⟨rfl, ?_⟩ | refine ⟨(by repeat' (first | exact True.intro | refine ⟨?_, ?_⟩) : ShN 60 _), ?_⟩ | refine ⟨(Nat.le_of_ble_eq_true rfl : (_ : Nat) ≤ big), ?_⟩ | refine ⟨(by repeat (first | exact True.intro | refine ⟨True.intro, ?_⟩) : NRL _), Nat.le_of_ble_eq_true rfl, ?_⟩ | refine ⟨(⟨by omega, by omega, by decide⟩ : (0 : Int) ≤ _ ∧ _ ≤ _ ∧ Int.natAbs _ < _), ?_⟩); (try conv => whnf); (repeat ((first | with_reducible refine ifB_f ?_ | with_reducible refine ifB_t ?_ | with_reducible refine ifB_nt ?_ | with_reducible refine ifB_nf ?_); (repeat first | refine ⟨_, rfl, ?_⟩ | refine ⟨MulOk.r ⟨by omega, by omega⟩, ?_⟩ | refine ⟨MulOk.l ⟨by omega, by omega⟩, ?_⟩ | refine ⟨DivOk.of (by omega) (by omega), ?_⟩ | refine ⟨(by omega : (0 : Int) < _), ?_⟩ | refine ⟨True.intro, ?_⟩ | refine ⟨rfl, ?_⟩ | refine ⟨(by repeat' (first | exact True.intro | refine ⟨?_, ?_⟩) : ShN 60 _), ?_⟩ | refine ⟨(Nat.le_of_ble_eq_true rfl : (_ : Nat) ≤ big), ?_⟩ | refine ⟨(by repeat (first | exact True.intro | refine ⟨True.intro, ?_⟩) : NRL _), Nat.le_of_ble_eq_true rfl, ?_⟩ | refine ⟨(⟨by omega, by omega, by decide⟩ : (0 : Int) ≤ _ ∧ _ ≤ _ ∧ Int.natAbs _ < _), ?_⟩); (try conv => whnf))))
  refine ⟨⟨by omega, by omega⟩, ?_⟩
  refine for_rng (fun i env st => ∃ (o : Ob) (t x y : Option D), env = [some (.rd (ns.map .int)), some (.ref 0), some (.lst (tri 60)), t, x, y] ∧ st = [some o] ∧ Hand o) ⟨o, _, none, none, rfl, rfl, ho⟩ ?_ ?_
  · rintro i hi e s ⟨o, t, x, y, rfl, rfl, ho⟩ N hN
    ((repeat first | refine ⟨_, rfl, ?_⟩ | refine ⟨MulOk.r ⟨by omega, by omega⟩, ?_⟩ | refine ⟨MulOk.l ⟨by omega, by omega⟩, ?_⟩ | refine ⟨DivOk.of (by omega) (by omega), ?_⟩ | refine ⟨(by omega : (0 : Int) < _), ?_⟩ | refine ⟨True.intro, ?_⟩ | refine ⟨rfl, ?_⟩ | refine ⟨(by repeat' (first | exact True.intro | refine ⟨?_, ?_⟩) : ShN 60 _), ?_⟩ | refine ⟨(Nat.le_of_ble_eq_true rfl : (_ : Nat) ≤ big), ?_⟩ | refine ⟨(by repeat (first | exact True.intro | refine ⟨True.intro, ?_⟩) : NRL _), Nat.le_of_ble_eq_true rfl, ?_⟩ | refine ⟨(⟨by omega, by omega, by decide⟩ : (0 : Int) ≤ _ ∧ _ ≤ _ ∧ Int.natAbs _ < _), ?_⟩); (try conv => whnf); (repeat ((first | with_reducible refine ifB_f ?_ | with_reducible refine ifB_t ?_ | with_reducible refine ifB_nt ?_ | with_reducible refine ifB_nf ?_); (repeat first | refine ⟨_, rfl, ?_⟩ | refine ⟨MulOk.r ⟨by omega, by omega⟩, ?_⟩ | refine ⟨MulOk.l ⟨by omega, by omega⟩, ?_⟩ | refine ⟨DivOk.of (by omega) (by omega), ?_⟩ | refine ⟨(by omega : (0 : Int) < _), ?_⟩ | refine ⟨True.intro, ?_⟩ | refine ⟨rfl, ?_⟩ | refine ⟨(by repeat' (first | exact True.intro | refine ⟨?_, ?_⟩) : ShN 60 _), ?_⟩ | refine ⟨(Nat.le_of_ble_eq_true rfl : (_ : Nat) ≤ big), ?_⟩ | refine ⟨(by repeat (first | exact True.intro | refine ⟨True.intro, ?_⟩) : NRL _), Nat.le_of_ble_eq_true rfl, ?_⟩ | refine ⟨(⟨by omega, by omega, by decide⟩ : (0 : Int) ≤ _ ∧ _ ≤ _ ∧ Int.natAbs _ < _), ?_⟩); (try conv => whnf))))
    refine ⟨_, _, o, rfl, .inl rfl, by decide, by decide, rfl, ho, fun d o hd ho => ?_⟩
    obtain ⟨p, rfl, hp⟩ : ∃ p : Nat, d = .int p ∧ Good p := by
      simp at hd
      rcases hd with rfl | rfl | rfl | rfl | rfl | rfl | rfl | rfl
      · exact ⟨2, rfl, good_2⟩
      · exact ⟨3, rfl, good_3⟩
      · exact ⟨5, rfl, good_5⟩
      · exact ⟨7, rfl, good_7⟩
      · exact ⟨13, rfl, good_13⟩
      · exact ⟨59, rfl, good_59⟩
      · exact ⟨101, rfl, good_101⟩
      · exact ⟨997, rfl, good_997⟩
    ((repeat first | refine ⟨_, rfl, ?_⟩ | refine ⟨MulOk.r ⟨by omega, by omega⟩, ?_⟩ | refine ⟨MulOk.l ⟨by omega, by omega⟩, ?_⟩ | refine ⟨DivOk.of (by omega) (by omega), ?_⟩ | refine ⟨(by omega : (0 : Int) < _), ?_⟩ | refine ⟨True.intro, ?_⟩ | refine ⟨rfl, ?_⟩ | refine ⟨(by repeat' (first | exact True.intro | refine ⟨?_, ?_⟩) : ShN 60 _), ?_⟩ | refine ⟨(Nat.le_of_ble_eq_true rfl : (_ : Nat) ≤ big), ?_⟩ | refine ⟨(by repeat (first | exact True.intro | refine ⟨True.intro, ?_⟩) : NRL _), Nat.le_of_ble_eq_true rfl, ?_⟩ | refine ⟨(⟨by omega, by omega, by decide⟩ : (0 : Int) ≤ _ ∧ _ ≤ _ ∧ Int.natAbs _ < _), ?_⟩); (try conv => whnf); (repeat ((first | with_reducible refine ifB_f ?_ | with_reducible refine ifB_t ?_ | with_reducible refine ifB_nt ?_ | with_reducible refine ifB_nf ?_); (repeat first | refine ⟨_, rfl, ?_⟩ | refine ⟨MulOk.r ⟨by omega, by omega⟩, ?_⟩ | refine ⟨MulOk.l ⟨by omega, by omega⟩, ?_⟩ | refine ⟨DivOk.of (by omega) (by omega), ?_⟩ | refine ⟨(by omega : (0 : Int) < _), ?_⟩ | refine ⟨True.intro, ?_⟩ | refine ⟨rfl, ?_⟩ | refine ⟨(by repeat' (first | exact True.intro | refine ⟨?_, ?_⟩) : ShN 60 _), ?_⟩ | refine ⟨(Nat.le_of_ble_eq_true rfl : (_ : Nat) ≤ big), ?_⟩ | refine ⟨(by repeat (first | exact True.intro | refine ⟨True.intro, ?_⟩) : NRL _), Nat.le_of_ble_eq_true rfl, ?_⟩ | refine ⟨(⟨by omega, by omega, by decide⟩ : (0 : Int) ≤ _ ∧ _ ≤ _ ∧ Int.natAbs _ < _), ?_⟩); (try conv => whnf))))
    refine ⟨p, o, rfl, rfl, ho, hp, fun o ho => ?_⟩
    ((repeat first | refine ⟨_, rfl, ?_⟩ | refine ⟨MulOk.r ⟨by omega, by omega⟩, ?_⟩ | refine ⟨MulOk.l ⟨by omega, by omega⟩, ?_⟩ | refine ⟨DivOk.of (by omega) (by omega), ?_⟩ | refine ⟨(by omega : (0 : Int) < _), ?_⟩ | refine ⟨True.intro, ?_⟩ | refine ⟨rfl, ?_⟩ | refine ⟨(by repeat' (first | exact True.intro | refine ⟨?_, ?_⟩) : ShN 60 _), ?_⟩ | refine ⟨(Nat.le_of_ble_eq_true rfl : (_ : Nat) ≤ big), ?_⟩ | refine ⟨(by repeat (first | exact True.intro | refine ⟨True.intro, ?_⟩) : NRL _), Nat.le_of_ble_eq_true rfl, ?_⟩ | refine ⟨(⟨by omega, by omega, by decide⟩ : (0 : Int) ≤ _ ∧ _ ≤ _ ∧ Int.natAbs _ < _), ?_⟩); (try conv => whnf); (repeat ((first | with_reducible refine ifB_f ?_ | with_reducible refine ifB_t ?_ | with_reducible refine ifB_nt ?_ | with_reducible refine ifB_nf ?_); (repeat first | refine ⟨_, rfl, ?_⟩ | refine ⟨MulOk.r ⟨by omega, by omega⟩, ?_⟩ | refine ⟨MulOk.l ⟨by omega, by omega⟩, ?_⟩ | refine ⟨DivOk.of (by omega) (by omega), ?_⟩ | refine ⟨(by omega : (0 : Int) < _), ?_⟩ | refine ⟨True.intro, ?_⟩ | refine ⟨rfl, ?_⟩ | refine ⟨(by repeat' (first | exact True.intro | refine ⟨?_, ?_⟩) : ShN 60 _), ?_⟩ | refine ⟨(Nat.le_of_ble_eq_true rfl : (_ : Nat) ≤ big), ?_⟩ | refine ⟨(by repeat (first | exact True.intro | refine ⟨True.intro, ?_⟩) : NRL _), Nat.le_of_ble_eq_true rfl, ?_⟩ | refine ⟨(⟨by omega, by omega, by decide⟩ : (0 : Int) ≤ _ ∧ _ ≤ _ ∧ Int.natAbs _ < _), ?_⟩); (try conv => whnf))))
    refine ⟨p, o, rfl, rfl, ho, hp, fun o ho => ?_⟩
    ((repeat first | refine ⟨_, rfl, ?_⟩ | refine ⟨MulOk.r ⟨by omega, by omega⟩, ?_⟩ | refine ⟨MulOk.l ⟨by omega, by omega⟩, ?_⟩ | refine ⟨DivOk.of (by omega) (by omega), ?_⟩ | refine ⟨(by omega : (0 : Int) < _), ?_⟩ | refine ⟨True.intro, ?_⟩ | refine ⟨rfl, ?_⟩ | refine ⟨(by repeat' (first | exact True.intro | refine ⟨?_, ?_⟩) : ShN 60 _), ?_⟩ | refine ⟨(Nat.le_of_ble_eq_true rfl : (_ : Nat) ≤ big), ?_⟩ | refine ⟨(by repeat (first | exact True.intro | refine ⟨True.intro, ?_⟩) : NRL _), Nat.le_of_ble_eq_true rfl, ?_⟩ | refine ⟨(⟨by omega, by omega, by decide⟩ : (0 : Int) ≤ _ ∧ _ ≤ _ ∧ Int.natAbs _ < _), ?_⟩); (try conv => whnf); (repeat ((first | with_reducible refine ifB_f ?_ | with_reducible refine ifB_t ?_ | with_reducible refine ifB_nt ?_ | with_reducible refine ifB_nf ?_); (repeat first | refine ⟨_, rfl, ?_⟩ | refine ⟨MulOk.r ⟨by omega, by omega⟩, ?_⟩ | refine ⟨MulOk.l ⟨by omega, by omega⟩, ?_⟩ | refine ⟨DivOk.of (by omega) (by omega), ?_⟩ | refine ⟨(by omega : (0 : Int) < _), ?_⟩ | refine ⟨True.intro, ?_⟩ | refine ⟨rfl, ?_⟩ | refine ⟨(by repeat' (first | exact True.intro | refine ⟨?_, ?_⟩) : ShN 60 _), ?_⟩ | refine ⟨(Nat.le_of_ble_eq_true rfl : (_ : Nat) ≤ big), ?_⟩ | refine ⟨(by repeat (first | exact True.intro | refine ⟨True.intro, ?_⟩) : NRL _), Nat.le_of_ble_eq_true rfl, ?_⟩ | refine ⟨(⟨by omega, by omega, by decide⟩ : (0 : Int) ≤ _ ∧ _ ≤ _ ∧ Int.natAbs _ < _), ?_⟩); (try conv => whnf))))
    exact hN _ _ ⟨o, t, _, _, rfl, rfl, ho⟩
  · rintro e s ⟨o, t, x, y, rfl, rfl, ho⟩
    ((repeat first | refine ⟨_, rfl, ?_⟩ | refine ⟨MulOk.r ⟨by omega, by omega⟩, ?_⟩ | refine ⟨MulOk.l ⟨by omega, by omega⟩, ?_⟩ | refine ⟨DivOk.of (by omega) (by omega), ?_⟩ | refine ⟨(by omega : (0 : Int) < _), ?_⟩ | refine ⟨True.intro, ?_⟩ | refine ⟨rfl, ?_⟩ | refine ⟨(by repeat' (first | exact True.intro | refine ⟨?_, ?_⟩) : ShN 60 _), ?_⟩ | refine ⟨(Nat.le_of_ble_eq_true rfl : (_ : Nat) ≤ big), ?_⟩ | refine ⟨(by repeat (first | exact True.intro | refine ⟨True.intro, ?_⟩) : NRL _), Nat.le_of_ble_eq_true rfl, ?_⟩ | refine ⟨(⟨by omega, by omega, by decide⟩ : (0 : Int) ≤ _ ∧ _ ≤ _ ∧ Int.natAbs _ < _), ?_⟩); (try conv => whnf); (repeat ((first | with_reducible refine ifB_f ?_ | with_reducible refine ifB_t ?_ | with_reducible refine ifB_nt ?_ | with_reducible refine ifB_nf ?_); (repeat first | refine ⟨_, rfl, ?_⟩ | refine ⟨MulOk.r ⟨by omega, by omega⟩, ?_⟩ | refine ⟨MulOk.l ⟨by omega, by omega⟩, ?_⟩ | refine ⟨DivOk.of (by omega) (by omega), ?_⟩ | refine ⟨(by omega : (0 : Int) < _), ?_⟩ | refine ⟨True.intro, ?_⟩ | refine ⟨rfl, ?_⟩ | refine ⟨(by repeat' (first | exact True.intro | refine ⟨?_, ?_⟩) : ShN 60 _), ?_⟩ | refine ⟨(Nat.le_of_ble_eq_true rfl : (_ : Nat) ≤ big), ?_⟩ | refine ⟨(by repeat (first | exact True.intro | refine ⟨True.intro, ?_⟩) : NRL _), Nat.le_of_ble_eq_true rfl, ?_⟩ | refine ⟨(⟨by omega, by omega, by decide⟩ : (0 : Int) ≤ _ ∧ _ ≤ _ ∧ Int.natAbs _ < _), ?_⟩); (try conv => whnf))))
    exact .inl ⟨True.intro, hQ⟩

theorem sc_is_integer : FnScope ["thing"] ["thing"] (defScope s_is_integer) := ⟨rfl, rfl, rfl, by decide +kernel, rfl, by decide +kernel, by decide +kernel⟩
theorem dv_is_integer {P : Program} {w : World} {K : Frag} {mg : Str → Option Value} {base : Heap} (T : Fx K mg) : ∀ (f : Addr) (cdv : Value) (A : Around) (outer : List PySem.Env) (s : Shared) (H : Hp) (E : XK), Room 0 (A.deeper (envOfC "is_integer" (defScope s_is_integer) s.heap.objs.size f cdv)) →
    SXs (cxOf CX0 P w K mg base ["thing"] "is_integer" (defScope s_is_integer) f cdv A outer s H E).nox (defBody s_is_integer) w_is_integer := fun f cdv A outer s H E hr =>
  (sone (sret (xand (xisi_int T.n_isinstance T.n_int (xv 0)) (xone (xnot (xisi_bool T.n_isinstance T.n_bool (xv 0)))))))
theorem sc_is_within : FnScope ["thing", "least", "most"] ["thing", "least", "most"] (defScope s_is_within) := ⟨rfl, rfl, rfl, by decide +kernel, rfl, by decide +kernel, by decide +kernel⟩
theorem dv_is_within {P : Program} {w : World} {K : Frag} {mg : Str → Option Value} {base : Heap} (T : Fx K mg) (k_is_integer : Kn P w K mg base "is_integer" 1 1 p_is_integer) : ∀ (f : Addr) (cdv : Value) (A : Around) (outer : List PySem.Env) (s : Shared) (H : Hp) (E : XK), Room 1 (A.deeper (envOfC "is_within" (defScope s_is_within) s.heap.objs.size f cdv)) →
    SXs (cxOf CX0 P w K mg base ["thing", "least", "most"] "is_within" (defScope s_is_within) f cdv A outer s H E).nox (defBody s_is_within) w_is_within := fun f cdv A outer s H E hr =>
  (sone (sret (xand (xcall k_is_integer (hr.mono (by decide)) (acons (xv 0) anil)) (xone (xchain o_le o_le (xv 1) (xv 0) (xv 2))))))
theorem sc_least_divisor : FnScope ["number", "one"] ["number"] (defScope s_least_divisor) := ⟨rfl, rfl, rfl, by decide +kernel, rfl, by decide +kernel, by decide +kernel⟩
theorem dv_least_divisor {P : Program} {w : World} {K : Frag} {mg : Str → Option Value} {base : Heap} (T : Fx K mg) : ∀ (f : Addr) (cdv : Value) (A : Around) (outer : List PySem.Env) (s : Shared) (H : Hp) (E : XK), Room 0 (A.deeper (envOfC "least_divisor" (defScope s_least_divisor) s.heap.objs.size f cdv)) →
    SXs (cxOf CX0 P w K mg base ["number", "one"] "least_divisor" (defScope s_least_divisor) f cdv A outer s H E).nox (defBody s_least_divisor) w_least_divisor := fun f cdv A outer s H E hr =>
  (scons (sif (tcmp (o_eq hr) (xop o_mod (xv 0) xint) xint) (sone (sret xint)) snil) (scons (sset (i := 1) sc_least_divisor.nd rfl (.inl rfl) xint) (scons (swhile PassesOwn.never (tcmp o_le (xop o_mul (xv 1) (xv 1)) (xv 0)) (scons (sif (tcmp (o_eq hr) (xop o_mod (xv 0) (xv 1)) xint) (sone (sret (xv 1))) snil) (sone (saug (i := 1) sc_least_divisor.nd rfl (.inl rfl) o_iadd xint)))) (sone (sret (xv 0))))))
theorem sc_check_prime : FnScope ["prime"] ["prime"] (defScope s_check_prime) := ⟨rfl, rfl, rfl, by decide +kernel, rfl, by decide +kernel, by decide +kernel⟩
theorem dv_check_prime {P : Program} {w : World} {K : Frag} {mg : Str → Option Value} {base : Heap} (T : Fx K mg) (k_is_within : Kn P w K mg base "is_within" 2 3 p_is_within) (k_least_divisor : Kn P w K mg base "least_divisor" 1 1 p_least_divisor) : ∀ (f : Addr) (cdv : Value) (A : Around) (outer : List PySem.Env) (s : Shared) (H : Hp) (E : XK), Room 2 (A.deeper (envOfC "check_prime" (defScope s_check_prime) s.heap.objs.size f cdv)) →
    SXs (cxOf CX0 P w K mg base ["prime"] "check_prime" (defScope s_check_prime) f cdv A outer s H E).nox (defBody s_check_prime) w_check_prime := fun f cdv A outer s H E hr =>
  (sone (sif (tor (tnot (tval (xcall k_is_within (hr.mono (by decide)) (acons (xv 0) (acons xint (acons xint anil)))))) (tor1 (tcmp (o_ne hr) (xcall k_least_divisor (hr.mono (by decide)) (acons (xv 0) anil)) (xv 0)))).tx (sone snever) snil))
theorem sc_check_pair : FnScope ["many", "size"] ["many", "size"] (defScope s_check_pair) := ⟨rfl, rfl, rfl, by decide +kernel, rfl, by decide +kernel, by decide +kernel⟩
theorem dv_check_pair {P : Program} {w : World} {K : Frag} {mg : Str → Option Value} {base : Heap} (T : Fx K mg) (k_is_within : Kn P w K mg base "is_within" 2 3 p_is_within) : ∀ (f : Addr) (cdv : Value) (A : Around) (outer : List PySem.Env) (s : Shared) (H : Hp) (E : XK), Room 2 (A.deeper (envOfC "check_pair" (defScope s_check_pair) s.heap.objs.size f cdv)) →
    SXs (cxOf CX0 P w K mg base ["many", "size"] "check_pair" (defScope s_check_pair) f cdv A outer s H E).nox (defBody s_check_pair) w_check_pair := fun f cdv A outer s H E hr =>
  (sone (sif (tor (tnot (tval (xcall k_is_within (hr.mono (by decide)) (acons (xv 0) (acons xint (acons (xglob T.c_MOST.choose_spec) anil)))))) (tor1 (tnot (tval (xcall k_is_within (hr.mono (by decide)) (acons (xv 1) (acons xint (acons (xglob T.c_MOST.choose_spec) anil)))))))).tx (sone snever) snil))
theorem sc_groups : FnScope ["many", "size", "found", "one"] ["many", "size"] (defScope s_groups) := ⟨rfl, rfl, rfl, by decide +kernel, rfl, by decide +kernel, by decide +kernel⟩
theorem dv_groups {P : Program} {w : World} {K : Frag} {mg : Str → Option Value} {base : Heap} (T : Fx K mg) : ∀ (f : Addr) (cdv : Value) (A : Around) (outer : List PySem.Env) (s : Shared) (H : Hp) (E : XK), Room 0 (A.deeper (envOfC "groups" (defScope s_groups) s.heap.objs.size f cdv)) →
    SXs (cxOf CX0 P w K mg base ["many", "size", "found", "one"] "groups" (defScope s_groups) f cdv A outer s H E).nox (defBody s_groups) w_groups := fun f cdv A outer s H E hr =>
  (scons (sif (tcmp o_gt (xv 1) (xv 0)) (sone (sret xint)) snil) (scons (sset (i := 2) sc_groups.nd rfl (.inl rfl) xint) (scons (sfor PassesOwn.never rfl (ix_range2 T.n_range (acons xint (acons (xop o_add (xcallB (c_min2 rfl) T.n_min (by decide +kernel) (acons (xv 1) (acons (xop o_sub (xv 0) (xv 1)) anil))) xint) anil))) (gname sc_groups.nd rfl (.inl rfl)) (sone (sset (i := 2) sc_groups.nd rfl (.inl rfl) (xop o_div (xop o_mul (xv 2) (xop o_add (xop o_sub (xv 0) (xv 3)) xint)) (xv 3))))) (sone (sret (xv 2))))))
theorem sc_many_groups : FnScope ["many", "size"] ["many", "size"] (defScope s_many_groups) := ⟨rfl, rfl, rfl, by decide +kernel, rfl, by decide +kernel, by decide +kernel⟩
theorem dv_many_groups {P : Program} {w : World} {K : Frag} {mg : Str → Option Value} {base : Heap} (T : Fx K mg) (k_groups : Kn P w K mg base "groups" 1 2 p_groups) (k_is_within : Kn P w K mg base "is_within" 2 3 p_is_within) : ∀ (f : Addr) (cdv : Value) (A : Around) (outer : List PySem.Env) (s : Shared) (H : Hp) (E : XK), Room 2 (A.deeper (envOfC "many_groups" (defScope s_many_groups) s.heap.objs.size f cdv)) →
    SXs (cxOf CX0 P w K mg base ["many", "size"] "many_groups" (defScope s_many_groups) f cdv A outer s H E).nox (defBody s_many_groups) w_many_groups := fun f cdv A outer s H E hr =>
  (scons (sif (tor (tnot (tval (xcall k_is_within (hr.mono (by decide)) (acons (xv 0) (acons xint (acons xint anil)))))) (tor1 (tnot (tval (xcall k_is_within (hr.mono (by decide)) (acons (xv 1) (acons xint (acons xint anil)))))))).tx (sone snever) snil) (sone (sret (xcall k_groups (hr.mono (by decide)) (acons (xv 0) (acons (xv 1) anil))))))
theorem sc_left_groups : FnScope ["many", "size", "prime", "found"] ["many", "size", "prime"] (defScope s_left_groups) := ⟨rfl, rfl, rfl, by decide +kernel, rfl, by decide +kernel, by decide +kernel⟩
theorem dv_left_groups {P : Program} {w : World} {K : Frag} {mg : Str → Option Value} {base : Heap} (T : Fx K mg) (k_check_pair : Kn P w K mg base "check_pair" 3 2 p_check_pair) (k_check_prime : Kn P w K mg base "check_prime" 3 1 p_check_prime) (k_groups : Kn P w K mg base "groups" 1 2 p_groups) : ∀ (f : Addr) (cdv : Value) (A : Around) (outer : List PySem.Env) (s : Shared) (H : Hp) (E : XK), Room 3 (A.deeper (envOfC "left_groups" (defScope s_left_groups) s.heap.objs.size f cdv)) →
    SXs (cxOf CX0 P w K mg base ["many", "size", "prime", "found"] "left_groups" (defScope s_left_groups) f cdv A outer s H E).nox (defBody s_left_groups) w_left_groups := fun f cdv A outer s H E hr =>
  (scons (sexpr (xcall k_check_pair (hr.mono (by decide)) (acons (xv 0) (acons (xv 1) anil)))) (scons (sexpr (xcall k_check_prime (hr.mono (by decide)) (acons (xv 2) anil))) (scons (sset (i := 3) sc_left_groups.nd rfl (.inl rfl) xint) (scons (swhile PassesOwn.never (tor (tcmp o_gt (xv 0) xint) (tor1 (tcmp o_gt (xv 1) xint))).tx (scons (sset (i := 3) sc_left_groups.nd rfl (.inl rfl) (xop o_mod (xop o_mul (xv 3) (xcall k_groups (hr.mono (by decide)) (acons (xop o_mod (xv 0) (xv 2)) (acons (xop o_mod (xv 1) (xv 2)) anil)))) (xv 2))) (sone (spar (i := 0) (j := 1) rfl sc_left_groups.nd rfl rfl (by decide) rfl rfl (acons (xop o_div (xv 0) (xv 2)) (acons (xop o_div (xv 1) (xv 2)) anil)))))) (sone (sret (xv 3)))))))
theorem sc_often_in_product : FnScope ["number", "prime", "found"] ["number", "prime"] (defScope s_often_in_product) := ⟨rfl, rfl, rfl, by decide +kernel, rfl, by decide +kernel, by decide +kernel⟩
theorem dv_often_in_product {P : Program} {w : World} {K : Frag} {mg : Str → Option Value} {base : Heap} (T : Fx K mg) (k_check_pair : Kn P w K mg base "check_pair" 3 2 p_check_pair) (k_check_prime : Kn P w K mg base "check_prime" 3 1 p_check_prime) : ∀ (f : Addr) (cdv : Value) (A : Around) (outer : List PySem.Env) (s : Shared) (H : Hp) (E : XK), Room 3 (A.deeper (envOfC "often_in_product" (defScope s_often_in_product) s.heap.objs.size f cdv)) →
    SXs (cxOf CX0 P w K mg base ["number", "prime", "found"] "often_in_product" (defScope s_often_in_product) f cdv A outer s H E).nox (defBody s_often_in_product) w_often_in_product := fun f cdv A outer s H E hr =>
  (scons (sexpr (xcall k_check_pair (hr.mono (by decide)) (acons (xv 0) (acons xint anil)))) (scons (sexpr (xcall k_check_prime (hr.mono (by decide)) (acons (xv 1) anil))) (scons (sset (i := 2) sc_often_in_product.nd rfl (.inl rfl) xint) (scons (swhile PassesOwn.never (tcmp o_gt (xv 0) xint) (scons (sset (i := 0) sc_often_in_product.nd rfl (.inl rfl) (xop o_div (xv 0) (xv 1))) (sone (saug (i := 2) sc_often_in_product.nd rfl (.inl rfl) o_iadd (xv 0))))) (sone (sret (xv 2)))))))
theorem sc_often_in_groups : FnScope ["many", "size", "prime", "top"] ["many", "size", "prime"] (defScope s_often_in_groups) := ⟨rfl, rfl, rfl, by decide +kernel, rfl, by decide +kernel, by decide +kernel⟩
theorem dv_often_in_groups {P : Program} {w : World} {K : Frag} {mg : Str → Option Value} {base : Heap} (T : Fx K mg) (k_check_pair : Kn P w K mg base "check_pair" 3 2 p_check_pair) (k_check_prime : Kn P w K mg base "check_prime" 3 1 p_check_prime) (k_often_in_product : Kn P w K mg base "often_in_product" 4 2 p_often_in_product) : ∀ (f : Addr) (cdv : Value) (A : Around) (outer : List PySem.Env) (s : Shared) (H : Hp) (E : XK), Room 4 (A.deeper (envOfC "often_in_groups" (defScope s_often_in_groups) s.heap.objs.size f cdv)) →
    SXs (cxOf CX0 P w K mg base ["many", "size", "prime", "top"] "often_in_groups" (defScope s_often_in_groups) f cdv A outer s H E).nox (defBody s_often_in_groups) w_often_in_groups := fun f cdv A outer s H E hr =>
  (scons (sexpr (xcall k_check_pair (hr.mono (by decide)) (acons (xv 0) (acons (xv 1) anil)))) (scons (sexpr (xcall k_check_prime (hr.mono (by decide)) (acons (xv 2) anil))) (scons (sif (tcmp o_gt (xv 1) (xv 0)) (sone (sret xnon)) snil) (scons (sset (i := 3) sc_often_in_groups.nd rfl (.inl rfl) (xcall k_often_in_product (hr.mono (by decide)) (acons (xv 0) (acons (xv 2) anil)))) (sone (sret (xop o_sub (xop o_sub (xv 3) (xcall k_often_in_product (hr.mono (by decide)) (acons (xv 1) (acons (xv 2) anil)))) (xcall k_often_in_product (hr.mono (by decide)) (acons (xop o_sub (xv 0) (xv 1)) (acons (xv 2) anil))))))))))
theorem sc_product_left : FnScope ["number", "prime", "table", "one", "found", "often", "here"] ["number", "prime"] (defScope s_product_left) := ⟨rfl, rfl, rfl, by decide +kernel, rfl, by decide +kernel, by decide +kernel⟩
theorem dv_product_left {P : Program} {w : World} {K : Frag} {mg : Str → Option Value} {base : Heap} (T : Fx K mg) (k_check_pair : Kn P w K mg base "check_pair" 3 2 p_check_pair) (k_check_prime : Kn P w K mg base "check_prime" 3 1 p_check_prime) : ∀ (f : Addr) (cdv : Value) (A : Around) (outer : List PySem.Env) (s : Shared) (H : Hp) (E : XK), Room 3 (A.deeper (envOfC "product_left" (defScope s_product_left) s.heap.objs.size f cdv)) →
    SXs (cxOf CX0 P w K mg base ["number", "prime", "table", "one", "found", "often", "here"] "product_left" (defScope s_product_left) f cdv A outer s H E).nox (defBody s_product_left) w_product_left := fun f cdv A outer s H E hr =>
  (scons (sexpr (xcall k_check_pair (hr.mono (by decide)) (acons (xv 0) (acons xint anil)))) (scons (sexpr (xcall k_check_prime (hr.mono (by decide)) (acons (xv 1) anil))) (scons (sset (i := 2) sc_product_left.nd rfl (.inl rfl) (xlstR (acons xint anil))) (scons (sfor PassesOwn.never rfl (ix_range2 T.n_range (acons xint (acons (xv 1) anil))) (gname sc_product_left.nd rfl (.inl rfl)) (sone (sexpr (xbm PySem.F.slot_list_append PySem.F.type_list_append m_append (xv 2) (acons (xop o_mod (xop o_mul (xix (xv 2) (xun u_neg xint)) (xv 3)) (xv 1)) anil))))) (scons (spar3 (i := 4) (j := 5) (l := 6) rfl sc_product_left.nd rfl rfl rfl (by decide) (by decide) (by decide) rfl rfl rfl (acons xint (acons xint (acons (xv 0) anil)))) (scons (swhile PassesOwn.never (tcmp o_gt (xv 6) xint) (scons (sset (i := 4) sc_product_left.nd rfl (.inl rfl) (xop o_mod (xop o_mul (xv 4) (xix (xv 2) (xop o_mod (xv 6) (xv 1)))) (xv 1))) (scons (sif (tcmp (o_eq hr) (xop o_mod (xop o_div (xv 6) (xv 1)) xint) xint) (sone (sset (i := 4) sc_product_left.nd rfl (.inl rfl) (xop o_mod (xop o_mul (xv 4) (xop o_sub (xv 1) xint)) (xv 1)))) snil) (scons (sset (i := 6) sc_product_left.nd rfl (.inl rfl) (xop o_div (xv 6) (xv 1))) (sone (saug (i := 5) sc_product_left.nd rfl (.inl rfl) o_iadd (xv 6))))))) (sone (sret (xtup (acons (xv 5) (acons (xop o_mod (xv 4) (xv 1)) anil)))))))))))
theorem sc_row_kind : FnScope ["many", "prime", "found"] ["many", "prime"] (defScope s_row_kind) := ⟨rfl, rfl, rfl, by decide +kernel, rfl, by decide +kernel, by decide +kernel⟩
theorem dv_row_kind {P : Program} {w : World} {K : Frag} {mg : Str → Option Value} {base : Heap} (T : Fx K mg) (k_check_pair : Kn P w K mg base "check_pair" 3 2 p_check_pair) (k_check_prime : Kn P w K mg base "check_prime" 3 1 p_check_prime) : ∀ (f : Addr) (cdv : Value) (A : Around) (outer : List PySem.Env) (s : Shared) (H : Hp) (E : XK), Room 3 (A.deeper (envOfC "row_kind" (defScope s_row_kind) s.heap.objs.size f cdv)) →
    SXs (cxOf CX0 P w K mg base ["many", "prime", "found"] "row_kind" (defScope s_row_kind) f cdv A outer s H E).nox (defBody s_row_kind) w_row_kind := fun f cdv A outer s H E hr =>
  (scons (sexpr (xcall k_check_pair (hr.mono (by decide)) (acons (xv 0) (acons xint anil)))) (scons (sexpr (xcall k_check_prime (hr.mono (by decide)) (acons (xv 1) anil))) (scons (sset (i := 2) sc_row_kind.nd rfl (.inl rfl) xint) (scons (swhile PassesOwn.never (tcmp o_gt (xv 0) xint) (sone (spar (i := 2) (j := 0) rfl sc_row_kind.nd rfl rfl (by decide) rfl rfl (acons (xop o_mul (xv 2) (xop o_add (xop o_mod (xv 0) (xv 1)) xint)) (acons (xop o_div (xv 0) (xv 1)) anil))))) (sone (sret (xv 2)))))))
theorem sc__law_hand : FnScope ["script", "cells", "cell"] ["script"] (defScope s__law_hand) := ⟨rfl, rfl, rfl, by decide +kernel, rfl, by decide +kernel, by decide +kernel⟩
theorem dv__law_hand {P : Program} {w : World} {K : Frag} {mg : Str → Option Value} {base : Heap} (T : Fx K mg) : ∀ (f : Addr) (cdv : Value) (A : Around) (outer : List PySem.Env) (s : Shared) (H : Hp) (E : XK), Room 0 (A.deeper (envOfC "_law_hand" (defScope s__law_hand) s.heap.objs.size f cdv)) →
    SXs (cxOf CX0 P w K mg base ["script", "cells", "cell"] "_law_hand" (defScope s__law_hand) f cdv A outer s H E).nox (defBody s__law_hand) w__law_hand := fun f cdv A outer s H E hr =>
  (scons (ssetLc (own := [("cell", 2)]) (i := 1) rfl sc__law_hand.nd rfl rfl (sw_true rfl rfl rfl (by decide +kernel)) (ix_seq' (xsl (xv 0) onone (osome xint))) (blkOk_by rfl) (fun _ _ _ _ _ => (gcn sc__law_hand.nd rfl (.inl rfl))) (fun _ _ _ _ _ => tyes) (fun _ _ _ _ _ => (xcallB c_abs T.n_abs (by decide +kernel) (acons (xcallT c_int T.n_int (by decide +kernel) (acons (xv 2) anil)) anil)))) (sone (sret (xlstR (acons (xv 1) (acons xint (acons xint (acons (xop o_add xint (xop o_mul xint (xcallB c_len T.n_len (by decide +kernel) (acons (xv 1) anil)))) (acons xint anil)))))))))
theorem sc__law_draw : FnScope ["hand", "many", "number", "cell", "digit"] ["hand", "many"] (defScope s__law_draw) := ⟨rfl, rfl, rfl, by decide +kernel, rfl, by decide +kernel, by decide +kernel⟩
theorem dv__law_draw {P : Program} {w : World} {K : Frag} {mg : Str → Option Value} {base : Heap} (T : Fx K mg) : ∀ (f : Addr) (cdv : Value) (A : Around) (outer : List PySem.Env) (s : Shared) (H : Hp) (E : XK), Room 0 (A.deeper (envOfC "_law_draw" (defScope s__law_draw) s.heap.objs.size f cdv)) →
    SXs (cxOf CX0 P w K mg base ["hand", "many", "number", "cell", "digit"] "_law_draw" (defScope s__law_draw) f cdv A outer s H E).nox (defBody s__law_draw) w__law_draw := fun f cdv A outer s H E hr =>
  (scons (sif (tand (tcmp (o_eq hr) (xix (xv 0) xint) xint) (tand1 (tcmp o_lt (xix (xv 0) xint) (xcallB c_len T.n_len (by decide +kernel) (acons (xix (xv 0) xint) anil))))).tx (scons (sset (i := 3) sc__law_draw.nd rfl (.inl rfl) (xix (xix (xv 0) xint) (xix (xv 0) xint))) (scons (sasg (xop o_add (xix (xv 0) xint) xint) (gsub (xv 0) xint)) (scons (sasg (xop o_mod (xcallT c_int T.n_int (by decide +kernel) (acons (xop o_add (xop o_add (xop o_mul (xix (xv 0) xint) xint) (xop o_mul (xv 3) xint)) xint) anil)) xint) (gsub (xv 0) xint)) (sone (sif (tcmp o_ge (xv 3) (xop o_pow xint xint)) (sone (sasg (xv 3) (gsub (xv 0) xint))) snil))))) snil) (scons (sif (tcmp o_gt (xix (xv 0) xint) xint) (scons (sset (i := 4) sc__law_draw.nd rfl (.inl rfl) (xop o_mod (xcallT c_int T.n_int (by decide +kernel) (acons (xix (xv 0) xint) anil)) (xv 1))) (scons (sasg (xop o_div (xix (xv 0) xint) (xv 1)) (gsub (xv 0) xint)) (sone (sret (xv 4))))) snil) (scons (sasg (xop o_add (xix (xv 0) xint) xint) (gsub (xv 0) xint)) (scons (sset (i := 2) sc__law_draw.nd rfl (.inl rfl) (xop o_mod (xcallT c_int T.n_int (by decide +kernel) (acons (xop o_mul (xcallT c_int T.n_int (by decide +kernel) (acons (xop o_add (xix (xv 0) xint) (xop o_mul xint (xix (xv 0) xint))) anil)) xint) anil)) xint)) (scons (sset (i := 2) sc__law_draw.nd rfl (.inl rfl) (xop o_mod (xcallT c_int T.n_int (by decide +kernel) (acons (xop o_mul (xv 2) (xop o_add (xop o_div (xv 2) xint) xint)) anil)) xint)) (scons (sset (i := 2) sc__law_draw.nd rfl (.inl rfl) (xop o_mod (xcallT c_int T.n_int (by decide +kernel) (acons (xop o_mul (xv 2) (xop o_add (xop o_div (xv 2) xint) xint)) anil)) xint)) (sone (sret (xop o_mod (xcallT c_int T.n_int (by decide +kernel) (acons (xop o_div (xv 2) xint) anil)) (xv 1))))))))))
theorem sc__law_any : FnScope ["hand", "some"] ["hand", "some"] (defScope s__law_any) := ⟨rfl, rfl, rfl, by decide +kernel, rfl, by decide +kernel, by decide +kernel⟩
theorem dv__law_any {P : Program} {w : World} {K : Frag} {mg : Str → Option Value} {base : Heap} (T : Fx K mg) (k__law_draw : Kn P w K mg base "_law_draw" 1 2 p__law_draw) : ∀ (f : Addr) (cdv : Value) (A : Around) (outer : List PySem.Env) (s : Shared) (H : Hp) (E : XK), Room 1 (A.deeper (envOfC "_law_any" (defScope s__law_any) s.heap.objs.size f cdv)) →
    SXs (cxOf CX0 P w K mg base ["hand", "some"] "_law_any" (defScope s__law_any) f cdv A outer s H E).nox (defBody s__law_any) w__law_any := fun f cdv A outer s H E hr =>
  (sone (sret (xix (xv 1) (xcall k__law_draw (hr.mono (by decide)) (acons (xv 0) (acons (xcallB c_len T.n_len (by decide +kernel) (acons (xv 1) anil)) anil))))))
theorem sc__law_triangle : FnScope ["many", "found", "turn", "last", "at"] ["many"] (defScope s__law_triangle) := ⟨rfl, rfl, rfl, by decide +kernel, rfl, by decide +kernel, by decide +kernel⟩
theorem dv__law_triangle {P : Program} {w : World} {K : Frag} {mg : Str → Option Value} {base : Heap} (T : Fx K mg) : ∀ (f : Addr) (cdv : Value) (A : Around) (outer : List PySem.Env) (s : Shared) (H : Hp) (E : XK), Room 0 (A.deeper (envOfC "_law_triangle" (defScope s__law_triangle) s.heap.objs.size f cdv)) →
    SXs (cxOf CX0 P w K mg base ["many", "found", "turn", "last", "at"] "_law_triangle" (defScope s__law_triangle) f cdv A outer s H E).nox (defBody s__law_triangle) w__law_triangle := fun f cdv A outer s H E hr =>
  (scons (sset (i := 1) sc__law_triangle.nd rfl (.inl rfl) (xlstR (acons (xlst (acons xint anil)) anil))) (scons (sfor PassesOwn.never rfl (ix_range1 T.n_range (acons (xv 0) anil)) (gname sc__law_triangle.nd rfl (.inl rfl)) (scons (sset (i := 3) sc__law_triangle.nd rfl (.inr rfl) (xix (xv 1) (xun u_neg xint))) (sone (sexpr (xbm PySem.F.slot_list_append PySem.F.type_list_append m_append (xv 1) (acons (xop o_add (xop o_add (xlst (acons xint anil)) (xlc (own := [("at", 4)]) rfl sc__law_triangle.nd (ix_range1 T.n_range (acons (xop o_sub (xcallB c_len T.n_len (by decide +kernel) (acons (xv 3) anil)) xint) anil)) (blkOk_by rfl) (fun _ _ _ _ _ => (gcn sc__law_triangle.nd rfl (.inl rfl))) (fun _ _ _ _ _ => tyes) (fun _ _ _ _ _ => (xop o_add (xix (xv 3) (xv 4)) (xix (xv 3) (xop o_add (xv 4) xint)))))) (xlst (acons xint anil))) anil)))))) (sone (sfrz 1 (sret (xv 1))))))
theorem sc__law_figures : FnScope ["number", "prime", "found"] ["number", "prime"] (defScope s__law_figures) := ⟨rfl, rfl, rfl, by decide +kernel, rfl, by decide +kernel, by decide +kernel⟩
theorem dv__law_figures {P : Program} {w : World} {K : Frag} {mg : Str → Option Value} {base : Heap} (T : Fx K mg) : ∀ (f : Addr) (cdv : Value) (A : Around) (outer : List PySem.Env) (s : Shared) (H : Hp) (E : XK), Room 0 (A.deeper (envOfC "_law_figures" (defScope s__law_figures) s.heap.objs.size f cdv)) →
    SXs (cxOf CX0 P w K mg base ["number", "prime", "found"] "_law_figures" (defScope s__law_figures) f cdv A outer s H E).nox (defBody s__law_figures) w__law_figures := fun f cdv A outer s H E hr =>
  (scons (sset (i := 2) sc__law_figures.nd rfl (.inl rfl) (xlstR anil)) (scons (swhile PassesOwn.never (tcmp o_gt (xv 0) xint) (scons (sexpr (xbm PySem.F.slot_list_append PySem.F.type_list_append m_append (xv 2) (acons (xop o_mod (xcallT c_int T.n_int (by decide +kernel) (acons (xv 0) anil)) (xv 1)) anil))) (sone (sset (i := 0) sc__law_figures.nd rfl (.inl rfl) (xop o_div (xv 0) (xv 1)))))) (sone (sfrz 2 (sret (xv 2))))))
theorem sc__law_often : FnScope ["number", "prime", "found"] ["number", "prime"] (defScope s__law_often) := ⟨rfl, rfl, rfl, by decide +kernel, rfl, by decide +kernel, by decide +kernel⟩
theorem dv__law_often {P : Program} {w : World} {K : Frag} {mg : Str → Option Value} {base : Heap} (T : Fx K mg) : ∀ (f : Addr) (cdv : Value) (A : Around) (outer : List PySem.Env) (s : Shared) (H : Hp) (E : XK), Room 0 (A.deeper (envOfC "_law_often" (defScope s__law_often) s.heap.objs.size f cdv)) →
    SXs (cxOf CX0 P w K mg base ["number", "prime", "found"] "_law_often" (defScope s__law_often) f cdv A outer s H E).nox (defBody s__law_often) w__law_often := fun f cdv A outer s H E hr =>
  (scons (sset (i := 2) sc__law_often.nd rfl (.inl rfl) xint) (scons (swhile PassesOwn.never (tcmp (o_eq hr) (xop o_mod (xcallT c_int T.n_int (by decide +kernel) (acons (xv 0) anil)) (xv 1)) xint) (sone (spar (i := 0) (j := 2) rfl sc__law_often.nd rfl rfl (by decide) rfl rfl (acons (xop o_div (xv 0) (xv 1)) (acons (xop o_add (xv 2) xint) anil))))) (sone (sret (xv 2)))))
theorem sc__law_carried : FnScope ["one", "other", "prime", "found", "carry"] ["one", "other", "prime"] (defScope s__law_carried) := ⟨rfl, rfl, rfl, by decide +kernel, rfl, by decide +kernel, by decide +kernel⟩
theorem dv__law_carried {P : Program} {w : World} {K : Frag} {mg : Str → Option Value} {base : Heap} (T : Fx K mg) : ∀ (f : Addr) (cdv : Value) (A : Around) (outer : List PySem.Env) (s : Shared) (H : Hp) (E : XK), Room 0 (A.deeper (envOfC "_law_carried" (defScope s__law_carried) s.heap.objs.size f cdv)) →
    SXs (cxOf CX0 P w K mg base ["one", "other", "prime", "found", "carry"] "_law_carried" (defScope s__law_carried) f cdv A outer s H E).nox (defBody s__law_carried) w__law_carried := fun f cdv A outer s H E hr =>
  (scons (sasg (xtup (acons xint (acons xint anil))) (gtup rfl (gscons (gname sc__law_carried.nd rfl (.inl rfl)) (gscons (gname sc__law_carried.nd rfl (.inl rfl)) gsnil)))) (scons (swhile PassesOwn.never (tor (tcmp o_gt (xv 0) xint) (tor (tcmp o_gt (xv 1) xint) (tor1 (tcmp o_gt (xv 4) xint)))).tx (scons (sset (i := 4) sc__law_carried.nd rfl (.inl rfl) (xcallT c_int T.n_int (by decide +kernel) (acons (xcmp o_ge (xop o_add (xop o_add (xop o_mod (xcallT c_int T.n_int (by decide +kernel) (acons (xv 0) anil)) (xv 2)) (xop o_mod (xcallT c_int T.n_int (by decide +kernel) (acons (xv 1) anil)) (xv 2))) (xv 4)) (xv 2)) anil))) (sone (spar3 (i := 3) (j := 0) (l := 1) rfl sc__law_carried.nd rfl rfl rfl (by decide) (by decide) (by decide) rfl rfl rfl (acons (xop o_add (xv 3) (xv 4)) (acons (xop o_div (xv 0) (xv 2)) (acons (xop o_div (xv 1) (xv 2)) anil))))))) (sone (sret (xv 3)))))
theorem sc__law_great : FnScope ["hand", "prime", "one", "other", "step", "figure"] ["hand", "prime"] (defScope s__law_great) := ⟨rfl, rfl, rfl, by decide +kernel, rfl, by decide +kernel, by decide +kernel⟩
theorem dv__law_great {P : Program} {w : World} {K : Frag} {mg : Str → Option Value} {base : Heap} (T : Fx K mg) (k__law_draw : Kn P w K mg base "_law_draw" 1 2 p__law_draw) : ∀ (f : Addr) (cdv : Value) (A : Around) (outer : List PySem.Env) (s : Shared) (H : Hp) (E : XK), Room 1 (A.deeper (envOfC "_law_great" (defScope s__law_great) s.heap.objs.size f cdv)) →
    SXs (cxOf CX0 P w K mg base ["hand", "prime", "one", "other", "step", "figure"] "_law_great" (defScope s__law_great) f cdv A outer s H E).nox (defBody s__law_great) w__law_great := fun f cdv A outer s H E hr =>
  (scons (sasg (xtup (acons xint (acons xint (acons xint anil)))) (gtup rfl (gscons (gname sc__law_great.nd rfl (.inl rfl)) (gscons (gname sc__law_great.nd rfl (.inl rfl)) (gscons (gname sc__law_great.nd rfl (.inl rfl)) gsnil))))) (scons (swhile PassesOwn.never (tcmp o_lt (xop o_mul (xv 4) (xv 1)) (xop o_pow xint xint)) (scons (sset (i := 5) sc__law_great.nd rfl (.inl rfl) (xcall k__law_draw (hr.mono (by decide)) (acons (xv 0) (acons (xv 1) anil)))) (scons (sset (i := 2) sc__law_great.nd rfl (.inl rfl) (xop o_add (xv 2) (xop o_mul (xv 5) (xv 4)))) (scons (sset (i := 3) sc__law_great.nd rfl (.inl rfl) (xop o_add (xv 3) (xop o_mul (xv 4) (xif (tcmp o_gt (xcall k__law_draw (hr.mono (by decide)) (acons (xv 0) (acons xint anil))) xint) (xcall k__law_draw (hr.mono (by decide)) (acons (xv 0) (acons (xop o_add (xv 5) xint) anil))) (xcall k__law_draw (hr.mono (by decide)) (acons (xv 0) (acons (xv 1) anil))))))) (sone (sset (i := 4) sc__law_great.nd rfl (.inl rfl) (xop o_mul (xv 4) (xv 1)))))))) (sone (sret (xif (tcmp (o_eq hr) (xcall k__law_draw (hr.mono (by decide)) (acons (xv 0) (acons xint anil))) xint) (xtup (acons (xcallB (c_max2 rfl) T.n_max (by decide +kernel) (acons (xv 2) (acons (xv 3) anil))) (acons (xcallB (c_min2 rfl) T.n_min (by decide +kernel) (acons (xv 2) (acons (xv 3) anil))) anil))) (xtup (acons (xv 2) (acons (xv 3) anil))))))))
theorem sc__law_small_right : FnScope ["hand", "rows", "prime", "many", "size", "due", "product", "one", "often", "turn"] ["hand", "rows", "prime"] (defScope s__law_small_right) := ⟨rfl, rfl, rfl, by decide +kernel, rfl, by decide +kernel, by decide +kernel⟩
theorem dv__law_small_right {P : Program} {w : World} {K : Frag} {mg : Str → Option Value} {base : Heap} (T : Fx K mg) (k__law_draw : Kn P w K mg base "_law_draw" 1 2 p__law_draw) (k__law_often : Kn P w K mg base "_law_often" 1 2 p__law_often) (k_left_groups : Kn P w K mg base "left_groups" 4 3 p_left_groups) (k_many_groups : Kn P w K mg base "many_groups" 3 2 p_many_groups) (k_often_in_groups : Kn P w K mg base "often_in_groups" 5 3 p_often_in_groups) (k_often_in_product : Kn P w K mg base "often_in_product" 4 2 p_often_in_product) (k_product_left : Kn P w K mg base "product_left" 4 2 p_product_left) (k_row_kind : Kn P w K mg base "row_kind" 4 2 p_row_kind) : ∀ (f : Addr) (cdv : Value) (A : Around) (outer : List PySem.Env) (s : Shared) (H : Hp) (E : XK), Room 5 (A.deeper (envOfC "_law_small_right" (defScope s__law_small_right) s.heap.objs.size f cdv)) →
    SXs (cxOf CX0 P w K mg base ["hand", "rows", "prime", "many", "size", "due", "product", "one", "often", "turn"] "_law_small_right" (defScope s__law_small_right) f cdv A outer s H E).nox (defBody s__law_small_right) w__law_small_right := fun f cdv A outer s H E hr =>
  (scons (sset (i := 3) sc__law_small_right.nd rfl (.inl rfl) (xcall k__law_draw (hr.mono (by decide)) (acons (xv 0) (acons xint anil)))) (scons (sset (i := 4) sc__law_small_right.nd rfl (.inl rfl) (xcall k__law_draw (hr.mono (by decide)) (acons (xv 0) (acons (xop o_add (xv 3) xint) anil)))) (scons (sset (i := 5) sc__law_small_right.nd rfl (.inl rfl) (xif (tcmp o_le (xv 4) (xv 3)) (xix (xix (xv 1) (xv 3)) (xv 4)) xint)) (scons (sif (tor (tcmp (o_ne hr) (xcall k_many_groups (hr.mono (by decide)) (acons (xv 3) (acons (xv 4) anil))) (xv 5)) (tor1 (tcmp (o_ne hr) (xcall k_left_groups (hr.mono (by decide)) (acons (xv 3) (acons (xv 4) (acons (xv 2) anil)))) (xop o_mod (xcallT c_int T.n_int (by decide +kernel) (acons (xv 5) anil)) (xv 2))))).tx (sone (sret xbl)) snil) (scons (sif (tcmp (o_ne hr) (xcall k_often_in_groups (hr.mono (by decide)) (acons (xv 3) (acons (xv 4) (acons (xv 2) anil)))) (xif (tcmp o_gt (xv 4) (xv 3)) xnon (xcall k__law_often (hr.mono (by decide)) (acons (xv 5) (acons (xv 2) anil))))) (sone (sret xbl)) snil) (scons (sif (tcmp (o_ne hr) (xcall k_row_kind (hr.mono (by decide)) (acons (xv 3) (acons (xv 2) anil))) (xcallB c_len T.n_len (by decide +kernel) (acons (xlc (own := [("one", 7)]) rfl sc__law_small_right.nd (ix_seq' (xix (xv 1) (xv 3))) (blkOk_by rfl) (fun _ _ _ _ _ => (gcn sc__law_small_right.nd rfl (.inl rfl))) (fun _ _ _ _ _ => (tsone (tcmp (o_ne hr) (xop o_mod (xcallT c_int T.n_int (by decide +kernel) (acons (xv 7) anil)) (xv 2)) xint))) (fun _ _ _ _ _ => (xv 7))) anil))) (sone (sret xbl)) snil) (scons (sset (i := 6) sc__law_small_right.nd rfl (.inl rfl) xint) (scons (sfor PassesOwn.never rfl (ix_range2 T.n_range (acons xint (acons (xop o_add (xv 3) xint) anil))) (gname sc__law_small_right.nd rfl (.inl rfl)) (sone (sset (i := 6) sc__law_small_right.nd rfl (.inl rfl) (xop o_mul (xv 6) (xv 7))))) (scons (sset (i := 8) sc__law_small_right.nd rfl (.inl rfl) (xcall k__law_often (hr.mono (by decide)) (acons (xv 6) (acons (xv 2) anil)))) (scons (sif (tcmp (o_ne hr) (xcall k_often_in_product (hr.mono (by decide)) (acons (xv 3) (acons (xv 2) anil))) (xv 8)) (sone (sret xbl)) snil) (scons (sfor PassesOwn.never rfl (ix_range1 T.n_range (acons (xv 8) anil)) (gname sc__law_small_right.nd rfl (.inl rfl)) (sone (sset (i := 6) sc__law_small_right.nd rfl (.inl rfl) (xop o_div (xv 6) (xv 2))))) (sone (sret (xcmp (o_eq hr) (xcall k_product_left (hr.mono (by decide)) (acons (xv 3) (acons (xv 2) anil))) (xtup (acons (xv 8) (acons (xop o_mod (xcallT c_int T.n_int (by decide +kernel) (acons (xv 6) anil)) (xv 2)) anil)))))))))))))))))
theorem sc__law_product_right : FnScope ["number", "prime", "told", "last", "often", "here"] ["number", "prime"] (defScope s__law_product_right) := ⟨rfl, rfl, rfl, by decide +kernel, rfl, by decide +kernel, by decide +kernel⟩
theorem dv__law_product_right {P : Program} {w : World} {K : Frag} {mg : Str → Option Value} {base : Heap} (T : Fx K mg) (k_often_in_product : Kn P w K mg base "often_in_product" 4 2 p_often_in_product) (k_product_left : Kn P w K mg base "product_left" 4 2 p_product_left) : ∀ (f : Addr) (cdv : Value) (A : Around) (outer : List PySem.Env) (s : Shared) (H : Hp) (E : XK), Room 4 (A.deeper (envOfC "_law_product_right" (defScope s__law_product_right) s.heap.objs.size f cdv)) →
    SXs (cxOf CX0 P w K mg base ["number", "prime", "told", "last", "often", "here"] "_law_product_right" (defScope s__law_product_right) f cdv A outer s H E).nox (defBody s__law_product_right) w__law_product_right := fun f cdv A outer s H E hr =>
  (scons (spar (i := 4) (j := 5) rfl sc__law_product_right.nd rfl rfl (by decide) rfl rfl (acons xint (acons (xv 0) anil))) (scons (swhile PassesOwn.never (tcmp o_gt (xv 5) xint) (scons (sset (i := 5) sc__law_product_right.nd rfl (.inl rfl) (xop o_div (xv 5) (xv 1))) (sone (sset (i := 4) sc__law_product_right.nd rfl (.inl rfl) (xop o_add (xv 4) (xv 5)))))) (scons (sset (i := 2) sc__law_product_right.nd rfl (.inl rfl) (xcall k_product_left (hr.mono (by decide)) (acons (xv 0) (acons (xv 1) anil)))) (scons (sif (tor (tcmp (o_ne hr) (xcall k_often_in_product (hr.mono (by decide)) (acons (xv 0) (acons (xv 1) anil))) (xv 4)) (tor (tcmp (o_ne hr) (xix (xv 2) xint) (xv 4)) (tor1 (tnot (tchain o_lt o_lt xint (xix (xv 2) xint) (xv 1)))))).tx (sone (sret xbl)) snil) (scons (sif (tcmp (o_eq hr) (xv 0) xint) (sone (sret (xcmp (o_eq hr) (xv 2) (xtup (acons xint (acons xint anil)))))) snil) (scons (sset (i := 3) sc__law_product_right.nd rfl (.inl rfl) (xv 0)) (scons (swhile PassesOwn.never (tcmp (o_eq hr) (xop o_mod (xcallT c_int T.n_int (by decide +kernel) (acons (xv 3) anil)) (xv 1)) xint) (sone (sset (i := 3) sc__law_product_right.nd rfl (.inl rfl) (xop o_div (xv 3) (xv 1))))) (sone (sret (xcmp (o_eq hr) (xix (xv 2) xint) (xop o_mod (xcallT c_int T.n_int (by decide +kernel) (acons (xop o_mul (xix (xcall k_product_left (hr.mono (by decide)) (acons (xop o_sub (xv 0) xint) (acons (xv 1) anil))) xint) (xcallT c_int T.n_int (by decide +kernel) (acons (xop o_mod (xcallT c_int T.n_int (by decide +kernel) (acons (xv 3) anil)) (xv 1)) anil))) anil)) (xv 1))))))))))))
theorem sc__law_great_right : FnScope ["hand", "rows", "prime", "often", "many", "size", "lines", "columns", "due", "kind", "sides", "at", "one", "other"] ["hand", "rows", "prime"] (defScope s__law_great_right) := ⟨rfl, rfl, rfl, by decide +kernel, rfl, by decide +kernel, by decide +kernel⟩
theorem dv__law_great_right {P : Program} {w : World} {K : Frag} {mg : Str → Option Value} {base : Heap} (T : Fx K mg) (k__law_carried : Kn P w K mg base "_law_carried" 1 3 p__law_carried) (k__law_figures : Kn P w K mg base "_law_figures" 1 2 p__law_figures) (k__law_great : Kn P w K mg base "_law_great" 2 2 p__law_great) (k__law_product_right : Kn P w K mg base "_law_product_right" 5 2 p__law_product_right) (k_left_groups : Kn P w K mg base "left_groups" 4 3 p_left_groups) (k_often_in_groups : Kn P w K mg base "often_in_groups" 5 3 p_often_in_groups) (k_row_kind : Kn P w K mg base "row_kind" 4 2 p_row_kind) : ∀ (f : Addr) (cdv : Value) (A : Around) (outer : List PySem.Env) (s : Shared) (H : Hp) (E : XK), Room 5 (A.deeper (envOfC "_law_great_right" (defScope s__law_great_right) s.heap.objs.size f cdv)) →
    SXs (cxOf CX0 P w K mg base ["hand", "rows", "prime", "often", "many", "size", "lines", "columns", "due", "kind", "sides", "at", "one", "other"] "_law_great_right" (defScope s__law_great_right) f cdv A outer s H E).nox (defBody s__law_great_right) w__law_great_right := fun f cdv A outer s H E hr =>
  (scons (sasg (xcall k__law_great (hr.mono (by decide)) (acons (xv 0) (acons (xv 2) anil))) (gtup rfl (gscons (gname sc__law_great_right.nd rfl (.inl rfl)) (gscons (gname sc__law_great_right.nd rfl (.inl rfl)) gsnil)))) (scons (spar (i := 6) (j := 7) rfl sc__law_great_right.nd rfl rfl (by decide) rfl rfl (acons (xcall k__law_figures (hr.mono (by decide)) (acons (xv 4) (acons (xv 2) anil))) (acons (xcall k__law_figures (hr.mono (by decide)) (acons (xv 5) (acons (xv 2) anil))) anil))) (scons (sasg (xtup (acons xint (acons xint anil))) (gtup rfl (gscons (gname sc__law_great_right.nd rfl (.inl rfl)) (gscons (gname sc__law_great_right.nd rfl (.inl rfl)) gsnil)))) (scons (sif (tcmp o_lt (xv 2) xint) (scons (sfor PassesOwn.never rfl (ix_enum T.n_enumerate (acons (xv 6) anil)) (gtup rfl (gscons (gname sc__law_great_right.nd rfl (.inl rfl)) (gscons (gname sc__law_great_right.nd rfl (.inl rfl)) gsnil))) (scons (sset (i := 13) sc__law_great_right.nd rfl (.inl rfl) (xif (tcmp o_lt (xv 11) (xcallB c_len T.n_len (by decide +kernel) (acons (xv 7) anil))) (xix (xv 7) (xv 11)) xint)) (scons (sset (i := 8) sc__law_great_right.nd rfl (.inl rfl) (xop o_mod (xcallT c_int T.n_int (by decide +kernel) (acons (xop o_mul (xv 8) (xif (tcmp o_le (xv 13) (xv 12)) (xix (xix (xv 1) (xv 12)) (xv 13)) xint)) anil)) (xv 2))) (sone (sset (i := 9) sc__law_great_right.nd rfl (.inl rfl) (xop o_mul (xv 9) (xop o_add (xv 12) xint))))))) (scons (sset (i := 8) sc__law_great_right.nd rfl (.inl rfl) (xif (tcmp o_gt (xcallB c_len T.n_len (by decide +kernel) (acons (xv 7) anil)) (xcallB c_len T.n_len (by decide +kernel) (acons (xv 6) anil))) xint (xv 8))) (sone (sif (tor (tcmp (o_ne hr) (xcall k_left_groups (hr.mono (by decide)) (acons (xv 4) (acons (xv 5) (acons (xv 2) anil)))) (xv 8)) (tor1 (tcmp (o_ne hr) (xcall k_row_kind (hr.mono (by decide)) (acons (xv 4) (acons (xv 2) anil))) (xv 9)))).tx (sone (sret xbl)) snil)))) snil) (scons (sif (tcmp o_gt (xv 5) (xv 4)) (sone (sret (xand (xcmp o_is (xcall k_often_in_groups (hr.mono (by decide)) (acons (xv 4) (acons (xv 5) (acons (xv 2) anil)))) xnon) (xone (xcmp (o_eq hr) (xcall k_left_groups (hr.mono (by decide)) (acons (xv 4) (acons (xv 5) (acons (xv 2) anil)))) xint))))) snil) (scons (sset (i := 3) sc__law_great_right.nd rfl (.inl rfl) (xcall k_often_in_groups (hr.mono (by decide)) (acons (xv 4) (acons (xv 5) (acons (xv 2) anil))))) (scons (sif (tor (tcmp (o_ne hr) (xv 3) (xcall k__law_carried (hr.mono (by decide)) (acons (xv 5) (acons (xop o_sub (xv 4) (xv 5)) (acons (xv 2) anil))))) (tor1 (tcmp (o_ne hr) (xcmp (o_eq hr) (xv 3) xint) (xcmp (o_ne hr) (xcall k_left_groups (hr.mono (by decide)) (acons (xv 4) (acons (xv 5) (acons (xv 2) anil)))) xint)))).tx (sone (sret xbl)) snil) (scons (sif (tcmp (o_ne hr) (xcall k_often_in_groups (hr.mono (by decide)) (acons (xv 4) (acons (xop o_sub (xv 4) (xv 5)) (acons (xv 2) anil)))) (xv 3)) (sone (sret xbl)) snil) (scons (sif (tcmp (o_ne hr) (xcall k_left_groups (hr.mono (by decide)) (acons (xv 4) (acons (xop o_sub (xv 4) (xv 5)) (acons (xv 2) anil)))) (xcall k_left_groups (hr.mono (by decide)) (acons (xv 4) (acons (xv 5) (acons (xv 2) anil))))) (sone (sret xbl)) snil) (scons (sif (tand (tcmp o_gt (xv 5) xint) (tand1 (tcmp o_gt (xv 4) xint))).tx (scons (sset (i := 10) sc__law_great_right.nd rfl (.inl rfl) (xop o_add (xcall k_left_groups (hr.mono (by decide)) (acons (xop o_sub (xv 4) xint) (acons (xop o_sub (xv 5) xint) (acons (xv 2) anil)))) (xcall k_left_groups (hr.mono (by decide)) (acons (xop o_sub (xv 4) xint) (acons (xv 5) (acons (xv 2) anil)))))) (sone (sif (tcmp (o_ne hr) (xop o_mod (xcallT c_int T.n_int (by decide +kernel) (acons (xv 10) anil)) (xv 2)) (xcall k_left_groups (hr.mono (by decide)) (acons (xv 4) (acons (xv 5) (acons (xv 2) anil))))) (sone (sret xbl)) snil))) snil) (sone (sret (xcall k__law_product_right (hr.mono (by decide)) (acons (xv 4) (acons (xv 2) anil)))))))))))))))
theorem sc_law : FnScope ["script", "hand", "rows", "told", "turn", "prime"] ["script"] (defScope s_law) := ⟨rfl, rfl, rfl, by decide +kernel, rfl, by decide +kernel, by decide +kernel⟩
theorem dv_law {P : Program} {w : World} {K : Frag} {mg : Str → Option Value} {base : Heap} (T : Fx K mg) (k__law_any : Kn P w K mg base "_law_any" 2 2 p__law_any) (k__law_great_right : Kn P w K mg base "_law_great_right" 6 3 p__law_great_right) (k__law_hand : Kn P w K mg base "_law_hand" 1 1 p__law_hand) (k__law_small_right : Kn P w K mg base "_law_small_right" 6 3 p__law_small_right) (k__law_triangle : Kn P w K mg base "_law_triangle" 1 1 p__law_triangle) (k_left_groups : Kn P w K mg base "left_groups" 4 3 p_left_groups) (k_many_groups : Kn P w K mg base "many_groups" 3 2 p_many_groups) (k_often_in_groups : Kn P w K mg base "often_in_groups" 5 3 p_often_in_groups) (k_product_left : Kn P w K mg base "product_left" 4 2 p_product_left) (k_row_kind : Kn P w K mg base "row_kind" 4 2 p_row_kind) : ∀ (f : Addr) (cdv : Value) (A : Around) (outer : List PySem.Env) (s : Shared) (H : Hp) (E : XK), Room 6 (A.deeper (envOfC "law" (defScope s_law) s.heap.objs.size f cdv)) →
    SXs (cxOf CX0 P w K mg base ["script", "hand", "rows", "told", "turn", "prime"] "law" (defScope s_law) f cdv A outer s H E).nox (defBody s_law) w_law := fun f cdv A outer s H E hr =>
  (scons (sset (i := 1) sc_law.nd rfl (.inl rfl) (xcall k__law_hand (hr.mono (by decide)) (acons (xv 0) anil))) (scons (sset (i := 2) sc_law.nd rfl (.inl rfl) (xcall k__law_triangle (hr.mono (by decide)) (acons xint anil))) (scons (sset (i := 3) sc_law.nd rfl (.inl rfl) (xlst (acons (xcall k_many_groups (hr.mono (by decide)) (acons xint (acons xint anil))) (acons (xcall k_left_groups (hr.mono (by decide)) (acons xint (acons xint (acons xint anil)))) (acons (xcall k_often_in_groups (hr.mono (by decide)) (acons xint (acons xint (acons xint anil)))) (acons (xcall k_product_left (hr.mono (by decide)) (acons xint (acons xint anil))) (acons (xcall k_row_kind (hr.mono (by decide)) (acons xint (acons xint anil))) anil))))))) (scons (sif (tor (tcmp (o_ne hr) (xv 3) (xlst (acons xint (acons xint (acons xint (acons (xtup (acons xint (acons xint anil))) (acons xint anil))))))) (tor (tcmp (o_ne hr) (xcall k_many_groups (hr.mono (by decide)) (acons xint (acons xint anil))) xint) (tor1 (tcmp (o_ne hr) (xcall k_left_groups (hr.mono (by decide)) (acons (xop o_pow xint xint) (acons xint (acons xint anil)))) xint)))).tx (sone (sret xbl)) snil) (scons (sfor PassesOwn.never rfl (ix_range1 T.n_range (acons xint anil)) (gname sc_law.nd rfl (.inl rfl)) (scons (sset (i := 5) sc_law.nd rfl (.inl rfl) (xcall k__law_any (hr.mono (by decide)) (acons (xv 1) (acons (xlst (acons xint (acons xint (acons xint (acons xint (acons xint (acons xint (acons xint (acons xint (acons xint anil)))))))))) anil)))) (sone (sif (tor (tnot (tval (xcall k__law_small_right (hr.mono (by decide)) (acons (xv 1) (acons (xv 2) (acons (xv 5) anil)))))) (tor1 (tnot (tval (xcall k__law_great_right (hr.mono (by decide)) (acons (xv 1) (acons (xv 2) (acons (xv 5) anil)))))))).tx (sone (sret xbl)) snil)))) (sone (sret xbl)))))))

theorem pm_is_integer : PMono p_is_integer := fun ds st Q Q' h ⟨x0, c0, c1, c2⟩ => ⟨x0, c0, c1, h _ _ c2⟩
theorem pm_is_within : PMono p_is_within := fun ds st Q Q' h ⟨x0, x1, x2, c0, c1, c2, c3, c4⟩ => ⟨x0, x1, x2, c0, c1, c2, c3, h _ _ c4⟩
theorem pm_least_divisor : PMono p_least_divisor := fun ds st Q Q' h ⟨x0, c0, c1, c2, c3, c4⟩ => ⟨x0, c0, c1, c2, c3, h _ _ c4⟩
theorem pm_check_prime : PMono p_check_prime := fun ds st Q Q' h ⟨x0, c0, c1, c2, c3, c4⟩ => ⟨x0, c0, c1, c2, c3, h _ _ c4⟩
theorem pm_check_pair : PMono p_check_pair := fun ds st Q Q' h ⟨x0, x1, c0, c1, c2, c3, c4⟩ => ⟨x0, x1, c0, c1, c2, c3, h _ _ c4⟩
theorem pm_groups : PMono p_groups := fun ds st Q Q' h ⟨x0, x1, c0, c1, c2, c3⟩ => ⟨x0, x1, c0, c1, c2, h _ _ c3⟩
theorem pm_many_groups : PMono p_many_groups := fun ds st Q Q' h ⟨x0, x1, c0, c1, c2, c3, c4⟩ => ⟨x0, x1, c0, c1, c2, c3, h _ _ c4⟩
theorem pm_left_groups : PMono p_left_groups := fun ds st Q Q' h ⟨x0, x1, x2, c0, c1, c2, c3, c4, c5⟩ => ⟨x0, x1, x2, c0, c1, c2, c3, c4, h _ _ c5⟩
theorem pm_often_in_product : PMono p_often_in_product := fun ds st Q Q' h ⟨x0, x1, c0, c1, c2, c3, c4⟩ => ⟨x0, x1, c0, c1, c2, c3, h _ _ c4⟩
theorem pm_often_in_groups : PMono p_often_in_groups := fun ds st Q Q' h ⟨x0, x1, x2, c0, c1, c2, c3, c4, c5⟩ => ⟨x0, x1, x2, c0, c1, c2, c3, c4, h _ _ c5⟩
theorem pm_product_left : PMono p_product_left := fun ds st Q Q' h ⟨x0, x1, c0, c1, c2, c3, c4⟩ => ⟨x0, x1, c0, c1, c2, c3, h _ _ c4⟩
theorem pm_row_kind : PMono p_row_kind := fun ds st Q Q' h ⟨x0, x1, c0, c1, c2, c3, c4⟩ => ⟨x0, x1, c0, c1, c2, c3, h _ _ c4⟩
theorem pm__law_triangle : PMono p__law_triangle := fun ds st Q Q' h ⟨c0, c1, c2⟩ => ⟨c0, c1, h _ _ c2⟩
theorem pm__law_figures : PMono p__law_figures := fun ds st Q Q' h ⟨x0, x1, c0, c1, c2, c3, c4, c5⟩ => ⟨x0, x1, c0, c1, c2, c3, c4, h _ _ c5⟩
theorem pm__law_often : PMono p__law_often := fun ds st Q Q' h ⟨x0, x1, c0, c1, c2, c3, c4, c5⟩ => ⟨x0, x1, c0, c1, c2, c3, c4, h _ _ c5⟩
theorem pm__law_carried : PMono p__law_carried := fun ds st Q Q' h ⟨x0, x1, x2, c0, c1, c2, c3, c4⟩ => ⟨x0, x1, x2, c0, c1, c2, c3, by (intros; apply h; apply c4 <;> assumption)⟩
theorem pm__law_great : PMono p__law_great := fun ds st Q Q' h ⟨x0, x1, c0, c1, c2, c3, c4, c5⟩ => ⟨x0, x1, c0, c1, c2, c3, c4, by (intros; apply h; apply c5 <;> assumption)⟩
theorem pm__law_small_right : PMono p__law_small_right := fun ds st Q Q' h ⟨x0, x1, c0, c1, c2, c3, c4⟩ => ⟨x0, x1, c0, c1, c2, c3, by (intros; apply h; apply c4 <;> assumption)⟩
theorem pm__law_product_right : PMono p__law_product_right := fun ds st Q Q' h ⟨x0, x1, c0, c1, c2, c3, c4⟩ => ⟨x0, x1, c0, c1, c2, c3, h _ _ c4⟩
theorem pm__law_great_right : PMono p__law_great_right := fun ds st Q Q' h ⟨x0, x1, c0, c1, c2, c3, c4⟩ => ⟨x0, x1, c0, c1, c2, c3, by (intros; apply h; apply c4 <;> assumption)⟩
theorem pl_is_integer : ∀ ds so Q, p_is_integer ds so Q → ds.length = 1 := fun ds so Q ⟨_, e, _⟩ => by rw [e]; rfl
theorem pl_is_within : ∀ ds so Q, p_is_within ds so Q → ds.length = 3 := fun ds so Q ⟨_, _, _, e, _⟩ => by rw [e]; rfl
theorem pl_least_divisor : ∀ ds so Q, p_least_divisor ds so Q → ds.length = 1 := fun ds so Q ⟨_, e, _⟩ => by rw [e]; rfl
theorem pl_check_prime : ∀ ds so Q, p_check_prime ds so Q → ds.length = 1 := fun ds so Q ⟨_, e, _⟩ => by rw [e]; rfl
theorem pl_check_pair : ∀ ds so Q, p_check_pair ds so Q → ds.length = 2 := fun ds so Q ⟨_, _, e, _⟩ => by rw [e]; rfl
theorem pl_groups : ∀ ds so Q, p_groups ds so Q → ds.length = 2 := fun ds so Q ⟨_, _, e, _⟩ => by rw [e]; rfl
theorem pl_many_groups : ∀ ds so Q, p_many_groups ds so Q → ds.length = 2 := fun ds so Q ⟨_, _, e, _⟩ => by rw [e]; rfl
theorem pl_left_groups : ∀ ds so Q, p_left_groups ds so Q → ds.length = 3 := fun ds so Q ⟨_, _, _, e, _⟩ => by rw [e]; rfl
theorem pl_often_in_product : ∀ ds so Q, p_often_in_product ds so Q → ds.length = 2 := fun ds so Q ⟨_, _, e, _⟩ => by rw [e]; rfl
theorem pl_often_in_groups : ∀ ds so Q, p_often_in_groups ds so Q → ds.length = 3 := fun ds so Q ⟨_, _, _, e, _⟩ => by rw [e]; rfl
theorem pl_product_left : ∀ ds so Q, p_product_left ds so Q → ds.length = 2 := fun ds so Q ⟨_, _, e, _⟩ => by rw [e]; rfl
theorem pl_row_kind : ∀ ds so Q, p_row_kind ds so Q → ds.length = 2 := fun ds so Q ⟨_, _, e, _⟩ => by rw [e]; rfl
theorem pl__law_hand : ∀ ds so Q, p__law_hand ds so Q → ds.length = 1 := fun ds so Q ⟨_, _, e, _⟩ => by rw [e]; rfl
theorem pl__law_draw : ∀ ds so Q, p__law_draw ds so Q → ds.length = 2 := fun ds so Q ⟨_, _, e, _⟩ => by rw [e]; rfl
theorem pl__law_any : ∀ ds so Q, p__law_any ds so Q → ds.length = 2 := fun ds so Q ⟨_, _, _, e, _⟩ => by rw [e]; rfl
theorem pl__law_triangle : ∀ ds so Q, p__law_triangle ds so Q → ds.length = 1 := fun ds so Q ⟨e, _⟩ => by rw [e]; rfl
theorem pl__law_figures : ∀ ds so Q, p__law_figures ds so Q → ds.length = 2 := fun ds so Q ⟨_, _, e, _⟩ => by rw [e]; rfl
theorem pl__law_often : ∀ ds so Q, p__law_often ds so Q → ds.length = 2 := fun ds so Q ⟨_, _, e, _⟩ => by rw [e]; rfl
theorem pl__law_carried : ∀ ds so Q, p__law_carried ds so Q → ds.length = 3 := fun ds so Q ⟨_, _, _, e, _⟩ => by rw [e]; rfl
theorem pl__law_great : ∀ ds so Q, p__law_great ds so Q → ds.length = 2 := fun ds so Q ⟨_, _, e, _⟩ => by rw [e]; rfl
theorem pl__law_small_right : ∀ ds so Q, p__law_small_right ds so Q → ds.length = 3 := fun ds so Q ⟨_, _, e, _⟩ => by rw [e]; rfl
theorem pl__law_product_right : ∀ ds so Q, p__law_product_right ds so Q → ds.length = 2 := fun ds so Q ⟨_, _, e, _⟩ => by rw [e]; rfl
theorem pl__law_great_right : ∀ ds so Q, p__law_great_right ds so Q → ds.length = 3 := fun ds so Q ⟨_, _, e, _⟩ => by rw [e]; rfl
section
variable {P : Program} {w : World} {K : Frag} {mg : Str → Option Value} {base : Heap}
theorem kn_is_integer (T : Fx K mg) : Kn P w K mg base "is_integer" 1 1 p_is_integer := kn_of T.f_is_integer sc_is_integer pm_is_integer pl_is_integer (dv_is_integer T ) rd_is_integer
theorem kn_is_within (T : Fx K mg) : Kn P w K mg base "is_within" 2 3 p_is_within := kn_of T.f_is_within sc_is_within pm_is_within pl_is_within (dv_is_within T (kn_is_integer T)) rd_is_within
theorem kn_least_divisor (T : Fx K mg) : Kn P w K mg base "least_divisor" 1 1 p_least_divisor := kn_of T.f_least_divisor sc_least_divisor pm_least_divisor pl_least_divisor (dv_least_divisor T ) rd_least_divisor
theorem kn_check_prime (T : Fx K mg) : Kn P w K mg base "check_prime" 3 1 p_check_prime := kn_of T.f_check_prime sc_check_prime pm_check_prime pl_check_prime (dv_check_prime T (kn_is_within T) (kn_least_divisor T)) rd_check_prime
theorem kn_check_pair (T : Fx K mg) : Kn P w K mg base "check_pair" 3 2 p_check_pair := kn_of T.f_check_pair sc_check_pair pm_check_pair pl_check_pair (dv_check_pair T (kn_is_within T)) rd_check_pair
theorem kn_groups (T : Fx K mg) : Kn P w K mg base "groups" 1 2 p_groups := kn_of T.f_groups sc_groups pm_groups pl_groups (dv_groups T ) rd_groups
theorem kn_many_groups (T : Fx K mg) : Kn P w K mg base "many_groups" 3 2 p_many_groups := kn_of T.f_many_groups sc_many_groups pm_many_groups pl_many_groups (dv_many_groups T (kn_groups T) (kn_is_within T)) rd_many_groups
theorem kn_left_groups (T : Fx K mg) : Kn P w K mg base "left_groups" 4 3 p_left_groups := kn_of T.f_left_groups sc_left_groups pm_left_groups pl_left_groups (dv_left_groups T (kn_check_pair T) (kn_check_prime T) (kn_groups T)) rd_left_groups
theorem kn_often_in_product (T : Fx K mg) : Kn P w K mg base "often_in_product" 4 2 p_often_in_product := kn_of T.f_often_in_product sc_often_in_product pm_often_in_product pl_often_in_product (dv_often_in_product T (kn_check_pair T) (kn_check_prime T)) rd_often_in_product
theorem kn_often_in_groups (T : Fx K mg) : Kn P w K mg base "often_in_groups" 5 3 p_often_in_groups := kn_of T.f_often_in_groups sc_often_in_groups pm_often_in_groups pl_often_in_groups (dv_often_in_groups T (kn_check_pair T) (kn_check_prime T) (kn_often_in_product T)) rd_often_in_groups
theorem kn_product_left (T : Fx K mg) : Kn P w K mg base "product_left" 4 2 p_product_left := kn_of T.f_product_left sc_product_left pm_product_left pl_product_left (dv_product_left T (kn_check_pair T) (kn_check_prime T)) rd_product_left
theorem kn_row_kind (T : Fx K mg) : Kn P w K mg base "row_kind" 4 2 p_row_kind := kn_of T.f_row_kind sc_row_kind pm_row_kind pl_row_kind (dv_row_kind T (kn_check_pair T) (kn_check_prime T)) rd_row_kind
theorem kn__law_hand (T : Fx K mg) : Kn P w K mg base "_law_hand" 1 1 p__law_hand := kn_of T.f__law_hand sc__law_hand pm__law_hand pl__law_hand (dv__law_hand T ) rd__law_hand
theorem kn__law_draw (T : Fx K mg) : Kn P w K mg base "_law_draw" 1 2 p__law_draw := kn_of T.f__law_draw sc__law_draw pm__law_draw pl__law_draw (dv__law_draw T ) rd__law_draw
theorem kn__law_any (T : Fx K mg) : Kn P w K mg base "_law_any" 2 2 p__law_any := kn_of T.f__law_any sc__law_any pm__law_any pl__law_any (dv__law_any T (kn__law_draw T)) rd__law_any
theorem kn__law_triangle (T : Fx K mg) : Kn P w K mg base "_law_triangle" 1 1 p__law_triangle := kn_of T.f__law_triangle sc__law_triangle pm__law_triangle pl__law_triangle (dv__law_triangle T ) rd__law_triangle
theorem kn__law_figures (T : Fx K mg) : Kn P w K mg base "_law_figures" 1 2 p__law_figures := kn_of T.f__law_figures sc__law_figures pm__law_figures pl__law_figures (dv__law_figures T ) rd__law_figures
theorem kn__law_often (T : Fx K mg) : Kn P w K mg base "_law_often" 1 2 p__law_often := kn_of T.f__law_often sc__law_often pm__law_often pl__law_often (dv__law_often T ) rd__law_often
theorem kn__law_carried (T : Fx K mg) : Kn P w K mg base "_law_carried" 1 3 p__law_carried := kn_of T.f__law_carried sc__law_carried pm__law_carried pl__law_carried (dv__law_carried T ) rd__law_carried
theorem kn__law_great (T : Fx K mg) : Kn P w K mg base "_law_great" 2 2 p__law_great := kn_of T.f__law_great sc__law_great pm__law_great pl__law_great (dv__law_great T (kn__law_draw T)) rd__law_great
theorem kn__law_small_right (T : Fx K mg) : Kn P w K mg base "_law_small_right" 6 3 p__law_small_right := kn_of T.f__law_small_right sc__law_small_right pm__law_small_right pl__law_small_right (dv__law_small_right T (kn__law_draw T) (kn__law_often T) (kn_left_groups T) (kn_many_groups T) (kn_often_in_groups T) (kn_often_in_product T) (kn_product_left T) (kn_row_kind T)) rd__law_small_right
theorem kn__law_product_right (T : Fx K mg) : Kn P w K mg base "_law_product_right" 5 2 p__law_product_right := kn_of T.f__law_product_right sc__law_product_right pm__law_product_right pl__law_product_right (dv__law_product_right T (kn_often_in_product T) (kn_product_left T)) rd__law_product_right
theorem kn__law_great_right (T : Fx K mg) : Kn P w K mg base "_law_great_right" 6 3 p__law_great_right := kn_of T.f__law_great_right sc__law_great_right pm__law_great_right pl__law_great_right (dv__law_great_right T (kn__law_carried T) (kn__law_figures T) (kn__law_great T) (kn__law_product_right T) (kn_left_groups T) (kn_often_in_groups T) (kn_row_kind T)) rd__law_great_right
theorem fn_law (T : Fx K mg) {f : Addr} {fd : FuncData} (F : FunD K "law" "law" (defArgs s_law) (defBody s_law) (defScope s_law) [] [] f fd) : FnOk P w K mg base CX0 7 f fd ["script"] (LF K (pLaw 63)) := LF.fn F sc_law pLaw.len (dv_law T (kn__law_any T) (kn__law_great_right T) (kn__law_hand T) (kn__law_small_right T) (kn__law_triangle T) (kn_left_groups T) (kn_many_groups T) (kn_often_in_groups T) (kn_product_left T) (kn_row_kind T) f) rd_law
end
/-! ### the head -/
def dd_is_integer : He.DefD := ⟨("is_integer", none), "is_integer", "is_integer", defArgs s_is_integer, defBody s_is_integer, defScope s_is_integer, [], []⟩
def dd_is_within : He.DefD := ⟨("is_within", none), "is_within", "is_within", defArgs s_is_within, defBody s_is_within, defScope s_is_within, [], []⟩
def dd_least_divisor : He.DefD := ⟨("least_divisor", none), "least_divisor", "least_divisor", defArgs s_least_divisor, defBody s_least_divisor, defScope s_least_divisor, [], []⟩
def dd_check_prime : He.DefD := ⟨("check_prime", none), "check_prime", "check_prime", defArgs s_check_prime, defBody s_check_prime, defScope s_check_prime, [], []⟩
def dd_check_pair : He.DefD := ⟨("check_pair", none), "check_pair", "check_pair", defArgs s_check_pair, defBody s_check_pair, defScope s_check_pair, [], []⟩
def dd_groups : He.DefD := ⟨("groups", none), "groups", "groups", defArgs s_groups, defBody s_groups, defScope s_groups, [], []⟩
def dd_many_groups : He.DefD := ⟨("many_groups", none), "many_groups", "many_groups", defArgs s_many_groups, defBody s_many_groups, defScope s_many_groups, [], []⟩
def dd_left_groups : He.DefD := ⟨("left_groups", none), "left_groups", "left_groups", defArgs s_left_groups, defBody s_left_groups, defScope s_left_groups, [], []⟩
def dd_often_in_product : He.DefD := ⟨("often_in_product", none), "often_in_product", "often_in_product", defArgs s_often_in_product, defBody s_often_in_product, defScope s_often_in_product, [], []⟩
def dd_often_in_groups : He.DefD := ⟨("often_in_groups", none), "often_in_groups", "often_in_groups", defArgs s_often_in_groups, defBody s_often_in_groups, defScope s_often_in_groups, [], []⟩
def dd_product_left : He.DefD := ⟨("product_left", none), "product_left", "product_left", defArgs s_product_left, defBody s_product_left, defScope s_product_left, [], []⟩
def dd_row_kind : He.DefD := ⟨("row_kind", none), "row_kind", "row_kind", defArgs s_row_kind, defBody s_row_kind, defScope s_row_kind, [], []⟩
def dd__law_hand : He.DefD := ⟨("_law_hand", none), "_law_hand", "_law_hand", defArgs s__law_hand, defBody s__law_hand, defScope s__law_hand, [], []⟩
def dd__law_draw : He.DefD := ⟨("_law_draw", none), "_law_draw", "_law_draw", defArgs s__law_draw, defBody s__law_draw, defScope s__law_draw, [], []⟩
def dd__law_any : He.DefD := ⟨("_law_any", none), "_law_any", "_law_any", defArgs s__law_any, defBody s__law_any, defScope s__law_any, [], []⟩
def dd__law_triangle : He.DefD := ⟨("_law_triangle", none), "_law_triangle", "_law_triangle", defArgs s__law_triangle, defBody s__law_triangle, defScope s__law_triangle, [], []⟩
def dd__law_figures : He.DefD := ⟨("_law_figures", none), "_law_figures", "_law_figures", defArgs s__law_figures, defBody s__law_figures, defScope s__law_figures, [], []⟩
def dd__law_often : He.DefD := ⟨("_law_often", none), "_law_often", "_law_often", defArgs s__law_often, defBody s__law_often, defScope s__law_often, [], []⟩
def dd__law_carried : He.DefD := ⟨("_law_carried", none), "_law_carried", "_law_carried", defArgs s__law_carried, defBody s__law_carried, defScope s__law_carried, [], []⟩
def dd__law_great : He.DefD := ⟨("_law_great", none), "_law_great", "_law_great", defArgs s__law_great, defBody s__law_great, defScope s__law_great, [], []⟩
def dd__law_small_right : He.DefD := ⟨("_law_small_right", none), "_law_small_right", "_law_small_right", defArgs s__law_small_right, defBody s__law_small_right, defScope s__law_small_right, [], []⟩
def dd__law_product_right : He.DefD := ⟨("_law_product_right", none), "_law_product_right", "_law_product_right", defArgs s__law_product_right, defBody s__law_product_right, defScope s__law_product_right, [], []⟩
def dd__law_great_right : He.DefD := ⟨("_law_great_right", none), "_law_great_right", "_law_great_right", defArgs s__law_great_right, defBody s__law_great_right, defScope s__law_great_right, [], []⟩
def dd_law : He.DefD := ⟨("law", none), "law", "law", defArgs s_law, defBody s_law, defScope s_law, [], []⟩
def hfn : List He.DefD := [dd_is_integer, dd_is_within, dd_least_divisor, dd_check_prime, dd_check_pair, dd_groups, dd_many_groups, dd_left_groups, dd_often_in_product, dd_often_in_groups, dd_product_left, dd_row_kind, dd__law_hand, dd__law_draw, dd__law_any, dd__law_triangle, dd__law_figures, dd__law_often, dd__law_carried, dd__law_great, dd__law_small_right, dd__law_product_right, dd__law_great_right, dd_law]
def hfa : List He.Fa := [.glo "is_integer", .glo "is_within", .glo "least_divisor", .glo "check_prime", .glo "check_pair", .glo "groups", .glo "many_groups", .glo "left_groups", .glo "often_in_product", .glo "often_in_groups", .glo "product_left", .glo "row_kind", .glo "_law_hand", .glo "_law_draw", .glo "_law_any", .glo "_law_triangle", .glo "_law_figures", .glo "_law_often", .glo "_law_carried", .glo "_law_great", .glo "_law_small_right", .glo "_law_product_right", .glo "_law_great_right", .glo "law", .free "abs", .free "bool", .free "enumerate", .free "int", .free "isinstance", .free "len", .free "max", .free "min", .free "range", .int "MOST" 1000000000000]
abbrev hR : PySem.W.OpenRow := PySem.W.OpenLaw.row PySem.Challenge.rw_wholesworn_k69_whole_groups_left_and_how
abbrev hk : PySem.W.Hook := He.hookD 4 hfa hfn
def hob (s : PySem.W.SharedT) : He.AlD := He.obsDG 4 hfa hfn (HandSHeadRun.getT s)
theorem hob_eq (s : PySem.W.SharedT) : hob s = hk.obs s.abs := He.obsDG_eq (HandSHeadRun.getT_eq s)
def hloose : List PySem.Str := ["is_integer", "is_within", "SwornError", "NoNumber", "NoPrime", "least_divisor", "MOST", "check_prime", "check_pair", "groups", "many_groups", "left_groups", "often_in_product", "often_in_groups", "product_left", "row_kind", "_law_hand", "_law_draw", "_law_any", "_law_triangle", "_law_figures", "_law_often", "_law_carried", "_law_great", "_law_small_right", "_law_great_right", "_law_product_right"]
theorem hrun (w : World) : HandSHeadRun.RunEq hR (PySem.W.view hR.prog [32]) hk hob 4000 hloose w := by
  intro os
  kernel_rfl
theorem df_of {K : Frag} {h : Heap} {mg : Str → Option Value} (X : K.In h) (G : h.Ns mainGlobals mg) (c : He.SaysD hfa hfn K) (i j : Nat) {d : He.DefD} {x : Str} {st : Stmt} {ps : List Str} (hd : hfn[i]? = some d) (hg : hfa[j]? = some (.glo x)) (e : d = ⟨(x, none), x, x, defArgs st, defBody st, defScope st, [], []⟩)
    (hb : ∀ {f : Addr} {fd : FuncData}, FunD K x x (defArgs st) (defBody st) (defScope st) [] [] f fd → Binds K fd ps []) : Df K mg x st ps := by
  obtain ⟨fd, F⟩ := c.def_ i (d := d) hd
  subst e
  exact ⟨_, fd, F, He.glo_ok X G (c.fact j hg), hb F⟩
theorem fx_of {K : Frag} {h : Heap} {mg : Str → Option Value} (X : K.In h) (G : h.Ns mainGlobals mg) (c : He.SaysD hfa hfn K) : Fx K mg where
  n_abs := He.free_ok X G (c.fact 24 rfl)
  n_bool := He.free_ok X G (c.fact 25 rfl)
  n_enumerate := He.free_ok X G (c.fact 26 rfl)
  n_int := He.free_ok X G (c.fact 27 rfl)
  n_isinstance := He.free_ok X G (c.fact 28 rfl)
  n_len := He.free_ok X G (c.fact 29 rfl)
  n_max := He.free_ok X G (c.fact 30 rfl)
  n_min := He.free_ok X G (c.fact 31 rfl)
  n_range := He.free_ok X G (c.fact 32 rfl)
  c_MOST := He.int_ok X G (c.fact 33 rfl)
  f_is_integer := df_of X G c 0 0 rfl rfl rfl fun F => F.bindsN fun _ _ _ _ _ _ us hl => match us, hl with | [_], _ => rfl
  f_is_within := df_of X G c 1 1 rfl rfl rfl fun F => F.bindsN fun _ _ _ _ _ _ us hl => match us, hl with | [_, _, _], _ => rfl
  f_least_divisor := df_of X G c 2 2 rfl rfl rfl fun F => F.bindsN fun _ _ _ _ _ _ us hl => match us, hl with | [_], _ => rfl
  f_check_prime := df_of X G c 3 3 rfl rfl rfl fun F => F.bindsN fun _ _ _ _ _ _ us hl => match us, hl with | [_], _ => rfl
  f_check_pair := df_of X G c 4 4 rfl rfl rfl fun F => F.bindsN fun _ _ _ _ _ _ us hl => match us, hl with | [_, _], _ => rfl
  f_groups := df_of X G c 5 5 rfl rfl rfl fun F => F.bindsN fun _ _ _ _ _ _ us hl => match us, hl with | [_, _], _ => rfl
  f_many_groups := df_of X G c 6 6 rfl rfl rfl fun F => F.bindsN fun _ _ _ _ _ _ us hl => match us, hl with | [_, _], _ => rfl
  f_left_groups := df_of X G c 7 7 rfl rfl rfl fun F => F.bindsN fun _ _ _ _ _ _ us hl => match us, hl with | [_, _, _], _ => rfl
  f_often_in_product := df_of X G c 8 8 rfl rfl rfl fun F => F.bindsN fun _ _ _ _ _ _ us hl => match us, hl with | [_, _], _ => rfl
  f_often_in_groups := df_of X G c 9 9 rfl rfl rfl fun F => F.bindsN fun _ _ _ _ _ _ us hl => match us, hl with | [_, _, _], _ => rfl
  f_product_left := df_of X G c 10 10 rfl rfl rfl fun F => F.bindsN fun _ _ _ _ _ _ us hl => match us, hl with | [_, _], _ => rfl
  f_row_kind := df_of X G c 11 11 rfl rfl rfl fun F => F.bindsN fun _ _ _ _ _ _ us hl => match us, hl with | [_, _], _ => rfl
  f__law_hand := df_of X G c 12 12 rfl rfl rfl fun F => F.bindsN fun _ _ _ _ _ _ us hl => match us, hl with | [_], _ => rfl
  f__law_draw := df_of X G c 13 13 rfl rfl rfl fun F => F.bindsN fun _ _ _ _ _ _ us hl => match us, hl with | [_, _], _ => rfl
  f__law_any := df_of X G c 14 14 rfl rfl rfl fun F => F.bindsN fun _ _ _ _ _ _ us hl => match us, hl with | [_, _], _ => rfl
  f__law_triangle := df_of X G c 15 15 rfl rfl rfl fun F => F.bindsN fun _ _ _ _ _ _ us hl => match us, hl with | [_], _ => rfl
  f__law_figures := df_of X G c 16 16 rfl rfl rfl fun F => F.bindsN fun _ _ _ _ _ _ us hl => match us, hl with | [_, _], _ => rfl
  f__law_often := df_of X G c 17 17 rfl rfl rfl fun F => F.bindsN fun _ _ _ _ _ _ us hl => match us, hl with | [_, _], _ => rfl
  f__law_carried := df_of X G c 18 18 rfl rfl rfl fun F => F.bindsN fun _ _ _ _ _ _ us hl => match us, hl with | [_, _, _], _ => rfl
  f__law_great := df_of X G c 19 19 rfl rfl rfl fun F => F.bindsN fun _ _ _ _ _ _ us hl => match us, hl with | [_, _], _ => rfl
  f__law_small_right := df_of X G c 20 20 rfl rfl rfl fun F => F.bindsN fun _ _ _ _ _ _ us hl => match us, hl with | [_, _, _], _ => rfl
  f__law_product_right := df_of X G c 21 21 rfl rfl rfl fun F => F.bindsN fun _ _ _ _ _ _ us hl => match us, hl with | [_, _], _ => rfl
  f__law_great_right := df_of X G c 22 22 rfl rfl rfl fun F => F.bindsN fun _ _ _ _ _ _ us hl => match us, hl with | [_, _, _], _ => rfl
  f_law := df_of X G c 23 23 rfl rfl rfl fun F => F.bindsN fun _ _ _ _ _ _ us hl => match us, hl with | [_], _ => rfl
end M
open PySem PySem.W PySem.Calls PyProof.Rows
theorem PySem.Challenge.cw_wholesworn_k69_whole_groups_left_and_how_holds : PySem.Challenge.rw_wholesworn_k69_whole_groups_left_and_how.Holds := by
  w_on; o_law
  refine HandSHeadRun.head_any (r := OpenLaw.row PySem.Challenge.rw_wholesworn_k69_whole_groups_left_and_how) (q := view (OpenLaw.row PySem.Challenge.rw_wholesworn_k69_whole_groups_left_and_how).prog [32]) (H := M.hk) (ob := M.hob) (M := 4000) (loose := M.hloose) (d := HandSHeadRun.topDef (OpenLaw.row PySem.Challenge.rw_wholesworn_k69_whole_groups_left_and_how).prog 32) (kwd := []) M.hob_eq
    (by kernel_rfl) (fun s => by kernel_rfl) M.hrun (by kernel_rfl) (by kernel_rfl) (by kernel_rfl) (by rfl) (by first | assumption | decide +kernel) (by decide +kernel) ⟨rfl, rfl, rfl, rfl, rfl, by decide +kernel⟩ ?hw ?hc
  case hw => w_witness2
  case hc =>
    refine L2.walk_ofE (l := PySem.Challenge.rw_wholesworn_k69_whole_groups_left_and_how) (n := 63) (k := 7) (x := "script") (CX := L2.CX0) rfl (by decide) (by kernel_rfl) ⟨rfl, by decide, by decide⟩ ?F (fun _ _ _ _ z => z)
    intro w mg fa h Y G hmg0
    obtain ⟨K, KX, c⟩ := Y
    have hmg : mg ("law" : PySem.Str) = some (.ref fa) := by
      have e : (HandSHeadRun.topDef (OpenLaw.row PySem.Challenge.rw_wholesworn_k69_whole_groups_left_and_how).prog 32).name = ("law" : PySem.Str) := by kernel_rfl
      rw [← e]
      exact hmg0
    have T : M.Fx K mg := M.fx_of KX G c
    obtain ⟨f, fd, hF, hm, hb⟩ := T.f_law
    have ef := hmg.symm.trans hm
    cases ef
    have hA := L2.FunD.bindsA (ps := ["script"]) hF fun _ _ _ _ _ _ us hl => match us, hl with | [_], _ => rfl
    refine ⟨K, fd, M.LF K (M.pLaw 63), KX, fun s v => hA s [v] rfl, fun H a ns hl hO hS => M.law_sp hl hO hS _, fun base KB GB => ?_⟩
    exact M.fn_law T hF
