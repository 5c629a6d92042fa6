import PyProof.Rows.All
import Wide.All
import OpenK.AllK
import Wide.FinOn
import HandS.Base
import HandS.Call
import HandS.List
import HandS.Comp
import HandS.Exc
import HandS.Words
import HandS.WordsExc
import HandS.Ends
import HandS.Defaults
import HandS.HeadEnd
import HandS.HeadHook2
import HandS.Wide
import HandS.TupAny
import HandS.TupMul
import HandS.IsInst
import HandS.RaiseMore
import HandS.TupLe
import HandS.Text
import HandS.Codes
import PyProof.ReprRoads
import HandS.Iter
import KE.GoesEnum
import HandS.WideBits
import HandS.Head0
import HandS.Head1
import HandS.Head2
import HandS.HeadHook1
import PyProof.ReprBulk
import PyProof.FitsInt
import KE.KStateDown
import PyProof.CallStr
import HandS.Dict
import HandS.Style
import PySem.Challenge.RW_fragweave_k01_pieces_at_places
set_option Elab.async false
set_option linter.all false
set_option maxRecDepth 100000
set_option maxHeartbeats 4000000
/-! By-value layer: data D, what a value stands for (Rp), a frame's slots by value (SR), meanings as predicate transformers. -/
namespace BV
open PySem PySem.Spec L2

/-- data by value; obj: a thing that is known by its place alone -/
inductive D where
  | non | bl (b : Bool) | int (i : Int) | str (s : Str) | tup (xs : List D) | lst (xs : List D) | dct (kvs : List (Key × D)) | obj (a : Addr)

mutual
def Rp (K : PySem.W.Frag) (A : Addr → Prop) (H : Hp) : D → V → Prop
  | .non, v => v = .non
  | .bl b, v => v = .bl b
  | .int i, v => v = .int i
  | .str s, v => v = .str s
  | .tup ds, v => ∃ a vs, v = .ref a ∧ SqT K H a vs ∧ RpAll K A H ds vs
  | .lst ds, v => ∃ a vs, v = .ref a ∧ ¬ A a ∧ H a = some (.lst vs) ∧ RpAll K A H ds vs
  | .dct kvs, v => ∃ a us, v = .ref a ∧ ¬ A a ∧ H a = some (.dK us) ∧ RpKv K A H kvs us
  | .obj a, v => v = .ref a
def RpAll (K : PySem.W.Frag) (A : Addr → Prop) (H : Hp) : List D → List V → Prop
  | [], vs => vs = []
  | d :: ds, vs => ∃ v r, vs = v :: r ∧ Rp K A H d v ∧ RpAll K A H ds r
def RpKv (K : PySem.W.Frag) (A : Addr → Prop) (H : Hp) : List (Key × D) → List (Key × V) → Prop
  | [], us => us = []
  | (k, d) :: r, us => ∃ v s, us = (k, v) :: s ∧ Rp K A H d v ∧ RpKv K A H r s
end

section
variable {K : PySem.W.Frag} {A A' : Addr → Prop} {H H' : Hp}
/-! the heap goes on, fewer places are to be shunned -/
mutual
theorem Rp.go (hA : ∀ a u, A' a → ¬ A a → H a = some u → False) (kl : ∀ a u, H a = some u → ¬ A a → H' a = some u) (kt : ∀ a xs, Rd H a (.tup xs) → Rd H' a (.tup xs)) : ∀ (d : D) (v : V), Rp K A H d v → Rp K A' H' d v
  | .non, _, h => by simpa only [Rp] using h
  | .bl _, _, h => by simpa only [Rp] using h
  | .int _, _, h => by simpa only [Rp] using h
  | .str _, _, h => by simpa only [Rp] using h
  | .obj _, _, h => by simpa only [Rp] using h
  | .tup ds, v, h => by
    simp only [Rp] at h ⊢
    obtain ⟨a, vs, e, q, r⟩ := h
    refine ⟨a, vs, e, ?_, RpAll.go hA kl kt ds vs r⟩
    rcases q with q | q
    · exact .inl (kt _ _ q)
    · exact .inr q
  | .lst ds, v, h => by
    simp only [Rp] at h ⊢
    obtain ⟨a, vs, e, n, q, r⟩ := h
    exact ⟨a, vs, e, fun z => hA a _ z n q, kl _ _ q n, RpAll.go hA kl kt ds vs r⟩
  | .dct kvs, v, h => by
    simp only [Rp] at h ⊢
    obtain ⟨a, us, e, n, q, r⟩ := h
    exact ⟨a, us, e, fun z => hA a _ z n q, kl _ _ q n, RpKv.go hA kl kt kvs us r⟩
theorem RpAll.go (hA : ∀ a u, A' a → ¬ A a → H a = some u → False) (kl : ∀ a u, H a = some u → ¬ A a → H' a = some u) (kt : ∀ a xs, Rd H a (.tup xs) → Rd H' a (.tup xs)) : ∀ (ds : List D) (vs : List V), RpAll K A H ds vs → RpAll K A' H' ds vs
  | [], _, h => by simpa only [RpAll] using h
  | d :: ds, vs, h => by
    simp only [RpAll] at h ⊢
    obtain ⟨v, r, e, h1, h2⟩ := h
    exact ⟨v, r, e, Rp.go hA kl kt d v h1, RpAll.go hA kl kt ds r h2⟩
theorem RpKv.go (hA : ∀ a u, A' a → ¬ A a → H a = some u → False) (kl : ∀ a u, H a = some u → ¬ A a → H' a = some u) (kt : ∀ a xs, Rd H a (.tup xs) → Rd H' a (.tup xs)) : ∀ (ds : List (Key × D)) (us : List (Key × V)), RpKv K A H ds us → RpKv K A' H' ds us
  | [], _, h => by simpa only [RpKv] using h
  | (k, d) :: ds, us, h => by
    simp only [RpKv] at h ⊢
    obtain ⟨v, r, e, h1, h2⟩ := h
    exact ⟨v, r, e, Rp.go hA kl kt d v h1, RpKv.go hA kl kt ds r h2⟩
end
theorem RpAll.nil_iff {vs : List V} : RpAll K A H [] vs ↔ vs = [] := by simp only [RpAll]
theorem RpAll.cons {d : D} {ds : List D} {v : V} {vs : List V} (h : Rp K A H d v) (h2 : RpAll K A H ds vs) : RpAll K A H (d :: ds) (v :: vs) := by
  simp only [RpAll]; exact ⟨v, vs, rfl, h, h2⟩
theorem RpAll.nil : RpAll K A H [] [] := by simp only [RpAll]
theorem RpAll.length : ∀ {ds : List D} {vs : List V}, RpAll K A H ds vs → vs.length = ds.length
  | [], _, h => by simp only [RpAll] at h; subst h; rfl
  | d :: ds, _, h => by
    simp only [RpAll] at h
    obtain ⟨v, r, rfl, _, h2⟩ := h
    simp only [List.length_cons, RpAll.length h2]
theorem RpAll.get : ∀ {ds : List D} {vs : List V} {i : Nat} {d : D}, RpAll K A H ds vs → ds[i]? = some d → ∃ v, vs[i]? = some v ∧ Rp K A H d v
  | [], _, _, _, _, e => by simp at e
  | d :: ds, _, 0, _, h, e => by
    simp only [RpAll] at h
    obtain ⟨v, r, rfl, h1, _⟩ := h
    simp at e; subst e
    exact ⟨v, rfl, h1⟩
  | d :: ds, _, i + 1, x, h, e => by
    simp only [RpAll] at h
    obtain ⟨v, r, rfl, _, h2⟩ := h
    obtain ⟨u, e1, e2⟩ := RpAll.get (i := i) (d := x) h2 (by simpa using e)
    exact ⟨u, by simpa using e1, e2⟩
theorem RpAll.append : ∀ {ds es : List D} {vs us : List V}, RpAll K A H ds vs → RpAll K A H es us → RpAll K A H (ds ++ es) (vs ++ us)
  | [], _, _, _, h, h2 => by
    simp only [RpAll] at h; subst h; exact h2
  | d :: ds, _, _, _, h, h2 => by
    simp only [RpAll] at h
    obtain ⟨v, r, rfl, h1, h3⟩ := h
    exact RpAll.cons h1 (RpAll.append h3 h2)
theorem RpAll.take : ∀ (n : Nat) {ds : List D} {vs : List V}, RpAll K A H ds vs → RpAll K A H (ds.take n) (vs.take n)
  | 0, _, _, _ => by rw [List.take_zero, List.take_zero]; exact RpAll.nil
  | n + 1, [], _, h => by simp only [RpAll] at h; subst h; exact RpAll.nil
  | n + 1, d :: ds, _, h => by
    simp only [RpAll] at h
    obtain ⟨v, r, rfl, h1, h3⟩ := h
    exact RpAll.cons h1 (RpAll.take n h3)
theorem RpAll.drop : ∀ (n : Nat) {ds : List D} {vs : List V}, RpAll K A H ds vs → RpAll K A H (ds.drop n) (vs.drop n)
  | 0, _, _, h => h
  | n + 1, [], _, h => by simp only [RpAll] at h; subst h; exact RpAll.nil
  | n + 1, d :: ds, _, h => by
    simp only [RpAll] at h
    obtain ⟨v, r, rfl, h1, h3⟩ := h
    exact RpAll.drop n h3
theorem RpAll.reverse : ∀ {ds : List D} {vs : List V}, RpAll K A H ds vs → RpAll K A H ds.reverse vs.reverse
  | [], _, h => by simp only [RpAll] at h; subst h; exact RpAll.nil
  | d :: ds, _, h => by
    simp only [RpAll] at h
    obtain ⟨v, r, rfl, h1, h3⟩ := h
    rw [List.reverse_cons, List.reverse_cons]
    exact RpAll.append (RpAll.reverse h3) (RpAll.cons h1 RpAll.nil)
theorem RpAll.set : ∀ (i : Nat) {ds : List D} {vs : List V} {d : D} {v : V}, RpAll K A H ds vs → Rp K A H d v → RpAll K A H (ds.set i d) (vs.set i v)
  | _, [], _, _, _, h, _ => by simp only [RpAll] at h; subst h; exact RpAll.nil
  | 0, e :: ds, _, d, v, h, hd => by
    simp only [RpAll] at h
    obtain ⟨u, r, rfl, h1, h3⟩ := h
    exact RpAll.cons hd h3
  | i + 1, e :: ds, _, d, v, h, hd => by
    simp only [RpAll] at h
    obtain ⟨u, r, rfl, h1, h3⟩ := h
    exact RpAll.cons h1 (RpAll.set i h3 hd)
theorem RpAll.rep {ds : List D} {vs : List V} (h : RpAll K A H ds vs) : ∀ n : Nat, RpAll K A H (List.replicate n ds).flatten (List.replicate n vs).flatten
  | 0 => RpAll.nil
  | n + 1 => by
    rw [List.replicate_succ, List.replicate_succ, List.flatten_cons, List.flatten_cons]
    exact h.append (RpAll.rep h n)
end

/-! ### the ghost of a def's run -/
/-- dk: places that a call may change (a law's deck); DI: what holds of them; av: places that data of this frame's arguments shun (the callers' own lists, the deck) -/
structure Dk where
  p : Addr
  a0 : Addr
  y : V
/-- a law's deck: [[ints from 0 on], a list of ints from 0 on or an int, the number of draws] -/
def Dk.has (d : Dk) (a : Addr) : Prop := a = d.p ∨ a = d.a0 ∨ d.y = .ref a
/-- whether the deck's second part is an int (a law's own kind of deck) -/
def yInt : Bool := false
def Dk.Yok (d : Dk) (H : Hp) : Prop := match d.y with
  | .int m => yInt = true ∧ 0 ≤ m
  | .ref a => yInt = false ∧ a ≠ d.p ∧ a ≠ d.a0 ∧ ∃ ms : List Nat, ms ≠ [] ∧ H a = some (.lst (ms.map fun (k : Nat) => V.int k))
  | _ => False
def Dk.Inv (d : Dk) (n : Nat) (H : Hp) : Prop := d.p ≠ d.a0 ∧ d.Yok H ∧ ∃ (ns : List Nat) (c : Nat), c ≤ n ∧ H d.p = some (.lst [.ref d.a0, d.y, .int c]) ∧ H d.a0 = some (.lst (ns.map fun (k : Nat) => V.int k))
structure Gh where
  dk : Addr → Prop
  DI : Nat → Hp → Prop
  av : Addr → Prop
  sub : ∀ a, dk a → av a
  tr : ∀ n H a, DI n H → dk a → ∃ xs, H a = some (.lst xs)
  st : ∀ n H H', DI n H → (∀ a, dk a → H' a = H a) → DI n H'
  mo : ∀ n n' H, DI n H → n ≤ n' → DI n' H
  dp : Addr → Prop
  cd : ∀ p, dp p → ∃ d : Dk, d.p = p ∧ (∀ a, dk a ↔ d.has a) ∧ ∀ n H, DI n H ↔ d.Inv n H

structure Kp (G : Gh) (n : Nat) (H H' : Hp) : Prop where
  keep : ∀ a o, H a = some o → ¬ G.dk a → H' a = some o
  di : G.DI n H'
theorem Kp.trans {G : Gh} {n n' : Nat} {H H1 H2 : Hp} (a : Kp G n H H1) (b : Kp G n' H1 H2) : Kp G n' H H2 := ⟨fun x o h n => b.keep x o (a.keep x o h n) n, b.di⟩
theorem Kp.le {G : Gh} {n n' : Nat} {H H' : Hp} (a : Kp G n H H') (h : n ≤ n') : Kp G n' H H' := ⟨a.keep, G.mo n n' H' a.di h⟩
theorem Kp.refl {G : Gh} {n : Nat} {H : Hp} (h : G.DI n H) : Kp G n H H := ⟨fun _ _ h _ => h, h⟩
theorem Kp.new {G : Gh} {n : Nat} {H : Hp} {p : Addr} {o : HO} (h : G.DI n H) (hp : H p = none) : Kp G n H (upd H p o) :=
  ⟨fun a u e _ => by rw [upd_ne (ne_of_none e hp)]; exact e, G.st n H _ h fun a ha => by
    obtain ⟨xs, e⟩ := G.tr n H a h ha
    rw [upd_ne (ne_of_none e hp)]⟩
theorem Kp.none {G : Gh} {n : Nat} {H H' : Hp} (k : Kp G n H H') {p : Addr} (h : H' p = none) : H p = none := by
  cases e : H p with
  | none => rfl
  | some o =>
    by_cases hd : G.dk p
    · obtain ⟨xs, e2⟩ := G.tr n H' p k.di hd
      rw [h] at e2; cases e2
    · rw [k.keep p o e hd] at h; cases h
theorem Kp.lst {G : Gh} {n : Nat} {H H' : Hp} (k : Kp G n H H') {a : Addr} (h : ∃ xs, H a = some (.lst xs)) : ∃ xs, H' a = some (.lst xs) := by
  obtain ⟨xs, e⟩ := h
  by_cases hd : G.dk a
  · exact G.tr n H' a k.di hd
  · exact ⟨xs, k.keep a _ e hd⟩
theorem Kp.rd {G : Gh} {n : Nat} {H H' : Hp} (k : Kp G n H H') {a : Addr} {u : HO} (h : Rd H a u) (nd : ¬ G.dk a) : Rd H' a u := by
  rcases h with h | ⟨o, h⟩
  · exact .inl (k.keep _ _ h nd)
  · exact .inr ⟨o, k.keep _ _ h nd⟩
theorem Kp.rdT {G : Gh} {n n' : Nat} {H H' : Hp} (k : Kp G n H H') (d : G.DI n' H) {a : Addr} {xs : List V} (h : Rd H a (.tup xs)) : Rd H' a (.tup xs) := by
  refine k.rd h fun nd => ?_
  obtain ⟨ys, e⟩ := G.tr n' H a d nd
  rcases h with h | ⟨o, h⟩
  · rw [h] at e; cases e
  · rw [h] at e; cases e
section
variable {K : PySem.W.Frag} {G : Gh} {n n' : Nat} {A : Addr → Prop} {H H' : Hp}
theorem Kp.rp (k : Kp G n H H') (d : G.DI n' H) (s : ∀ a, G.dk a → A a) {x : D} {v : V} (h : Rp K A H x v) : Rp K A H' x v :=
  Rp.go (fun _ _ z n _ => n z) (fun a u r n => k.keep a u r fun z => n (s a z)) (fun _ _ r => k.rdT d r) x v h
theorem Kp.rpAll (k : Kp G n H H') (d : G.DI n' H) (s : ∀ a, G.dk a → A a) {x : List D} {v : List V} (h : RpAll K A H x v) : RpAll K A H' x v :=
  RpAll.go (fun _ _ z n _ => n z) (fun a u r n => k.keep a u r fun z => n (s a z)) (fun _ _ r => k.rdT d r) x v h
theorem Rp.weak {A' : Addr → Prop} (h : ∀ a, A' a → A a) {x : D} {v : V} (r : Rp K A H x v) : Rp K A' H x v :=
  Rp.go (fun a _ z n _ => n (h a z)) (fun _ _ r _ => r) (fun _ _ r => r) x v r
theorem RpAll.weak {A' : Addr → Prop} (h : ∀ a, A' a → A a) {x : List D} {v : List V} (r : RpAll K A H x v) : RpAll K A' H x v :=
  RpAll.go (fun a _ z n _ => n (h a z)) (fun _ _ r _ => r) (fun _ _ r => r) x v r
end

/-! ### slots by value -/
inductive Sl where
  | no | val (d : D) | own (ds : List D)
abbrev En := List Sl

def owns : St → En → List Addr
  | some (.ref a) :: s, .own _ :: e => a :: owns s e
  | _ :: s, _ :: e => owns s e
  | _, _ => []
def Av (G : Gh) (s : St) (e : En) (a : Addr) : Prop := G.av a ∨ a ∈ owns s e

def Slot (K : PySem.W.Frag) (A B : Addr → Prop) (H : Hp) (v : Option V) : Sl → Prop
  | .no => True
  | .val d => ∃ x, v = some x ∧ Rp K A H d x
  | .own ds => ∃ a vs, v = some (.ref a) ∧ ¬ B a ∧ H a = some (.lst vs) ∧ RpAll K A H ds vs
def Slots (K : PySem.W.Frag) (A B : Addr → Prop) (H : Hp) : St → En → Prop
  | [], [] => True
  | v :: s, x :: e => Slot K A B H v x ∧ Slots K A B H s e
  | _, _ => False

structure SR (K : PySem.W.Frag) (G : Gh) (n : Nat) (s : St) (H : Hp) (e : En) : Prop where
  sl : Slots K (Av G s e) G.av H s e
  di : G.DI n H
  tr : ∀ a, G.av a → ∃ xs, H a = some (.lst xs)
  nd : (owns s e).Nodup

section
variable {K : PySem.W.Frag} {G : Gh} {n n' : Nat} {A A' B : Addr → Prop} {H H' : Hp} {s : St} {e : En}
theorem Slots.length : ∀ {s : St} {e : En}, Slots K A B H s e → s.length = e.length
  | [], [], _ => rfl
  | [], _ :: _, h => False.elim h
  | _ :: _, [], h => False.elim h
  | _ :: s, _ :: e, h => by
    obtain ⟨_, h2⟩ := h
    simp only [List.length_cons, Slots.length h2]
theorem Slots.get : ∀ {s : St} {e : En} {i : Nat} {x : Sl}, Slots K A B H s e → e[i]? = some x → ∃ v, s[i]? = some v ∧ Slot K A B H v x
  | [], [], _, _, _, q => by simp at q
  | [], _ :: _, _, _, h, _ => False.elim h
  | _ :: _, [], _, _, h, _ => False.elim h
  | v :: s, y :: e, 0, x, h, q => by
    obtain ⟨h1, _⟩ := h
    simp at q; subst q
    exact ⟨v, rfl, h1⟩
  | v :: s, y :: e, i + 1, x, h, q => by
    obtain ⟨_, h2⟩ := h
    obtain ⟨u, e1, e2⟩ := Slots.get (i := i) (x := x) h2 (by simpa using q)
    exact ⟨u, by simpa using e1, e2⟩
theorem Slots.set : ∀ {s : St} {e : En} (i : Nat) {x : Sl} {v : Option V}, Slots K A B H s e → Slot K A B H v x → Slots K A B H (s.set i v) (e.set i x)
  | [], [], _, _, _, h, _ => h
  | [], _ :: _, _, _, _, h, _ => False.elim h
  | _ :: _, [], _, _, _, h, _ => False.elim h
  | v :: s, y :: e, 0, x, u, h, q => ⟨q, h.2⟩
  | v :: s, y :: e, i + 1, x, u, h, q => ⟨h.1, Slots.set i h.2 q⟩
theorem Slots.map (f : ∀ v x, Slot K A B H v x → Slot K A' B H' v x) : ∀ {s : St} {e : En}, Slots K A B H s e → Slots K A' B H' s e
  | [], [], h => h
  | [], _ :: _, h => False.elim h
  | _ :: _, [], h => False.elim h
  | v :: s, y :: e, h => ⟨f v y h.1, Slots.map f h.2⟩
theorem owns_get : ∀ {s : St} {e : En} {a : Addr}, a ∈ owns s e → ∃ (i : Nat) (ds : List D), s[i]? = some (some (V.ref a)) ∧ e[i]? = some (Sl.own ds)
  | [], e, a, h => by simp [owns] at h
  | some (.ref b) :: s, .own ds :: e, a, h => by
    rcases List.mem_cons.mp (show a ∈ b :: owns s e from h) with z | z
    · subst z; exact ⟨0, ds, rfl, rfl⟩
    · obtain ⟨i, ds', e1, e2⟩ := owns_get z
      exact ⟨i + 1, ds', by simpa using e1, by simpa using e2⟩
  | v :: s, [], a, h => by
    cases v with
    | none => simp [owns] at h
    | some v => cases v <;> simp [owns] at h
  | v :: s, x :: e, a, h => by
    have key : a ∈ owns s e ∨ ∃ b ds, v = some (.ref b) ∧ x = .own ds := by
      cases v with
      | none => cases x <;> exact .inl h
      | some v => cases v <;> cases x <;> first | exact .inl h | exact .inr ⟨_, _, rfl, rfl⟩
    rcases key with z | ⟨b, ds, rfl, rfl⟩
    · obtain ⟨i, ds', e1, e2⟩ := owns_get z
      exact ⟨i + 1, ds', by simpa using e1, by simpa using e2⟩
    · rcases List.mem_cons.mp (show a ∈ b :: owns s e from h) with z | z
      · subst z; exact ⟨0, ds, rfl, rfl⟩
      · obtain ⟨i, ds', e1, e2⟩ := owns_get z
        exact ⟨i + 1, ds', by simpa using e1, by simpa using e2⟩
theorem owns_in : ∀ {s : St} {e : En} {i : Nat} {a : Addr} {ds : List D}, s[i]? = some (some (.ref a)) → e[i]? = some (.own ds) → a ∈ owns s e
  | [], _, _, _, _, h, _ => by simp at h
  | _ :: _, [], _, _, _, _, h => by simp at h
  | v :: s, x :: e, 0, a, ds, h1, h2 => by
    simp at h1 h2; subst h1; subst h2
    show a ∈ a :: owns s e
    exact List.mem_cons_self
  | v :: s, x :: e, i + 1, a, ds, h1, h2 => by
    have z := owns_in (s := s) (e := e) (i := i) (a := a) (ds := ds) (by simpa using h1) (by simpa using h2)
    cases v with
    | none => exact z
    | some v => cases v <;> cases x <;> first | exact z | exact List.mem_cons_of_mem _ z
theorem SR.trk (r : SR K G n s H e) {a : Addr} (h : Av G s e a) : ∃ xs, H a = some (.lst xs) := by
  rcases h with h | h
  · exact r.tr a h
  · obtain ⟨i, ds, e1, e2⟩ := owns_get h
    obtain ⟨v, e3, b, vs, e4, _, e5, _⟩ := r.sl.get e2
    rw [e1] at e3; cases e3; cases e4
    exact ⟨vs, e5⟩
theorem SR.dkA (r : SR K G n s H e) {a : Addr} (h : G.dk a) : Av G s e a := .inl (G.sub a h)
/-- the heap goes on beneath the same slots -/
theorem SR.kp (r : SR K G n s H e) (k : Kp G n' H H') : SR K G n' s H' e := by
  refine ⟨Slots.map (fun v x h => ?_) r.sl, k.di, fun a h => k.lst (r.tr a h), r.nd⟩
  cases x with
  | no => exact h
  | val d =>
    obtain ⟨x, e1, e2⟩ := h
    exact ⟨x, e1, k.rp r.di (fun a z => .inl (G.sub a z)) e2⟩
  | own ds =>
    obtain ⟨a, vs, e1, e0, e2, e3⟩ := h
    exact ⟨a, vs, e1, e0, k.keep a _ e2 fun z => e0 (G.sub a z), k.rpAll r.di (fun a z => .inl (G.sub a z)) e3⟩
theorem SR.le (r : SR K G n s H e) (h : n ≤ n') : SR K G n' s H e := ⟨r.sl, G.mo n n' H r.di h, r.tr, r.nd⟩
end
/-- no more than so many draws -/
@[irreducible] def capB : Nat := 2 ^ 200000
end BV

namespace BV
open PySem PySem.Spec L2

/-! ### weakest readings -/
section
variable (X : Cx)
def wpE (e : Expr) : TE := fun s H Q => ∀ pins sh, Inv X pins s H sh → wpAny (model X.prog X.w) X.A (eval e X.env) (EP X pins s Q) X.xe sh
def wpT (e : Expr) : TT := fun s H Q => ∀ pins sh, Inv X pins s H sh → wpAny (model X.prog X.w) X.A (isTrue e X.env (eval e X.env)) (TP X pins s Q) X.xe sh
def wpW (e : Expr) : TT := fun s H Q => ∀ whole pins sh, Inv X pins s H sh → wpAny (model X.prog X.w) X.A (isTrue e X.env whole) (TP X pins s Q) X.xe sh
def wpA (es : List Expr) : TA := fun s H Q => ∀ pos pins sh, Inv X pins s H sh → wpAny (model X.prog X.w) X.A (spliced (backTo pos (starEach es X.env))) (AP X pins s Q) X.xe sh
def wpS (st : Stmt) : TS := fun D s H => ∀ pins sh, Inv X pins s H sh → wpAny (model X.prog X.w) X.A (exec st X.env) (SP X pins D) X.xe sh
def wpG (tg : Expr) : TG := fun v s H Q => ∀ pins sh u, Inv X pins s H sh → RelV v u → wpAny (model X.prog X.w) X.A (assign tg X.env u) (fun _ s' => ∃ s1 H', Inv X pins s1 H' s' ∧ Q s1 H') X.xe sh
def wpI (tg iter : Expr) : TI := fun s H R => ∀ pins sh, Inv X pins s H sh → wpAny (model X.prog X.w) X.A (eval iter X.env) (fun v s1 => wpAny (model X.prog X.w) X.A (pyIter v) (PIE X pins s tg R) X.xe s1) X.xe sh
def wpO (f : Value → Value → Sem Value) : R2 := fun x y H Q => ∀ pins sh s v u, Inv X pins s H sh → RelV x v → RelV y u → wpAny (model X.prog X.w) X.A (f v u) (EP X pins s Q) X.xe sh
def wpU (f : Value → Sem Value) : V → Hp → VK → Prop := fun x H Q => ∀ pins sh s v, Inv X pins s H sh → RelV x v → wpAny (model X.prog X.w) X.A (f v) (EP X pins s Q) X.xe sh
def wpC (f : Value) : List V → Hp → VK → Prop := fun xs H Q => ∀ pins sh s us, Inv X pins s H sh → Vals xs us → wpAny (model X.prog X.w) X.A (call f us) (EP X pins s Q) X.xe sh
def wpM (id : String) : V → List V → Hp → VK → Prop := fun x xs H Q => ∀ pins sh s v us, Inv X pins s H sh → RelV x v → Vals xs us → wpAny (model X.prog X.w) X.A (call (.builtin id) (v :: us)) (EP X pins s Q) X.xe sh
def wpX : R2 := fun x y H Q => ∀ value slice pins sh s v u, Inv X pins s H sh → RelV x v → RelV y u → subscripted slice false v u = operate [v, u] (getItem v u) → wpAny (model X.prog X.w) X.A (PyProof.Rows.subscriptTail value slice v u) (EP X pins s Q) X.xe sh
end
/-- statements: what is wanted of their run -/
structure wpSs (X : Cx) (st : List Stmt) (D : Ends) (s : L2.St) (H : Hp) : Prop where
  run : ∀ pins sh, Inv X pins s H sh → wpAny (model X.prog X.w) X.A (execs st X.env) (SP X pins D) X.xe sh
section
variable {X : Cx}
theorem peW {e : Expr} : PE X e (wpE X e) := ⟨fun pins s _ _ _ I h => h pins s I⟩
theorem ptW {e : Expr} : PT X e (wpT X e) := ⟨fun pins s _ _ _ I h => h pins s I⟩
theorem pwW {e : Expr} : PW X e (wpW X e) := ⟨fun wh pins s _ _ _ I h => h wh pins s I⟩
theorem paW {e : List Expr} : PA X e (wpA X e) := ⟨fun pos pins s _ _ _ I h => h pos pins s I⟩
theorem psW {e : Stmt} : PS X e (wpS X e) := ⟨fun pins s _ _ _ I h => h pins s I⟩
theorem pssW {e : List Stmt} : PSs X e (wpSs X e) := ⟨fun pins s _ _ _ I h => h.run pins s I⟩
theorem pgW {e : Expr} : PG X e (wpG X e) := ⟨fun pins s _ _ _ u _ I r h => h pins s u I r⟩
theorem piW {tg e : Expr} : PI X tg e (wpI X tg e) := ⟨fun pins s _ _ _ I h => h pins s I⟩
theorem opW {f : Value → Value → Sem Value} : OpR X f (wpO X f) := fun pins sh s _ _ _ v u _ I r q h => h pins sh s v u I r q
theorem unW {f : Value → Sem Value} : UnR X f (wpU X f) := fun pins sh s _ _ v _ I r h => h pins sh s v I r
theorem caW {f : Value} : CallR X f (wpC X f) := fun pins sh s _ _ us _ I r h => h pins sh s us I r
theorem mtW {id : String} : MtR X id (wpM X id) := fun pins sh s _ _ _ v us _ I r q h => h pins sh s v us I r q
theorem ixW : IxR X (wpX X) := fun value slice pins sh s _ _ _ v u _ I r q h e => h value slice pins sh s v u I r q e
theorem leE {e : Expr} {t : TE} (h : PE X e t) {s : L2.St} {H : Hp} {Q : VK} (q : t s H Q) : wpE X e s H Q := fun pins sh I => h.run pins sh s H Q I q
theorem leT {e : Expr} {t : TT} (h : PT X e t) {s : L2.St} {H : Hp} {Q : Bool → Hp → Prop} (q : t s H Q) : wpT X e s H Q := fun pins sh I => h.run pins sh s H Q I q
theorem leW {e : Expr} {t : TT} (h : PW X e t) {s : L2.St} {H : Hp} {Q : Bool → Hp → Prop} (q : t s H Q) : wpW X e s H Q := fun wh pins sh I => h.run wh pins sh s H Q I q
theorem leA {e : List Expr} {t : TA} (h : PA X e t) {s : L2.St} {H : Hp} {Q : List V → Hp → Prop} (q : t s H Q) : wpA X e s H Q := fun pos pins sh I => h.run pos pins sh s H Q I q
theorem leS {e : Stmt} {t : TS} (h : PS X e t) {s : L2.St} {H : Hp} {D : Ends} (q : t D s H) : wpS X e D s H := fun pins sh I => h.run pins sh s H D I q
theorem leSs {e : List Stmt} {t : TS} (h : PSs X e t) {s : L2.St} {H : Hp} {D : Ends} (q : t D s H) : wpSs X e D s H := .mk fun pins sh I => h.run pins sh s H D I q
theorem leG {e : Expr} {t : TG} (h : PG X e t) {v : V} {s : L2.St} {H : Hp} {Q : L2.St → Hp → Prop} (q : t v s H Q) : wpG X e v s H Q := fun pins sh u I r => h.run pins sh s H v u Q I r q
theorem leI {tg e : Expr} {t : TI} (h : PI X tg e t) {s : L2.St} {H : Hp} {R : It → Hp → Prop} (q : t s H R) : wpI X tg e s H R := fun pins sh I => h.run pins sh s H R I q
theorem leO {f : Value → Value → Sem Value} {r : R2} (h : OpR X f r) {x y : V} {H : Hp} {Q : VK} (q : r x y H Q) : wpO X f x y H Q := fun pins sh s v u I a b => h pins sh s H x y v u Q I a b q
theorem leU {f : Value → Sem Value} {r : V → Hp → VK → Prop} (h : UnR X f r) {x : V} {H : Hp} {Q : VK} (q : r x H Q) : wpU X f x H Q := fun pins sh s v I a => h pins sh s H x v Q I a q
theorem leC {f : Value} {r : List V → Hp → VK → Prop} (h : CallR X f r) {xs : List V} {H : Hp} {Q : VK} (q : r xs H Q) : wpC X f xs H Q := fun pins sh s us I a => h pins sh s H xs us Q I a q
theorem leM {id : String} {r : V → List V → Hp → VK → Prop} (h : MtR X id r) {x : V} {xs : List V} {H : Hp} {Q : VK} (q : r x xs H Q) : wpM X id x xs H Q := fun pins sh s v us I a b => h pins sh s H x xs v us Q I a b q
theorem leX {r : R2} (h : IxR X r) {x y : V} {H : Hp} {Q : VK} (q : r x y H Q) : wpX X x y H Q := fun value slice pins sh s v u I a b e => h value slice pins sh s H x y v u Q I a b q e
end

/-! ### a borrowed value: a list of this frame's own may stand at its top -/
def Bw (K : PySem.W.Frag) (A dk : Addr → Prop) (H : Hp) : D → V → Prop
  | .lst ds, v => ∃ a vs, v = .ref a ∧ ¬ dk a ∧ H a = some (.lst vs) ∧ RpAll K A H ds vs
  | d, v => Rp K A H d v
def BwAll (K : PySem.W.Frag) (A dk : Addr → Prop) (H : Hp) : List D → List V → Prop
  | [], vs => vs = []
  | d :: ds, vs => ∃ v r, vs = v :: r ∧ Bw K A dk H d v ∧ BwAll K A dk H ds r
structure Go (G : Gh) (n : Nat) (A : Addr → Prop) (H : Hp) : Prop where
  di : G.DI n H
  sub : ∀ a, G.dk a → A a
  tr : ∀ a, A a → ∃ xs, H a = some (.lst xs)
section
variable {K : PySem.W.Frag} {G : Gh} {n n' : Nat} {A dk : Addr → Prop} {H H' : Hp} {s : L2.St} {e : En}
theorem SR.go (r : SR K G n s H e) : Go G n (Av G s e) H := ⟨r.di, fun _ h => r.dkA h, fun _ h => r.trk h⟩
theorem Go.kp (g : Go G n A H) (k : Kp G n' H H') : Go G n' A H' := ⟨k.di, g.sub, fun a h => k.lst (g.tr a h)⟩
theorem Go.rp (g : Go G n A H) (k : Kp G n' H H') {d : D} {v : V} (r : Rp K A H d v) : Rp K A H' d v := k.rp g.di g.sub r
theorem Go.rpAll (g : Go G n A H) (k : Kp G n' H H') {d : List D} {v : List V} (r : RpAll K A H d v) : RpAll K A H' d v := k.rpAll g.di g.sub r
theorem Go.fresh (g : Go G n A H) {p : Addr} (h : H p = none) : ¬ A p := fun z => by
  obtain ⟨xs, e⟩ := g.tr p z
  rw [h] at e; cases e
theorem Go.notT (g : Go G n A H) {p : Addr} {xs : List V} (h : Rd H p (.tup xs)) : ¬ A p := fun z => by
  obtain ⟨ys, e⟩ := g.tr p z
  rcases h with h | ⟨o, h⟩ <;> rw [h] at e <;> cases e
theorem Go.new (g : Go G n A H) {p : Addr} (h : H p = none) {o : HO} : Kp G n H (upd H p o) := Kp.new g.di h
theorem Rp.bw (h : ∀ a, dk a → A a) {d : D} {v : V} (r : Rp K A H d v) : Bw K A dk H d v := by
  cases d with
  | lst ds =>
    simp only [Rp] at r
    obtain ⟨a, vs, e, n, q, r⟩ := r
    exact ⟨a, vs, e, fun z => n (h a z), q, r⟩
  | non => exact r
  | bl _ => exact r
  | int _ => exact r
  | str _ => exact r
  | tup _ => exact r
  | dct _ => exact r
  | obj _ => exact r
theorem Go.bw (g : Go G n A H) (k : Kp G n' H H') {d : D} {v : V} (r : Bw K A G.dk H d v) : Bw K A G.dk H' d v := by
  cases d with
  | lst ds =>
    obtain ⟨a, vs, e, n, q, r⟩ := r
    exact ⟨a, vs, e, n, k.keep a _ q n, g.rpAll k r⟩
  | non => exact g.rp (K := K) k (d := .non) r
  | bl b => exact g.rp (K := K) k (d := .bl b) r
  | int b => exact g.rp (K := K) k (d := .int b) r
  | str b => exact g.rp (K := K) k (d := .str b) r
  | tup b => exact g.rp (K := K) k (d := .tup b) r
  | dct b => exact g.rp (K := K) k (d := .dct b) r
  | obj b => exact g.rp (K := K) k (d := .obj b) r
theorem BwAll.cons {d : D} {ds : List D} {v : V} {vs : List V} (h : Bw K A dk H d v) (h2 : BwAll K A dk H ds vs) : BwAll K A dk H (d :: ds) (v :: vs) := ⟨v, vs, rfl, h, h2⟩
theorem Rp.tup {a : Addr} {vs : List V} {ds : List D} (h : SqT K H a vs) (r : RpAll K A H ds vs) : Rp K A H (.tup ds) (.ref a) := by
  simp only [Rp]; exact ⟨a, vs, rfl, h, r⟩
theorem Rp.lst {a : Addr} {vs : List V} {ds : List D} (n : ¬ A a) (h : H a = some (.lst vs)) (r : RpAll K A H ds vs) : Rp K A H (.lst ds) (.ref a) := by
  simp only [Rp]; exact ⟨a, vs, rfl, n, h, r⟩
/-- what stood ahead of a new place shuns it -/
theorem Go.rpNew (g : Go G n A H) {p : Addr} (h : H p = none) {o : HO} {vs : List V} {ds : List D} (r : RpAll K A H ds vs) : RpAll K (fun b => A b ∨ b = p) (upd H p o) ds vs :=
  RpAll.go (fun a u z n q => z.elim n fun e => by
    subst e
    rw [h] at q; cases q) (fun a u q n => (g.new h).keep a u q fun z => n (g.sub a z)) (fun a xs q => (g.new h).rdT g.di q) ds vs r
/-- a new list, a new tuple -/
theorem Go.newL (g : Go G n A H) {p : Addr} (h : H p = none) {vs : List V} {ds : List D} (r : RpAll K A H ds vs) : Rp K A (upd H p (.lst vs)) (.lst ds) (.ref p) :=
  Rp.lst (g.fresh h) upd_same (g.rpAll (g.new h) r)
theorem Go.newT (g : Go G n A H) {p : Addr} (h : H p = none) {vs : List V} {ds : List D} (r : RpAll K A H ds vs) : Rp K A (upd H p (.tup vs)) (.tup ds) (.ref p) :=
  Rp.tup (.inl (.inl upd_same)) (g.rpAll (g.new h) r)
end

/-! ### exceptions by value -/
structure XD where
  cls : Str
  arg : Option (Str × D)
def XR (X : Cx) (G : Gh) (H : Hp) (cls : Value) (d : Option Addr) (x : XD) : Prop :=
  ∃ C, X.mg x.cls = some (.ref C) ∧ cls = .ref C ∧ match x.arg with
    | none => d = none
    | some (f, v) => ∃ p u, d = some p ∧ H p = some (.xd [(f, u)]) ∧ Rp X.K G.av H v u
/-- what is wanted of an exception that leaves an expression -/
def XO (X : Cx) (G : Gh) (n : Nat) (s : L2.St) (H : Hp) (x : XD → Prop) : Prop := ∃ W : WX, Takes X W ∧ ∀ xd cls d H', x xd → Kp G n H H' → XR X G H' cls d xd → W cls d s H'
theorem XO.kp {X : Cx} {G : Gh} {n n' : Nat} {s : L2.St} {H H' : Hp} {x : XD → Prop} (h : XO X G n s H x) (k : Kp G n' H H') : XO X G n s H' x := by
  obtain ⟨W, t, q⟩ := h
  exact ⟨W, t, fun xd cls d H2 a b c => q xd cls d H2 a (k.trans b) c⟩
theorem XO.le {X : Cx} {G : Gh} {n n' : Nat} {s : L2.St} {H : Hp} {x : XD → Prop} (h : XO X G n s H x) (k : n' ≤ n) : XO X G n' s H x := by
  obtain ⟨W, t, q⟩ := h
  exact ⟨W, t, fun xd cls d H2 a b c => q xd cls d H2 a (b.le k) c⟩
abbrev noX : XD → Prop := fun _ => False
theorem XO.no {X : Cx} {G : Gh} {n : Nat} {s : L2.St} {H : Hp} : XO X G n s H noX := ⟨_, takes0, fun _ _ _ _ h => h.elim⟩

/-! ### the judgements -/
abbrev ME := En → (XD → Prop) → (D → Prop) → Prop
abbrev MT := En → (XD → Prop) → (Bool → Prop) → Prop
abbrev MA := En → (XD → Prop) → (List D → Prop) → Prop
section
variable (X : Cx) (G : Gh)
def BEr (c : Nat) (e : Expr) (m : ME) : Prop := ∀ (n n' : Nat) (s : L2.St) (H : Hp) (en : En) (x : XD → Prop) (P : D → Prop) (Q : VK), n + c ≤ n' → n' ≤ capB → SR X.K G n s H en → XO X G n' s H x → m en x P → (∀ d v H', P d → Kp G n' H H' → Rp X.K (Av G s en) H' d v → Q v H') → wpE X e s H Q
def BBr (c : Nat) (e : Expr) (m : ME) : Prop := ∀ (n n' : Nat) (s : L2.St) (H : Hp) (en : En) (x : XD → Prop) (P : D → Prop) (Q : VK), n + c ≤ n' → n' ≤ capB → SR X.K G n s H en → XO X G n' s H x → m en x P → (∀ d v H', P d → Kp G n' H H' → Bw X.K (Av G s en) G.dk H' d v → Q v H') → wpE X e s H Q
/-- a new list -/
def BFr (c : Nat) (e : Expr) (m : MA) : Prop := ∀ (n n' : Nat) (s : L2.St) (H : Hp) (en : En) (x : XD → Prop) (P : List D → Prop) (Q : VK), n + c ≤ n' → n' ≤ capB → SR X.K G n s H en → XO X G n' s H x → m en x P → (∀ ds a vs H', P ds → Kp G n' H H' → H a = none → H' a = some (.lst vs) → RpAll X.K (fun b => Av G s en b ∨ b = a) H' ds vs → Q (.ref a) H') → wpE X e s H Q
def BTr (c : Nat) (e : Expr) (m : MT) : Prop := ∀ (n n' : Nat) (s : L2.St) (H : Hp) (en : En) (x : XD → Prop) (P : Bool → Prop) (Q : Bool → Hp → Prop), n + c ≤ n' → n' ≤ capB → SR X.K G n s H en → XO X G n' s H x → m en x P → (∀ b H', P b → Kp G n' H H' → Q b H') → wpT X e s H Q
def BWr (c : Nat) (e : Expr) (m : MT) : Prop := ∀ (n n' : Nat) (s : L2.St) (H : Hp) (en : En) (x : XD → Prop) (P : Bool → Prop) (Q : Bool → Hp → Prop), n + c ≤ n' → n' ≤ capB → SR X.K G n s H en → XO X G n' s H x → m en x P → (∀ b H', P b → Kp G n' H H' → Q b H') → wpW X e s H Q
def BAr (c : Nat) (es : List Expr) (m : MA) : Prop := ∀ (n n' : Nat) (s : L2.St) (H : Hp) (en : En) (x : XD → Prop) (P : List D → Prop) (Q : List V → Hp → Prop), n + c ≤ n' → n' ≤ capB → SR X.K G n s H en → XO X G n' s H x → m en x P → (∀ ds vs H', P ds → Kp G n' H H' → RpAll X.K (Av G s en) H' ds vs → Q vs H') → wpA X es s H Q
def BABr (c : Nat) (es : List Expr) (m : MA) : Prop := ∀ (n n' : Nat) (s : L2.St) (H : Hp) (en : En) (x : XD → Prop) (P : List D → Prop) (Q : List V → Hp → Prop), n + c ≤ n' → n' ≤ capB → SR X.K G n s H en → XO X G n' s H x → m en x P → (∀ ds vs H', P ds → Kp G n' H H' → BwAll X.K (Av G s en) G.dk H' ds vs → Q vs H') → wpA X es s H Q
end
structure BAB (X : Cx) (G : Gh) (c : Nat) (es : List Expr) (m : MA) : Prop where
  run : BABr X G c es m
instance {X : Cx} {G : Gh} {c : Nat} {es : List Expr} {m : MA} : CoeFun (BAB X G c es m) (fun _ => BABr X G c es m) := ⟨BAB.run⟩
structure BA (X : Cx) (G : Gh) (c : Nat) (es : List Expr) (m : MA) : Prop where
  run : BAr X G c es m
instance {X : Cx} {G : Gh} {c : Nat} {es : List Expr} {m : MA} : CoeFun (BA X G c es m) (fun _ => BAr X G c es m) := ⟨BA.run⟩
structure BW (X : Cx) (G : Gh) (c : Nat) (e : Expr) (m : MT) : Prop where
  run : BWr X G c e m
instance {X : Cx} {G : Gh} {c : Nat} {e : Expr} {m : MT} : CoeFun (BW X G c e m) (fun _ => BWr X G c e m) := ⟨BW.run⟩
structure BT (X : Cx) (G : Gh) (c : Nat) (e : Expr) (m : MT) : Prop where
  run : BTr X G c e m
instance {X : Cx} {G : Gh} {c : Nat} {e : Expr} {m : MT} : CoeFun (BT X G c e m) (fun _ => BTr X G c e m) := ⟨BT.run⟩
structure BF (X : Cx) (G : Gh) (c : Nat) (e : Expr) (m : MA) : Prop where
  run : BFr X G c e m
instance {X : Cx} {G : Gh} {c : Nat} {e : Expr} {m : MA} : CoeFun (BF X G c e m) (fun _ => BFr X G c e m) := ⟨BF.run⟩
structure BB (X : Cx) (G : Gh) (c : Nat) (e : Expr) (m : ME) : Prop where
  run : BBr X G c e m
instance {X : Cx} {G : Gh} {c : Nat} {e : Expr} {m : ME} : CoeFun (BB X G c e m) (fun _ => BBr X G c e m) := ⟨BB.run⟩
structure BE (X : Cx) (G : Gh) (c : Nat) (e : Expr) (m : ME) : Prop where
  run : BEr X G c e m
instance {X : Cx} {G : Gh} {c : Nat} {e : Expr} {m : ME} : CoeFun (BE X G c e m) (fun _ => BEr X G c e m) := ⟨BE.run⟩
section
variable {X : Cx} {G : Gh} {e a b c : Expr} {es : List Expr} {m ma mb mc : ME} {pos : Pos} {ca cb cc cr : Nat}
theorem BE.toB (h : BE X G ca e m) : BB X G ca e m := .mk fun n n' s H en x P Q hc hB r hx hm q => h n n' s H en x P Q hc hB r hx hm fun d v H' p k z => q d v H' p k (Rp.bw (fun _ w => r.dkA w) z)
def mFr (m : MA) : ME := fun en x P => m en x fun ds => P (.lst ds)
theorem BF.toE {m : MA} (h : BF X G ca e m) : BE X G ca e (mFr m) := .mk fun n n' s H en x P Q hc hB r hx hm q =>
  h n n' s H en x (fun ds => P (.lst ds)) Q hc hB r hx hm fun ds a vs H' p k hn e2 z => q (.lst ds) (.ref a) H' p k (Rp.lst (r.go.fresh hn) e2 (RpAll.weak (fun _ w => .inl w) z))

/-! ### names and constants -/
def slotV : Option Sl → (D → Prop) → Prop
  | some (.val d), P => P d
  | _, _ => False
def slotB : Option Sl → (D → Prop) → Prop
  | some (.val d), P => P d
  | some (.own ds), P => P (.lst ds)
  | _, _ => False
def mVar (i : Nat) : ME := fun en _ P => slotV en[i]? P
def mVarB (i : Nat) : ME := fun en _ P => slotB en[i]? P
def mC (d : D) : ME := fun _ _ P => P d
theorem be_var (i : Nat) {x : Str} {pos : Pos} (hN : X.N[i]? = some x := by rfl) (hv : Vis X.env.scope x := by first | exact Or.inl rfl | exact Or.inr (Or.inl rfl) | exact Or.inr (Or.inr rfl)) (hd : (x == ("__debug__" : Str)) = false := by decide)
    (hcd : (x == ("__classdict__" : Str)) = false := by decide) : BE X G 0 (.Name x pos) (mVar i) := .mk fun n n' s H en xx P Q hc hB r hx hm q => by
  unfold mVar at hm
  cases e1 : en[i]? with
  | none => rw [e1] at hm; exact hm.elim
  | some sl =>
    rw [e1] at hm
    cases sl with
    | val d =>
      obtain ⟨v, e2, y, e3, e4⟩ := r.sl.get e1
      subst e3
      exact leE (pe_var hN hv hd hcd) ⟨y, e2, q d y H hm ((Kp.refl r.di).le (by omega)) e4⟩
    | no => exact hm.elim
    | own _ => exact hm.elim
theorem bb_var (i : Nat) {x : Str} {pos : Pos} (hN : X.N[i]? = some x := by rfl) (hv : Vis X.env.scope x := by first | exact Or.inl rfl | exact Or.inr (Or.inl rfl) | exact Or.inr (Or.inr rfl)) (hd : (x == ("__debug__" : Str)) = false := by decide)
    (hcd : (x == ("__classdict__" : Str)) = false := by decide) : BB X G 0 (.Name x pos) (mVarB i) := .mk fun n n' s H en xx P Q hc hB r hx hm q => by
  unfold mVarB at hm
  cases e1 : en[i]? with
  | none => rw [e1] at hm; exact hm.elim
  | some sl =>
    rw [e1] at hm
    cases sl with
    | val d =>
      obtain ⟨v, e2, y, e3, e4⟩ := r.sl.get e1
      subst e3
      exact leE (pe_var hN hv hd hcd) ⟨y, e2, q d y H hm ((Kp.refl r.di).le (by omega)) (Rp.bw (fun _ w => r.dkA w) e4)⟩
    | no => exact hm.elim
    | own ds =>
      obtain ⟨v, e2, a, vs, e3, e0, e4, e5⟩ := r.sl.get e1
      subst e3
      exact leE (pe_var hN hv hd hcd) ⟨.ref a, e2, q (.lst ds) (.ref a) H hm ((Kp.refl r.di).le (by omega)) ⟨a, vs, rfl, fun z => e0 (G.sub a z), e4, e5⟩⟩
theorem rp_int {K : PySem.W.Frag} {A : Addr → Prop} {H : Hp} (i : Int) : Rp K A H (.int i) (.int i) := by simp only [Rp]
theorem rp_bl {K : PySem.W.Frag} {A : Addr → Prop} {H : Hp} (i : Bool) : Rp K A H (.bl i) (.bl i) := by simp only [Rp]
theorem rp_str {K : PySem.W.Frag} {A : Addr → Prop} {H : Hp} (i : Str) : Rp K A H (.str i) (.str i) := by simp only [Rp]
theorem rp_non {K : PySem.W.Frag} {A : Addr → Prop} {H : Hp} : Rp K A H .non .non := by simp only [Rp]
theorem be_const {v : V} {d : D} (h : PE X e (tC v)) (hr : ∀ A H, Rp X.K A H d v) : BE X G 0 e (mC d) := .mk fun n n' s H en x P Q hc hB r hx hm q => leE h (q d v H hm ((Kp.refl r.di).le (by omega)) (hr _ _))
theorem be_int {i j pos} : BE X G 0 (.Constant (.int i) j pos) (mC (.int i)) := be_const pe_int fun _ _ => rp_int i
theorem be_bl {i j pos} : BE X G 0 (.Constant (.bool i) j pos) (mC (.bl i)) := be_const pe_bl fun _ _ => rp_bl i
theorem be_str {i j pos} : BE X G 0 (.Constant (.str i) j pos) (mC (.str i)) := be_const pe_str fun _ _ => rp_str i
theorem be_non {j pos} : BE X G 0 (.Constant .none j pos) (mC .non) := be_const pe_non fun _ _ => rp_non
theorem be_gint {x : Str} {i : Int} {pos : Pos} (hg : Gl X x) (hm : ∃ t, X.mg x = some (.int i t)) (hd : (x == ("__debug__" : Str)) = false := by decide) : BE X G 0 (.Name x pos) (mC (.int i)) := by
  obtain ⟨t, hm⟩ := hm
  exact be_const (v := .int i) (pe_glob hg hm ⟨t, rfl⟩ hd) fun _ _ => rp_int i
theorem be_gstr {x : Str} {i : Str} {pos : Pos} (hg : Gl X x) (hm : ∃ t, X.mg x = some (.str i t)) (hd : (x == ("__debug__" : Str)) = false := by decide) : BE X G 0 (.Name x pos) (mC (.str i)) := by
  obtain ⟨t, hm⟩ := hm
  exact be_const (v := .str i) (pe_glob hg hm ⟨t, rfl⟩ hd) fun _ _ => rp_str i

/-! ### argument lists, displays -/
def mNil : MA := fun _ _ P => P []
def mCons (m : ME) (r : MA) : MA := fun en x P => m en x fun d => r en x fun ds => P (d :: ds)
theorem ba_nil : BA X G 0 [] mNil := .mk fun n n' s H en x P Q hc hB r hx hm q => leA pa_nil (q [] [] H hm ((Kp.refl r.di).le (by omega)) RpAll.nil)
theorem bab_nil : BAB X G 0 [] mNil := .mk fun n n' s H en x P Q hc hB r hx hm q => leA pa_nil (q [] [] H hm ((Kp.refl r.di).le (by omega)) rfl)
theorem ba_cons {mr : MA} (ha : BE X G ca e m) (hr : BA X G cr es mr) (hs : starEach (e :: es) X.env = (false, eval e X.env) :: starEach es X.env := by rfl) : BA X G (ca + cr) (e :: es) (mCons m mr) := .mk fun n n' s H en x P Q hc hB r hx hm q =>
  leA (pa_cons peW paW hs) (ha n (n + ca) s H en x _ _ (Nat.le_refl _) (by omega) r (hx.le (by omega)) hm fun d v H1 p k z => hr (n + ca) n' s H1 en x _ _ (by omega) hB (r.kp k) (hx.kp k) p fun ds vs H2 p2 k2 z2 => q (d :: ds) (v :: vs) H2 p2 (k.trans k2) (RpAll.cons ((r.kp k).go.rp k2 z) z2))
theorem bab_cons {mr : MA} (ha : BB X G ca e m) (hr : BAB X G cr es mr) (hs : starEach (e :: es) X.env = (false, eval e X.env) :: starEach es X.env := by rfl) : BAB X G (ca + cr) (e :: es) (mCons m mr) := .mk fun n n' s H en x P Q hc hB r hx hm q =>
  leA (pa_cons peW paW hs) (ha n (n + ca) s H en x _ _ (Nat.le_refl _) (by omega) r (hx.le (by omega)) hm fun d v H1 p k z => hr (n + ca) n' s H1 en x _ _ (by omega) hB (r.kp k) (hx.kp k) p fun ds vs H2 p2 k2 z2 => q (d :: ds) (v :: vs) H2 p2 (k.trans k2) (BwAll.cons ((r.kp k).go.bw k2 z) z2))
def mSized (m : MA) : MA := fun en x P => m en x fun ds => ds.length ≤ sizeLine ∧ P ds
def mTup (m : MA) : ME := fun en x P => m en x fun ds => ds.length ≤ sizeLine ∧ P (.tup ds)
theorem be_tup {mr : MA} {k1 : Nat} (h : BA X G cr es mr) : BE X G cr (.Tuple es k1 pos) (mTup mr) := .mk fun n n' s H en x P Q hc hB r hx hm q =>
  leE (pe_tup paW) (h n n' s H en x _ _ hc hB r hx hm fun ds vs H1 p k z => ⟨by rw [z.length]; exact p.1, fun a ha => q _ _ _ p.2 (k.trans ((r.kp k).go.new ha)) ((r.kp k).go.newT ha z)⟩)
theorem bf_lst {mr : MA} (h : BA X G cr es mr) : BF X G cr (.List es pos) (mSized mr) := .mk fun n n' s H en x P Q hc hB r hx hm q =>
  leE (pe_lst paW) (h n n' s H en x _ _ hc hB r hx hm fun ds vs H1 p k z => ⟨by rw [z.length]; exact p.1, fun a ha => q _ _ _ _ p.2 (k.trans ((r.kp k).go.new ha)) (k.none ha) upd_same ((r.kp k).go.rpNew ha z)⟩)

/-! ### operators by data -/
abbrev M2 := D → D → (D → Prop) → Prop
def OpB (X : Cx) (f : Value → Value → Sem Value) (o : M2) : Prop := ∀ (G : Gh) (n : Nat) (A : Addr → Prop) (H : Hp) (x y : V) (d1 d2 : D) (P : D → Prop) (Q : VK), Go G n A H → Bw X.K A G.dk H d1 x → Bw X.K A G.dk H d2 y → o d1 d2 P →
  (∀ d v H', P d → Kp G n H H' → Rp X.K A H' d v → Q v H') → wpO X f x y H Q
def mOp (o : M2) (ma mb : ME) : ME := fun en x P => ma en x fun d1 => mb en x fun d2 => o d1 d2 P
theorem be_op {op : Operator} {o : M2} (ho : OpB X (binaryOp op) o) (ha : BB X G ca a ma) (hb : BB X G cb b mb) : BE X G (ca + cb) (.BinOp a op b pos) (mOp o ma mb) := .mk fun n n' s H en x P Q hc hB r hx hm q =>
  leE (pe_op opW peW peW) (ha n (n + ca) s H en x _ _ (Nat.le_refl _) (by omega) r (hx.le (by omega)) hm fun d1 v1 H1 p1 k1 z1 => hb (n + ca) n' s H1 en x _ _ (by omega) (by omega) (r.kp k1) ((hx.kp k1).le (by omega)) p1 fun d2 v2 H2 p2 k2 z2 =>
    ho G _ _ H2 v1 v2 d1 d2 P Q ((r.kp k1).kp k2).go ((r.kp k1).go.bw k2 z1) z2 p2 fun d v H' p k z => q d v H' p ((k1.trans k2).trans k) z)
theorem be_cmp {op : CmpOp} {o : M2} (ho : OpB X (compareOp op) o) (ha : BB X G ca a ma) (hb : BB X G cb b mb) (hmk : behindInMarks op b = false) : BE X G (ca + cb) (.Compare a [op] [b] pos) (mOp o ma mb) := .mk fun n n' s H en x P Q hc hB r hx hm q =>
  leE (pe_cmpR opW peW peW hmk) (ha n (n + ca) s H en x _ _ (Nat.le_refl _) (by omega) r (hx.le (by omega)) hm fun d1 v1 H1 p1 k1 z1 => hb (n + ca) n' s H1 en x _ _ (by omega) (by omega) (r.kp k1) ((hx.kp k1).le (by omega)) p1 fun d2 v2 H2 p2 k2 z2 =>
    ho G _ _ H2 v1 v2 d1 d2 P Q ((r.kp k1).kp k2).go ((r.kp k1).go.bw k2 z1) z2 p2 fun d v H' p k z => q d v H' p ((k1.trans k2).trans k) z)
/-- an answer that is a bool -/
def asB (P : Bool → Prop) : D → Prop
  | .bl b => P b
  | _ => False
theorem asB_ok {P : Bool → Prop} {K : PySem.W.Frag} {A : Addr → Prop} {H : Hp} {d : D} {v : V} (h : asB P d) (r : Rp K A H d v) : ∃ b, v = .bl b ∧ P b := by
  cases d with
  | bl b => simp only [Rp] at r; exact ⟨b, r, h⟩
  | _ => exact h.elim
def mT (m : ME) : MT := fun en x P => m en x (asB P)
theorem bt_cmp {op : CmpOp} {o : M2} (ho : OpB X (compareOp op) o) (ha : BB X G ca a ma) (hb : BB X G cb b mb) (hmk : behindInMarks op b = false) : BT X G (ca + cb) (.Compare a [op] [b] pos) (mT (mOp o ma mb)) := .mk fun n n' s H en x P Q hc hB r hx hm q =>
  leT (pt_cmpR opW peW peW hmk) (ha n (n + ca) s H en x _ _ (Nat.le_refl _) (by omega) r (hx.le (by omega)) hm fun d1 v1 H1 p1 k1 z1 => hb (n + ca) n' s H1 en x _ _ (by omega) (by omega) (r.kp k1) ((hx.kp k1).le (by omega)) p1 fun d2 v2 H2 p2 k2 z2 =>
    ho G _ _ H2 v1 v2 d1 d2 _ _ ((r.kp k1).kp k2).go ((r.kp k1).go.bw k2 z1) z2 p2 fun d v H' p k z => by
      obtain ⟨b, e, pb⟩ := asB_ok p z
      exact ⟨b, e, q b H' pb ((k1.trans k2).trans k)⟩)
def mChain (o o' : M2) (ma mb mc : ME) : ME := fun en x P => ma en x fun d1 => mb en x fun d2 => o d1 d2 (asB fun k => if k = true then mc en x fun d3 => o' d2 d3 P else P (.bl false))
theorem be_chain {op op' : CmpOp} {o o' : M2} (ho : OpB X (compareOp op) o) (ho' : OpB X (compareOp op') o') (ha : BB X G ca a ma) (hb : BB X G cb b mb) (hc' : BB X G cc c mc) (hmk : lastMarks [op, op'] [b, c] = false := by with_unfolding_all rfl) :
    BE X G (ca + cb + cc) (.Compare a [op, op'] [b, c] pos) (mChain o o' ma mb mc) := .mk fun n n' s H en x P Q hc hB r hx hm q =>
  leE (pe_chain opW opW peW peW peW hmk) (ha n (n + ca) s H en x _ _ (Nat.le_refl _) (by omega) r (hx.le (by omega)) hm fun d1 v1 H1 p1 k1 z1 => hb (n + ca) (n + ca + cb) s H1 en x _ _ (by omega) (by omega) (r.kp k1) ((hx.kp k1).le (by omega)) p1 fun d2 v2 H2 p2 k2 z2 =>
    ho G _ _ H2 v1 v2 d1 d2 _ _ ((r.kp k1).kp k2).go ((r.kp k1).go.bw k2 z1) z2 p2 fun d v H3 p k3 z => by
      obtain ⟨bb, e, pb⟩ := asB_ok p z
      refine ⟨bb, e, ?_⟩
      cases bb with
      | false =>
        rw [if_neg Bool.false_ne_true] at pb ⊢
        exact q _ _ _ pb (((k1.trans k2).trans k3).le (by omega)) (rp_bl false)
      | true =>
        rw [if_pos rfl] at pb ⊢
        exact hc' (n + ca + cb) n' s H3 en x _ _ (by omega) hB (((r.kp k1).kp k2).kp k3) (((hx.kp k1).kp k2).kp k3) pb fun d3 v3 H4 p4 k4 z4 =>
          ho' G _ _ H4 v2 v3 d2 d3 P Q ((((r.kp k1).kp k2).kp k3).kp k4).go (((r.kp k1).kp k2).go.bw (k3.trans k4) z2) z4 p4 fun d v H' p k z => q d v H' p ((((k1.trans k2).trans k3).trans k4).trans k) z)
theorem bt_chain {op op' : CmpOp} {o o' : M2} (ho : OpB X (compareOp op) o) (ho' : OpB X (compareOp op') o') (ha : BB X G ca a ma) (hb : BB X G cb b mb) (hc' : BB X G cc c mc) (hmk : lastMarks [op, op'] [b, c] = false := by with_unfolding_all rfl) :
    BT X G (ca + cb + cc) (.Compare a [op, op'] [b, c] pos) (mT (mChain o o' ma mb mc)) := .mk fun n n' s H en x P Q hc hB r hx hm q =>
  leT (pt_chain opW opW peW peW peW hmk) (ha n (n + ca) s H en x _ _ (Nat.le_refl _) (by omega) r (hx.le (by omega)) hm fun d1 v1 H1 p1 k1 z1 => hb (n + ca) (n + ca + cb) s H1 en x _ _ (by omega) (by omega) (r.kp k1) ((hx.kp k1).le (by omega)) p1 fun d2 v2 H2 p2 k2 z2 =>
    ho G _ _ H2 v1 v2 d1 d2 _ _ ((r.kp k1).kp k2).go ((r.kp k1).go.bw k2 z1) z2 p2 fun d v H3 p k3 z => by
      obtain ⟨bb, e, pb⟩ := asB_ok p z
      refine ⟨bb, e, ?_⟩
      cases bb with
      | false =>
        rw [if_neg Bool.false_ne_true] at pb ⊢
        exact ⟨false, rfl, q _ _ pb (((k1.trans k2).trans k3).le (by omega))⟩
      | true =>
        rw [if_pos rfl] at pb ⊢
        exact hc' (n + ca + cb) n' s H3 en x _ _ (by omega) hB (((r.kp k1).kp k2).kp k3) (((hx.kp k1).kp k2).kp k3) pb fun d3 v3 H4 p4 k4 z4 =>
          ho' G _ _ H4 v2 v3 d2 d3 _ _ ((((r.kp k1).kp k2).kp k3).kp k4).go (((r.kp k1).kp k2).go.bw (k3.trans k4) z2) z4 p4 fun d v H' p k z => by
            obtain ⟨b, e, pb⟩ := asB_ok p z
            exact ⟨b, e, q b H' pb ((((k1.trans k2).trans k3).trans k4).trans k)⟩)

/-! ### tests -/
def truB : D → Option Bool
  | .non => some false
  | .bl b => some b
  | .int i => some (i != 0)
  | .str y => if y.length ≤ sizeLine then some ((y.length : Int) != 0) else none
  | .lst ds => some (!ds.isEmpty)
  | .tup ds => some (!ds.isEmpty)
  | _ => none
def mTru (m : ME) : MT := fun en x P => m en x fun d => match truB d with
  | some b => P b
  | none => False
theorem isEmpty_rp {K : PySem.W.Frag} {A : Addr → Prop} {H : Hp} {ds : List D} {vs : List V} (h : RpAll K A H ds vs) : vs.isEmpty = ds.isEmpty := by
  have e := h.length
  cases vs <;> cases ds <;> simp at e ⊢
theorem tru_of {K : PySem.W.Frag} {A dk : Addr → Prop} {H : Hp} {d : D} {v : V} {k : Bool} (h : Bw K A dk H d v) (e : truB d = some k) : TruV K v H k := by
  cases d with
  | non => cases (show v = .non by simpa only [Bw, Rp] using h); cases e; rfl
  | bl b => cases (show v = .bl b by simpa only [Bw, Rp] using h); cases e; rfl
  | int b => cases (show v = .int b by simpa only [Bw, Rp] using h); cases e; rfl
  | str b =>
    cases (show v = .str b by simpa only [Bw, Rp] using h)
    simp only [truB] at e
    split at e
    · cases e; exact ⟨by assumption, rfl⟩
    · cases e
  | lst ds =>
    obtain ⟨a, vs, rfl, _, q, r⟩ := h
    cases e
    exact .inl ⟨vs, .inl (.inl q), by rw [isEmpty_rp r]⟩
  | tup ds =>
    obtain ⟨a, vs, rfl, q, r⟩ := (show ∃ a vs, v = .ref a ∧ SqT K H a vs ∧ RpAll K A H ds vs by simpa only [Bw, Rp] using h)
    cases e
    exact .inr (.inl ⟨vs, q, by rw [isEmpty_rp r]⟩)
  | dct _ => cases e
  | obj _ => cases e
theorem bt_tru (ha : BB X G ca a ma) (he : ∀ whole, isTrue a X.env whole = (do let v ← whole; standAt a.pos; holding [v] (truthy v)) := by intro _; rfl) : BT X G ca a (mTru ma) := .mk fun n n' s H en x P Q hc hB r hx hm q =>
  leT (pt_truth peW he) (ha n n' s H en x _ _ hc hB r hx hm fun d v H1 p k z => by
    cases e : truB d with
    | none => rw [e] at p; exact p.elim
    | some b => rw [e] at p; exact ⟨b, tru_of z e, q b H1 p k⟩)
/-- the same where the value is a bool -/
theorem bt_val (ha : BE X G ca a ma) (he : ∀ whole, isTrue a X.env whole = (do let v ← whole; standAt a.pos; holding [v] (truthy v)) := by intro _; rfl) : BT X G ca a (mT ma) := .mk fun n n' s H en x P Q hc hB r hx hm q =>
  leT (pt_val peW he) (ha n n' s H en x _ _ hc hB r hx hm fun d v H1 p k z => by
    obtain ⟨b, e, pb⟩ := asB_ok p z
    exact ⟨b, e, q b H1 pb k⟩)
def mNot (m : MT) : MT := fun en x P => m en x fun b => P (!b)
theorem bt_not {m : MT} (ha : BT X G ca a m) : BT X G ca (.UnaryOp .Not a pos) (mNot m) := .mk fun n n' s H en x P Q hc hB r hx hm q => leT (pt_not ptW) (ha n n' s H en x _ _ hc hB r hx hm fun b H' p k => q _ _ p k)
def mAnd (m n : MT) : MT := fun en x P => m en x fun b => if b = true then n en x P else P false
def mOr (m n : MT) : MT := fun en x P => m en x fun b => if b = true then P true else n en x P
theorem bw_and1 {m : MT} (ha : BT X G ca a m) : BW X G ca (.BoolOp .And [a] pos) m := .mk fun n n' s H en x P Q hc hB r hx hm q => leW (pw_and1 ptW) (ha n n' s H en x P Q hc hB r hx hm q)
theorem bw_or1 {m : MT} (ha : BT X G ca a m) : BW X G ca (.BoolOp .Or [a] pos) m := .mk fun n n' s H en x P Q hc hB r hx hm q => leW (pw_or1 ptW) (ha n n' s H en x P Q hc hB r hx hm q)
theorem bw_and {m nn : MT} {rest : List Expr} (ha : BT X G ca a m) (hb : BW X G cb (.BoolOp .And (b :: rest) pos) nn) : BW X G (ca + cb) (.BoolOp .And (a :: b :: rest) pos) (mAnd m nn) := .mk fun n n' s H en x P Q hc hB r hx hm q =>
  leW (pw_and ptW pwW) (ha n (n + ca) s H en x _ _ (Nat.le_refl _) (by omega) r (hx.le (by omega)) hm fun c H1 p k => by
    cases c with
    | true => rw [if_pos rfl] at p ⊢; exact hb (n + ca) n' s H1 en x P Q (by omega) hB (r.kp k) (hx.kp k) p fun b H' p2 k2 => q b H' p2 (k.trans k2)
    | false => rw [if_neg Bool.false_ne_true] at p ⊢; exact q _ _ p (k.le (by omega)))
theorem bw_or {m nn : MT} {rest : List Expr} (ha : BT X G ca a m) (hb : BW X G cb (.BoolOp .Or (b :: rest) pos) nn) : BW X G (ca + cb) (.BoolOp .Or (a :: b :: rest) pos) (mOr m nn) := .mk fun n n' s H en x P Q hc hB r hx hm q =>
  leW (pw_or ptW pwW) (ha n (n + ca) s H en x _ _ (Nat.le_refl _) (by omega) r (hx.le (by omega)) hm fun c H1 p k => by
    cases c with
    | true => rw [if_pos rfl] at p ⊢; exact q _ _ p (k.le (by omega))
    | false => rw [if_neg Bool.false_ne_true] at p ⊢; exact hb (n + ca) n' s H1 en x P Q (by omega) hB (r.kp k) (hx.kp k) p fun b H' p2 k2 => q b H' p2 (k.trans k2))
theorem BW.t {m : MT} (h : BW X G ca e m) : BT X G ca e m := .mk fun n n' s H en x P Q hc hB r hx hm q => leT (PW.pt pwW) (h n n' s H en x P Q hc hB r hx hm q)
/-- and, or, not as values -/
def mAndV (m n : ME) : ME := fun en x P => m en x (asB fun b => if b = true then n en x P else P (.bl false))
def mOrV (m n : ME) : ME := fun en x P => m en x (asB fun b => if b = true then P (.bl true) else n en x P)
def mNotV (m : ME) : ME := fun en x P => m en x (asB fun b => P (.bl (!b)))
theorem be_one {op} (h : BE X G ca a m) : BE X G ca (.BoolOp op [a] pos) m := .mk fun n n' s H en x P Q hc hB r hx hm q => leE (pe_one peW) (h n n' s H en x P Q hc hB r hx hm q)
theorem be_and {rest : List Expr} (ha : BE X G ca a ma) (hb : BE X G cb (.BoolOp .And (b :: rest) pos) mb) : BE X G (ca + cb) (.BoolOp .And (a :: b :: rest) pos) (mAndV ma mb) := .mk fun n n' s H en x P Q hc hB r hx hm q =>
  leE (pe_and peW peW) (ha n (n + ca) s H en x _ _ (Nat.le_refl _) (by omega) r (hx.le (by omega)) hm fun d v H1 p k z => by
    obtain ⟨c, e, p⟩ := asB_ok p z
    refine ⟨c, e, ?_⟩
    cases c with
    | true => rw [if_pos rfl] at p ⊢; exact hb (n + ca) n' s H1 en x P Q (by omega) hB (r.kp k) (hx.kp k) p fun d v H' p2 k2 z2 => q d v H' p2 (k.trans k2) z2
    | false => rw [if_neg Bool.false_ne_true] at p ⊢; exact q _ _ _ p (k.le (by omega)) (rp_bl false))
theorem be_or {rest : List Expr} (ha : BE X G ca a ma) (hb : BE X G cb (.BoolOp .Or (b :: rest) pos) mb) : BE X G (ca + cb) (.BoolOp .Or (a :: b :: rest) pos) (mOrV ma mb) := .mk fun n n' s H en x P Q hc hB r hx hm q =>
  leE (pe_or peW peW) (ha n (n + ca) s H en x _ _ (Nat.le_refl _) (by omega) r (hx.le (by omega)) hm fun d v H1 p k z => by
    obtain ⟨c, e, p⟩ := asB_ok p z
    refine ⟨c, e, ?_⟩
    cases c with
    | true => rw [if_pos rfl] at p ⊢; exact q _ _ _ p (k.le (by omega)) (rp_bl true)
    | false => rw [if_neg Bool.false_ne_true] at p ⊢; exact hb (n + ca) n' s H1 en x P Q (by omega) hB (r.kp k) (hx.kp k) p fun d v H' p2 k2 z2 => q d v H' p2 (k.trans k2) z2)
theorem be_not (ha : BE X G ca a ma) : BE X G ca (.UnaryOp .Not a pos) (mNotV ma) := .mk fun n n' s H en x P Q hc hB r hx hm q =>
  leE (pe_not peW) (ha n n' s H en x _ _ hc hB r hx hm fun d v H1 p k z => by
    obtain ⟨c, e, p⟩ := asB_ok p z
    exact ⟨c, e, q _ _ _ p k (rp_bl _)⟩)
def mIf (t : MT) (m n : ME) : ME := fun en x P => t en x fun b => if b = true then m en x P else n en x P
theorem be_if {t : MT} (hc' : BT X G cc c t) (ha : BE X G ca a ma) (hb : BE X G cb b mb) : BE X G (cc + ca + cb) (.IfExp c a b pos) (mIf t ma mb) := .mk fun n n' s H en x P Q hc hB r hx hm q =>
  leE (pe_ifExp ptW peW peW) (hc' n (n + cc) s H en x _ _ (Nat.le_refl _) (by omega) r (hx.le (by omega)) hm fun d H1 p k => by
    cases d with
    | true => rw [if_pos rfl] at p ⊢; exact ha (n + cc) n' s H1 en x P Q (by omega) hB (r.kp k) (hx.kp k) p fun d v H' p2 k2 z2 => q d v H' p2 (k.trans k2) z2
    | false => rw [if_neg Bool.false_ne_true] at p ⊢; exact hb (n + cc) n' s H1 en x P Q (by omega) hB (r.kp k) (hx.kp k) p fun d v H' p2 k2 z2 => q d v H' p2 (k.trans k2) z2)

/-! ### unary, subscripts, calls of built-ins -/
abbrev M1 := D → (D → Prop) → Prop
def UnB (X : Cx) (f : Value → Sem Value) (o : M1) : Prop := ∀ (G : Gh) (n : Nat) (A : Addr → Prop) (H : Hp) (x : V) (d1 : D) (P : D → Prop) (Q : VK), Go G n A H → Bw X.K A G.dk H d1 x → o d1 P → (∀ d v H', P d → Kp G n H H' → Rp X.K A H' d v → Q v H') → wpU X f x H Q
def mUn (o : M1) (ma : ME) : ME := fun en x P => ma en x fun d => o d P
theorem be_un {op : UnaryOp} {o : M1} (ho : UnB X (unaryOp op) o) (ha : BB X G ca a ma) : BE X G ca (.UnaryOp op a pos) (mUn o ma) := .mk fun n n' s H en x P Q hc hB r hx hm q =>
  leE (pe_un unW peW) (ha n n' s H en x _ _ hc hB r hx hm fun d v H1 p k z => ho G _ _ H1 v d P Q (r.kp k).go z p fun d v H' p2 k2 z2 => q d v H' p2 (k.trans k2) z2)
def IxB (X : Cx) (o : M2) : Prop := ∀ (G : Gh) (n : Nat) (A : Addr → Prop) (H : Hp) (x y : V) (d1 d2 : D) (P : D → Prop) (Q : VK), Go G n A H → Bw X.K A G.dk H d1 x → Bw X.K A G.dk H d2 y → o d1 d2 P →
  (∀ d v H', P d → Kp G n H H' → Rp X.K A H' d v → Q v H') → wpX X x y H Q
theorem be_ix {o : M2} (ho : IxB X o) (ha : BB X G ca a ma) (hb : BB X G cb b mb) (hs : PlainIx b := by exact fun _ _ => rfl) : BE X G (ca + cb) (.Subscript a b pos) (mOp o ma mb) := .mk fun n n' s H en x P Q hc hB r hx hm q =>
  leE (pe_ix ixW peW peW hs) (ha n (n + ca) s H en x _ _ (Nat.le_refl _) (by omega) r (hx.le (by omega)) hm fun d1 v1 H1 p1 k1 z1 => hb (n + ca) n' s H1 en x _ _ (by omega) (by omega) (r.kp k1) ((hx.kp k1).le (by omega)) p1 fun d2 v2 H2 p2 k2 z2 =>
    ho G _ _ H2 v1 v2 d1 d2 P Q ((r.kp k1).kp k2).go ((r.kp k1).go.bw k2 z1) z2 p2 fun d v H' p k z => q d v H' p ((k1.trans k2).trans k) z)
abbrev MC := List D → (D → Prop) → Prop
def CaB (X : Cx) (f : Value) (o : MC) : Prop := ∀ (G : Gh) (n : Nat) (A : Addr → Prop) (H : Hp) (xs : List V) (ds : List D) (P : D → Prop) (Q : VK), Go G n A H → BwAll X.K A G.dk H ds xs → o ds P → (∀ d v H', P d → Kp G n H H' → Rp X.K A H' d v → Q v H') → wpC X f xs H Q
def mCall (o : MC) (m : MA) : ME := fun en x P => m en x fun ds => o ds P
theorem be_callB {o : MC} {mr : MA} {x : Str} {p : Pos} {id : String} (ho : CaB X (.builtin id) o) (hg : Gl X x) (hm : X.mg x = none) (hv : bootBuiltins x = some (.builtin id)) (ha : BAB X G cr (e :: es) mr) (hn : x ≠ "__name__" := by decide) (hdb : (x == ("__debug__" : Str)) = false := by decide)
    (he : starEach (e :: es) X.env = (false, eval e X.env) :: starEach es X.env := by rfl) (hpl : (backTo pos (starEach es X.env)).any (·.1) = false := by rfl) : BE X G cr (.Call (.Name x p) (e :: es) [] pos) (mCall o mr) := .mk fun n n' s H en xx P Q hc hB r hx hmm q =>
  leE (pe_callB caW hg hm hv paW hn hdb he hpl) (ha n n' s H en xx _ _ hc hB r hx hmm fun ds vs H1 p k z => ho G _ _ H1 vs ds P Q (r.kp k).go z p fun d v H' p2 k2 z2 => q d v H' p2 (k.trans k2) z2)
theorem be_callTy {o : MC} {mr : MA} {x : Str} {p : Pos} {T : String} (ho : CaB X (.type T) o) (hg : Gl X x) (hm : X.mg x = none) (hv : bootBuiltins x = some (.type T)) (ha : BAB X G cr (e :: es) mr) (hn : x ≠ "__name__" := by decide) (hdb : (x == ("__debug__" : Str)) = false := by decide)
    (he : starEach (e :: es) X.env = (false, eval e X.env) :: starEach es X.env := by rfl) (hpl : (backTo pos (starEach es X.env)).any (·.1) = false := by rfl) : BE X G cr (.Call (.Name x p) (e :: es) [] pos) (mCall o mr) := .mk fun n n' s H en xx P Q hc hB r hx hmm q =>
  leE (pe_callTy caW hg hm hv paW hn hdb he hpl) (ha n n' s H en xx _ _ hc hB r hx hmm fun ds vs H1 p k z => ho G _ _ H1 vs ds P Q (r.kp k).go z p fun d v H' p2 k2 z2 => q d v H' p2 (k.trans k2) z2)
end
end BV

namespace BV
open PySem PySem.Spec L2

/-! ### what a statement may change -/
structure Ks (G : Gh) (n : Nat) (O : List Addr) (H : Hp) (O' : List Addr) (H' : Hp) : Prop where
  keep : ∀ a o, H a = some o → ¬ G.dk a → a ∉ O → a ∉ O' ∧ H' a = some o
  di : G.DI n H'
structure Kr (G : Gh) (n : Nat) (O : List Addr) (H H' : Hp) : Prop where
  keep : ∀ a o, H a = some o → ¬ G.dk a → a ∉ O → H' a = some o
  di : G.DI n H'
theorem Ks.trans {G : Gh} {n n' : Nat} {O O1 O2 : List Addr} {H H1 H2 : Hp} (a : Ks G n O H O1 H1) (b : Ks G n' O1 H1 O2 H2) : Ks G n' O H O2 H2 :=
  ⟨fun x o h n m => let ⟨z1, z2⟩ := a.keep x o h n m; b.keep x o z2 n z1, b.di⟩
theorem Ks.transR {G : Gh} {n n' : Nat} {O O1 : List Addr} {H H1 H2 : Hp} (a : Ks G n O H O1 H1) (b : Kr G n' O1 H1 H2) : Kr G n' O H H2 :=
  ⟨fun x o h n m => let ⟨z1, z2⟩ := a.keep x o h n m; b.keep x o z2 n z1, b.di⟩
theorem Ks.le {G : Gh} {n n' : Nat} {O O1 : List Addr} {H H1 : Hp} (a : Ks G n O H O1 H1) (h : n ≤ n') : Ks G n' O H O1 H1 := ⟨a.keep, G.mo n n' H1 a.di h⟩
theorem Kr.le {G : Gh} {n n' : Nat} {O : List Addr} {H H1 : Hp} (a : Kr G n O H H1) (h : n ≤ n') : Kr G n' O H H1 := ⟨a.keep, G.mo n n' H1 a.di h⟩
theorem Kp.s {G : Gh} {n : Nat} {O : List Addr} {H H' : Hp} (k : Kp G n H H') : Ks G n O H O H' := ⟨fun a o h n m => ⟨m, k.keep a o h n⟩, k.di⟩
theorem Kp.r {G : Gh} {n : Nat} {O : List Addr} {H H' : Hp} (k : Kp G n H H') : Kr G n O H H' := ⟨fun a o h n _ => k.keep a o h n, k.di⟩
theorem Ks.refl {G : Gh} {n : Nat} {O : List Addr} {H : Hp} (h : G.DI n H) : Ks G n O H O H := ⟨fun a o h _ m => ⟨m, h⟩, h⟩

structure Ed where
  nx : En → Prop
  rt : D → Prop
  bk : En → Prop := fun _ => False
  ct : En → Prop := fun _ => False
  ex : XD → En → Prop := fun _ _ => False
abbrev MS := Ed → En → Prop
structure EO (X : Cx) (G : Gh) (n : Nat) (O : List Addr) (H : Hp) (E : Ed) (Dn : Ends) : Prop where
  nx : ∀ s' H' en', E.nx en' → SR X.K G n s' H' en' → Ks G n O H (owns s' en') H' → Dn.nx s' H'
  bk : ∀ s' H' en', E.bk en' → SR X.K G n s' H' en' → Ks G n O H (owns s' en') H' → Dn.bk s' H'
  ct : ∀ s' H' en', E.ct en' → SR X.K G n s' H' en' → Ks G n O H (owns s' en') H' → Dn.ct s' H'
  rt : ∀ d v H', E.rt d → Rp X.K G.av H' d v → Kr G n O H H' → Dn.rt v H'
  ex : ∃ W : WX, Takes X W ∧ ∀ xd en' s' H' cls d, E.ex xd en' → SR X.K G n s' H' en' → Ks G n O H (owns s' en') H' → XR X G H' cls d xd → W cls d s' H'
section
variable {X : Cx} {G : Gh} {n n' : Nat} {O O1 : List Addr} {H H1 : Hp} {E : Ed} {Dn : Ends} {s : L2.St} {en : En}
theorem EO.shift (h : EO X G n O H E Dn) (k : Ks G n' O H O1 H1) : EO X G n O1 H1 E Dn :=
  ⟨fun s' H' en' a b c => h.nx s' H' en' a b (k.trans c), fun s' H' en' a b c => h.bk s' H' en' a b (k.trans c), fun s' H' en' a b c => h.ct s' H' en' a b (k.trans c), fun d v H' a b c => h.rt d v H' a b (k.transR c), by
    obtain ⟨W, t, q⟩ := h.ex
    exact ⟨W, t, fun xd en' s' H' cls d a b c e => q xd en' s' H' cls d a b (k.trans c) e⟩⟩
theorem EO.lower (h : EO X G n O H E Dn) (k : n' ≤ n) : EO X G n' O H E Dn :=
  ⟨fun s' H' en' a b c => h.nx s' H' en' a (b.le k) (c.le k), fun s' H' en' a b c => h.bk s' H' en' a (b.le k) (c.le k), fun s' H' en' a b c => h.ct s' H' en' a (b.le k) (c.le k), fun d v H' a b c => h.rt d v H' a b (c.le k), by
    obtain ⟨W, t, q⟩ := h.ex
    exact ⟨W, t, fun xd en' s' H' cls d a b c e => q xd en' s' H' cls d a (b.le k) (c.le k) e⟩⟩
theorem EO.xo (h : EO X G n (owns s en) H E Dn) (r : SR X.K G n' s H en) : XO X G n s H (fun xd => E.ex xd en) := by
  obtain ⟨W, t, q⟩ := h.ex
  exact ⟨W, t, fun xd cls d H' a k e => q xd en s H' cls d a (r.kp k) k.s e⟩
end
structure CxOk (X : Cx) : Prop where
  nd : X.N.Nodup
  calm : X.calm = true
  pass : PassesOwn (model X.prog X.w) X.A X.env X.xe
  gd : X.A.guards = some []
  sm : ∃ o, X.base.get? sysModules = some o
  ro : Room 0 X.A
section
variable (X : Cx) (G : Gh)
def BSr (c : Nat) (st : Stmt) (m : MS) : Prop := ∀ (n n' : Nat) (s : L2.St) (H : Hp) (en : En) (E : Ed) (Dn : Ends), n + c ≤ n' → n' ≤ capB → SR X.K G n s H en → m E en → EO X G n' (owns s en) H E Dn → wpS X st Dn s H
def BSsr (c : Nat) (st : List Stmt) (m : MS) : Prop := ∀ (n n' : Nat) (s : L2.St) (H : Hp) (en : En) (E : Ed) (Dn : Ends), n + c ≤ n' → n' ≤ capB → SR X.K G n s H en → m E en → EO X G n' (owns s en) H E Dn → wpSs X st Dn s H
end
structure BSs (X : Cx) (G : Gh) (c : Nat) (st : List Stmt) (m : MS) : Prop where
  run : BSsr X G c st m
instance {X : Cx} {G : Gh} {c : Nat} {st : List Stmt} {m : MS} : CoeFun (BSs X G c st m) (fun _ => BSsr X G c st m) := ⟨BSs.run⟩
structure BS (X : Cx) (G : Gh) (c : Nat) (st : Stmt) (m : MS) : Prop where
  run : BSr X G c st m
instance {X : Cx} {G : Gh} {c : Nat} {st : Stmt} {m : MS} : CoeFun (BS X G c st m) (fun _ => BSr X G c st m) := ⟨BS.run⟩
section
variable {X : Cx} {G : Gh} {e a b c : Expr} {es : List Expr} {m ma mb mc : ME} {pos : Pos} {st : Stmt} {sts : List Stmt} {ms ns : MS} {c1 c2 c3 : Nat}
def mNext : MS := fun E en => E.nx en
def mSeq (m n : MS) : MS := fun E en => m { E with nx := n E } en
theorem bss_nil : BSs X G 0 [] mNext := .mk fun n n' s H en E Dn hc hB r hm eo => leSs pss_nil (eo.nx s H en hm (r.le (by omega)) ((Ks.refl r.di).le (by omega)))
theorem bss_cons (h1 : BS X G c1 st ms) (h2 : BSs X G c2 sts ns) : BSs X G (c1 + c2) (st :: sts) (mSeq ms ns) := .mk fun n n' s H en E Dn hc hB r hm eo =>
  leSs (pss_cons psW pssW) (h1 n (n + c1) s H en { E with nx := ns E } _ (Nat.le_refl _) (by omega) r hm (let eo1 := eo.lower (show n + c1 ≤ n' by omega); ⟨fun s' H' en' p r' k => h2 (n + c1) n' s' H' en' E Dn (by omega) hB r' p (eo.shift k), eo1.bk, eo1.ct, eo1.rt, eo1.ex⟩))
theorem bss_one (h1 : BS X G c1 st ms) : BSs X G c1 [st] ms := .mk fun n n' s H en E Dn hc hB r hm eo => leSs (pss_one psW) (h1 n n' s H en E Dn hc hB r hm eo)
def mBreak : MS := fun E en => E.bk en
def mCont : MS := fun E en => E.ct en
theorem bs_pass : BS X G 0 (.Pass pos) mNext := .mk fun n n' s H en E Dn hc hB r hm eo => leS ps_pass (eo.nx s H en hm (r.le (by omega)) ((Ks.refl r.di).le (by omega)))
theorem bs_break : BS X G 0 (.Break pos) mBreak := .mk fun n n' s H en E Dn hc hB r hm eo => leS ps_break (eo.bk s H en hm (r.le (by omega)) ((Ks.refl r.di).le (by omega)))
theorem bs_continue : BS X G 0 (.Continue pos) mCont := .mk fun n n' s H en E Dn hc hB r hm eo => leS ps_continue (eo.ct s H en hm (r.le (by omega)) ((Ks.refl r.di).le (by omega)))
def mDrop (m : ME) : MS := fun E en => m en (fun xd => E.ex xd en) fun _ => E.nx en
theorem bs_expr (h : BE X G c1 e m) (hs : swapsWith e none pos.line X.env = pure false := by rfl) : BS X G c1 (.Expr e pos) (mDrop m) := .mk fun n n' s H en E Dn hc hB r hm eo =>
  leS (ps_expr peW hs) (h n n' s H en _ _ _ hc hB r (eo.xo r) hm fun d v H' p k z => eo.nx s H' en p (r.kp k) k.s)
def mRet (m : ME) : MS := fun E en => m en (fun xd => E.ex xd en) E.rt
theorem bs_ret (h : BE X G c1 e m) : BS X G c1 (.Return (some e) pos) (mRet m) := .mk fun n n' s H en E Dn hc hB r hm eo =>
  leS (ps_ret peW) (h n n' s H en _ _ _ hc hB r (eo.xo r) hm fun d v H' p k z => eo.rt d v H' p (Rp.weak (fun _ w => .inl w) z) k.r)
def mRetN : MS := fun E _ => E.rt .non
theorem bs_retN : BS X G 0 (.Return none pos) mRetN := .mk fun n n' s H en E Dn hc hB r hm eo => leS ps_retN (eo.rt .non .non H hm rp_non ((Kp.refl r.di).r.le (by omega)))
/-- return x: a list of one's own may leave -/
def mRetV (i : Nat) : MS := fun E en => slotB en[i]? E.rt
theorem bs_retv (i : Nat) {x : Str} {p : Pos} (hN : X.N[i]? = some x := by rfl) (hv : Vis X.env.scope x := by first | exact Or.inl rfl | exact Or.inr (Or.inl rfl) | exact Or.inr (Or.inr rfl)) (hd : (x == ("__debug__" : Str)) = false := by decide)
    (hcd : (x == ("__classdict__" : Str)) = false := by decide) : BS X G 0 (.Return (some (.Name x p)) pos) (mRetV i) := .mk fun n n' s H en E Dn hc hB r hm eo => by
  unfold mRetV at hm
  cases e1 : en[i]? with
  | none => rw [e1] at hm; exact hm.elim
  | some sl =>
    rw [e1] at hm
    cases sl with
    | val d =>
      obtain ⟨v, e2, y, e3, e4⟩ := r.sl.get e1
      subst e3
      exact leS (ps_ret (pe_var hN hv hd hcd)) ⟨y, e2, eo.rt d y H hm (Rp.weak (fun _ w => .inl w) e4) ((Kp.refl r.di).r.le (by omega))⟩
    | no => exact hm.elim
    | own ds =>
      obtain ⟨v, e2, a, vs, e3, e0, e4, e5⟩ := r.sl.get e1
      subst e3
      exact leS (ps_ret (pe_var hN hv hd hcd)) ⟨.ref a, e2, eo.rt (.lst ds) (.ref a) H hm (Rp.lst e0 e4 (RpAll.weak (fun _ w => .inl w) e5)) ((Kp.refl r.di).r.le (by omega))⟩
def mIfS (t : MT) (m n : MS) : MS := fun E en => t en (fun xd => E.ex xd en) fun b => if b = true then m E en else n E en
theorem bs_if {t : MT} {sa sb : List Stmt} (hc' : BT X G c1 c t) (ha : BSs X G c2 sa ms) (hb : BSs X G c3 sb ns) : BS X G (c1 + c2 + c3) (.If c sa sb pos) (mIfS t ms ns) := .mk fun n n' s H en E Dn hc hB r hm eo =>
  leS (ps_if ptW pssW pssW) (hc' n (n + c1) s H en _ _ _ (Nat.le_refl _) (by omega) r ((eo.xo r).le (by omega)) hm fun d H1 p k => by
    cases d with
    | true => rw [if_pos rfl] at p ⊢; exact ha (n + c1) n' s H1 en E Dn (by omega) hB (r.kp k) p (eo.shift k.s)
    | false => rw [if_neg Bool.false_ne_true] at p ⊢; exact hb (n + c1) n' s H1 en E Dn (by omega) hB (r.kp k) p (eo.shift k.s))

/-! ### storing a name -/
theorem owns_set_sub : ∀ (s : L2.St) (en : En) (i : Nat) (v : Option V) (x : Sl), (∀ ds, x ≠ .own ds) → (owns (s.set i v) (en.set i x)).Sublist (owns s en)
  | [], en, i, v, x, _ => by simp [owns]
  | w :: s, [], i, v, x, _ => by
    cases i with
    | zero => cases v with
      | none => simp [owns]
      | some v => cases v <;> simp [owns]
    | succ i => cases w with
      | none => simp [owns]
      | some w => cases w <;> simp [owns]
  | w :: s, y :: en, 0, v, x, h => by
    have e : owns ((w :: s).set 0 v) ((y :: en).set 0 x) = owns s en := by
      show owns (v :: s) (x :: en) = owns s en
      cases x with
      | own ds => exact absurd rfl (h ds)
      | no => cases v with
        | none => rfl
        | some v => cases v <;> rfl
      | val d => cases v with
        | none => rfl
        | some v => cases v <;> rfl
    rw [e]
    cases w with
    | none => exact List.Sublist.refl _
    | some w => cases w <;> cases y <;> first | exact List.Sublist.refl _ | exact List.sublist_cons_self _ _
  | w :: s, y :: en, i + 1, v, x, h => by
    have ih := owns_set_sub s en i v x h
    show (owns (w :: s.set i v) (y :: en.set i x)).Sublist (owns (w :: s) (y :: en))
    cases w with
    | none => exact ih
    | some w => cases w <;> cases y <;> first | exact ih | exact ih.cons_cons _
theorem owns_set_own : ∀ (s : L2.St) (en : En) (i : Nat) (a : Addr) (ds : List D), (owns s en).Nodup → a ∉ owns s en → (owns (s.set i (some (.ref a))) (en.set i (.own ds))).Nodup ∧ ∀ b ∈ owns (s.set i (some (.ref a))) (en.set i (.own ds)), b = a ∨ b ∈ owns s en
  | [], en, i, a, ds, _, _ => by simp [owns]
  | w :: s, [], i, a, ds, _, _ => by
    cases i with
    | zero => simp [owns]
    | succ i => cases w with
      | none => simp [owns]
      | some w => cases w <;> simp [owns]
  | w :: s, y :: en, 0, a, ds, nd, na => by
    have sub : (owns s en).Sublist (owns (w :: s) (y :: en)) := by
      cases w with
      | none => exact List.Sublist.refl _
      | some w => cases w <;> cases y <;> first | exact List.Sublist.refl _ | exact List.sublist_cons_self _ _
    show (a :: owns s en).Nodup ∧ ∀ b ∈ a :: owns s en, b = a ∨ b ∈ owns (w :: s) (y :: en)
    refine ⟨List.nodup_cons.mpr ⟨fun z => na (sub.subset z), nd.sublist sub⟩, fun b hb => ?_⟩
    rcases List.mem_cons.mp hb with z | z
    · exact .inl z
    · exact .inr (sub.subset z)
  | w :: s, y :: en, i + 1, a, ds, nd, na => by
    have key : (owns (w :: s) (y :: en) = owns s en ∧ owns (w :: s.set i (some (.ref a))) (y :: en.set i (.own ds)) = owns (s.set i (some (.ref a))) (en.set i (.own ds))) ∨
        ∃ c, owns (w :: s) (y :: en) = c :: owns s en ∧ owns (w :: s.set i (some (.ref a))) (y :: en.set i (.own ds)) = c :: owns (s.set i (some (.ref a))) (en.set i (.own ds)) := by
      cases w with
      | none => exact .inl ⟨rfl, rfl⟩
      | some w => cases w <;> cases y <;> first | exact .inl ⟨rfl, rfl⟩ | exact .inr ⟨_, rfl, rfl⟩
    show (owns (w :: s.set i (some (.ref a))) (y :: en.set i (.own ds))).Nodup ∧ ∀ b ∈ owns (w :: s.set i (some (.ref a))) (y :: en.set i (.own ds)), b = a ∨ b ∈ owns (w :: s) (y :: en)
    rcases key with ⟨e1, e2⟩ | ⟨c, e1, e2⟩
    · rw [e1] at nd na ⊢
      rw [e2]
      exact owns_set_own s en i a ds nd na
    · rw [e1] at nd na ⊢
      rw [e2]
      obtain ⟨n1, n2⟩ := List.nodup_cons.mp nd
      obtain ⟨i1, i2⟩ := owns_set_own s en i a ds n2 fun z => na (List.mem_cons_of_mem _ z)
      refine ⟨List.nodup_cons.mpr ⟨fun z => ?_, i1⟩, fun b hb => ?_⟩
      · rcases i2 c z with q | q
        · exact na (by rw [← q]; exact List.mem_cons_self)
        · exact n1 q
      · rcases List.mem_cons.mp hb with z | z
        · exact .inr (by rw [z]; exact List.mem_cons_self)
        · rcases i2 b z with q | q
          · exact .inl q
          · exact .inr (List.mem_cons_of_mem _ q)
theorem owns_same : ∀ (s : L2.St) (en : En) (i : Nat) (ds ds' : List D), en[i]? = some (.own ds) → owns s (en.set i (.own ds')) = owns s en
  | [], en, i, ds, ds', _ => by simp [owns]
  | w :: s, [], i, ds, ds', h => by simp at h
  | w :: s, y :: en, 0, ds, ds', h => by
    simp at h; subst h
    show owns (w :: s) (.own ds' :: en) = owns (w :: s) (.own ds :: en)
    cases w with
    | none => rfl
    | some w => cases w <;> rfl
  | w :: s, y :: en, i + 1, ds, ds', h => by
    have ih := owns_same s en i ds ds' (by simpa using h)
    show owns (w :: s) (y :: en.set i (.own ds')) = owns (w :: s) (y :: en)
    cases w with
    | none => exact ih
    | some w => cases w <;> cases y <;> first | exact ih | exact congrArg (List.cons _) ih
theorem Slot.weak {K : PySem.W.Frag} {A A' B : Addr → Prop} {H : Hp} (h : ∀ a, A' a → A a) (v : Option V) (x : Sl) (q : Slot K A B H v x) : Slot K A' B H v x := by
  cases x with
  | no => exact q
  | val d => obtain ⟨y, e1, e2⟩ := q; exact ⟨y, e1, Rp.weak h e2⟩
  | own ds => obtain ⟨y, vs, e1, e0, e2, e3⟩ := q; exact ⟨y, vs, e1, e0, e2, RpAll.weak h e3⟩
theorem SR.setV {K : PySem.W.Frag} {s : L2.St} {H : Hp} {en : En} {n : Nat} (r : SR K G n s H en) (i : Nat) {d : D} {v : V} (z : Rp K (Av G s en) H d v) : SR K G n (s.set i (some v)) H (en.set i (.val d)) := by
  have sub := owns_set_sub s en i (some v) (.val d) (fun ds z => nomatch z)
  have wk : ∀ a, Av G (s.set i (some v)) (en.set i (.val d)) a → Av G s en a := fun a h => h.elim .inl fun q => .inr (sub.subset q)
  exact ⟨Slots.set i (Slots.map (Slot.weak wk) r.sl) ⟨v, rfl, Rp.weak wk z⟩, r.di, r.tr, r.nd.sublist sub⟩
theorem SR.setNo {K : PySem.W.Frag} {s : L2.St} {H : Hp} {en : En} {n : Nat} (r : SR K G n s H en) (i : Nat) (v : Option V) : SR K G n (s.set i v) H (en.set i .no) := by
  have sub := owns_set_sub s en i v .no (fun ds z => nomatch z)
  have wk : ∀ a, Av G (s.set i v) (en.set i .no) a → Av G s en a := fun a h => h.elim .inl fun q => .inr (sub.subset q)
  exact ⟨Slots.set i (Slots.map (Slot.weak wk) r.sl) trivial, r.di, r.tr, r.nd.sublist sub⟩
theorem Ks.set {n : Nat} {s : L2.St} {H : Hp} {en : En} (h : G.DI n H) (i : Nat) (v : Option V) (x : Sl) (hx : ∀ ds, x ≠ .own ds) : Ks G n (owns s en) H (owns (s.set i v) (en.set i x)) H :=
  ⟨fun a o e _ m => ⟨fun z => m ((owns_set_sub s en i v x hx).subset z), e⟩, h⟩
def mSet (i : Nat) (m : ME) : MS := fun E en => m en (fun xd => E.ex xd en) fun d => E.nx (en.set i (.val d))
theorem bs_set (ok : CxOk X) (i : Nat) {x : Str} {p : Pos} (h : BE X G c1 e m) (hi : X.N[i]? = some x := by rfl) (hx : Loc X.env.scope x := by first | exact Or.inl rfl | exact Or.inr rfl) (hs : swapsWith e (some (.Name x p)) pos.line X.env = pure false := by rfl)
    (hf : X.fn x = true ∨ X.env.scope.names.lookup x = some .local := by first | exact .inl rfl | exact .inr rfl) : BS X G c1 (.Assign [.Name x p] e pos) (mSet i m) := .mk fun n n' s H en E Dn hc hB r hm eo =>
  leS (ps_set (i := i) ok.nd hi hx peW hs hf) (h n n' s H en _ _ _ hc hB r (eo.xo r) hm fun d v H' q k z => eo.nx _ _ _ q ((r.kp k).setV i z) (k.s.trans (Ks.set k.di i (some v) (.val d) fun _ z => nomatch z)))
/-- a new list becomes one's own -/
theorem SR.setO {K : PySem.W.Frag} {s : L2.St} {H H' : Hp} {en : En} {n : Nat} (r : SR K G n s H en) (i : Nat) {ds : List D} {vs : List V} {a : Addr} {n' : Nat} (k : Kp G n' H H') (hn : H a = none) (e : H' a = some (.lst vs)) (z : RpAll K (fun b => Av G s en b ∨ b = a) H' ds vs) :
    SR K G n' (s.set i (some (.ref a))) H' (en.set i (.own ds)) ∧ Ks G n' (owns s en) H (owns (s.set i (some (.ref a))) (en.set i (.own ds))) H' := by
  have nav : a ∉ owns s en := fun z => r.go.fresh hn (.inr z)
  obtain ⟨nd, mem⟩ := owns_set_own s en i a ds r.nd nav
  have wk : ∀ b, Av G (s.set i (some (.ref a))) (en.set i (.own ds)) b → Av G s en b ∨ b = a := fun b h => h.elim (fun q => .inl (.inl q)) fun q => (mem b q).elim .inr fun w => .inl (.inr w)
  have hA : ∀ b u, (Av G (s.set i (some (.ref a))) (en.set i (.own ds))) b → ¬ Av G s en b → H b = some u → False := fun b u h1 h2 h3 => by
    rcases wk b h1 with q | q
    · exact h2 q
    · subst q
      rw [hn] at h3; cases h3
  have kl : ∀ b u, H b = some u → ¬ Av G s en b → H' b = some u := fun b u h1 h2 => k.keep b u h1 fun z => h2 (.inl (G.sub b z))
  have kt : ∀ b xs, Rd H b (.tup xs) → Rd H' b (.tup xs) := fun b xs h1 => k.rdT r.di h1
  refine ⟨⟨Slots.set i (Slots.map (fun v x h => ?_) r.sl) ⟨a, vs, rfl, fun q => r.go.fresh hn (.inl q), e, RpAll.weak wk z⟩, k.di, fun b h => k.lst (r.tr b h), nd⟩, ⟨fun b o h1 h2 h3 => ⟨fun w => ?_, k.keep b o h1 h2⟩, k.di⟩⟩
  · cases x with
    | no => exact h
    | val d => obtain ⟨y, e1, e2⟩ := h; exact ⟨y, e1, Rp.go hA kl kt d y e2⟩
    | own es => obtain ⟨y, us, e1, e0, e2, e3⟩ := h; exact ⟨y, us, e1, e0, k.keep y _ e2 fun z => e0 (G.sub y z), RpAll.go hA kl kt es us e3⟩
  · rcases mem b w with q | q
    · subst q; rw [hn] at h1; cases h1
    · exact h3 q
theorem owns_cons (v : Option V) (x : Sl) (s : L2.St) (en : En) : (owns (v :: s) (x :: en) = owns s en ∧ ∀ b es, v = some (.ref b) → x ≠ .own es) ∨ ∃ b es, v = some (.ref b) ∧ x = .own es ∧ owns (v :: s) (x :: en) = b :: owns s en := by
  cases v with
  | none => exact .inl ⟨rfl, fun _ _ z => nomatch z⟩
  | some v => cases v <;> cases x <;> first | exact .inr ⟨_, _, rfl, rfl, rfl⟩ | exact .inl ⟨rfl, fun _ _ z w => by first | (cases w; done) | (cases z; done)⟩
section
variable {K : PySem.W.Frag} {A A' B : Addr → Prop} {H H' : Hp} {a : Addr}
theorem slots_not (f : ∀ v x, (∀ es, v = some (.ref a) → x ≠ .own es) → Slot K A B H v x → Slot K A' B H' v x) : ∀ (s : L2.St) (en : En), Slots K A B H s en → a ∉ owns s en → Slots K A' B H' s en
  | [], [], h, _ => h
  | [], _ :: _, h, _ => h.elim
  | _ :: _, [], h, _ => h.elim
  | v :: s, x :: en, h, n => by
    obtain ⟨h1, h2⟩ := h
    rcases owns_cons v x s en with ⟨e, q⟩ | ⟨b, es, e1, e2, e⟩
    · rw [e] at n
      exact ⟨f v x (fun es z => q a es z) h1, slots_not f s en h2 n⟩
    · rw [e] at n
      refine ⟨f v x (fun es z w => ?_) h1, slots_not f s en h2 fun z => n (List.mem_cons_of_mem _ z)⟩
      rw [e1] at z; cases z
      exact n List.mem_cons_self
theorem slots_wr {ds ds' : List D} (f : ∀ v x, (∀ es, v = some (.ref a) → x ≠ .own es) → Slot K A B H v x → Slot K A' B H' v x) (new : Slot K A' B H' (some (.ref a)) (.own ds')) :
    ∀ (s : L2.St) (en : En) (i : Nat), Slots K A B H s en → s[i]? = some (some (.ref a)) → en[i]? = some (.own ds) → (owns s en).Nodup → Slots K A' B H' s (en.set i (.own ds'))
  | [], _, _, _, h, _, _ => by simp at h
  | _ :: _, [], _, _, _, h, _ => by simp at h
  | v :: s, x :: en, 0, h, h1, h2, nd => by
    simp at h1 h2; subst h1; subst h2
    obtain ⟨_, q⟩ := h
    have n : a ∉ owns s en := (List.nodup_cons.mp (show (a :: owns s en).Nodup from nd)).1
    exact ⟨new, slots_not f s en q n⟩
  | v :: s, x :: en, i + 1, h, h1, h2, nd => by
    have g1 : s[i]? = some (some (.ref a)) := by simpa using h1
    have g2 : en[i]? = some (.own ds) := by simpa using h2
    have ha := owns_in g1 g2
    obtain ⟨q1, q2⟩ := h
    show Slot K A' B H' v x ∧ Slots K A' B H' s (en.set i (.own ds'))
    rcases owns_cons v x s en with ⟨e, q⟩ | ⟨b, es, e1, e2, e⟩
    · rw [e] at nd
      exact ⟨f v x (fun es z => q a es z) q1, slots_wr f new s en i q2 g1 g2 nd⟩
    · rw [e] at nd
      obtain ⟨n1, n2⟩ := List.nodup_cons.mp nd
      refine ⟨f v x (fun es z w => ?_) q1, slots_wr f new s en i q2 g1 g2 n2⟩
      rw [e1] at z; cases z
      exact n1 ha
end
/-- an own list is written -/
theorem SR.wrO {K : PySem.W.Frag} {s : L2.St} {H : Hp} {en : En} {n : Nat} (r : SR K G n s H en) {i : Nat} {ds ds' : List D} {vs vs' : List V} {a : Addr} (h1 : s[i]? = some (some (.ref a))) (h2 : en[i]? = some (.own ds)) (e : H a = some (.lst vs)) (z : RpAll K (Av G s en) H ds' vs') :
    SR K G n s (upd H a (.lst vs')) (en.set i (.own ds')) ∧ Ks G n (owns s en) H (owns s (en.set i (.own ds'))) (upd H a (.lst vs')) := by
  have ho := owns_same s en i ds ds' h2
  have ha : a ∈ owns s en := owns_in h1 h2
  obtain ⟨v0, g1, b0, vs0, g2, nav, g4, _⟩ := r.sl.get h2
  rw [h1] at g1; cases g1; cases g2
  have hAv : ∀ b, Av G s (en.set i (.own ds')) b → Av G s en b := fun b h => h.elim .inl fun q => .inr (by rw [ho] at q; exact q)
  have di' : G.DI n (upd H a (.lst vs')) := G.st n H _ r.di fun b hb => by rw [upd_ne (fun q => nav (by rw [← q]; exact G.sub b hb))]
  have hA : ∀ b u, Av G s (en.set i (.own ds')) b → ¬ Av G s en b → H b = some u → False := fun b u q1 q2 _ => q2 (hAv b q1)
  have kl : ∀ b u, H b = some u → ¬ Av G s en b → upd H a (.lst vs') b = some u := fun b u q1 q2 => by
    have ne : b ≠ a := fun q => q2 (by rw [q]; exact .inr ha)
    rw [upd_ne ne]; exact q1
  have kt : ∀ b xs, Rd H b (.tup xs) → Rd (upd H a (.lst vs')) b (.tup xs) := fun b xs q1 => by
    have ne : b ≠ a := fun q => by
      subst q
      rcases q1 with q1 | ⟨o, q1⟩ <;> rw [e] at q1 <;> cases q1
    rcases q1 with q1 | ⟨o, q1⟩
    · exact .inl (by rw [upd_ne ne]; exact q1)
    · exact .inr ⟨o, by rw [upd_ne ne]; exact q1⟩
  refine ⟨⟨slots_wr (fun v x nx h => ?_) ⟨a, vs', rfl, nav, upd_same, RpAll.go hA kl kt ds' vs' z⟩ s en i r.sl h1 h2 r.nd, di', fun b hb => ?_, by rw [ho]; exact r.nd⟩, ⟨fun b o q1 q2 q3 => ⟨by rw [ho]; exact q3, ?_⟩, di'⟩⟩
  · cases x with
    | no => exact h
    | val d => obtain ⟨u, e1, e2⟩ := h; exact ⟨u, e1, Rp.go hA kl kt d u e2⟩
    | own es =>
      obtain ⟨u, us, e1, e0, e2, e3⟩ := h
      have ne : u ≠ a := fun q => nx es (by rw [e1, q]) rfl
      exact ⟨u, us, e1, e0, by rw [upd_ne ne]; exact e2, RpAll.go hA kl kt es us e3⟩
  · unfold upd
    split
    · exact ⟨_, rfl⟩
    · exact r.tr b hb
  · rw [upd_ne (fun q => q3 (by rw [q]; exact ha))]; exact q1
def mOwn (i : Nat) (m : MA) : MS := fun E en => m en (fun xd => E.ex xd en) fun ds => E.nx (en.set i (.own ds))
theorem bs_own (ok : CxOk X) (i : Nat) {mf : MA} {x : Str} {p : Pos} (h : BF X G c1 e mf) (hi : X.N[i]? = some x := by rfl) (hx : Loc X.env.scope x := by first | exact Or.inl rfl | exact Or.inr rfl) (hs : swapsWith e (some (.Name x p)) pos.line X.env = pure false := by rfl)
    (hf : X.fn x = true ∨ X.env.scope.names.lookup x = some .local := by first | exact .inl rfl | exact .inr rfl) : BS X G c1 (.Assign [.Name x p] e pos) (mOwn i mf) := .mk fun n n' s H en E Dn hc hB r hm eo =>
  leS (ps_set (i := i) ok.nd hi hx peW hs hf) (h n n' s H en _ _ _ hc hB r (eo.xo r) hm fun ds a vs H' q k hn e2 z => by
    obtain ⟨r', k'⟩ := r.setO i k hn e2 z
    exact eo.nx _ _ _ q r' k')
/-- x.append(e), x a list of one's own -/
def mApp (i : Nat) (m : ME) : MS := fun E en => match en[i]? with
  | some (.own ds) => m en (fun xd => E.ex xd en) fun d => ds.length < sizeLine ∧ E.nx (en.set i (.own (ds ++ [d])))
  | _ => False
theorem bs_app (i : Nat) {x : Str} {p ap cp : Pos} (h : BE X G c1 e m) (hN : X.N[i]? = some x := by rfl) (hv : Vis X.env.scope x := by first | exact Or.inl rfl | exact Or.inr (Or.inl rfl) | exact Or.inr (Or.inr rfl))
    (hd : (x == ("__debug__" : Str)) = false := by decide) (hcd : (x == ("__classdict__" : Str)) = false := by decide)
    (hst : starEach [e] X.env = (false, eval e X.env) :: starEach [] X.env := by rfl)
    (hbase : attributeBase (.Name x p) "append" X.env (eval (.Name x p) X.env) = eval (.Name x p) X.env := by rfl)
    (hfew : ((backTo cp (starEach [e] X.env)).all (fun x => !x.1) && (backToKw cp (keywordEach [] X.env)).all (fun x => x.1.isSome)
      && decide ([e].length + ([] : List Keyword).length + (if ([] : List Keyword).isEmpty then 0 else 1) < 30)) = true := by rfl)
    (hline : (ap.endLine == cp.line) = true := by rfl) (hplain : (backTo cp (starEach [] X.env)).any (·.1) = false := by rfl)
    (hs : swapsWith (.Call (.Attribute (.Name x p) "append" ap) [e] [] cp) none pos.line X.env = pure false := by rfl) :
    BS X G c1 (.Expr (.Call (.Attribute (.Name x p) "append" ap) [e] [] cp) pos) (mApp i m) := .mk fun n n' s H en E Dn hc hB r hm eo => by
  refine leS (ps_expr (pe_bm PySem.F.plainAttrs_list PySem.F.slot_list_append PySem.F.type_list_append mt_append (pe_var hN hv hd hcd) (pa_cons peW pa_nil hst) hbase hfew hline hst hplain) hs) ?_
  unfold mApp at hm
  cases e1 : en[i]? with
  | none => rw [e1] at hm; exact hm.elim
  | some sl =>
    rw [e1] at hm
    cases sl with
    | no => exact hm.elim
    | val d => exact hm.elim
    | own ds =>
      obtain ⟨v, e2, a, vs, e3, e0, e4, e5⟩ := r.sl.get e1
      subst e3
      refine ⟨.ref a, e2, .inl ⟨rfl, vs, .inl (.inl e4)⟩, h n n' s H en _ _ _ hc hB r (eo.xo r) hm fun d v H' p k z => ?_⟩
      have e4' : H' a = some (.lst vs) := k.keep a _ e4 fun w => e0 (G.sub a w)
      have e5' := r.go.rpAll k e5
      refine ⟨a, vs, v, rfl, rfl, e4', by rw [e5.length]; exact p.1, ?_⟩
      obtain ⟨r', k'⟩ := (r.kp k).wrO e2 e1 e4' (e5'.append (RpAll.cons z RpAll.nil))
      exact eo.nx _ _ _ p.2 r' (k.s.trans k')
end
end BV

namespace BV
open PySem PySem.Spec L2

/-! ### targets -/
abbrev MG := D → En → (En → Prop) → Prop
abbrev MGs := List D → En → (En → Prop) → Prop
section
variable (X : Cx)
def wpGs (ts : List Expr) : TGs := fun vs s H Q => ∀ pins sh us, Inv X pins s H sh → Vals vs us → wpAny (model X.prog X.w) X.A (assignInOrder ((assignEach ts X.env).map (·.2)) us) (fun _ s' => ∃ s1 H', Inv X pins s1 H' s' ∧ Q s1 H') X.xe sh
end
theorem pgsW {X : Cx} {e : List Expr} : PGs X e (wpGs X e) := ⟨fun pins s _ _ _ u _ I r h => h pins s u I r⟩
theorem leGs {X : Cx} {e : List Expr} {t : TGs} (h : PGs X e t) {v : List V} {s : L2.St} {H : Hp} {Q : L2.St → Hp → Prop} (q : t v s H Q) : wpGs X e v s H Q := fun pins sh u I r => h.run pins sh s H v u Q I r q
/-- but for these slots all is as it was -/
def Bar (ts : List Nat) (s s' : L2.St) : Prop := s'.length = s.length ∧ ∀ j, j ∉ ts → s'[j]? = s[j]?
/-- one's own lists stay, but those that stood at these slots -/
def Stay (ts : List Nat) (s s' : L2.St) (en en' : En) : Prop := ∀ a, a ∈ owns s en → a ∈ owns s' en' ∨ ∃ i, i ∈ ts ∧ s[i]? = some (some (V.ref a))
theorem stay_set {s : L2.St} {en : En} {i : Nat} {v : Option V} {x : Sl} : Stay [i] s (s.set i v) en (en.set i x) := fun a h => by
  obtain ⟨j, ds, e1, e2⟩ := owns_get h
  by_cases hj : j = i
  · subst hj; exact .inr ⟨j, by simp, e1⟩
  · exact .inl (owns_in (i := j) (ds := ds) (by rw [List.getElem?_set_ne (Ne.symm hj)]; exact e1) (by rw [List.getElem?_set_ne (Ne.symm hj)]; exact e2))
section
variable (X : Cx) (G : Gh)
def BGr (tg : Expr) (ts : List Nat) (m : MG) : Prop := ∀ (n : Nat) (s : L2.St) (H : Hp) (en : En) (d : D) (v : V) (P : En → Prop) (Q : L2.St → Hp → Prop), SR X.K G n s H en → Rp X.K (Av G s en) H d v → m d en P →
  (∀ s' en', P en' → SR X.K G n s' H en' → Ks G n (owns s en) H (owns s' en') H → Bar ts s s' → (∀ a, Av G s' en' a → Av G s en a) → Stay ts s s' en en' → Q s' H) → wpG X tg v s H Q
def BGsr (tgs : List Expr) (ts : List Nat) (m : MGs) : Prop := ∀ (n : Nat) (s : L2.St) (H : Hp) (en : En) (d : List D) (v : List V) (P : En → Prop) (Q : L2.St → Hp → Prop), SR X.K G n s H en → RpAll X.K (Av G s en) H d v → m d en P →
  (∀ s' en', P en' → SR X.K G n s' H en' → Ks G n (owns s en) H (owns s' en') H → Bar ts s s' → (∀ a, Av G s' en' a → Av G s en a) → Stay ts s s' en en' → Q s' H) → wpGs X tgs v s H Q
end
structure BGs (X : Cx) (G : Gh) (tgs : List Expr) (ts : List Nat) (m : MGs) : Prop where
  run : BGsr X G tgs ts m
instance {X : Cx} {G : Gh} {tgs : List Expr} {ts : List Nat} {m : MGs} : CoeFun (BGs X G tgs ts m) (fun _ => BGsr X G tgs ts m) := ⟨BGs.run⟩
structure BG (X : Cx) (G : Gh) (tg : Expr) (ts : List Nat) (m : MG) : Prop where
  run : BGr X G tg ts m
instance {X : Cx} {G : Gh} {tg : Expr} {ts : List Nat} {m : MG} : CoeFun (BG X G tg ts m) (fun _ => BGr X G tg ts m) := ⟨BG.run⟩
section
variable {X : Cx} {G : Gh} {pos : Pos}
def mGName (i : Nat) : MG := fun d en P => P (en.set i (.val d))
theorem bg_name (hN : X.N.Nodup) (i : Nat) {x : Str} (hi : X.N[i]? = some x := by rfl) (hx : Loc X.env.scope x := by first | exact Or.inl rfl | exact Or.inr rfl) (hf : X.fn x = true ∨ X.env.scope.names.lookup x = some .local := by first | exact .inl rfl | exact .inr rfl) :
    BG X G (.Name x pos) [i] (mGName i) := .mk fun n s H en d v P Q r z hm q =>
  leG (pg_name (i := i) hN hi hx hf) (q _ _ hm (r.setV i z) (Ks.set r.di i (some v) (.val d) fun _ z => nomatch z) ⟨by simp, fun j hj => by
    rw [List.getElem?_set_ne (fun e => hj (by simp [e]))]⟩ (fun a h => h.elim .inl fun w => .inr ((owns_set_sub s en i (some v) (.val d) (fun _ z => nomatch z)).subset w)) stay_set)
def mGNil : MGs := fun ds en P => ds = [] ∧ P en
def mGCons (m : MG) (n : MGs) : MGs := fun ds en P => match ds with
  | d :: r => m d en fun en' => n r en' P
  | [] => False
theorem bgs_nil : BGs X G [] [] mGNil := .mk fun n s H en d v P Q r z hm q => by
  obtain ⟨e, p⟩ := hm
  subst e
  have e2 : v = [] := by simpa only [RpAll] using z
  subst e2
  exact leGs pgs_nil ⟨rfl, q s en p r (Ks.refl r.di) ⟨rfl, fun _ _ => rfl⟩ (fun _ h => h) fun _ h => .inl h⟩
theorem bgs_cons {e : Expr} {es : List Expr} {t1 t2 : List Nat} {m : MG} {n : MGs} (h1 : BG X G e t1 m) (h2 : BGs X G es t2 n)
    (hs : (assignEach (e :: es) X.env).map (·.2) = assign e X.env :: (assignEach es X.env).map (·.2) := by rfl) (hd : ∀ i, i ∈ t2 → i ∉ t1 := by decide) : BGs X G (e :: es) (t1 ++ t2) (mGCons m n) := .mk fun n s H en d v P Q r z hm q => by
  cases d with
  | nil => exact hm.elim
  | cons d ds =>
    obtain ⟨y, w, e1, z1, z2⟩ := (show ∃ y w, v = y :: w ∧ Rp X.K (Av G s en) H d y ∧ RpAll X.K (Av G s en) H ds w by simpa only [RpAll] using z)
    subst e1
    refine leGs (pgs_cons pgW pgsW hs) ⟨y, w, rfl, h1 n s H en d y _ _ r z1 hm fun s1 en1 p1 r1 k1 b1 a1 y1 => ?_⟩
    exact h2 n s1 H en1 ds w P Q r1 (RpAll.weak a1 z2) p1 fun s2 en2 p2 r2 k2 b2 a2 y2 => q s2 en2 p2 r2 (k1.trans k2) ⟨b2.1.trans b1.1, fun j hj => by
      rw [b2.2 j fun w => hj (List.mem_append_right _ w), b1.2 j fun w => hj (List.mem_append_left _ w)]⟩ (fun a h => a1 a (a2 a h)) fun a h => by
        rcases y1 a h with w | ⟨i, hi, e⟩
        · rcases y2 a w with w | ⟨i, hi, e⟩
          · exact .inl w
          · exact .inr ⟨i, List.mem_append_right _ hi, by rw [← b1.2 i (hd i hi)]; exact e⟩
        · exact .inr ⟨i, List.mem_append_left _ hi, e⟩
def mGTup (n : Nat) (m : MGs) : MG := fun d en P => match d with
  | .tup ds => ds.length = n ∧ m ds en P
  | _ => False
theorem bg_tup {es : List Expr} {k n : Nat} {ts : List Nat} {m : MGs} (hc : X.calm = true) (h : BGs X G es ts m) (hn : (assignEach es X.env).length = n := by rfl) (hst : (assignEach es X.env).findIdx? (·.1) = none := by rfl) :
    BG X G (.Tuple es k pos) ts (mGTup n m) := .mk fun n s H en d v P Q r z hm q => by
  cases d with
  | tup ds =>
    obtain ⟨a, vs, e, hq, hr⟩ := (show ∃ a vs, v = .ref a ∧ SqT X.K H a vs ∧ RpAll X.K (Av G s en) H ds vs by simpa only [Rp] using z)
    obtain ⟨hl, hm⟩ := hm
    exact leG (pg_tup hc pgsW hn hst) ⟨a, vs, e, hq, by rw [hr.length]; exact hl, h n s H en ds vs P Q r hr hm q⟩
  | _ => exact hm.elim
/-- target = value, any target -/
def mAsg (m : ME) (g : MG) : MS := fun E en => m en (fun xd => E.ex xd en) fun d => g d en E.nx
theorem bs_asg {tg e : Expr} {ts : List Nat} {m : ME} {g : MG} {c1 : Nat} (he : BE X G c1 e m) (hg : BG X G tg ts g) (hs : swapsWithSole [tg] e pos.line X.env = pure false := by rfl) (hw : swappedStores [tg] e X.env = pure none := by rfl)
    (h1 : (assignEach [tg] X.env).map (·.2) = [assign tg X.env] := by rfl) : BS X G c1 (.Assign [tg] e pos) (mAsg m g) := .mk fun n n' s H en E Dn hc hB r hm eo =>
  leS (ps_asg peW pgW hs hw h1) (he n n' s H en _ _ _ hc hB r (eo.xo r) hm fun d v H1 p k z => hg n' s H1 en d v _ _ (r.kp k) z p fun s' en' p' r' k' _ _ _ => eo.nx s' H1 en' p' r' (k.s.trans k'))
/-- a, b = x, y with two plain local names -/
def mPar (i j : Nat) (ma : MA) : MS := fun E en => ma en (fun xd => E.ex xd en) fun ds => match ds with
  | [d, e] => E.nx ((en.set i (.val d)).set j (.val e))
  | _ => False
theorem bs_par (ok : CxOk X) (i j : Nat) {x y : Str} {a b : Expr} {ma : MA} {px py pt : Pos} {kt k2 pt2} {c1 : Nat} (ha : BA X G c1 [a, b] ma) (hi : X.N[i]? = some x := by rfl) (hj : X.N[j]? = some y := by rfl) (hij : i ≠ j := by decide)
    (hx : X.env.scope.names.lookup x = some .local := by rfl) (hy : X.env.scope.names.lookup y = some .local := by rfl)
    (hw : swappedStores [.Tuple [.Name x px, .Name y py] kt pt] (.Tuple [a, b] k2 pt2) X.env = pure (some [x, y]) := by rfl)
    (hs : swapsWithSole [.Tuple [.Name x px, .Name y py] kt pt] (.Tuple [a, b] k2 pt2) pos.line X.env = pure false := by rfl) :
    BS X G c1 (.Assign [.Tuple [.Name x px, .Name y py] kt pt] (.Tuple [a, b] k2 pt2) pos) (mPar i j ma) := .mk fun n n' s H en E Dn hc hB r hm eo =>
  leS (ps_par (i := i) (j := j) ok.calm ok.nd hi hj hij hx hy paW hw hs) (ha n n' s H en _ _ _ hc hB r (eo.xo r) hm fun ds vs H1 p k z => by
    rcases ds with _ | ⟨d, _ | ⟨d2, _ | ⟨d3, ds⟩⟩⟩
    · exact p.elim
    · exact p.elim
    · obtain ⟨y1, w1, e1, z1, z2⟩ := (show ∃ y w, vs = y :: w ∧ Rp X.K (Av G s en) H1 d y ∧ RpAll X.K (Av G s en) H1 [d2] w by simpa only [RpAll] using z)
      obtain ⟨y2, w2, e2, z3, z4⟩ := (show ∃ y w, w1 = y :: w ∧ Rp X.K (Av G s en) H1 d2 y ∧ RpAll X.K (Av G s en) H1 [] w by simpa only [RpAll] using z2)
      have e3 : w2 = [] := by simpa only [RpAll] using z4
      subst e1; subst e2; subst e3
      have r1 := (r.kp k).setV i z1
      have wk : ∀ b, Av G (s.set i (some y1)) (en.set i (.val d)) b → Av G s en b := fun b h => h.elim .inl fun q => .inr ((owns_set_sub s en i (some y1) (.val d) (fun _ z => nomatch z)).subset q)
      have r2 := r1.setV j (Rp.weak wk z3)
      exact ⟨y1, y2, rfl, eo.nx _ _ _ p r2 (k.s.trans ((Ks.set k.di i (some y1) (.val d) fun _ z => nomatch z).trans (Ks.set k.di j (some y2) (.val d2) fun _ z => nomatch z)))⟩
    · exact p.elim)
end

/-! ### what a loop walks -/
def ItOk (K : PySem.W.Frag) (G : Gh) (A1 : Addr → Prop) (H1 : Hp) (J : It) (ds : List D) : Prop := ds.length ≤ 4611686018427387904 ∧ ∀ (n : Nat) (A' : Addr → Prop) (H : Hp) (i : Nat), Go G n A' H → (∀ a o, H1 a = some o → ¬ A1 a → ¬ A' a ∧ H a = some o) →
  (ds.length = i → J.stop i H) ∧ ∀ d, ds[i]? = some d → J.go i H ∧ ∀ x H', J.yld i H x H' → Kp G n H H' ∧ Rp K A' H' d x
def ItB (K : PySem.W.Frag) (G : Gh) (A1 : Addr → Prop) (H1 : Hp) (J : It) (ds : List D) : Prop := ds.length ≤ 4611686018427387904 ∧ ∀ (G' : Gh) (n : Nat) (A' : Addr → Prop) (H : Hp) (i : Nat), G'.dk = G.dk → Go G' n A' H → (∀ a o, H1 a = some o → ¬ G.dk a → (A' a → A1 a) ∧ H a = some o) →
  (ds.length = i → J.stop i H) ∧ ∀ d, ds[i]? = some d → J.go i H ∧ ∀ x H', J.yld i H x H' → Kp G' n H H' ∧ Rp K A' H' d x
section
variable (X : Cx) (G : Gh)
def BIr (c : Nat) (tg e : Expr) (m : MA) : Prop := ∀ (n n' : Nat) (s : L2.St) (H : Hp) (en : En) (x : XD → Prop) (P : List D → Prop) (R : It → Hp → Prop), n + c ≤ n' → n' ≤ capB → SR X.K G n s H en → XO X G n' s H x → m en x P → (∀ ds J H', P ds → Kp G n' H H' → ItOk X.K G (Av G s en) H' J ds → R J H') → wpI X tg e s H R
def BIBr (c : Nat) (tg e : Expr) (m : MA) : Prop := ∀ (n n' : Nat) (s : L2.St) (H : Hp) (en : En) (x : XD → Prop) (P : List D → Prop) (R : It → Hp → Prop), n + c ≤ n' → n' ≤ capB → SR X.K G n s H en → XO X G n' s H x → m en x P → (∀ ds J H', P ds → Kp G n' H H' → ItB X.K G (Av G s en) H' J ds → R J H') → wpI X tg e s H R
def wpP (tg : Expr) : V → Hp → (It → Hp → Prop) → Prop := fun x H R => ∀ pins sh s v, Inv X pins s H sh → RelV x v → wpAny (model X.prog X.w) X.A (pyIter v) (PIE X pins s tg R) X.xe sh
end
structure BIB (X : Cx) (G : Gh) (c : Nat) (tg e : Expr) (m : MA) : Prop where
  run : BIBr X G c tg e m
instance {X : Cx} {G : Gh} {c : Nat} {tg e : Expr} {m : MA} : CoeFun (BIB X G c tg e m) (fun _ => BIBr X G c tg e m) := ⟨BIB.run⟩
structure BI (X : Cx) (G : Gh) (c : Nat) (tg e : Expr) (m : MA) : Prop where
  run : BIr X G c tg e m
instance {X : Cx} {G : Gh} {c : Nat} {tg e : Expr} {m : MA} : CoeFun (BI X G c tg e m) (fun _ => BIr X G c tg e m) := ⟨BI.run⟩
section
variable {X : Cx} {G : Gh} {tg e : Expr} {m : ME} {pos : Pos}
theorem wpI_of {s : L2.St} {H : Hp} {R : It → Hp → Prop} (h : wpE X e s H fun v H1 => wpP X tg v H1 R) : wpI X tg e s H R := fun pins sh I =>
  thn (h pins sh I) fun v s1 ⟨x, H1, I1, r1, q1⟩ => q1 pins s1 s v I1 r1
theorem wpP_list {a : Addr} {xs : List V} {H : Hp} {R : It → Hp → Prop} (hq : SqL X.K H a xs) (q : xs.length ≤ sizeLine → R (Itl X.K a) H) : wpP X tg (.ref a) H R := by
  intro pins s1 s v I1 r1
  cases r1
  obtain ⟨its, rv, p, hz⟩ := I1.list hq
  refine wpAny_pyIter_list p.isList ?_
  refine ⟨s1.heap.objs.size, [s1.heap.objs.size], _, _, H, rfl, I1.kept (t' := s1.toks) fun b o e => Heap.get?_push_of_some _ e, turn_list a _, ⟨_, Heap.get?_push_size _ rfl, rfl, rfl⟩, fun b hb => ?_, q hz⟩
  have e : b = s1.heap.objs.size := by simpa using hb
  subst e
  exact I1.fpOk (Nat.le_refl _) (I1.hok.fresh (Nat.le_refl _))
theorem wpP_tup {a : Addr} {xs : List V} {H : Hp} {R : It → Hp → Prop} (hq : SqT X.K H a xs) (q : xs.length ≤ sizeLine → R (Itt X.K a) H) : wpP X tg (.ref a) H R := by
  intro pins s1 s v I1 r1
  cases r1
  obtain ⟨its, rv, p, hz⟩ := I1.tuple hq
  refine wpAny_pyIter_tuple (show s1.heap.IsTuple a its.toArray from p) ?_
  refine ⟨s1.heap.objs.size, [s1.heap.objs.size], _, _, H, rfl, I1.kept (t' := s1.toks) fun b o e => Heap.get?_push_of_some _ e, turn_tuple a _, ⟨_, Heap.get?_push_size _ rfl, rfl, rfl⟩, fun b hb => ?_, q hz⟩
  have e : b = s1.heap.objs.size := by simpa using hb
  subst e
  exact I1.fpOk (Nat.le_refl _) (I1.hok.fresh (Nat.le_refl _))
def seqD : D → (List D → Prop) → Prop
  | .lst ds, P => P ds
  | .tup ds, P => P ds
  | _, _ => False
def mSeqD (m : ME) : MA := fun en x P => m en x fun d => seqD d P
theorem sqT_go {K : PySem.W.Frag} {H H' : Hp} {a : Addr} {vs : List V} (kt : ∀ b xs, Rd H b (.tup xs) → Rd H' b (.tup xs)) (h : SqT K H a vs) : SqT K H' a vs := by
  rcases h with h | h
  · exact .inl (kt _ _ h)
  · exact .inr h
theorem seq_go {K : PySem.W.Frag} {A1 A' : Addr → Prop} {H1 H : Hp} {n1 : Nat} (g1 : Go G n1 A1 H1) (keep : ∀ a o, H1 a = some o → ¬ A1 a → ¬ A' a ∧ H a = some o) : (∀ b u, H1 b = some u → ¬ A1 b → H b = some u) ∧ (∀ b xs, Rd H1 b (.tup xs) → Rd H b (.tup xs)) ∧ ∀ b u, A' b → ¬ A1 b → H1 b = some u → False := by
  have rd : ∀ b u, Rd H1 b u → ¬ A1 b → Rd H b u := fun b u q w => q.elim (fun q => .inl (keep b _ q w).2) fun ⟨o, q⟩ => .inr ⟨o, (keep b _ q w).2⟩
  exact ⟨fun b u q w => (keep b _ q w).2, fun b xs q => rd b _ q (g1.notT q), fun b u h1 h2 h3 => (keep b _ h3 h2).1 h1⟩
theorem line62 {k : Nat} (h : k ≤ sizeLine) : k ≤ 4611686018427387904 := Nat.le_trans h (by decide)
theorem itl_ok {K : PySem.W.Frag} {A1 : Addr → Prop} {H1 : Hp} {a : Addr} {vs : List V} {ds : List D} {n1 : Nat} (g1 : Go G n1 A1 H1) (n : ¬ A1 a) (h : H1 a = some (.lst vs)) (z : RpAll K A1 H1 ds vs) (hl : vs.length ≤ sizeLine) : ItOk K G A1 H1 (Itl K a) ds := ⟨line62 (by rw [← z.length]; exact hl), fun nn A' H i g keep => by
  obtain ⟨rd, kt, hA⟩ := seq_go (K := K) g1 keep
  have hq : SqL K H a vs := .inl (.inl (rd _ _ h n))
  have z' : RpAll K A' H ds vs := RpAll.go hA rd kt ds vs z
  refine ⟨fun hi => ⟨vs, hq, by rw [z.length]; exact Nat.le_of_eq hi⟩, fun d hd => ?_⟩
  obtain ⟨v, e1, e2⟩ := z'.get hd
  refine ⟨⟨vs, v, hq, e1⟩, fun x H' y => ?_⟩
  obtain ⟨e3, e4⟩ := y
  subst e3
  have e5 := e4 vs hq
  rw [e1] at e5; cases e5
  exact ⟨Kp.refl g.di, e2⟩⟩
theorem itt_ok {K : PySem.W.Frag} {A1 : Addr → Prop} {H1 : Hp} {a : Addr} {vs : List V} {ds : List D} {n1 : Nat} (g1 : Go G n1 A1 H1) (h : SqT K H1 a vs) (z : RpAll K A1 H1 ds vs) (hl : vs.length ≤ sizeLine) : ItOk K G A1 H1 (Itt K a) ds := ⟨line62 (by rw [← z.length]; exact hl), fun nn A' H i g keep => by
  obtain ⟨rd, kt, hA⟩ := seq_go (K := K) g1 keep
  have hq : SqT K H a vs := sqT_go kt h
  have z' : RpAll K A' H ds vs := RpAll.go hA rd kt ds vs z
  refine ⟨fun hi => ⟨vs, hq, by rw [z.length]; exact Nat.le_of_eq hi⟩, fun d hd => ?_⟩
  obtain ⟨v, e1, e2⟩ := z'.get hd
  refine ⟨⟨vs, v, hq, e1⟩, fun x H' y => ?_⟩
  obtain ⟨e3, e4⟩ := y
  subst e3
  have e5 := e4 vs hq
  rw [e1] at e5; cases e5
  exact ⟨Kp.refl g.di, e2⟩⟩
theorem seqB_go {K : PySem.W.Frag} {A1 A' : Addr → Prop} {H1 H : Hp} {n1 : Nat} (g1 : Go G n1 A1 H1) (keep : ∀ a o, H1 a = some o → ¬ G.dk a → (A' a → A1 a) ∧ H a = some o) : (∀ b u, H1 b = some u → ¬ G.dk b → H b = some u) ∧ (∀ b xs, Rd H1 b (.tup xs) → Rd H b (.tup xs)) ∧ ∀ b u, A' b → ¬ A1 b → H1 b = some u → False := by
  have rd : ∀ b u, Rd H1 b u → ¬ G.dk b → Rd H b u := fun b u q w => q.elim (fun q => .inl (keep b _ q w).2) fun ⟨o, q⟩ => .inr ⟨o, (keep b _ q w).2⟩
  exact ⟨fun b u q w => (keep b _ q w).2, fun b xs q => rd b _ q fun w => g1.notT q (g1.sub b w), fun b u h1 h2 h3 => h2 ((keep b _ h3 fun w => h2 (g1.sub b w)).1 h1)⟩
theorem itlB_ok {K : PySem.W.Frag} {A1 : Addr → Prop} {H1 : Hp} {a : Addr} {vs : List V} {ds : List D} {n1 : Nat} (g1 : Go G n1 A1 H1) (n : ¬ G.dk a) (h : H1 a = some (.lst vs)) (z : RpAll K A1 H1 ds vs) (hl : vs.length ≤ sizeLine) : ItB K G A1 H1 (Itl K a) ds := ⟨line62 (by rw [← z.length]; exact hl), fun G' nn A' H i hG g keep => by
  obtain ⟨rd, kt, hA⟩ := seqB_go (K := K) g1 keep
  have hq : SqL K H a vs := .inl (.inl (rd _ _ h n))
  have z' : RpAll K A' H ds vs := RpAll.go hA (fun b u q w => rd b u q fun y => w (g1.sub b y)) kt ds vs z
  refine ⟨fun hi => ⟨vs, hq, by rw [z.length]; exact Nat.le_of_eq hi⟩, fun d hd => ?_⟩
  obtain ⟨v, e1, e2⟩ := z'.get hd
  refine ⟨⟨vs, v, hq, e1⟩, fun x H' y => ?_⟩
  obtain ⟨e3, e4⟩ := y
  subst e3
  have e5 := e4 vs hq
  rw [e1] at e5; cases e5
  exact ⟨Kp.refl g.di, e2⟩⟩
theorem ittB_ok {K : PySem.W.Frag} {A1 : Addr → Prop} {H1 : Hp} {a : Addr} {vs : List V} {ds : List D} {n1 : Nat} (g1 : Go G n1 A1 H1) (h : SqT K H1 a vs) (z : RpAll K A1 H1 ds vs) (hl : vs.length ≤ sizeLine) : ItB K G A1 H1 (Itt K a) ds := ⟨line62 (by rw [← z.length]; exact hl), fun G' nn A' H i hG g keep => by
  obtain ⟨rd, kt, hA⟩ := seqB_go (K := K) g1 keep
  have hq : SqT K H a vs := sqT_go kt h
  have z' : RpAll K A' H ds vs := RpAll.go hA (fun b u q w => rd b u q fun y => w (g1.sub b y)) kt ds vs z
  refine ⟨fun hi => ⟨vs, hq, by rw [z.length]; exact Nat.le_of_eq hi⟩, fun d hd => ?_⟩
  obtain ⟨v, e1, e2⟩ := z'.get hd
  refine ⟨⟨vs, v, hq, e1⟩, fun x H' y => ?_⟩
  obtain ⟨e3, e4⟩ := y
  subst e3
  have e5 := e4 vs hq
  rw [e1] at e5; cases e5
  exact ⟨Kp.refl g.di, e2⟩⟩
theorem bi_seq {c1 : Nat} (he : BE X G c1 e m) : BI X G c1 tg e (mSeqD m) := .mk fun n n' s H en x P R hc hB r hx hm q =>
  wpI_of (he n n' s H en x _ _ hc hB r hx hm fun d v H1 p k z => by
    cases d with
    | lst ds =>
      obtain ⟨a, vs, e1, n, h, z2⟩ := (show ∃ a vs, v = .ref a ∧ ¬ (Av G s en) a ∧ H1 a = some (.lst vs) ∧ RpAll X.K (Av G s en) H1 ds vs by simpa only [Rp] using z)
      subst e1
      exact wpP_list (.inl (.inl h)) fun hz => q ds _ H1 p k (itl_ok (r.kp k).go n h z2 hz)
    | tup ds =>
      obtain ⟨a, vs, e1, h, z2⟩ := (show ∃ a vs, v = .ref a ∧ SqT X.K H1 a vs ∧ RpAll X.K (Av G s en) H1 ds vs by simpa only [Rp] using z)
      subst e1
      exact wpP_tup h fun hz => q ds _ H1 p k (itt_ok (r.kp k).go h z2 hz)
    | _ => exact p.elim)
theorem bib_seq {c1 : Nat} (he : BB X G c1 e m) : BIB X G c1 tg e (mSeqD m) := .mk fun n n' s H en x P R hc hB r hx hm q =>
  wpI_of (he n n' s H en x _ _ hc hB r hx hm fun d v H1 p k z => by
    cases d with
    | lst ds =>
      obtain ⟨a, vs, e1, n, h, z⟩ := z
      subst e1
      exact wpP_list (.inl (.inl h)) fun hz => q ds _ H1 p k (itlB_ok (r.kp k).go n h z hz)
    | tup ds =>
      obtain ⟨a, vs, e1, h, z2⟩ := (show ∃ a vs, v = .ref a ∧ SqT X.K H1 a vs ∧ RpAll X.K (Av G s en) H1 ds vs by simpa only [Bw, Rp] using z)
      subst e1
      exact wpP_tup h fun hz => q ds _ H1 p k (ittB_ok (r.kp k).go h z2 hz)
    | _ => exact p.elim)
/-! ranges -/
def rangeD (lo : Int) (n : Nat) : List D := (List.range n).map fun (k : Nat) => D.int (lo + k)
theorem rangeD_length (lo : Int) (n : Nat) : (rangeD lo n).length = n := by simp [rangeD]
theorem rangeD_get {lo : Int} {n i : Nat} {d : D} (h : (rangeD lo n)[i]? = some d) : i < n ∧ d = .int (lo + i) := by
  unfold rangeD at h
  rw [List.getElem?_map] at h
  by_cases hi : i < n
  · rw [List.getElem?_eq_getElem (by simpa using hi)] at h
    simp at h
    exact ⟨hi, h.symm⟩
  · rw [List.getElem?_eq_none (by simpa using hi)] at h
    simp at h
theorem itr_ok {K : PySem.W.Frag} {A1 : Addr → Prop} {H1 : Hp} (lo : Int) (n : Nat) (hl : n ≤ 4611686018427387904) : ItOk K G A1 H1 (Itr lo n) (rangeD lo n) := ⟨by rw [rangeD_length]; exact hl, fun _ A' H i g keep => by
  refine ⟨fun hi => by rw [rangeD_length] at hi; exact Nat.le_of_eq hi, fun d hd => ?_⟩
  obtain ⟨hi, e⟩ := rangeD_get hd
  refine ⟨hi, fun x H' y => ?_⟩
  obtain ⟨e1, e2⟩ := y
  subst e; subst e1; subst e2
  exact ⟨Kp.refl g.di, rp_int _⟩⟩
theorem itrB_ok {K : PySem.W.Frag} {A1 : Addr → Prop} {H1 : Hp} (lo : Int) (n : Nat) (hl : n ≤ 4611686018427387904) : ItB K G A1 H1 (Itr lo n) (rangeD lo n) := ⟨by rw [rangeD_length]; exact hl, fun G' _ A' H i hG g keep => by
  refine ⟨fun hi => by rw [rangeD_length] at hi; exact Nat.le_of_eq hi, fun d hd => ?_⟩
  obtain ⟨hi, e⟩ := rangeD_get hd
  refine ⟨hi, fun x H' y => ?_⟩
  obtain ⟨e1, e2⟩ := y
  subst e; subst e1; subst e2
  exact ⟨Kp.refl g.di, rp_int _⟩⟩
def rng1 : List D → (List D → Prop) → Prop
  | [.int j], P => (-(2 ^ 62) ≤ j ∧ j < 2 ^ 62) ∧ P (rangeD 0 j.toNat)
  | _, _ => False
def rng2 : List D → (List D → Prop) → Prop
  | [.int i, .int j], P => (-(2 ^ 62) ≤ i ∧ i < 2 ^ 62 ∧ -(2 ^ 62) ≤ j ∧ j < 2 ^ 62 ∧ j - i ≤ 2 ^ 62) ∧ P (rangeD i (j - i).toNat)
  | _, _ => False
def mRng1 (m : MA) : MA := fun en x P => m en x fun ds => rng1 ds P
def mRng2 (m : MA) : MA := fun en x P => m en x fun ds => rng2 ds P
theorem bw_int {K : PySem.W.Frag} {A dk : Addr → Prop} {H : Hp} {i : Int} {v : V} (h : Bw K A dk H (.int i) v) : v = .int i := by simpa only [Bw, Rp] using h
theorem bwAll1 {K : PySem.W.Frag} {A dk : Addr → Prop} {H : Hp} {d : D} {vs : List V} (h : BwAll K A dk H [d] vs) : ∃ v, vs = [v] ∧ Bw K A dk H d v := by
  obtain ⟨v, r, e, h1, h2⟩ := h
  have e2 : r = [] := h2
  subst e2
  exact ⟨v, e, h1⟩
theorem bwAll2 {K : PySem.W.Frag} {A dk : Addr → Prop} {H : Hp} {d d2 : D} {vs : List V} (h : BwAll K A dk H [d, d2] vs) : ∃ v w, vs = [v, w] ∧ Bw K A dk H d v ∧ Bw K A dk H d2 w := by
  obtain ⟨v, r, e, h1, h2⟩ := h
  obtain ⟨w, e2, h3⟩ := bwAll1 h2
  subst e2
  exact ⟨v, w, e, h1, h3⟩
theorem bwAll3 {K : PySem.W.Frag} {A dk : Addr → Prop} {H : Hp} {d d2 d3 : D} {vs : List V} (h : BwAll K A dk H [d, d2, d3] vs) : ∃ v w u, vs = [v, w, u] ∧ Bw K A dk H d v ∧ Bw K A dk H d2 w ∧ Bw K A dk H d3 u := by
  obtain ⟨v, r, e, h1, h2⟩ := h
  obtain ⟨w, u, e2, h3, h4⟩ := bwAll2 h2
  subst e2
  exact ⟨v, w, u, e, h1, h3, h4⟩
theorem rng1_of {ds : List D} {P : List D → Prop} (h : rng1 ds P) : ∃ j, ds = [.int j] ∧ (-(2 ^ 62) ≤ j ∧ j < 2 ^ 62) ∧ P (rangeD 0 j.toNat) := by
  unfold rng1 at h
  split at h
  · exact ⟨_, rfl, h⟩
  · exact h.elim
theorem rng2_of {ds : List D} {P : List D → Prop} (h : rng2 ds P) : ∃ i j, ds = [.int i, .int j] ∧ (-(2 ^ 62) ≤ i ∧ i < 2 ^ 62 ∧ -(2 ^ 62) ≤ j ∧ j < 2 ^ 62 ∧ j - i ≤ 2 ^ 62) ∧ P (rangeD i (j - i).toNat) := by
  unfold rng2 at h
  split at h
  · exact ⟨_, _, rfl, h⟩
  · exact h.elim
section
variable {a b : Expr} {ma : MA} {p : Pos}
theorem bi_range1 {c1 : Nat} (hg : Gl X "range") (hm : X.mg "range" = none) (ha : BAB X G c1 [a] ma) (hs : starEach [a] X.env = [(false, eval a X.env)] := by rfl) : BI X G c1 tg (.Call (.Name "range" p) [a] [] pos) (mRng1 ma) := .mk fun n n' s H en x P R hc hB r hx hmm q =>
  leI (pi_range1 hg hm paW hs) (ha n n' s H en x _ _ hc hB r hx hmm fun ds vs H1 p k z => by
    obtain ⟨j, rfl, hb, p2⟩ := rng1_of p
    obtain ⟨v, rfl, z2⟩ := bwAll1 z
    obtain rfl := bw_int z2
    exact ⟨j, rfl, hb.1, hb.2, q _ _ H1 p2 k (itr_ok 0 j.toNat (by omega))⟩)
theorem bib_range1 {c1 : Nat} (hg : Gl X "range") (hm : X.mg "range" = none) (ha : BAB X G c1 [a] ma) (hs : starEach [a] X.env = [(false, eval a X.env)] := by rfl) : BIB X G c1 tg (.Call (.Name "range" p) [a] [] pos) (mRng1 ma) := .mk fun n n' s H en x P R hc hB r hx hmm q =>
  leI (pi_range1 hg hm paW hs) (ha n n' s H en x _ _ hc hB r hx hmm fun ds vs H1 p k z => by
    obtain ⟨j, rfl, hb, p2⟩ := rng1_of p
    obtain ⟨v, rfl, z2⟩ := bwAll1 z
    obtain rfl := bw_int z2
    exact ⟨j, rfl, hb.1, hb.2, q _ _ H1 p2 k (itrB_ok 0 j.toNat (by omega))⟩)
theorem bi_range2 {c1 : Nat} (hg : Gl X "range") (hm : X.mg "range" = none) (ha : BAB X G c1 [a, b] ma) (hs : starEach [a, b] X.env = [(false, eval a X.env), (false, eval b X.env)] := by rfl) (hs2 : starEach [b] X.env = [(false, eval b X.env)] := by rfl) : BI X G c1 tg (.Call (.Name "range" p) [a, b] [] pos) (mRng2 ma) := .mk fun n n' s H en x P R hc hB r hx hmm q =>
  leI (pi_range2 hg hm paW hs hs2) (ha n n' s H en x _ _ hc hB r hx hmm fun ds vs H1 p k z => by
    obtain ⟨i, j, rfl, hb, p2⟩ := rng2_of p
    obtain ⟨v, w, rfl, z1, z2⟩ := bwAll2 z
    obtain rfl := bw_int z1
    obtain rfl := bw_int z2
    exact ⟨i, j, rfl, ⟨hb.1, hb.2.1, hb.2.2.1, hb.2.2.2.1⟩, q _ _ H1 p2 k (itr_ok i (j - i).toNat (by omega))⟩)
theorem bib_range2 {c1 : Nat} (hg : Gl X "range") (hm : X.mg "range" = none) (ha : BAB X G c1 [a, b] ma) (hs : starEach [a, b] X.env = [(false, eval a X.env), (false, eval b X.env)] := by rfl) (hs2 : starEach [b] X.env = [(false, eval b X.env)] := by rfl) : BIB X G c1 tg (.Call (.Name "range" p) [a, b] [] pos) (mRng2 ma) := .mk fun n n' s H en x P R hc hB r hx hmm q =>
  leI (pi_range2 hg hm paW hs hs2) (ha n n' s H en x _ _ hc hB r hx hmm fun ds vs H1 p k z => by
    obtain ⟨i, j, rfl, hb, p2⟩ := rng2_of p
    obtain ⟨v, w, rfl, z1, z2⟩ := bwAll2 z
    obtain rfl := bw_int z1
    obtain rfl := bw_int z2
    exact ⟨i, j, rfl, ⟨hb.1, hb.2.1, hb.2.2.1, hb.2.2.2.1⟩, q _ _ H1 p2 k (itrB_ok i (j - i).toNat (by omega))⟩)
end

/-! ### for -/
def forL (g : MG) (b : MS) (E : Ed) : List D → En → Prop
  | [], en => E.nx en
  | d :: ds, en => g d en fun en' => b { E with nx := forL g b E ds, ct := forL g b E ds, bk := E.nx } en'
def mFor (mi : MA) (g : MG) (b : MS) : MS := fun E en => mi en (fun xd => E.ex xd en) fun ds => forL g b E ds en
theorem bs_for (ok : CxOk X) {iter : Expr} {body : List Stmt} {ts : List Nat} {mi : MA} {g : MG} {b : MS} {c1 c2 : Nat} (hi : BI X G c1 tg iter mi) (hg : BG X G tg ts g) (hb : BSs X G c2 body b) (hs : ∀ x, foldedSetIterable iter X.env x = pure x := by intro _; rfl) :
    BS X G (c1 + 4611686018427387904 * c2) (.For tg iter body [] pos) (mFor mi g b) := .mk fun n n' s H en E Dn hc hB r hm eo => by
  refine leS (ps_for ok.pass ok.calm piW pgW pssW hs) (hi n (n + c1) s H en _ _ _ (Nat.le_refl _) (by omega) r ((eo.xo r).le (by omega)) hm fun ds J H1 p k it => ?_)
  obtain ⟨hlen, it⟩ := it
  refine ⟨fun i m s' H' => ∃ en', SR X.K G (n + c1 + i * c2) s' H' en' ∧ Ks G (n + c1 + i * c2) (owns s en) H1 (owns s' en') H' ∧ forL g b E (ds.drop i) en' ∧ m = ds.length - i ∧ i ≤ ds.length, ⟨ds.length, en, (r.kp k).le (by omega), (Ks.refl k.di).le (by omega), p, by simp, Nat.zero_le _⟩, ?_⟩
  rintro i m s' H' ⟨en', r', k', f, em, hi'⟩
  have keep : ∀ a o, H1 a = some o → ¬ Av G s en a → ¬ Av G s' en' a ∧ H' a = some o := fun a o h n => by
    obtain ⟨z1, z2⟩ := k'.keep a o h (fun w => n (.inl (G.sub a w))) fun w => n (.inr w)
    exact ⟨fun w => w.elim (fun w => n (.inl w)) z1, z2⟩
  obtain ⟨stop, go⟩ := it _ _ H' i r'.go keep
  by_cases hlt : i < ds.length
  · have hd : ds[i]? = some ds[i] := List.getElem?_eq_getElem hlt
    obtain ⟨g1, g2⟩ := go _ hd
    have hmul : (i + 1) * c2 ≤ 4611686018427387904 * c2 := Nat.mul_le_mul_right _ (by omega)
    have hsu : (i + 1) * c2 = i * c2 + c2 := Nat.succ_mul i c2
    rw [List.drop_eq_getElem_cons hlt] at f
    refine .inr ⟨g1, fun s2 H2 => ∃ en2, SR X.K G (n + c1 + (i + 1) * c2) s2 H2 en2 ∧ Ks G (n + c1 + (i + 1) * c2) (owns s en) H1 (owns s2 en2) H2 ∧ forL g b E (ds.drop (i + 1)) en2, fun s2 H2 ⟨en2, a1, a2, a3⟩ => ⟨ds.length - (i + 1), by omega, en2, a1, a2, a3, rfl, hlt⟩, fun x H2 y => ?_⟩
    obtain ⟨k2, z2⟩ := g2 x H2 y
    refine hg _ s' H2 en' _ x _ _ (r'.kp k2) z2 f fun s3 en3 p3 r3 k3 _ _ _ => ?_
    have k4 : Ks G (n + c1 + i * c2) (owns s en) H1 (owns s3 en3) H2 := k'.trans ((k2.s).trans k3)
    have eo1 := (eo.shift k.s).lower (show n + c1 + (i + 1) * c2 ≤ n' by omega)
    refine hb (n + c1 + i * c2) (n + c1 + (i + 1) * c2) s3 H2 en3 _ _ (by omega) (by omega) r3 p3 ⟨fun s5 H5 en5 a1 a2 a3 => ⟨en5, a2, k4.trans a3, a1⟩, fun s5 H5 en5 a1 a2 a3 => eo1.nx s5 H5 en5 a1 a2 (k4.trans a3), fun s5 H5 en5 a1 a2 a3 => ⟨en5, a2, k4.trans a3, a1⟩, fun d v H5 a1 a2 a3 => eo1.rt d v H5 a1 a2 (k4.transR a3), ?_⟩
    obtain ⟨W, t, q⟩ := eo1.ex
    exact ⟨W, t, fun xd en5 s5 H5 cls d a1 a2 a3 a4 => q xd en5 s5 H5 cls d a1 a2 (k4.trans a3) a4⟩
  · have e : i = ds.length := by omega
    subst e
    rw [List.drop_length] at f
    have hmul : ds.length * c2 ≤ 4611686018427387904 * c2 := Nat.mul_le_mul_right _ hlen
    exact .inl ⟨stop rfl, eo.nx s' H' en' f (r'.le (by omega)) ((k.s.trans k').le (by omega))⟩

/-! ### while -/
def mWhile (t : MT) (b : MS) : MS := fun E en => ∃ W : Nat → En → Prop, (∃ n, n ≤ 4611686018427387904 ∧ W n en) ∧ ∀ n en, W n en → t en (fun xd => E.ex xd en) fun c => if c = true then b { E with nx := fun en' => ∃ n', n' < n ∧ W n' en', ct := fun en' => ∃ n', n' < n ∧ W n' en', bk := E.nx } en else E.nx en
theorem bs_while (ok : CxOk X) {c : Expr} {body : List Stmt} {t : MT} {b : MS} {c1 c2 : Nat} (hc' : BT X G c1 c t) (hb : BSs X G c2 body b) : BS X G (4611686018427387905 * (c1 + c2)) (.While c body [] pos) (mWhile t b) := .mk fun n n' s H en E Dn hc hB r hm eo => by
  obtain ⟨W, ⟨n0, hn0, w0⟩, turn⟩ := hm
  refine leS (ps_while ok.pass ptW pssW) ?_
  refine ⟨fun m s' H' => ∃ en', SR X.K G (n + (n0 - m) * (c1 + c2)) s' H' en' ∧ Ks G (n + (n0 - m) * (c1 + c2)) (owns s en) H (owns s' en') H' ∧ W m en' ∧ m ≤ n0, ⟨n0, en, r.le (by omega), (Ks.refl r.di).le (by omega), w0, Nat.le_refl _⟩, ?_⟩
  rintro m s' H' ⟨en', r', k', w', hm0⟩
  have hmul0 : (n0 - m + 1) * (c1 + c2) ≤ 4611686018427387905 * (c1 + c2) := Nat.mul_le_mul_right _ (by omega)
  rw [Nat.succ_mul] at hmul0
  have eo' := (eo.shift k').lower (show n + (n0 - m) * (c1 + c2) + c1 ≤ n' by omega)
  refine hc' (n + (n0 - m) * (c1 + c2)) (n + (n0 - m) * (c1 + c2) + c1) s' H' en' _ _ _ (Nat.le_refl _) (by omega) r' (eo'.xo r') (turn m en' w') fun d H1 p k => ?_
  cases d with
  | true =>
    rw [if_pos rfl] at p ⊢
    refine ⟨fun s2 H2 => ∃ m', m' < m ∧ ∃ en2, SR X.K G (n + (n0 - m') * (c1 + c2)) s2 H2 en2 ∧ Ks G (n + (n0 - m') * (c1 + c2)) (owns s en) H (owns s2 en2) H2 ∧ W m' en2 ∧ m' ≤ n0, fun s2 H2 h => h, ?_⟩
    have k4 : Ks G (n + (n0 - m) * (c1 + c2) + c1) (owns s en) H (owns s' en') H1 := k'.trans k.s
    have step : ∀ m', m' < m → n + (n0 - m) * (c1 + c2) + c1 + c2 ≤ n + (n0 - m') * (c1 + c2) := fun m' h => by
      have h1 : (n0 - m + 1) * (c1 + c2) ≤ (n0 - m') * (c1 + c2) := Nat.mul_le_mul_right _ (by omega)
      rw [Nat.succ_mul] at h1
      omega
    have eo1 := eo.lower (show n + (n0 - m) * (c1 + c2) + c1 + c2 ≤ n' by omega)
    refine hb (n + (n0 - m) * (c1 + c2) + c1) (n + (n0 - m) * (c1 + c2) + c1 + c2) s' H1 en' _ _ (Nat.le_refl _) (by omega) (r'.kp k) p ⟨fun s5 H5 en5 ⟨m', a0, a1⟩ a2 a3 => ⟨m', a0, en5, a2.le (step m' a0), (k4.trans a3).le (step m' a0), a1, by omega⟩, fun s5 H5 en5 a1 a2 a3 => eo1.nx s5 H5 en5 a1 a2 (k4.trans a3), fun s5 H5 en5 ⟨m', a0, a1⟩ a2 a3 => ⟨m', a0, en5, a2.le (step m' a0), (k4.trans a3).le (step m' a0), a1, by omega⟩, fun d v H5 a1 a2 a3 => eo1.rt d v H5 a1 a2 (k4.transR a3), ?_⟩
    obtain ⟨W', t', q⟩ := eo1.ex
    exact ⟨W', t', fun xd en5 s5 H5 cls d a1 a2 a3 a4 => q xd en5 s5 H5 cls d a1 a2 (k4.trans a3) a4⟩
  | false =>
    rw [if_neg Bool.false_ne_true] at p ⊢
    exact eo'.nx s' H1 en' p (r'.kp k) k.s
end
end BV

namespace BV
open PySem PySem.Spec L2

/-! ### comprehensions -/
section
variable (X : Cx) (G : Gh)
def wpTs (ifs : List Expr) : TT := fun s H Q => ∀ pins sh, Inv X pins s H sh → wpAny (model X.prog X.w) X.A (forIn ifs true fun c r => if r = true then do let ok ← isTrue c X.env (eval c X.env); pure (ForInStep.yield ok) else pure (ForInStep.yield r)) (TP X pins s Q) X.xe sh
def BTsr (c : Nat) (ifs : List Expr) (m : MT) : Prop := ∀ (n n' : Nat) (s : L2.St) (H : Hp) (en : En) (x : XD → Prop) (P : Bool → Prop) (Q : Bool → Hp → Prop), n + c ≤ n' → n' ≤ capB → SR X.K G n s H en → XO X G n' s H x → m en x P → (∀ b H', P b → Kp G n' H H' → Q b H') → wpTs X ifs s H Q
end
structure BTs (X : Cx) (G : Gh) (c : Nat) (ifs : List Expr) (m : MT) : Prop where
  run : BTsr X G c ifs m
instance {X : Cx} {G : Gh} {c : Nat} {ifs : List Expr} {m : MT} : CoeFun (BTs X G c ifs m) (fun _ => BTsr X G c ifs m) := ⟨BTs.run⟩
theorem leTs {X : Cx} {e : List Expr} {t : TT} (h : PTs X e t) {s : L2.St} {H : Hp} {Q : Bool → Hp → Prop} (q : t s H Q) : wpTs X e s H Q := fun pins sh I => h.run pins sh s H Q I q
def mYes : MT := fun _ _ P => P true
theorem bts_nil {X : Cx} {G : Gh} : BTs X G 0 [] mYes := .mk fun n n' s H en x P Q hc hB r hx hm q => leTs pts_nil (q true H hm ((Kp.refl r.di).le (by omega)))
theorem bts_one {X : Cx} {G : Gh} {c : Expr} {m : MT} {c1 : Nat} (h : BT X G c1 c m) : BTs X G c1 [c] m := .mk fun n n' s H en x P Q hc hB r hx hm q => leTs (pts_one ptW) (h n n' s H en x P Q hc hB r hx hm q)

def wipeE (en : En) : List Nat → En
  | [] => en
  | v :: vs => (wipeE en vs).set v .no
def isOwn : Option Sl → Bool
  | some (.own _) => true
  | _ => false
def noOwn (en : En) (vs : List Nat) : Bool := vs.all fun v => !isOwn en[v]?
theorem wipeE_get (en : En) (j : Nat) : ∀ vs : List Nat, (wipeE en vs)[j]? = en[j]? ∨ (wipeE en vs)[j]? = some .no
  | [] => .inl rfl
  | v :: vs => by
    show ((wipeE en vs).set v .no)[j]? = en[j]? ∨ ((wipeE en vs).set v .no)[j]? = some .no
    by_cases e : v = j
    · subst e
      by_cases hl : v < (wipeE en vs).length
      · right; exact List.getElem?_set_self hl
      · have e1 : ((wipeE en vs).set v .no)[v]? = none := List.getElem?_eq_none (by simpa using hl)
        have e2 : (wipeE en vs)[v]? = none := List.getElem?_eq_none (by simpa using hl)
        rw [e1]
        rcases wipeE_get en v vs with q | q
        · left; rw [← q, e2]
        · rw [e2] at q; cases q
    · rw [List.getElem?_set_ne e]
      exact wipeE_get en j vs
theorem owns_set_no : ∀ (s : L2.St) (en : En) (i : Nat), isOwn en[i]? = false → s.length = en.length → owns (s.set i none) (en.set i .no) = owns s en
  | [], en, i, _, _ => by simp [owns]
  | _ :: _, [], _, _, hl => by simp at hl
  | w :: s, y :: en, 0, h, hl => by
    show owns (none :: s) (.no :: en) = owns (w :: s) (y :: en)
    have h' : isOwn (some y) = false := h
    cases y with
    | own ds => cases h'
    | no => cases w with
      | none => rfl
      | some w => cases w <;> rfl
    | val d => cases w with
      | none => rfl
      | some w => cases w <;> rfl
  | w :: s, y :: en, i + 1, h, hl => by
    have ih := owns_set_no s en i (by simpa using h) (by simpa using hl)
    show owns (w :: s.set i none) (y :: en.set i .no) = owns (w :: s) (y :: en)
    cases w with
    | none => exact ih
    | some w => cases w <;> cases y <;> first | exact ih | exact congrArg (List.cons _) ih
theorem wipe_len (s : L2.St) (en : En) (h : s.length = en.length) : ∀ vs : List Nat, (wipe s vs).length = (wipeE en vs).length
  | [] => h
  | v :: vs => by
    show ((wipe s vs).set v none).length = ((wipeE en vs).set v .no).length
    rw [List.length_set, List.length_set]; exact wipe_len s en h vs
theorem owns_wipe (s : L2.St) (en : En) (hl : s.length = en.length) : ∀ vs : List Nat, noOwn en vs = true → owns (wipe s vs) (wipeE en vs) = owns s en
  | [], _ => rfl
  | v :: vs, h => by
    have h1 : (!isOwn en[v]?) = true ∧ noOwn en vs = true := by
      unfold noOwn at h ⊢
      simpa only [List.all_cons, Bool.and_eq_true] using h
    show owns ((wipe s vs).set v none) ((wipeE en vs).set v .no) = _
    rw [owns_set_no _ _ v ?_ (wipe_len s en hl vs), owns_wipe s en hl vs h1.2]
    rcases wipeE_get en v vs with q | q
    · rw [q]; simpa using h1.1
    · rw [q]; rfl
theorem SR.wipe {K : PySem.W.Frag} {G : Gh} {s : L2.St} {H : Hp} {en : En} {n : Nat} (r : SR K G n s H en) : ∀ vs : List Nat, SR K G n (wipe s vs) H (wipeE en vs)
  | [] => r
  | v :: vs => (SR.wipe r vs).setNo v none
theorem wipe_get (s : L2.St) (j : Nat) : ∀ vs : List Nat, (j ∉ vs → (L2.wipe s vs)[j]? = s[j]?) ∧ (j ∈ vs → ∀ v, (L2.wipe s vs)[j]? ≠ some (some v))
  | [] => ⟨fun _ => rfl, fun h => by simp at h⟩
  | v :: vs => by
    obtain ⟨i1, i2⟩ := wipe_get s j vs
    show (j ∉ v :: vs → ((L2.wipe s vs).set v none)[j]? = s[j]?) ∧ (j ∈ v :: vs → ∀ w, ((L2.wipe s vs).set v none)[j]? ≠ some (some w))
    by_cases e : v = j
    · subst e
      refine ⟨fun h => absurd List.mem_cons_self h, fun _ w z => ?_⟩
      by_cases hl : v < (L2.wipe s vs).length
      · rw [List.getElem?_set_self hl] at z; cases z
      · rw [List.getElem?_eq_none (by simpa using hl)] at z; cases z
    · rw [List.getElem?_set_ne e]
      refine ⟨fun h => i1 fun z => h (List.mem_cons_of_mem _ z), fun h => i2 ?_⟩
      rcases List.mem_cons.mp h with z | z
      · exact absurd z.symm e
      · exact z
theorem wipe_eq {vs ts : List Nat} (hts : ∀ j, j ∈ ts → j ∈ vs) : ∀ {s s' : L2.St}, Bar ts s s' → L2.wipe s' vs = L2.wipe s vs := by
  intro s s' b
  have key : ∀ us : List Nat, (∀ j, j ∉ us → s'[j]? = s[j]?) → L2.wipe s' us = L2.wipe s us := by
    intro us h
    refine List.ext_getElem? fun j => ?_
    by_cases hj : j ∈ us
    · have l1 : (L2.wipe s' us).length = (L2.wipe s us).length := by rw [wipe_length, wipe_length, b.1]
      cases e1 : (L2.wipe s' us)[j]? with
      | none =>
        have := List.getElem?_eq_none_iff.mp e1
        rw [List.getElem?_eq_none (by omega)]
      | some v =>
        cases v with
        | some v => exact absurd e1 ((wipe_get s' j us).2 hj v)
        | none =>
          have := (List.getElem?_eq_some_iff.mp e1).1
          have e2 : (L2.wipe s us)[j]? = some (L2.wipe s us)[j] := List.getElem?_eq_getElem (by omega)
          cases e3 : (L2.wipe s us)[j] with
          | none => rw [e2, e3]
          | some v => rw [e3] at e2; exact absurd e2 ((wipe_get s j us).2 hj v)
    · rw [(wipe_get s' j us).1 hj, (wipe_get s j us).1 hj]; exact h j hj
  exact key vs fun j hj => b.2 j fun z => hj (hts j z)
/-- one more place to shun -/
def Gh.plus (G : Gh) (p : Addr) : Gh := { G with av := fun a => G.av a ∨ a = p, sub := fun a h => .inl (G.sub a h) }
theorem Kp.plus {G : Gh} {n : Nat} {p : Addr} {H H' : Hp} (k : Kp G n H H') : Kp (G.plus p) n H H' := ⟨k.keep, k.di⟩
theorem Kp.unplus {G : Gh} {n : Nat} {p : Addr} {H H' : Hp} (k : Kp (G.plus p) n H H') : Kp G n H H' := ⟨k.keep, k.di⟩
theorem SR.plus {K : PySem.W.Frag} {G : Gh} {s : L2.St} {H : Hp} {en : En} {n : Nat} (r : SR K G n s H en) {p : Addr} (h : H p = none) {xs : List V} : SR K (G.plus p) n s (upd H p (.lst xs)) en := by
  have k : Kp G n H (upd H p (.lst xs)) := Kp.new r.di h
  have hA : ∀ b u, Av (G.plus p) s en b → ¬ Av G s en b → H b = some u → False := fun b u h1 h2 h3 => by
    rcases h1 with (h1 | h1) | h1
    · exact h2 (.inl h1)
    · subst h1
      rw [h] at h3; cases h3
    · exact h2 (.inr h1)
  have kl : ∀ b u, H b = some u → ¬ Av G s en b → upd H p (.lst xs) b = some u := fun b u h1 h2 => k.keep b u h1 fun z => h2 (.inl (G.sub b z))
  have kt : ∀ b ys, Rd H b (.tup ys) → Rd (upd H p (.lst xs)) b (.tup ys) := fun b ys h1 => k.rdT r.di h1
  have mapB : ∀ {s2 : L2.St} {e2 : En}, Slots K (Av G s en) G.av H s2 e2 → Slots K (Av (G.plus p) s en) (G.plus p).av (upd H p (.lst xs)) s2 e2 := by
    intro s2
    induction s2 with
    | nil => intro e2 h; cases e2 with
      | nil => exact h
      | cons _ _ => exact h.elim
    | cons v s2 ih =>
      intro e2 h
      cases e2 with
      | nil => exact h.elim
      | cons x e2 =>
        obtain ⟨h1, h2⟩ := h
        refine ⟨?_, ih h2⟩
        cases x with
        | no => exact h1
        | val d => obtain ⟨y, e1, e2⟩ := h1; exact ⟨y, e1, Rp.go hA kl kt d y e2⟩
        | own es =>
          obtain ⟨y, us, e1, e0, e2, e3⟩ := h1
          refine ⟨y, us, e1, ?_, k.keep y _ e2 fun z => e0 (G.sub y z), RpAll.go hA kl kt es us e3⟩
          rintro (z | z)
          · exact e0 z
          · rw [z, h] at e2; cases e2
  refine ⟨mapB r.sl, k.di, fun a ha => ?_, r.nd⟩
  rcases ha with ha | ha
  · exact k.lst (r.tr a ha)
  · subst ha; exact ⟨xs, upd_same⟩
/-- a list that all data shun is written -/
theorem SR.wrD {K : PySem.W.Frag} {G : Gh} {s : L2.St} {H : Hp} {en : En} {n : Nat} (r : SR K G n s H en) {p : Addr} (hp : G.av p) (nd : ¬ G.dk p) {xs : List V} : SR K G n s (upd H p (.lst xs)) en ∧ ∀ {ds : List D} {vs : List V}, RpAll K (Av G s en) H ds vs → RpAll K (Av G s en) (upd H p (.lst xs)) ds vs := by
  obtain ⟨ys, ep⟩ := r.tr p hp
  have kl : ∀ b u, H b = some u → ¬ Av G s en b → upd H p (.lst xs) b = some u := fun b u q1 q2 => by
    have ne : b ≠ p := fun q => q2 (by rw [q]; exact .inl hp)
    rw [upd_ne ne]; exact q1
  have kt : ∀ b ys, Rd H b (.tup ys) → Rd (upd H p (.lst xs)) b (.tup ys) := fun b ys q1 => q1.elim (fun q => .inl (kl b _ q (r.go.notT (.inl q)))) fun ⟨o, q⟩ => .inr ⟨o, kl b _ q (r.go.notT (.inr ⟨o, q⟩))⟩
  have hA : ∀ b u, Av G s en b → ¬ Av G s en b → H b = some u → False := fun b u q1 q2 _ => q2 q1
  refine ⟨⟨Slots.map (fun v x h => ?_) r.sl, G.st n H _ r.di fun a ha => by rw [upd_ne (fun q => nd (by rw [← q]; exact ha))], fun a ha => ?_, r.nd⟩, fun {ds vs} z => RpAll.go hA kl kt ds vs z⟩
  · cases x with
    | no => exact h
    | val d => obtain ⟨y, e1, e2⟩ := h; exact ⟨y, e1, Rp.go hA kl kt d y e2⟩
    | own es =>
      obtain ⟨y, us, e1, e0, e2, e3⟩ := h
      exact ⟨y, us, e1, e0, by rw [upd_ne (fun q => e0 (by rw [q]; exact hp))]; exact e2, RpAll.go hA kl kt es us e3⟩
  · unfold upd
    split
    · exact ⟨_, rfl⟩
    · exact r.tr a ha

def lcL (g : MG) (t : MT) (m : ME) (vs : List Nat) (en : En) (P : List D → Prop) : List D → List D → Prop
  | [], acc => P acc
  | d :: ds, acc => g d (wipeE en vs) fun en2 => t en2 noX fun b => if b = true then m en2 noX fun y => acc.length < sizeLine ∧ lcL g t m vs en P ds (acc ++ [y]) else lcL g t m vs en P ds acc
def mLc (mi : MA) (g : MG) (t : MT) (m : ME) (vs : List Nat) : MA := fun en x P => noOwn en vs = true ∧ mi en x fun ds => lcL g t m vs en P ds []

theorem CxOk.blk {X : Cx} (ok : CxOk X) {s : Shared} {H : Hp} {scope : Scope} {cenv : Env} {fp : List Addr} : CxOk (X.blk s H scope cenv fp) := ⟨ok.nd, ok.calm, PassesOwn.never, ok.gd, ok.sm, ok.ro⟩
section
variable {X : Cx} {G : Gh} {tg iter elt : Expr} {ifs : List Expr} {scope : Scope} {own : List (Str × Nat)} {pos : Pos} {mi : MA} {g : MG} {t : MT} {m : ME} {ts : List Nat} {c1 c2 c3 : Nat}
theorem lc_read (ok : CxOk X) (hi : BIB X G c1 tg iter mi) (hts : ∀ j, j ∈ ts → j ∈ own.map (·.2))
    (hg : ∀ (G' : Gh), (∀ p, G.dp p → G'.dp p) → ∀ (s : Shared) (H : Hp) (C : Addr) (cl : List (Str × Addr)) (fp : List Addr), BG (X.blk s H scope (compEnvC scope cl C X.env) fp) G' tg ts g)
    (ht : ∀ (G' : Gh), (∀ p, G.dp p → G'.dp p) → ∀ (s : Shared) (H : Hp) (C : Addr) (cl : List (Str × Addr)) (fp : List Addr), BTs (X.blk s H scope (compEnvC scope cl C X.env) fp) G' c2 ifs t)
    (he : ∀ (G' : Gh), (∀ p, G.dp p → G'.dp p) → ∀ (s : Shared) (H : Hp) (C : Addr) (cl : List (Str × Addr)) (fp : List Addr), BE (X.blk s H scope (compEnvC scope cl C X.env) fp) G' c3 elt m)
    (n n' : Nat) (s : L2.St) (H : Hp) (en : En) (x : XD → Prop) (P : List D → Prop) (Q : VK) (hc : n + (c1 + 4611686018427387904 * (c2 + c3)) ≤ n') (hB : n' ≤ capB) (r : SR X.K G n s H en) (hx : XO X G n' s H x) (hm : mLc mi g t m (own.map (·.2)) en x P)
    (q : ∀ ds a vs H', P ds → Kp G n' H H' → H a = none → H' a = some (.lst vs) → RpAll X.K (fun b => Av G s en b ∨ b = a) H' ds vs → Q (.ref a) H') :
    tLc (wpI X tg iter) (fun v s H Q => ∀ (s0 : Shared) (H0 : Hp) (C : Addr) (cl : List (Str × Addr)) (fp : List Addr), wpG (X.blk s0 H0 scope (compEnvC scope cl C X.env) fp) tg v s H Q)
      (fun s H Q => ∀ (s0 : Shared) (H0 : Hp) (C : Addr) (cl : List (Str × Addr)) (fp : List Addr), wpTs (X.blk s0 H0 scope (compEnvC scope cl C X.env) fp) ifs s H Q)
      (fun s H Q => ∀ (s0 : Shared) (H0 : Hp) (C : Addr) (cl : List (Str × Addr)) (fp : List Addr), wpE (X.blk s0 H0 scope (compEnvC scope cl C X.env) fp) elt s H Q) (own.map (·.2)) s H Q := by
  obtain ⟨hno, hm⟩ := hm
  generalize hvs : own.map (·.2) = vs at *
  have how := owns_wipe s en r.sl.length vs hno
  refine hi n (n + c1) s H en x _ _ (Nat.le_refl _) (by omega) r (hx.le (by omega)) hm fun ds J H1 p k it D hD => ?_
  obtain ⟨hlen, it⟩ := it
  have nD : ¬ G.dk D := fun z => (r.kp k).go.fresh hD (.inl (G.sub D z))
  have r0 : SR X.K (G.plus D) (n + c1) (L2.wipe s vs) (upd H1 D (.lst [])) (wipeE en vs) := ((r.kp k).wipe vs).plus hD
  refine ⟨fun i mm H' => ∃ acc vacc, SR X.K (G.plus D) (n + c1 + i * (c2 + c3)) (L2.wipe s vs) H' (wipeE en vs) ∧ Kp G (n + c1 + i * (c2 + c3)) H1 H' ∧ H' D = some (.lst vacc) ∧ RpAll X.K (Av (G.plus D) (L2.wipe s vs) (wipeE en vs)) H' acc vacc ∧ lcL g t m vs en P (ds.drop i) acc ∧ mm = ds.length - i ∧ i ≤ ds.length,
    ⟨ds.length, [], [], r0.le (by omega), (Kp.new k.di hD).le (by omega), upd_same, RpAll.nil, p, by simp, Nat.zero_le _⟩, ?_⟩
  rintro i mm H' ⟨acc, vacc, r', k', eD, za, f, em, hi'⟩
  have keep : ∀ a o, H1 a = some o → ¬ G.dk a → (Av (G.plus D) (L2.wipe s vs) (wipeE en vs) a → Av G s en a) ∧ H' a = some o := fun a o h n => by
    refine ⟨fun w => ?_, k'.keep a o h n⟩
    rcases w with (w | w) | w
    · exact .inl w
    · subst w; rw [hD] at h; cases h
    · rw [how] at w; exact .inr w
  obtain ⟨stop, go⟩ := it (G.plus D) _ _ H' i rfl r'.go keep
  by_cases hlt : i < ds.length
  · have hd : ds[i]? = some ds[i] := List.getElem?_eq_getElem hlt
    obtain ⟨g1, g2⟩ := go _ hd
    rw [List.drop_eq_getElem_cons hlt] at f
    have hmul : (i + 1) * (c2 + c3) ≤ 4611686018427387904 * (c2 + c3) := Nat.mul_le_mul_right _ (by omega)
    have hsu : (i + 1) * (c2 + c3) = i * (c2 + c3) + (c2 + c3) := Nat.succ_mul i (c2 + c3)
    refine .inr ⟨g1, fun H2 => ∃ acc vacc, SR X.K (G.plus D) (n + c1 + (i + 1) * (c2 + c3)) (L2.wipe s vs) H2 (wipeE en vs) ∧ Kp G (n + c1 + (i + 1) * (c2 + c3)) H1 H2 ∧ H2 D = some (.lst vacc) ∧ RpAll X.K (Av (G.plus D) (L2.wipe s vs) (wipeE en vs)) H2 acc vacc ∧ lcL g t m vs en P (ds.drop (i + 1)) acc,
      fun H2 ⟨acc, vacc, a1, a2, a3, a4, a5⟩ => ⟨ds.length - (i + 1), by omega, acc, vacc, a1, a2, a3, a4, a5, rfl, hlt⟩, fun y H2 hy => ?_⟩
    obtain ⟨k2, z2⟩ := g2 y H2 hy
    intro s0 H0 C cl fp
    refine hg (G.plus D) (fun _ h => h) s0 H0 C cl fp _ (L2.wipe s vs) H2 (wipeE en vs) _ y _ _ (r'.kp k2) z2 f fun s3 en3 p3 r3 k3 b3 a3 st3 => ⟨wipe_eq hts b3 |>.trans ?_, fun s0 H0 C cl fp => ?_⟩
    · exact wipe_eq (s := s) (s' := L2.wipe s vs) (ts := vs) (fun j h => h) ⟨wipe_length s vs, fun j hj => (wipe_get s j vs).1 hj⟩
    have hav : ∀ a, Av (G.plus D) (L2.wipe s vs) (wipeE en vs) a → Av (G.plus D) s3 en3 a := fun a h => by
      rcases h with h | h
      · exact .inl h
      · rcases st3 a h with w | ⟨j, hj, ej⟩
        · exact .inr w
        · exact absurd ej ((wipe_get s j vs).2 (hts j hj) _)
    refine ht (G.plus D) (fun _ h => h) s0 H0 C cl fp (n + c1 + i * (c2 + c3)) (n + c1 + i * (c2 + c3) + c2) s3 H2 en3 noX _ _ (Nat.le_refl _) (by omega) r3 XO.no p3 fun b H4 p4 k4 => ?_
    have k24 : Kp (G.plus D) (n + c1 + i * (c2 + c3) + c2) H' H4 := k2.trans k4
    cases b with
    | false =>
      rw [if_neg Bool.false_ne_true] at p4 ⊢
      exact ⟨acc, vacc, (r'.kp k24).le (by omega), (k'.trans k24.unplus).le (by omega), k24.keep D _ eD nD, r'.go.rpAll k24 za, p4⟩
    | true =>
      rw [if_pos rfl] at p4 ⊢
      intro s0 H0 C cl fp
      refine he (G.plus D) (fun _ h => h) s0 H0 C cl fp (n + c1 + i * (c2 + c3) + c2) (n + c1 + (i + 1) * (c2 + c3)) s3 H4 en3 noX _ _ (by omega) (by omega) (r3.kp k4) XO.no p4 fun w v H5 p5 k5 z5 => ?_
      have k25 : Kp (G.plus D) (n + c1 + (i + 1) * (c2 + c3)) H' H5 := k24.trans k5
      obtain ⟨hz, p5⟩ := p5
      have za5 := r'.go.rpAll k25 za
      have r5 := r'.kp k25
      obtain ⟨r6, go6⟩ := r5.wrD (p := D) (.inr rfl) nD (xs := vacc ++ [v])
      refine ⟨vacc, k25.keep D _ eD nD, by rw [za.length]; exact hz, acc ++ [w], vacc ++ [v], r6, ⟨fun a o h n => ?_, r6.di⟩, upd_same, go6 (za5.append (RpAll.cons (Rp.weak hav z5) RpAll.nil)), p5⟩
      rw [upd_ne (fun q => by rw [q, hD] at h; cases h)]
      exact (k'.trans k25.unplus).keep a o h n
  · have e : i = ds.length := by omega
    subst e
    rw [List.drop_length] at f
    have hmul : ds.length * (c2 + c3) ≤ 4611686018427387904 * (c2 + c3) := Nat.mul_le_mul_right _ hlen
    refine .inl ⟨stop rfl, q acc D vacc H' f ((k.trans k').le (by omega)) (k.none hD) eD (RpAll.weak (fun b h => ?_) za)⟩
    rcases h with (h | h) | h
    · exact .inl (.inl h)
    · exact .inr (by rw [how]; exact h)
    · exact .inl (.inr h)
theorem bf_lc (ok : CxOk X) (hi : BIB X G c1 tg iter mi) (okb : BlkOk X.N X.env.scope scope own)
    (hg : ∀ (G' : Gh), (∀ p, G.dp p → G'.dp p) → ∀ (s : Shared) (H : Hp) (C : Addr) (cl : List (Str × Addr)) (fp : List Addr), BG (X.blk s H scope (compEnvC scope cl C X.env) fp) G' tg ts g)
    (ht : ∀ (G' : Gh), (∀ p, G.dp p → G'.dp p) → ∀ (s : Shared) (H : Hp) (C : Addr) (cl : List (Str × Addr)) (fp : List Addr), BTs (X.blk s H scope (compEnvC scope cl C X.env) fp) G' c2 ifs t)
    (he : ∀ (G' : Gh), (∀ p, G.dp p → G'.dp p) → ∀ (s : Shared) (H : Hp) (C : Addr) (cl : List (Str × Addr)) (fp : List Addr), BE (X.blk s H scope (compEnvC scope cl C X.env) fp) G' c3 elt m)
    (hs : ∀ x, foldedSetIterable iter X.env x = pure x := by intro _; rfl) (hts : ∀ j, j ∈ ts → j ∈ own.map (·.2) := by decide) : BF X G (c1 + 4611686018427387904 * (c2 + c3)) (.ListComp elt [⟨tg, iter, ifs, 0⟩] scope pos) (mLc mi g t m (own.map (·.2))) := .mk fun n n' s H en x P Q hc hB r hx hm q =>
  leE (pe_lc ok.calm ok.nd piW okb (fun s0 H0 C cl fp => ⟨fun pins s σ H v u Q I r h => h s0 H0 C cl fp pins s u I r⟩) (fun s0 H0 C cl fp => ⟨fun pins s σ H Q I h => h s0 H0 C cl fp pins s I⟩) (fun s0 H0 C cl fp => ⟨fun pins s σ H Q I h => h s0 H0 C cl fp pins s I⟩) hs)
    (lc_read ok hi hts hg ht he n n' s H en x P Q hc hB r hx hm q)
/-- y = [..], y a local: one's own list, or a list like others -/
theorem bs_ownLc (ok : CxOk X) (i : Nat) {y : Str} {py spos : Pos} (hi : BIB X G c1 tg iter mi) (okb : BlkOk X.N X.env.scope scope own)
    (hg : ∀ (G' : Gh), (∀ p, G.dp p → G'.dp p) → ∀ (s : Shared) (H : Hp) (C : Addr) (cl : List (Str × Addr)) (fp : List Addr), BG (X.blk s H scope (compEnvC scope cl C X.env) fp) G' tg ts g)
    (ht : ∀ (G' : Gh), (∀ p, G.dp p → G'.dp p) → ∀ (s : Shared) (H : Hp) (C : Addr) (cl : List (Str × Addr)) (fp : List Addr), BTs (X.blk s H scope (compEnvC scope cl C X.env) fp) G' c2 ifs t)
    (he : ∀ (G' : Gh), (∀ p, G.dp p → G'.dp p) → ∀ (s : Shared) (H : Hp) (C : Addr) (cl : List (Str × Addr)) (fp : List Addr), BE (X.blk s H scope (compEnvC scope cl C X.env) fp) G' c3 elt m)
    (hsw : swapsWith (.ListComp elt [⟨tg, iter, ifs, 0⟩] scope pos) (some (.Name y py)) spos.line X.env = pure true) (hy : X.N[i]? = some y := by rfl) (hyl : X.env.scope.names.lookup y = some .local := by rfl)
    (hs : ∀ x, foldedSetIterable iter X.env x = pure x := by intro _; rfl) (hts : ∀ j, j ∈ ts → j ∈ own.map (·.2) := by decide) :
    BS X G (c1 + 4611686018427387904 * (c2 + c3)) (.Assign [.Name y py] (.ListComp elt [⟨tg, iter, ifs, 0⟩] scope pos) spos) (mOwn i (mLc mi g t m (own.map (·.2)))) := .mk fun n n' s H en E Dn hc hB r hm eo =>
  leS (ps_setLc (i := i) ok.calm ok.nd hy hyl hsw piW okb (fun s0 H0 C cl fp => ⟨fun pins s σ H v u Q I r h => h s0 H0 C cl fp pins s u I r⟩) (fun s0 H0 C cl fp => ⟨fun pins s σ H Q I h => h s0 H0 C cl fp pins s I⟩) (fun s0 H0 C cl fp => ⟨fun pins s σ H Q I h => h s0 H0 C cl fp pins s I⟩) hs)
    (lc_read ok hi hts hg ht he n n' s H en _ _ _ hc hB r (eo.xo r) hm fun ds a vs H' p k hn e2 z => by
      obtain ⟨r', k'⟩ := r.setO i k hn e2 z
      exact eo.nx _ _ _ p r' k')
theorem bs_setLc (ok : CxOk X) (i : Nat) {y : Str} {py spos : Pos} (hi : BIB X G c1 tg iter mi) (okb : BlkOk X.N X.env.scope scope own)
    (hg : ∀ (G' : Gh), (∀ p, G.dp p → G'.dp p) → ∀ (s : Shared) (H : Hp) (C : Addr) (cl : List (Str × Addr)) (fp : List Addr), BG (X.blk s H scope (compEnvC scope cl C X.env) fp) G' tg ts g)
    (ht : ∀ (G' : Gh), (∀ p, G.dp p → G'.dp p) → ∀ (s : Shared) (H : Hp) (C : Addr) (cl : List (Str × Addr)) (fp : List Addr), BTs (X.blk s H scope (compEnvC scope cl C X.env) fp) G' c2 ifs t)
    (he : ∀ (G' : Gh), (∀ p, G.dp p → G'.dp p) → ∀ (s : Shared) (H : Hp) (C : Addr) (cl : List (Str × Addr)) (fp : List Addr), BE (X.blk s H scope (compEnvC scope cl C X.env) fp) G' c3 elt m)
    (hsw : swapsWith (.ListComp elt [⟨tg, iter, ifs, 0⟩] scope pos) (some (.Name y py)) spos.line X.env = pure true) (hy : X.N[i]? = some y := by rfl) (hyl : X.env.scope.names.lookup y = some .local := by rfl)
    (hs : ∀ x, foldedSetIterable iter X.env x = pure x := by intro _; rfl) (hts : ∀ j, j ∈ ts → j ∈ own.map (·.2) := by decide) :
    BS X G (c1 + 4611686018427387904 * (c2 + c3)) (.Assign [.Name y py] (.ListComp elt [⟨tg, iter, ifs, 0⟩] scope pos) spos) (mSet i (mFr (mLc mi g t m (own.map (·.2))))) := .mk fun n n' s H en E Dn hc hB r hm eo =>
  leS (ps_setLc (i := i) ok.calm ok.nd hy hyl hsw piW okb (fun s0 H0 C cl fp => ⟨fun pins s σ H v u Q I r h => h s0 H0 C cl fp pins s u I r⟩) (fun s0 H0 C cl fp => ⟨fun pins s σ H Q I h => h s0 H0 C cl fp pins s I⟩) (fun s0 H0 C cl fp => ⟨fun pins s σ H Q I h => h s0 H0 C cl fp pins s I⟩) hs)
    (lc_read ok hi hts hg ht he n n' s H en _ _ _ hc hB r (eo.xo r) hm fun ds a vs H' p k hn e2 z =>
      eo.nx _ _ _ p ((r.kp k).setV i (Rp.lst (r.go.fresh hn) e2 (RpAll.weak (fun _ w => .inl w) z))) (k.s.trans (Ks.set k.di i (some (.ref a)) (.val (.lst ds)) fun _ z => nomatch z)))
end
end BV

namespace BV
open PySem PySem.Spec L2
open PyProof.Rows hiding St

/-! ### defs: a promise where nothing is being shown -/
structure FnOkG (P : Program) (w : World) (K : PySem.W.Frag) (mg : Str → Option Value) (base : Heap) (CX : CXT) (k : Nat) (f : Addr) (fd : FuncData) (ps : List Str) (sp : Sp) : Prop where
  len : ∀ vs H Q E, sp vs H Q E → vs.length = ps.length
  run : ∀ (A : Around) (outer : List Env) (s : Shared) (H : Hp) (args : Args) (us : List Value) (vs : List V) (Q : VK) (E : XK), Room k A → A.guards = some [] → Env0 P w K mg base A outer s H → BindsTo s fd args (ps.zip us) → Vals vs us → sp vs H Q E →
    codeAny (model P w) A (.call (.ref f) args) (CR CX outer P w H s Q E) s
theorem FnOkG.mono {P : Program} {w : World} {K : PySem.W.Frag} {mg : Str → Option Value} {base : Heap} {CX : CXT} {j k : Nat} {f : Addr} {fd : FuncData} {ps : List Str} {sp : Sp} (F : FnOkG P w K mg base CX j f fd ps sp) (h : j ≤ k) :
    FnOkG P w K mg base CX k f fd ps sp := ⟨F.len, fun A outer s H args us vs Q E hr => F.run A outer s H args us vs Q E (hr.mono h)⟩
section
variable {Cx0 : CXT} {P : Program} {w : World} {K : PySem.W.Frag} {mg : Str → Option Value} {base : Heap}
/-- how the library's rule for a def's body reads where no repr is under way -/
theorem fn_ofG {k : Nat} {f : Addr} {nm qual : Str} {pars : Arguments} {body : List Stmt} {sc : Scope} {v1 v2 v3 v4 cdv v5 v6 : Value} {o1 o2 : Option Addr} {arr : Array (Option Value)} {N ps : List Str} {sp : Sp}
    (lk : K.lookup f = some ⟨v6, o2, .func (PySem.W.fnOf nm qual pars body sc v1 v2 v3 v4 o1 cdv v5), arr⟩) (hcd : PySem.W.codeIn K cdv qual = true) (S : FnScope N ps sc) (len : ∀ vs H Q E, sp vs H Q E → vs.length = ps.length)
    (hbody : ∀ (A : Around) (out : List Env) (sh : Shared) (H : Hp) (vs : List V) (Q : VK) (E : XK), Room k (A.deeper (envOfC qual sc sh.heap.objs.size f cdv)) → A.guards = some [] → sp vs H Q E →
      wpSs (cxOf Cx0 P w K mg base N qual sc f cdv A out sh H E) body { nx := fun _ H2 => Q .non H2, rt := Q } (L2.start N vs) H) :
    FnOkG P w K mg base Cx0 (k + 1) f (PySem.W.fnOf nm qual pars body sc v1 v2 v3 v4 o1 cdv v5) ps sp :=
  ⟨len, fun A out sh H args us vs Q E room gd env bnd vals prom => by
    have kin := env.mod.kin.keeps fun b o q => (env.bs b o q).1
    have nol := env.mod.nolimit.keeps fun b o q => (env.bs b o q).1
    refine codeAny_call_function room.depth (kin _ _ lk) rfl S.co S.gen rfl (PySem.W.codeRec_of kin hcd) (bnd _ _ _ _ (wpAny_newFunctionEnv_cells S.kind (fun y hy => ?_) fun en he sh1 x => ?_))
    · exact (S.par y.1 (List.of_mem_zip hy).1).imp id fun q => ⟨q, PySem.W.cellsFrom_some _ _ _ (.inl q)⟩
    subst he
    refine ⟨nol.keeps x.toInCall.keep, codeAny_func (wpAny_mono ((hbody A out sh H vs Q E (room.deeper _) gd prom).run [] sh1 (inv_start S room.hd env (len _ _ _ _ prom) vals x)) (fun fl sh2 q => ?_) fun _ _ q => q)⟩
    cases fl with
    | brk => exact q.elim fun _ q => q.elim fun _ q => False.elim q.2
    | cont => exact q.elim fun _ q => q.elim fun _ q => False.elim q.2
    | next => exact q.elim fun _ q => q.elim fun H2 q => ⟨.non, H2, q.1.os, q.1.bare, q.1.base, q.1.hok, rfl, q.2⟩
    | ret u => exact q.elim fun v q => q.elim fun _ q => q.elim fun H2 q => ⟨v, H2, q.1.os, q.1.bare, q.1.base, q.1.hok, q.2.1, q.2.2⟩⟩
end

/-! ### by value -/
abbrev MF := Addr → List D → (XD → Prop) → (D → Prop) → Prop
def XRm (K : PySem.W.Frag) (mg : Str → Option Value) (G : Gh) (H : Hp) (cls : Value) (d : Option Addr) (x : XD) : Prop :=
  ∃ C, mg x.cls = some (.ref C) ∧ cls = .ref C ∧ match x.arg with
    | none => d = none
    | some (f, v) => ∃ p u, d = some p ∧ H p = some (.xd [(f, u)]) ∧ Rp K G.av H v u
def spB (K : PySem.W.Frag) (mg : Str → Option Value) (np c : Nat) (M : MF) : Sp := fun vs H Q E => ∃ (G : Gh) (n n' : Nat) (dl : Addr) (ds : List D) (x : XD → Prop) (P : D → Prop), n + c ≤ n' ∧ n' ≤ capB ∧ G.dp dl ∧ vs.length = np ∧ RpAll K G.av H ds vs ∧ G.DI n H ∧ (∀ a, G.av a → ∃ xs, H a = some (.lst xs)) ∧ M dl ds x P ∧
  (∀ d v H', P d → Kp G n' H H' → Rp K G.av H' d v → Q v H') ∧ ∀ xd cls d H', x xd → Kp G n' H H' → XRm K mg G H' cls d xd → E cls d H'
/-- all that a caller wants of the def at the module's name x -/
structure Df (P : Program) (w : World) (K : PySem.W.Frag) (mg : Str → Option Value) (base : Heap) (k : Nat) (x : Str) (np c : Nat) (M : MF) : Prop where
  ex : ∃ (f : Addr) (fd : FuncData) (ps : List Str), ps.length = np ∧ FnOkG P w K mg base (L2.CX P w) k f fd ps (spB K mg np c M) ∧ mg x = some (.ref f) ∧ PySem.W.keepIn K (.ref f) = true ∧ Binds K fd ps []
/-- the ghost that a callee gets -/
def Gh.at_ (G : Gh) (s : L2.St) (en : En) : Gh := { G with av := Av G s en, sub := fun a h => .inl (G.sub a h) }
def mCallF (np : Nat) (dl : Addr) (M : MF) (m : MA) : ME := fun en x P => m en x fun ds => ds.length = np ∧ M dl ds x P
section
variable {X : Cx} {G : Gh} {x : Str} {p pos : Pos} {e : Expr} {es : List Expr} {mr : MA} {np c cr k : Nat} {M : MF} {dl : Addr}
theorem run_df {s : L2.St} {H : Hp} {en : En} {n n' : Nat} {xx : XD → Prop} {P : D → Prop} {Q : VK} {ds : List D} {vs : List V} {us : List Value} {pins : List (Addr × Obj)} {sh : Shared} {f : Addr} {fd : FuncData} {ps : List Str}
    (hl : ps.length = np) (F : FnOkG X.prog X.w X.K X.mg X.base (L2.CX X.prog X.w) k f fd ps (spB X.K X.mg np c M)) (hb : Binds X.K fd ps []) (hr : Room k X.A) (gd : X.A.guards = some []) (hd : G.dp dl) (hc : n + c ≤ n') (hB : n' ≤ capB)
    (r : SR X.K G n s H en) (hx : XO X G n' s H xx) (z : RpAll X.K (Av G s en) H ds vs) (p : ds.length = np ∧ M dl ds xx P) (q : ∀ d v H', P d → Kp G n' H H' → Rp X.K (Av G s en) H' d v → Q v H')
    (I : Inv X pins s H sh) (rv : Vals vs us) : wpAny (model X.prog X.w) X.A (call (.ref f) us) (EP X pins s Q) X.xe sh := by
  obtain ⟨W, tk, hW⟩ := hx
  have hvl : vs.length = np := z.length.trans p.1
  have hsp : spB X.K X.mg np c M vs H Q (fun cls d H' => W cls d s H') := by
    refine ⟨G.at_ s en, n, n', dl, ds, xx, P, hc, hB, hd, hvl, z, r.di, fun a h => r.trk h, p.2, fun d v H' a1 a2 a3 => q d v H' a1 ⟨a2.keep, a2.di⟩ a3, fun xd cls d H' a1 a2 a3 => hW xd cls d H' a1 ⟨a2.keep, a2.di⟩ ?_⟩
    obtain ⟨C, e1, e2, e3⟩ := a3
    refine ⟨C, e1, e2, ?_⟩
    revert e3
    cases xd.arg with
    | none => exact fun e3 => e3
    | some fv =>
      obtain ⟨fn, v⟩ := fv
      rintro ⟨pp, u, g1, g2, g3⟩
      exact ⟨pp, u, g1, g2, Rp.weak (fun _ w => .inl w) g3⟩
  have hul : us.length = ps.length := by rw [← rv.length, hvl, hl]
  have hbt := hb sh us I.kIn (by rw [List.append_nil]; exact hul)
  rw [List.append_nil] at hbt
  refine wpAny_call (codeAny_mono (F.run X.A X.stack sh H ⟨us, []⟩ us vs Q _ hr gd I.env0 hbt rv hsp) fun rr s' hq => ?_)
  cases rr with
  | error e => exact tk e s' (XE.of_call I (fun _ _ _ h => h) hq)
  | ok fl =>
    cases fl with
    | ret u => exact I.after hq
    | next => exact False.elim hq
    | brk => exact False.elim hq
    | cont => exact False.elim hq
theorem be_call (ok : CxOk X) (hd : G.dp dl) (F : Df X.prog X.w X.K X.mg X.base k x np c M) (hr : Room k X.A) (hg : Gl X x) (ha : BA X G cr (e :: es) mr) (hdb : (x == ("__debug__" : Str)) = false := by decide)
    (he : starEach (e :: es) X.env = (false, eval e X.env) :: starEach es X.env := by rfl) (hpl : (backTo pos (starEach es X.env)).any (·.1) = false := by rfl) : BE X G (cr + c) (.Call (.Name x p) (e :: es) [] pos) (mCallF np dl M mr) := .mk fun n n' s H en xx P Q hc hB r hx hm q pins sh I => by
  obtain ⟨f, fd, ps, hl, F, hm1, hk, hb⟩ := F.ex
  refine wpAny_Call_Name_kw (ld_glob I hg hm1 ?_ hdb)
  refine PySem.W.callWith_K (h₀ := X.base) I.ok.mod.kin hk (thn (ha n (n + cr) s H en xx _ (fun vs H1 => Kp G (n + cr) H H1 ∧ ∃ ds, RpAll X.K (Av G s en) H1 ds vs ∧ ds.length = np ∧ M dl ds xx P) (Nat.le_refl _) (by omega) r (hx.le (by omega)) hm (fun ds vs H1 p k z => ⟨k, ds, z, p⟩) pos pins sh I) fun us s1 ⟨vs, H1, I1, rv, k, ds, z, p⟩ => ⟨I1.kIn, ?_⟩) he hpl
  exact run_df hl F hb hr ok.gd hd (show n + cr + c ≤ n' by omega) hB (r.kp k) (hx.kp k) z p (fun d v H' a1 a2 a3 => q d v H' a1 (k.trans a2) a3) I1 rv
theorem be_call0 (ok : CxOk X) (hd : G.dp dl) (F : Df X.prog X.w X.K X.mg X.base k x np c M) (hr : Room k X.A) (hg : Gl X x) (hdb : (x == ("__debug__" : Str)) = false := by decide) : BE X G c (.Call (.Name x p) [] [] pos) (mCallF np dl M mNil) := .mk fun n n' s H en xx P Q hc hB r hx hm q pins sh I => by
  obtain ⟨f, fd, ps, hl, F, hm1, hk, hb⟩ := F.ex
  refine wpAny_Call_Name_kw (ld_glob I hg hm1 ?_ hdb)
  exact PySem.W.callWith_K0 I.kIn hk (run_df (ds := []) (vs := []) (us := []) hl F hb hr ok.gd hd hc hB r hx RpAll.nil hm q I .nil)
end

/-! ### a def by its body's meaning -/
def fnM (nN np : Nat) (ms : Addr → MS) : MF := fun dl ds x P => ds.length = np ∧ ms dl { nx := fun _ => P .non, rt := P, ex := fun xd _ => x xd } (ds.map Sl.val ++ List.replicate (nN - ds.length) Sl.no)
theorem owns_val : ∀ (vs : List V) (ds : List D) (s : L2.St) (en : En), vs.length = ds.length → owns (vs.map some ++ s) (ds.map Sl.val ++ en) = owns s en
  | [], [], _, _, _ => rfl
  | [], _ :: _, _, _, h => by simp at h
  | _ :: _, [], _, _, h => by simp at h
  | v :: vs, d :: ds, s, en, h => by
    have ih := owns_val vs ds s en (by simpa using h)
    show owns (some v :: (vs.map some ++ s)) (.val d :: (ds.map Sl.val ++ en)) = _
    cases v <;> exact ih
theorem owns_rep : ∀ (n : Nat), owns (List.replicate n none) (List.replicate n Sl.no) = []
  | 0 => rfl
  | n + 1 => owns_rep n
theorem slots_start {K : PySem.W.Frag} {A B : Addr → Prop} {H : Hp} : ∀ (ds : List D) (vs : List V) (n : Nat), RpAll K A H ds vs → Slots K A B H (vs.map some ++ List.replicate n none) (ds.map Sl.val ++ List.replicate n Sl.no)
  | [], vs, n, h => by
    have e : vs = [] := by simpa only [RpAll] using h
    subst e
    induction n with
    | zero => exact trivial
    | succ n ih => exact ⟨trivial, ih⟩
  | d :: ds, vs, n, h => by
    obtain ⟨v, r, e, h1, h2⟩ := (show ∃ v r, vs = v :: r ∧ Rp K A H d v ∧ RpAll K A H ds r by simpa only [RpAll] using h)
    subst e
    exact ⟨⟨v, rfl, h1⟩, slots_start ds r n h2⟩
theorem df_of {P : Program} {w : World} {K : PySem.W.Frag} {mg : Str → Option Value} {base : Heap} {k : Nat} {x qual : Str} {params : Arguments} {body : List Stmt} {scope : Scope} {dvs : List V} {kws : List (Str × V)} {f : Addr} {fd : FuncData} {N ps : List Str} {c : Nat} {ms : Addr → MS}
    (F : FunD K x qual params body scope dvs kws f fd) (S : FnScope N ps scope) (hm : mg x = some (.ref f)) (hb : Binds K fd ps []) (hsm : ∃ o, base.get? sysModules = some o)
    (hbody : ∀ (cdv : Value) (A : Around) (outer : List Env) (s : Shared) (H : Hp) (E : XK) (G : Gh) (dl : Addr), CxOk (cxOf (L2.CX P w) P w K mg base N qual scope f cdv A outer s H E) → Room k (cxOf (L2.CX P w) P w K mg base N qual scope f cdv A outer s H E).A → G.dp dl → BSs (cxOf (L2.CX P w) P w K mg base N qual scope f cdv A outer s H E) G c body (ms dl)) :
    Df P w K mg base (k + 1) x ps.length c (fnM N.length ps.length ms) := by
  obtain ⟨oc, od, dV, kV, doc, pm, an, cdv, ct, osl, rfl, lk, hcd, _, _⟩ := F.ex
  refine ⟨⟨f, _, ps, rfl, fn_ofG lk hcd S (fun vs H Q E h => ?_) (fun A outer s H vs Q E hr hgd h => ?_), hm, F.kp, hb⟩⟩
  · obtain ⟨G, n, n', dl, ds, xx, PP, _, _, _, h1, _⟩ := h
    exact h1
  · obtain ⟨G, n, n', dl, ds, xx, PP, hc, hB, hdp, hl, z, di, tr, ⟨hdl, hms⟩, hq, hE⟩ := h
    have ok : CxOk (cxOf (L2.CX P w) P w K mg base N qual scope f cdv A outer s H E) := ⟨S.nd, rfl, passes_of (K := fun e s'' => L2.CX P w outer H s E e s'') (E₁ := fun e' s'' => L2.CX P w outer H s E e' s'') rfl, hgd, hsm, hr.mono (Nat.zero_le _)⟩
    have B := hbody cdv A outer s H E G dl ok hr hdp
    have hst : start N vs = vs.map some ++ List.replicate (N.length - ds.length) none := by unfold L2.start; rw [z.length]
    have how : owns (start N vs) (ds.map Sl.val ++ List.replicate (N.length - ds.length) Sl.no) = [] := by
      rw [hst, owns_val vs ds _ _ z.length]
      exact owns_rep _
    have hav : ∀ a, Av G (start N vs) (ds.map Sl.val ++ List.replicate (N.length - ds.length) Sl.no) a → G.av a := fun a h => h.elim (fun q => q) fun q => by rw [how] at q; cases q
    have r0 : SR K G n (start N vs) H (ds.map Sl.val ++ List.replicate (N.length - ds.length) Sl.no) := by
      refine ⟨?_, di, tr, by rw [how]; exact List.nodup_nil⟩
      have sl : Slots K (Av G (start N vs) (ds.map Sl.val ++ List.replicate (N.length - ds.length) Sl.no)) G.av H (vs.map some ++ List.replicate (N.length - ds.length) none) (ds.map Sl.val ++ List.replicate (N.length - ds.length) Sl.no) := slots_start ds vs _ (RpAll.weak hav z)
      rw [hst] at sl ⊢
      exact sl
    refine B n n' _ H _ _ _ hc hB r0 hms ⟨fun s' H' en' a1 a2 a3 => ?_, fun s' H' en' a1 _ _ => a1.elim, fun s' H' en' a1 _ _ => a1.elim, fun d v H' a1 a2 a3 => ?_, ?_⟩
    · rw [how] at a3
      exact hq .non .non H' a1 ⟨fun a o h n => (a3.keep a o h n (by simp)).2, a3.di⟩ rp_non
    · rw [how] at a3
      exact hq d v H' a1 ⟨fun a o h n => a3.keep a o h n (by simp), a3.di⟩ a2
    · refine ⟨fun cls d _ H => E cls d H, takes_of rfl rfl rfl rfl, fun xd en' s' H' cls d a1 a2 a3 a4 => ?_⟩
      rw [how] at a3
      exact hE xd cls d H' a1 ⟨fun a o h n => (a3.keep a o h n (by simp)).2, a3.di⟩ a4

/-! ### the law's end, where nothing is being shown -/
section
variable {P : Program} {w : World} {K : PySem.W.Frag} {mg mb : Str → Option Value} {Cx0 : CXT} {k : Nat} {fa a : Addr} {fd : FuncData} {x : Str} {sp : Sp} {sh : Shared} {its : List Value} {ns : List Int}
theorem end_at {H : Hp} (kin : K.In sh.heap) (g : sh.heap.Ns mainGlobals mg) (gb : sh.heap.Ns builtinsNs mb) (bb : ∀ y : Str, y ≠ "__name__" → mb y = bootBuiltins y) (nol : sh.heap.NoLimit) (gens : sh.gens = #[])
    (obj : sh.heap.get? a = some { cls := .type "list", data := .seq its.toArray }) (room : Room k callerA) (sysm : ∃ o, sh.heap.get? sysModules = some o ∧ o.cls = .type "dict") (F : ∀ B : Heap, K.In B → B.Ns mainGlobals mg → (∃ o, B.get? sysModules = some o) → FnOkG P w K mg B Cx0 k fa fd [x] sp) (bnd : ∀ (t : Shared) (u : Value), BindsTo t fd ⟨[u], []⟩ [(x, u)])
    (only : Only H) (prom : sp [.ref a] H (fun v _ => v = .bl true) fun _ _ _ => False) (hok : HOk P w H sh.heap) (alone : ∀ b, H b ≠ none → b = a) (apart : H a ≠ none → K.lookup a = none) (hx : ∀ H e t, Cx0 [] H sh (fun _ _ _ => False) e t → False) :
    codeAny (model P w) callerA (.call (.ref fa) ⟨[.ref a], []⟩) (fun r t => r = .ok (.ret (.bool true)) ∧ OldK sh.heap t.heap ∧ t.os = sh.os ∧ AllBare t.gens) sh := by
  have free : ∀ {b : Addr} {o : Obj}, sh.heap.get? b = some o → (∀ us : Array Value, ∀ m, o.data ≠ .seq us m) → H b = none := fun {b o} q nd => Option.not_isSome_iff_eq_none.mp fun some_ => by
    have e : b = a := alone b fun z => by rw [z] at some_; cases some_
    rw [e, obj] at q
    cases q
    exact nd _ _ rfl
  have nsB : ∀ {b : Addr} {m : Str → Option Value}, sh.heap.Ns b m → (hidT sh.heap H).Ns b m := fun {b m} q => by
    obtain ⟨o, es, ep, q1, q2, q3⟩ := q
    exact ⟨o, es, ep, hidT_get q1 (free q1 fun us m z => by rw [q2] at z; cases z), q2, q3⟩
  have kinB : K.In (hidT sh.heap H) := fun b o q => hidT_get (kin b o q) (Option.not_isSome_iff_eq_none.mp fun some_ => by
    have ne : H b ≠ none := fun z => by rw [z] at some_; cases some_
    have e := alone b ne
    rw [e] at ne q
    rw [apart ne] at q
    cases q)
  have env : Env0 P w K mg (hidT sh.heap H) callerA [] sh H := by
    refine ⟨rfl, ⟨kinB, nsB g, ⟨mb, nsB gb, bb⟩, ?_⟩, fun b o q => of_hidT q, Nat.le_of_eq (hidT_size _ _), trivial, fun b z => absurd z (List.not_mem_nil), hok, AllBare.of_eq gens⟩
    obtain ⟨mc, q1, q2⟩ := nol
    exact ⟨mc, nsB q1, q2⟩
  have sysB : ∃ o, (hidT sh.heap H).get? sysModules = some o := by
    obtain ⟨o, q1, q2⟩ := sysm
    refine ⟨o, hidT_get q1 (Option.not_isSome_iff_eq_none.mp fun some_ => ?_)⟩
    have e : sysModules = a := alone _ fun z => by rw [z] at some_; cases some_
    rw [e, obj] at q1
    cases q1
    have q3 : Value.type "list" = Value.type "dict" := q2
    exact absurd q3 (by decide)
  refine codeAny_mono ((F _ kinB (nsB g) sysB).run callerA [] sh H ⟨[.ref a], []⟩ [.ref a] [.ref a] _ _ room rfl env (bnd sh (.ref a)) (.cons rfl .nil) prom) fun r t q => ?_
  match r, q with
  | .error e, q => exact (hx H e t q).elim
  | .ok .next, q => exact q.elim
  | .ok .brk, q => exact q.elim
  | .ok .cont, q => exact q.elim
  | .ok (.ret u), q =>
    obtain ⟨v, H2, os, bare, un, hok2, rv, qv⟩ := q
    have qv : v = .bl true := qv
    subst qv
    have eu : u = .bool true := rv
    subst eu
    refine ⟨rfl, OldK.of_keep fun b o q1 => ?_, os, bare⟩
    rcases only b with z | ⟨ob, xs, z⟩
    · exact un.keep b o q1 z (by intro z; cases z) (by simp)
    · have z1 := (hok b _ z).1
      rw [q1] at z1
      cases z1
      exact (hok2 b _ (un.frzs b _ _ z)).1
theorem law_endG (kin : K.In sh.heap) (g : sh.heap.Ns mainGlobals mg) (gb : sh.heap.Ns builtinsNs mb) (bb : ∀ y : Str, y ≠ "__name__" → mb y = bootBuiltins y) (nol : sh.heap.NoLimit) (gens : sh.gens = #[])
    (obj : sh.heap.get? a = some { cls := .type "list", data := .seq its.toArray }) (hi : IntsAre its ns) (hl : ns.length ≤ sizeLine) (room : Room k callerA) (sysm : ∃ o, sh.heap.get? sysModules = some o ∧ o.cls = .type "dict") (F : ∀ B : Heap, K.In B → B.Ns mainGlobals mg → (∃ o, B.get? sysModules = some o) → FnOkG P w K mg B Cx0 k fa fd [x] sp)
    (bnd : ∀ (t : Shared) (u : Value), BindsTo t fd ⟨[u], []⟩ [(x, u)]) (prom : ∀ H : Hp, Only H → SqL K H a (ns.map V.int) → sp [.ref a] H (fun v _ => v = .bl true) fun _ _ _ => False) (hx : ∀ H e t, Cx0 [] H sh (fun _ _ _ => False) e t → False) :
    codeAny (model P w) callerA (.call (.ref fa) ⟨[.ref a], []⟩) (fun r t => r = .ok (.ret (.bool true)) ∧ OldK sh.heap t.heap ∧ t.os = sh.os ∧ AllBare t.gens) sh := by
  have vals := vals_ints hi
  cases q : K.lookup a with
  | some o =>
    have z := kin a o q
    rw [obj] at z
    have z : o = { cls := .type "list", data := .seq its.toArray } := (Option.some.inj z).symm
    subst z
    refine end_at (H := fun _ => none) kin g gb bb nol gens obj room sysm F bnd (fun _ => .inl rfl) (prom _ (fun _ => .inl rfl) (.inr ⟨_, its.toArray, _, q, rfl, rfl, rfl, ?_, by simpa using vals⟩)) (fun b u z => nomatch z) (fun b z => absurd rfl z) (fun z => absurd rfl z) hx
    rw [List.size_toArray, hi.length]
    exact hl
  | none =>
    let H0 : Hp := upd (fun _ => none) a (.frz { cls := .type "list", data := .seq its.toArray } (.lst (ns.map V.int)))
    have only : Only H0 := fun b => by
      by_cases e : b = a
      · exact .inr ⟨_, _, by rw [e]; exact upd_same⟩
      · exact .inl (upd_ne e)
    refine end_at (H := H0) kin g gb bb nol gens obj room sysm F bnd only (prom _ only (.inl (.inr ⟨_, upd_same⟩))) (fun b u z => ?_) (fun b z => ?_) (fun _ => q) hx
    · by_cases e : b = a
      · rw [e] at z ⊢
        rw [show H0 a = _ from upd_same] at z
        cases z
        exact ⟨obj, by rw [List.length_map]; exact hl, its, _, vals, obj⟩
      · rw [show H0 b = none from upd_ne e] at z
        cases z
    · exact Decidable.byContradiction fun e => z (upd_ne e)
end
theorem walk_G {l : PySem.W.OpenLaw} {m k : Nat} {q : Program} {loose : List Str} {XP : (Str → Option Value) → Heap → Prop} {YP : World → Heap → Prop} {d : DefRec} {x : Str} (hm : l.most = some m) (hm2 : m ≤ sizeLine) (hdf : d.params.defaults = []) (room : Room k callerA)
    (F : ∀ (w : World) (mg : Str → Option Value) (fa : Addr) (h : Heap), YP w h → h.Ns mainGlobals mg → mg d.name = some (.ref fa) →
      ∃ (K : PySem.W.Frag) (fd : FuncData) (sp : Sp), K.In h ∧ (∃ o, h.get? sysModules = some o ∧ o.cls = .type "dict") ∧ (∀ (s : Shared) (u : Value), BindsTo s fd ⟨[u], []⟩ [(x, u)]) ∧
        (∀ (H : Hp) (a : Addr) (ns : List Int), ns.length ≤ m → Only H → SqL K H a (ns.map V.int) → sp [.ref a] H (fun v _ => v = .bl true) fun _ _ _ => False) ∧
        ∀ B : Heap, K.In B → B.Ns mainGlobals mg → (∃ o, B.get? sysModules = some o) → FnOkG l.prog w K mg B (L2.CX l.prog w) k fa fd [x] sp) : PySem.W.WalkO q loose XP YP l.row.toRowW d [] (fun f vs => PySem.call f vs) := by
  refine Att.attach_call hm hdf fun w s0 s1 mg mb fa o pm cd doc a vs ns G Y ho hd hcd hmg hobj hints hlen hg => ?_
  obtain ⟨K, fd, sp, kin, sysm, bnd, prom, hF⟩ := F w mg fa _ Y G.T.g hmg
  refine law_endG kin G.T.g G.T.b G.T.builtins G.T.nolimit hg hobj hints (Nat.le_trans hlen hm2) room sysm hF bnd (fun H h1 h2 => prom H a ns hlen h1 h2) fun H e t z => ?_
  obtain ⟨_, _, _, _, _, _, _, _, _, _, _, _, z⟩ := z
  exact z

/-! ### the head's hook: facts by names, and that sys.modules stands -/
def isDictO : Option Obj → Bool
  | some o => decide (o.cls = .type "dict")
  | none => false
def obsS (n : Nat) (fa : List He.Fa) (fn : List He.DefD) (g : Addr → Option Obj) : He.AlD × Bool := (He.obsDG n fa fn g, isDictO (g sysModules))
def hookS (n : Nat) (fa : List He.Fa) (fn : List He.DefD) : PySem.W.Hook where
  α := He.AlD × Bool
  obs := fun s => obsS n fa fn s.heap.get?
  val := fun _ => (He.valD fn, true)
  says := fun _ h => (∃ K : PySem.W.Frag, K.In h ∧ He.SaysD fa fn K) ∧ ∃ o, h.get? sysModules = some o ∧ o.cls = .type "dict"
  of := fun _ s e => ⟨⟨_, He.frG_in, congrArg Prod.fst e⟩, by
    have z : isDictO (s.heap.get? sysModules) = true := congrArg Prod.snd e
    cases q : s.heap.get? sysModules with
    | none => rw [q] at z; cases z
    | some o => rw [q] at z; exact ⟨o, rfl, of_decide_eq_true z⟩⟩
  keeps := fun _ _ _ z k => ⟨z.1.elim fun K c => ⟨K, PySem.W.Frag.In.keeps c.1 k, c.2⟩, z.2.elim fun o c => ⟨o, k _ _ c.1, c.2⟩⟩
theorem obsS_eq {n : Nat} {fa : List He.Fa} {fn : List He.DefD} {g : Addr → Option Obj} {s : Shared} (h : ∀ a, g a = s.heap.get? a) : obsS n fa fn g = (hookS n fa fn).obs s := by
  obtain rfl : g = s.heap.get? := funext h
  rfl
end BV

namespace BV
open PySem PySem.Spec L2
open PyProof.Rows hiding St

/-! ### data as the library's -/
mutual
def py : D → PyData
  | .non => .none
  | .bl b => .bool b
  | .int i => .int i
  | .str s => .str s
  | .tup ds => .tuple (pys ds)
  | .lst ds => .list (pys ds)
  | .dct kvs => .dict (pyk kvs)
  | .obj _ => .none
def pys : List D → List PyData
  | [] => []
  | d :: ds => py d :: pys ds
def pyk : List (Key × D) → List (PyData × PyData)
  | [] => []
  | (k, d) :: r => ((match k with | .inl i => .int i | .inr x => .str x), py d) :: pyk r
end
mutual
def plain : D → Bool
  | .obj _ => false
  | .dct _ => false
  | .tup ds => plains ds
  | .lst ds => plains ds
  | _ => true
def plains : List D → Bool
  | [] => true
  | d :: ds => plain d && plains ds
end
mutual
def whole : D → Bool
  | .obj _ => false
  | .dct kvs => wholek kvs
  | .tup ds => wholes ds
  | .lst ds => wholes ds
  | _ => true
def wholes : List D → Bool
  | [] => true
  | d :: ds => whole d && wholes ds
def wholek : List (Key × D) → Bool
  | [] => true
  | (_, d) :: r => whole d && wholek r
end
section
variable {K : PySem.W.Frag} {A dk : Addr → Prop} {H : Hp}
mutual
theorem Rp.dp : ∀ (d : D) (v : V), Rp K A H d v → plain d = true → Dp K H v (py d)
  | .non, v, h, _ => by cases (show v = .non by simpa only [Rp] using h); simp only [py]; exact .non
  | .bl b, v, h, _ => by cases (show v = .bl b by simpa only [Rp] using h); simp only [py]; exact .bl b
  | .int b, v, h, _ => by cases (show v = .int b by simpa only [Rp] using h); simp only [py]; exact .int b
  | .str b, v, h, _ => by cases (show v = .str b by simpa only [Rp] using h); simp only [py]; exact .str b
  | .tup ds, v, h, p => by
    obtain ⟨a, vs, rfl, q, r⟩ := (show ∃ a vs, v = .ref a ∧ SqT K H a vs ∧ RpAll K A H ds vs by simpa only [Rp] using h)
    simp only [py]
    exact .tup q (RpAll.dp ds vs r (by simpa only [plain] using p))
  | .lst ds, v, h, p => by
    obtain ⟨a, vs, rfl, _, q, r⟩ := (show ∃ a vs, v = .ref a ∧ ¬ A a ∧ H a = some (.lst vs) ∧ RpAll K A H ds vs by simpa only [Rp] using h)
    simp only [py]
    exact .lst (.inl (.inl q)) (RpAll.dp ds vs r (by simpa only [plain] using p))
  | .dct _, _, _, p => by simp [plain] at p
  | .obj _, _, _, p => by simp [plain] at p
theorem RpAll.dp : ∀ (ds : List D) (vs : List V), RpAll K A H ds vs → plains ds = true → DpAll K H vs (pys ds)
  | [], vs, h, _ => by cases (show vs = [] by simpa only [RpAll] using h); simp only [pys]; exact .nil
  | d :: ds, vs, h, p => by
    obtain ⟨v, r, rfl, h1, h2⟩ := (show ∃ v r, vs = v :: r ∧ Rp K A H d v ∧ RpAll K A H ds r by simpa only [RpAll] using h)
    have p2 : plain d = true ∧ plains ds = true := by simpa only [plains, Bool.and_eq_true] using p
    simp only [pys]
    exact .cons (Rp.dp d v h1 p2.1) (RpAll.dp ds r h2 p2.2)
end
theorem Bw.dp (d : D) (v : V) (h : Bw K A dk H d v) (p : plain d = true) : Dp K H v (py d) := by
  cases d with
  | lst ds =>
    obtain ⟨a, vs, rfl, _, q, r⟩ := h
    simp only [py]
    exact .lst (.inl (.inl q)) (RpAll.dp ds vs r (by simpa only [plain] using p))
  | non => exact Rp.dp _ v (A := A) h p
  | bl _ => exact Rp.dp _ v (A := A) h p
  | int _ => exact Rp.dp _ v (A := A) h p
  | str _ => exact Rp.dp _ v (A := A) h p
  | tup _ => exact Rp.dp _ v (A := A) h p
  | dct _ => exact Rp.dp _ v (A := A) h p
  | obj _ => exact Rp.dp _ v (A := A) h p
end
section
variable {X : Cx} {pins : List (Addr × Obj)} {s : L2.St} {H : Hp} {sh : Shared} {A dk : Addr → Prop}
theorem not_sys (I : L2.Inv X pins s H sh) (sm : ∃ o, X.base.get? sysModules = some o) {a : Addr} {o : HO} (h : H a = some o) : a ≠ sysModules := fun e => by
  obtain ⟨ob, q⟩ := sm
  have z := (I.bs _ _ q).2
  rw [← e, h] at z
  cases z
mutual
theorem Rp.reads (I : L2.Inv X pins s H sh) (sm : ∃ o, X.base.get? sysModules = some o) : ∀ (d : D) (v : V) (u : Value), Rp X.K A H d v → RelV v u → whole d = true → ∃ as, Reads sh.heap u (py d) as ∧ sysModules ∉ as
  | .non, v, u, h, r, _ => by cases (show v = .non by simpa only [Rp] using h); cases (show u = .none from r); simp only [py]; exact ⟨[], .none, by simp⟩
  | .bl b, v, u, h, r, _ => by cases (show v = .bl b by simpa only [Rp] using h); cases (show u = .bool b from r); simp only [py]; exact ⟨[], .bool b, by simp⟩
  | .int b, v, u, h, r, _ => by cases (show v = .int b by simpa only [Rp] using h); obtain ⟨t, rfl⟩ := (show ∃ t, u = .int b t from r); simp only [py]; exact ⟨[], .int b t, by simp⟩
  | .str b, v, u, h, r, _ => by cases (show v = .str b by simpa only [Rp] using h); obtain ⟨t, rfl⟩ := (show ∃ t, u = .str b t from r); simp only [py]; exact ⟨[], .str b t, by simp⟩
  | .tup ds, v, u, h, r, p => by
    obtain ⟨a, vs, rfl, q, z⟩ := (show ∃ a vs, v = .ref a ∧ SqT X.K H a vs ∧ RpAll X.K A H ds vs by simpa only [Rp] using h)
    cases (show u = .ref a from r)
    obtain ⟨its, rv, ⟨o, e1, e2, n, e3⟩, _⟩ := I.tuple q
    obtain ⟨as, h1, h2⟩ := RpAll.reads I sm ds vs its z rv (by simpa only [whole] using p)
    simp only [py]
    exact ⟨as, .tuple e1 e2 e3 (by simpa using h1), h2⟩
  | .lst ds, v, u, h, r, p => by
    obtain ⟨a, vs, rfl, _, q, z⟩ := (show ∃ a vs, v = .ref a ∧ ¬ A a ∧ H a = some (.lst vs) ∧ RpAll X.K A H ds vs by simpa only [Rp] using h)
    cases (show u = .ref a from r)
    obtain ⟨_, its, n, rv, e1⟩ := (show ObjOk X.prog X.w H sh.heap a (.lst vs) from I.hok a _ q)
    obtain ⟨as, h1, h2⟩ := RpAll.reads I sm ds vs its z rv (by simpa only [whole] using p)
    simp only [py]
    exact ⟨a :: as, .list e1 rfl rfl (by simpa using h1), by
      intro w
      rcases List.mem_cons.mp w with w | w
      · exact not_sys I sm q w.symm
      · exact h2 w⟩
  | .dct kvs, v, u, h, r, p => by
    obtain ⟨a, us, rfl, _, q, z⟩ := (show ∃ a us, v = .ref a ∧ ¬ A a ∧ H a = some (.dK us) ∧ RpKv X.K A H kvs us by simpa only [Rp] using h)
    cases (show u = .ref a from r)
    obtain ⟨_, ns, vs, rv, o, es, ep, e1, e2, e3, e4, e5, e6⟩ := (show ObjOk X.prog X.w H sh.heap a (.dK us) from I.hok a _ q)
    obtain ⟨as, bs, h1, h2, h3, h4⟩ := RpKv.reads I sm kvs us vs es.toList z rv e5 (by simpa only [whole] using p)
    simp only [py]
    refine ⟨a :: as ++ bs, .dict e1 e2.1 e3 h1 h2, ?_⟩
    simp only [List.cons_append, List.mem_cons, List.mem_append, not_or]
    exact ⟨fun w => not_sys I sm q w.symm, h3, h4⟩
  | .obj _, _, _, _, _, p => by simp [whole] at p
theorem RpAll.reads (I : L2.Inv X pins s H sh) (sm : ∃ o, X.base.get? sysModules = some o) : ∀ (ds : List D) (vs : List V) (us : List Value), RpAll X.K A H ds vs → Vals vs us → wholes ds = true → ∃ as, ReadsAll sh.heap us (pys ds) as ∧ sysModules ∉ as
  | [], vs, us, h, r, _ => by
    cases (show vs = [] by simpa only [RpAll] using h)
    cases r
    simp only [pys]
    exact ⟨[], .nil, by simp⟩
  | d :: ds, vs, us, h, r, p => by
    obtain ⟨v, w, rfl, h1, h2⟩ := (show ∃ v r, vs = v :: r ∧ Rp X.K A H d v ∧ RpAll X.K A H ds r by simpa only [RpAll] using h)
    have p2 : whole d = true ∧ wholes ds = true := by simpa only [wholes, Bool.and_eq_true] using p
    cases r with
    | cons r1 r2 =>
      obtain ⟨as, q1, q2⟩ := Rp.reads I sm d v _ h1 r1 p2.1
      obtain ⟨bs, q3, q4⟩ := RpAll.reads I sm ds w _ h2 r2 p2.2
      simp only [pys]
      exact ⟨as ++ bs, .cons q1 q3, by simp only [List.mem_append, not_or]; exact ⟨q2, q4⟩⟩
theorem RpKv.reads (I : L2.Inv X pins s H sh) (sm : ∃ o, X.base.get? sysModules = some o) : ∀ (kvs : List (Key × D)) (us : List (Key × V)) (vs : List (Key × Value)) (es : List DictEntry), RpKv X.K A H kvs us → KV us vs → Pairs (mixKind X.prog X.w) es vs → wholek kvs = true →
    ∃ as bs, ReadsAll sh.heap (es.map (·.key)) ((pyk kvs).map (·.1)) as ∧ ReadsAll sh.heap (es.map (·.val)) ((pyk kvs).map (·.2)) bs ∧ sysModules ∉ as ∧ sysModules ∉ bs
  | [], us, vs, es, h, r, q, _ => by
    cases (show us = [] by simpa only [RpKv] using h)
    cases r
    cases q
    simp only [pyk]
    exact ⟨[], [], .nil, .nil, by simp, by simp⟩
  | (k, d) :: kvs, us, vs, es, h, r, q, p => by
    obtain ⟨v, w, rfl, h1, h2⟩ := (show ∃ v r, us = (k, v) :: r ∧ Rp X.K A H d v ∧ RpKv X.K A H kvs r by simpa only [RpKv] using h)
    have p2 : whole d = true ∧ wholek kvs = true := by simpa only [wholek, Bool.and_eq_true] using p
    cases r with
    | cons r1 r2 =>
      cases q with
      | cons k1 k2 k3 =>
        obtain ⟨z1, z2⟩ := r1
        obtain ⟨as, q1, q2⟩ := Rp.reads I sm d v _ h1 z2 p2.1
        obtain ⟨as2, bs2, a1, a2, a3, a4⟩ := RpKv.reads I sm kvs w _ _ h2 r2 k3 p2.2
        simp only [pyk, List.map_cons]
        refine ⟨[] ++ as2, as ++ bs2, .cons ?_ a1, .cons (by rw [k2]; exact q1) a2, by simpa using a3, by simp only [List.mem_append, not_or]; exact ⟨q2, a4⟩⟩
        have kk : keyIs k _ = true := (show k = _ from z1) ▸ k1
        rcases keyIs_shape kk with ⟨i, t, e1, e2⟩ | ⟨y, t, e1, e2⟩
        · rw [e2, e1]; exact .int i t
        · rw [e2, e1]; exact .str y t
end
theorem Bw.reads (I : L2.Inv X pins s H sh) (sm : ∃ o, X.base.get? sysModules = some o) (d : D) (v : V) (u : Value) (h : Bw X.K A dk H d v) (r : RelV v u) (p : whole d = true) : ∃ as, Reads sh.heap u (py d) as ∧ sysModules ∉ as := by
  cases d with
  | lst ds =>
    obtain ⟨a, vs, rfl, _, q, z⟩ := h
    exact Rp.reads (A := fun _ => False) I sm (.lst ds) (.ref a) u (Rp.lst (fun z => z) q (RpAll.weak (fun _ w => w.elim) z)) r p
  | non => exact Rp.reads (A := A) I sm _ v u h r p
  | bl _ => exact Rp.reads (A := A) I sm _ v u h r p
  | int _ => exact Rp.reads (A := A) I sm _ v u h r p
  | str _ => exact Rp.reads (A := A) I sm _ v u h r p
  | tup _ => exact Rp.reads (A := A) I sm _ v u h r p
  | dct _ => exact Rp.reads (A := A) I sm _ v u h r p
  | obj _ => exact Rp.reads (A := A) I sm _ v u h r p
end
section
variable {X : Cx}
/-! ### values -/
theorem bwI {K : PySem.W.Frag} {A dk : Addr → Prop} {H : Hp} {i : Int} {v : V} (h : Bw K A dk H (.int i) v) : v = .int i := by simpa only [Bw, Rp] using h
theorem bwS {K : PySem.W.Frag} {A dk : Addr → Prop} {H : Hp} {i : Str} {v : V} (h : Bw K A dk H (.str i) v) : v = .str i := by simpa only [Bw, Rp] using h
theorem bwB {K : PySem.W.Frag} {A dk : Addr → Prop} {H : Hp} {i : Bool} {v : V} (h : Bw K A dk H (.bl i) v) : v = .bl i := by simpa only [Bw, Rp] using h
theorem bwN {K : PySem.W.Frag} {A dk : Addr → Prop} {H : Hp} {v : V} (h : Bw K A dk H .non v) : v = .non := by simpa only [Bw, Rp] using h
theorem bwT {K : PySem.W.Frag} {A dk : Addr → Prop} {H : Hp} {ds : List D} {v : V} (h : Bw K A dk H (.tup ds) v) : ∃ a vs, v = .ref a ∧ SqT K H a vs ∧ RpAll K A H ds vs := by simpa only [Bw, Rp] using h
def isN : D → Bool
  | .non => true
  | _ => false
theorem bw_isN {K : PySem.W.Frag} {A dk : Addr → Prop} {H : Hp} {d : D} {v : V} (h : Bw K A dk H d v) : decide (v = .non) = isN d := by
  cases d with
  | non => rw [bwN h]; rfl
  | bl b => rw [bwB h]; rfl
  | int b => rw [bwI h]; rfl
  | str b => rw [bwS h]; rfl
  | tup ds => obtain ⟨a, vs, rfl, _⟩ := bwT h; rfl
  | lst ds => obtain ⟨a, vs, rfl, _⟩ := h; rfl
  | dct ds => obtain ⟨a, us, rfl, _⟩ := (show ∃ a us, v = .ref a ∧ ¬ A a ∧ H a = some (.dK us) ∧ RpKv K A H ds us by simpa only [Bw, Rp] using h); rfl
  | obj a => cases (show v = .ref a by simpa only [Bw, Rp] using h); rfl
/-! ### operators -/
def oAdd : M2 := fun d1 d2 P => match d1 with
  | .int i => (match d2 with
    | .int j => P (.int (i + j))
    | _ => False)
  | .str i => (match d2 with
    | .str j => i.length + j.length ≤ sizeLine ∧ P (.str (i ++ j))
    | _ => False)
  | .lst i => (match d2 with
    | .lst j => i.length + j.length ≤ sizeLine ∧ P (.lst (i ++ j))
    | _ => False)
  | .tup i => (match d2 with
    | .tup j => i.length + j.length ≤ sizeLine ∧ P (.tup (i ++ j))
    | _ => False)
  | _ => False
theorem ob_add : OpB X (binaryOp .Add) oAdd := fun G n A H x y d1 d2 P Q g h1 h2 p q => by
  cases d1 with
  | int i => cases d2 with
    | int j =>
      cases bwI h1; cases bwI h2
      exact leO op_add ⟨_, _, rfl, rfl, q _ _ _ p (Kp.refl g.di) (rp_int _)⟩
    | _ => exact p.elim
  | str i => cases d2 with
    | str j =>
      cases bwS h1; cases bwS h2
      exact leO op_add_str ⟨_, _, rfl, rfl, p.1, q _ _ _ p.2 (Kp.refl g.di) (rp_str _)⟩
    | _ => exact p.elim
  | lst i => cases d2 with
    | lst j =>
      obtain ⟨a, vs, rfl, _, e1, z1⟩ := h1
      obtain ⟨b, us, rfl, _, e2, z2⟩ := h2
      exact leO op_cat ⟨a, b, vs, us, rfl, rfl, e1, e2, by rw [z1.length, z2.length]; exact p.1, fun l hl => q _ _ _ p.2 (g.new hl) (g.newL hl (z1.append z2))⟩
    | _ => exact p.elim
  | tup i => cases d2 with
    | tup j =>
      obtain ⟨a, vs, rfl, e1, z1⟩ := bwT h1
      obtain ⟨b, us, rfl, e2, z2⟩ := bwT h2
      refine leO op_catA ⟨a, b, vs, us, rfl, rfl, e1, e2, by rw [z1.length, z2.length]; exact p.1, fun h0 => ?_, fun h0 h3 => ?_, fun _ _ l hl => q _ _ _ p.2 (g.new hl) (g.newT hl (z1.append z2))⟩
      · have e : i = [] := List.eq_nil_of_length_eq_zero (by rw [← z1.length, h0]; rfl)
        subst e
        exact q _ _ _ p.2 (Kp.refl g.di) (Rp.tup e2 z2)
      · have e : j = [] := List.eq_nil_of_length_eq_zero (by rw [← z2.length, h3]; rfl)
        subst e
        exact q _ _ _ p.2 (Kp.refl g.di) (by rw [List.append_nil]; exact Rp.tup e1 z1)
    | _ => exact p.elim
  | _ => exact p.elim
def oI (C : Int → Int → Prop) (f : Int → Int → D) : M2 := fun d1 d2 P => match d1 with
  | .int i => (match d2 with
    | .int j => C i j ∧ P (f i j)
    | _ => False)
  | _ => False
theorem ob_I {f : Value → Value → Sem Value} {C : Int → Int → Prop} {gv : Int → Int → V} {gd : Int → Int → D} (h : OpR X f (rI C gv)) (hr : ∀ i j K A H, Rp K A H (gd i j) (gv i j)) : OpB X f (oI C gd) := fun G n A H x y d1 d2 P Q g h1 h2 p q => by
  cases d1 with
  | int i => cases d2 with
    | int j =>
      cases bwI h1; cases bwI h2
      exact leO h ⟨_, _, rfl, rfl, p.1, q _ _ _ p.2 (Kp.refl g.di) (hr _ _ _ _ _)⟩
    | _ => exact p.elim
  | _ => exact p.elim
def oI0 (f : Int → Int → D) : M2 := fun d1 d2 P => match d1 with
  | .int i => (match d2 with
    | .int j => P (f i j)
    | _ => False)
  | _ => False
theorem ob_I0 {f : Value → Value → Sem Value} {gv : Int → Int → V} {gd : Int → Int → D} (h : OpR X f (rI0 gv)) (hr : ∀ i j K A H, Rp K A H (gd i j) (gv i j)) : OpB X f (oI0 gd) := fun G n A H x y d1 d2 P Q g h1 h2 p q => by
  cases d1 with
  | int i => cases d2 with
    | int j =>
      cases bwI h1; cases bwI h2
      exact leO h ⟨_, _, rfl, rfl, q _ _ _ p (Kp.refl g.di) (hr _ _ _ _ _)⟩
    | _ => exact p.elim
  | _ => exact p.elim
abbrev oSub : M2 := oI0 fun i j => .int (i - j)
abbrev oDiv : M2 := oI CDiv fun i j => .int (i / j)
abbrev oMod : M2 := oI (fun _ j => 0 < j) fun i j => .int (i % j)
abbrev oPow : M2 := oI CPow fun i j => .int (i ^ j.toNat)
theorem ob_sub : OpB X (binaryOp .Sub) oSub := ob_I0 op_sub fun _ _ _ _ _ => rp_int _
theorem ob_div : OpB X (binaryOp .FloorDiv) oDiv := ob_I op_fdiv fun _ _ _ _ _ => rp_int _
theorem ob_mod : OpB X (binaryOp .Mod) oMod := ob_I op_mod fun _ _ _ _ _ => rp_int _
theorem ob_pow : OpB X (binaryOp .Pow) oPow := ob_I op_pow fun _ _ _ _ _ => rp_int _
end
end BV

namespace BV
open PySem PySem.Spec L2
open PyProof.Rows hiding St
section
variable {X : Cx}
abbrev oLt : M2 := oI0 fun i j => .bl (decide (i < j))
abbrev oLe : M2 := oI0 fun i j => .bl (decide (i ≤ j))
abbrev oGt : M2 := oI0 fun i j => .bl (decide (j < i))
abbrev oGe : M2 := oI0 fun i j => .bl (decide (j ≤ i))
theorem ob_lt : OpB X (compareOp .Lt) oLt := ob_I0 op_lt fun _ _ _ _ _ => rp_bl _
theorem ob_le : OpB X (compareOp .LtE) oLe := ob_I0 op_le fun _ _ _ _ _ => rp_bl _
theorem ob_gt : OpB X (compareOp .Gt) oGt := ob_I0 op_gt fun _ _ _ _ _ => rp_bl _
theorem ob_ge : OpB X (compareOp .GtE) oGe := ob_I0 op_ge fun _ _ _ _ _ => rp_bl _
def eqOk (d : D) : Bool := plain d && SeqAt.shaped (py d)
def eqD (d e : D) : Bool := PyData.eqv (py d) (py e)
def oEqG (neg : Bool) : M2 := fun d1 d2 P => match d1, d2 with
  | .str a, .str b => P (.bl (neg != decide (a = b)))
  | .int a, .int b => P (.bl (neg != decide (a = b)))
  | d1, d2 => (eqOk d1 = true ∧ eqOk d2 = true) ∧ P (.bl (neg != eqD d1 d2))
abbrev oEq : M2 := oEqG false
abbrev oNe : M2 := oEqG true
theorem eqOk_of {d : D} (h : eqOk d = true) : plain d = true ∧ SeqAt.shaped (py d) = true := Bool.and_eq_true_iff.mp h
theorem ob_eqG (ok : CxOk X) {op : CmpOp} {neg : Bool} (h1 : OpR X (compareOp op) (fun x y H Q => scal x y = true ∧ Q (.bl (neg != decide (x = y))) H)) (h2 : OpR X (compareOp op) (fun x y H Q => ∃ d e, Dp X.K H x d ∧ Dp X.K H y e ∧ SeqAt.shaped d = true ∧ SeqAt.shaped e = true ∧ Q (.bl (neg != PyData.eqv d e)) H)) :
    OpB X (compareOp op) (oEqG neg) := fun G n A H x y d1 d2 P Q g r1 r2 p q => by
  have gen : ((eqOk d1 = true ∧ eqOk d2 = true) ∧ P (.bl (neg != eqD d1 d2))) → wpO X (compareOp op) x y H Q := fun p =>
    leO h2 ⟨py d1, py d2, Bw.dp d1 x r1 (eqOk_of p.1.1).1, Bw.dp d2 y r2 (eqOk_of p.1.2).1, (eqOk_of p.1.1).2, (eqOk_of p.1.2).2, q _ _ _ p.2 (Kp.refl g.di) (rp_bl _)⟩
  cases d1 with
  | str a => cases d2 with
    | str b =>
      cases bwS r1; cases bwS r2
      refine leO h1 ⟨rfl, q _ _ _ p (Kp.refl g.di) ?_⟩
      have e : decide (V.str a = V.str b) = decide (a = b) := by rw [Bool.eq_iff_iff]; simp
      rw [e]
      exact rp_bl _
    | _ => exact gen p
  | int a => cases d2 with
    | int b =>
      cases bwI r1; cases bwI r2
      refine leO h1 ⟨rfl, q _ _ _ p (Kp.refl g.di) ?_⟩
      have e : decide (V.int a = V.int b) = decide (a = b) := by rw [Bool.eq_iff_iff]; simp
      rw [e]
      exact rp_bl _
    | _ => exact gen p
  | _ => exact gen p
theorem ob_eq (ok : CxOk X) : OpB X (compareOp .Eq) oEq := ob_eqG ok (fun pins s σ H x y v u Q I a b h => op_eq pins s σ H x y v u Q I a b ⟨h.1, by simpa using h.2⟩) (fun pins s σ H x y v u Q I a b ⟨d, e, h1, h2, h3, h4, h5⟩ => op_eqD ok.ro.units pins s σ H x y v u Q I a b ⟨d, e, h1, h2, h3, h4, by simpa using h5⟩)
theorem ob_ne (ok : CxOk X) : OpB X (compareOp .NotEq) oNe := ob_eqG ok (fun pins s σ H x y v u Q I a b h => op_ne pins s σ H x y v u Q I a b ⟨h.1, by simpa using h.2⟩) (fun pins s σ H x y v u Q I a b ⟨d, e, h1, h2, h3, h4, h5⟩ => op_neD ok.ro.units pins s σ H x y v u Q I a b ⟨d, e, h1, h2, h3, h4, by simpa using h5⟩)
def oIs : M2 := fun d1 d2 P => isN d2 = true ∧ P (.bl (isN d1))
def oIsNot : M2 := fun d1 d2 P => isN d2 = true ∧ P (.bl (!isN d1))
theorem ob_is : OpB X (compareOp .Is) oIs := fun G n A H x y d1 d2 P Q g h1 h2 p q => by
  have e : decide (y = .non) = true := (bw_isN h2).trans p.1
  exact leO op_isN ⟨of_decide_eq_true e, q _ _ _ p.2 (Kp.refl g.di) (by rw [bw_isN h1]; exact rp_bl _)⟩
theorem ob_isnot : OpB X (compareOp .IsNot) oIsNot := fun G n A H x y d1 d2 P Q g h1 h2 p q => by
  have e : decide (y = .non) = true := (bw_isN h2).trans p.1
  exact leO op_notN ⟨of_decide_eq_true e, q _ _ _ p.2 (Kp.refl g.di) (by rw [bw_isN h1]; exact rp_bl _)⟩
/-! flat things -/
def toV : D → V
  | .bl b => .bl b
  | .int i => .int i
  | .str s => .str s
  | _ => .non
def flatD : D → Bool
  | .non | .bl _ | .int _ | .str _ => true
  | _ => false
theorem flat_of {K : PySem.W.Frag} {A dk : Addr → Prop} {H : Hp} {d : D} {v : V} (h : Bw K A dk H d v) (f : flatD d = true) : v = toV d ∧ flatV v = true := by
  cases d with
  | non => rw [bwN h]; exact ⟨rfl, rfl⟩
  | bl b => rw [bwB h]; exact ⟨rfl, rfl⟩
  | int b => rw [bwI h]; exact ⟨rfl, rfl⟩
  | str b => rw [bwS h]; exact ⟨rfl, rfl⟩
  | tup _ => cases f
  | lst _ => cases f
  | dct _ => cases f
  | obj _ => cases f
theorem rp_bw0 {K : PySem.W.Frag} {A : Addr → Prop} {H : Hp} {d : D} {v : V} (h : Rp K A H d v) : Bw K A A H d v := Rp.bw (fun _ w => w) h
theorem flats_of {K : PySem.W.Frag} {A : Addr → Prop} {H : Hp} : ∀ {ds : List D} {vs : List V}, RpAll K A H ds vs → ds.all flatD = true → vs = ds.map toV ∧ vs.all flatV = true
  | [], vs, h, _ => by cases (show vs = [] by simpa only [RpAll] using h); exact ⟨rfl, rfl⟩
  | d :: ds, vs, h, f => by
    obtain ⟨v, r, rfl, h1, h2⟩ := (show ∃ v r, vs = v :: r ∧ Rp K A H d v ∧ RpAll K A H ds r by simpa only [RpAll] using h)
    have f2 : flatD d = true ∧ ds.all flatD = true := by simpa only [List.all_cons, Bool.and_eq_true] using f
    obtain ⟨e1, e2⟩ := flat_of (rp_bw0 h1) f2.1
    obtain ⟨e3, e4⟩ := flats_of h2 f2.2
    exact ⟨by rw [List.map_cons, ← e1, ← e3], by simp [e2, e4]⟩
def inD (d : D) (ds : List D) : Bool := inV (toV d) (ds.map toV)
def oInN (neg : Bool) : M2 := fun d1 d2 P => match d2 with
  | .tup ds => (flatD d1 = true ∧ ds.all flatD = true) ∧ P (.bl (if neg then !inD d1 ds else inD d1 ds))
  | .lst ds => (flatD d1 = true ∧ ds.all flatD = true) ∧ P (.bl (if neg then !inD d1 ds else inD d1 ds))
  | _ => False
theorem ob_inN {op : CmpOp} {neg : Bool} (h : OpR X (compareOp op) (rIn X.K neg)) : OpB X (compareOp op) (oInN neg) := fun G n A H x y d1 d2 P Q g h1 h2 p q => by
  cases d2 with
  | tup ds =>
    obtain ⟨a, vs, rfl, e1, z1⟩ := bwT h2
    obtain ⟨p1, p2⟩ := p
    obtain ⟨e2, e3⟩ := flat_of h1 p1.1
    obtain ⟨e4, e5⟩ := flats_of z1 p1.2
    exact leO h ⟨a, vs, rfl, .inr e1, e3, e5, q _ _ _ p2 (Kp.refl g.di) (by rw [e2, e4]; exact rp_bl _)⟩
  | lst ds =>
    obtain ⟨a, vs, rfl, _, e1, z1⟩ := h2
    obtain ⟨p1, p2⟩ := p
    obtain ⟨e2, e3⟩ := flat_of h1 p1.1
    obtain ⟨e4, e5⟩ := flats_of z1 p1.2
    exact leO h ⟨a, vs, rfl, .inl (.inl (.inl e1)), e3, e5, q _ _ _ p2 (Kp.refl g.di) (by rw [e2, e4]; exact rp_bl _)⟩
  | _ => exact p.elim
theorem ob_in : OpB X (compareOp .In) (oInN false) := ob_inN op_in_seq
theorem ob_notin : OpB X (compareOp .NotIn) (oInN true) := ob_inN op_notIn_seq
/-- tuple * k, up to a million items -/
theorem op_repTW : OpR X (binaryOp .Mult) (fun x y H Q => ∃ l k xs, x = .ref l ∧ y = .int k ∧ SqT X.K H l xs ∧ xs ≠ [] ∧ 2 ≤ k ∧ xs.length * k.toNat ≤ 1000000 ∧ ∀ p, H p = none → Q (.ref p) (upd H p (.tup (List.replicate k.toNat xs).flatten))) := fun pins sh s H x y v u Q I rx ry h => by
  obtain ⟨l, k, xs, rfl, rfl, sq, nn, lo, few, fin⟩ := h
  obtain rfl : v = Value.ref l := rx
  obtain ⟨t, rfl⟩ : ∃ t, u = Value.int k t := ry
  obtain ⟨its, rel, ⟨⟨cl, dd, dt, so⟩, look, isT, n, isS⟩, small⟩ := I.tuple sq
  have isT : cl = .type "tuple" := isT
  have isS : dt = .seq its.toArray n := isS
  subst isT isS
  have len := rel.length
  have pos : 0 < its.length := by rw [← len]; exact List.length_pos_iff.mpr nn
  have kN : (k.toNat : Int) = k := Int.toNat_of_nonneg (by omega)
  have prod : ((its.toArray.size : Nat) : Int) * k ≤ 1000000 := by
    have z : (its.length * k.toNat : Nat) ≤ 1000000 := by rw [← len]; exact few
    have z2 : ((its.length * k.toNat : Nat) : Int) = (its.length : Int) * k := by rw [Int.natCast_mul, kN]
    show ((its.length : Nat) : Int) * k ≤ 1000000
    omega
  have kle : k ≤ 1000000 := by
    have z : 1 * k.toNat ≤ its.length * k.toNat := Nat.mul_le_mul_right _ pos
    rw [← len] at z
    omega
  have ne : its.toArray.isEmpty = false := by
    cases its with
    | nil => cases pos
    | cons _ _ => rfl
  have room : (List.replicate k.toNat its).flatten.length ≤ sizeLine := by
    rw [PyProof.Rows.lm_len_rep_flat, ← len, Nat.mul_comm, sizeLine_eq]
    omega
  refine wpAny_binaryOp_repeat_ref (T := "tuple") (U := "int") (by decide) ⟨_, look, rfl⟩ (fun z => typeIs_int z k t) noFill_tuple_mul F.fills_int_mul F.slot_int_rmul repeat_tuple F.slot_int_index.lookup
    (call_meets F.slot_int_rmul (typeIs_int sh k t) F.entry_int_rmul (F.args_int_rmul_2 _ _) (int_rmul_tuple k t l its.toArray n dd so) ⟨look, rfl, ⟨_, look, rfl⟩, ?_⟩)
  refine call_meets F.slot_tuple_mul ⟨_, look, rfl⟩ F.entry_tuple_mul (F.args_tuple_mul_2 _ _) (tuple_mulW l its.toArray n dd so k t ?_ ?_ ?_ (by omega) ?_ (by rw [size_rep, List.size_toArray]; exact room)) ⟨look, ?_⟩
  · rw [decide_eq_false (by omega), decide_eq_false (by omega)] <;> rfl
  · rw [ne, Bool.false_or]; exact beq_eq_false_iff_ne.mpr (by omega)
  · rw [ne, Bool.or_false]; exact decide_eq_false (by omega)
  · unfold Builtin.Tuple.tupleTooMany
    rw [sizeLine_eq]
    exact decide_eq_false (by omega)
  rw [size_rep]
  have newT := I.laid (t' := sh.toks) (o := .tup (List.replicate k.toNat xs).flatten) (fun b ob z => Heap.get?_push_of_some { cls := Value.type "tuple", data := Data.seq (List.replicate k.toNat its).flatten.toArray } z) (Nat.le_refl _)
    ⟨by rw [PyProof.Rows.lm_len_rep_flat, Nat.mul_comm, sizeLine_eq]; omega, _, rel.rep k.toNat, IsTup.new _ _⟩
  exact ⟨.ref sh.heap.objs.size, _, newT, rfl, fin _ (I.hok.fresh (Nat.le_refl _))⟩
/-! products -/
def CM (i j : Int) : Prop := CMul i j ∨ CMulW i j
def oMul : M2 := fun d1 d2 P => match d1 with
  | .int i => (match d2 with
    | .int j => CM i j ∧ P (.int (i * j))
    | _ => False)
  | .lst ds => (match d2 with
    | .int k => (-(2 ^ 63) ≤ k ∧ k < 2 ^ 63 ∧ ds.length * k.toNat ≤ sizeLine) ∧ P (.lst (List.replicate k.toNat ds).flatten)
    | _ => False)
  | .tup ds => (match d2 with
    | .int k => (ds ≠ [] ∧ 2 ≤ k ∧ ds.length * k.toNat ≤ 1000000) ∧ P (.tup (List.replicate k.toNat ds).flatten)
    | _ => False)
  | _ => False
theorem ob_mul : OpB X (binaryOp .Mult) oMul := fun G n A H x y d1 d2 P Q g h1 h2 p q => by
  cases d1 with
  | int i => cases d2 with
    | int j =>
      cases bwI h1; cases bwI h2
      rcases p with ⟨p | p, p2⟩
      · exact leO op_mul ⟨_, _, rfl, rfl, p, q _ _ _ p2 (Kp.refl g.di) (rp_int _)⟩
      · exact leO op_mulW ⟨_, _, rfl, rfl, p, q _ _ _ p2 (Kp.refl g.di) (rp_int _)⟩
    | _ => exact p.elim
  | lst ds => cases d2 with
    | int k =>
      obtain ⟨a, vs, rfl, _, e1, z1⟩ := h1
      cases bwI h2
      obtain ⟨⟨p1, p2, p3⟩, p4⟩ := p
      exact leO op_rep ⟨a, k, vs, rfl, rfl, e1, p1, p2, by rw [z1.length]; exact p3, fun l hl => q _ _ _ p4 (g.new hl) (g.newL hl (z1.rep k.toNat))⟩
    | _ => exact p.elim
  | tup ds => cases d2 with
    | int k =>
      obtain ⟨a, vs, rfl, e1, z1⟩ := bwT h1
      cases bwI h2
      obtain ⟨⟨p1, p2, p3⟩, p4⟩ := p
      exact leO op_repTW ⟨a, k, vs, rfl, rfl, e1, fun z => p1 (List.eq_nil_of_length_eq_zero (by rw [← z1.length, z]; rfl)), p2, by rw [z1.length]; exact p3, fun l hl => q _ _ _ p4 (g.new hl) (g.newT hl (z1.rep k.toNat))⟩
    | _ => exact p.elim
  | _ => exact p.elim
/-! unary, subscripts -/
def oNeg : M1 := fun d P => match d with
  | .int i => P (.int (-i))
  | _ => False
theorem ub_neg : UnB X (unaryOp .USub) oNeg := fun G n A H x d P Q g h p q => by
  cases d with
  | int i => cases bwI h; exact leU un_neg ⟨i, rfl, q _ _ _ p (Kp.refl g.di) (rp_int _)⟩
  | _ => exact p.elim
def itemD (ds : List D) (i : Int) (P : D → Prop) : Prop := match atI ds i with
  | some d => P d
  | none => False
def oIx : M2 := fun d1 d2 P => match d2 with
  | .int i => (match d1 with
    | .lst ds => itemD ds i P
    | .tup ds => itemD ds i P
    | .str z => z.length ≤ sizeLine ∧ (match atI z.cps.toList i with
      | some c => P (.str ⟨#[c]⟩)
      | none => False)
    | _ => False)
  | _ => False
theorem atI_rp {K : PySem.W.Frag} {A : Addr → Prop} {H : Hp} {ds : List D} {vs : List V} {i : Int} {d : D} (z : RpAll K A H ds vs) (h : atI ds i = some d) : ∃ v, atI vs i = some v ∧ Rp K A H d v := by
  unfold atI at h ⊢
  rw [z.length]
  cases e : ixN ds.length i with
  | none => rw [e] at h; cases h
  | some j =>
    rw [e] at h
    obtain ⟨v, e1, e2⟩ := z.get (i := j) (d := d) h
    exact ⟨v, e1, e2⟩
theorem itemD_of {ds : List D} {i : Int} {P : D → Prop} (h : itemD ds i P) : ∃ d, atI ds i = some d ∧ P d := by
  unfold itemD at h
  cases e : atI ds i with
  | none => rw [e] at h; exact h.elim
  | some d => rw [e] at h; exact ⟨d, rfl, h⟩
theorem xb_ix : IxB X oIx := fun G n A H x y d1 d2 P Q g h1 h2 p q => by
  cases d2 with
  | int i =>
    cases bwI h2
    cases d1 with
    | lst ds =>
      obtain ⟨a, vs, rfl, _, e1, z1⟩ := h1
      obtain ⟨d, e2, p⟩ := itemD_of p
      obtain ⟨v, e3, z⟩ := atI_rp z1 e2
      exact leX ix_list ⟨a, vs, i, v, rfl, rfl, .inl (.inl e1), e3, q d v H p (Kp.refl g.di) z⟩
    | tup ds =>
      obtain ⟨a, vs, rfl, e1, z1⟩ := bwT h1
      obtain ⟨d, e2, p⟩ := itemD_of p
      obtain ⟨v, e3, z⟩ := atI_rp z1 e2
      exact leX ix_tup ⟨a, vs, i, v, rfl, rfl, e1, e3, q d v H p (Kp.refl g.di) z⟩
    | str z =>
      cases bwS h1
      obtain ⟨p1, p2⟩ := p
      cases e : atI z.cps.toList i with
      | none => rw [e] at p2; exact p2.elim
      | some c => rw [e] at p2; exact leX ix_str ⟨z, i, c, rfl, rfl, p1, e, q _ _ H p2 (Kp.refl g.di) (rp_str _)⟩
    | _ => exact p.elim
  | _ => exact p.elim
/-! slices -/
def cutD (ds : List D) (lo hi : Option Int) : List D := (ds.drop (HT.sIx ds.length 0 lo)).take (HT.sIx ds.length ds.length hi - HT.sIx ds.length 0 lo)
theorem cut_rp {K : PySem.W.Frag} {A : Addr → Prop} {H : Hp} {ds : List D} {vs : List V} (z : RpAll K A H ds vs) (lo hi : Option Int) : RpAll K A H (cutD ds lo hi) (cutV vs lo hi) := by
  unfold cutD cutV
  rw [z.length]
  exact (z.drop _).take _
abbrev MO := En → (XD → Prop) → (Option Int → Prop) → Prop
def BO (X : Cx) (G : Gh) (c : Nat) (e : Option Expr) (m : MO) : Prop := ∃ t, PO X e t ∧ ∀ (n n' : Nat) (s : L2.St) (H : Hp) (en : En) (x : XD → Prop) (P : Option Int → Prop) (Q : Option Int → Hp → Prop), n + c ≤ n' → n' ≤ capB → SR X.K G n s H en → XO X G n' s H x → m en x P → (∀ d H', P d → Kp G n' H H' → Q d H') → t s H Q
def mNoPart : MO := fun _ _ P => P none
def asI (P : Int → Prop) : D → Prop
  | .int i => P i
  | _ => False
def mPart (m : ME) : MO := fun en x P => m en x (asI fun i => P (some i))
section
variable {G : Gh} {e : Expr} {m : ME} {c1 c2 c3 : Nat} {lo hi : Option Expr} {ml mh : MO} {pos p2 : Pos}
theorem bo_none : BO X G 0 none mNoPart := ⟨_, po_none, fun n n' s H en x P Q hc hB r hx hm q => q none H hm ((Kp.refl r.di).le (by omega))⟩
theorem bo_some (h : BE X G c1 e m) : BO X G c1 (some e) (mPart m) := ⟨_, po_some peW, fun n n' s H en x P Q hc hB r hx hm q => h n n' s H en x _ _ hc hB r hx hm fun d v H' p k z => by
  cases d with
  | int i => cases (show v = .int i by simpa only [Rp] using z); exact ⟨i, rfl, q _ _ p k⟩
  | _ => exact p.elim⟩
def oSl (d : D) (lo hi : Option Int) (P : D → Prop) : Prop := match d with
  | .lst ds => P (.lst (cutD ds lo hi))
  | .tup ds => P (.tup (cutD ds lo hi))
  | .str z => z.length ≤ sizeLine ∧ P (.str (cutS z lo hi))
  | _ => False
def mSl (m : ME) (ml mh : MO) : ME := fun en x P => m en x fun d => ml en x fun lo => mh en x fun hi => oSl d lo hi P
theorem be_slice (h : BB X G c1 e m) (hl : BO X G c2 lo ml) (hh : BO X G c3 hi mh) : BE X G (c1 + c2 + c3) (.Subscript e (.Slice lo hi none p2) pos) (mSl m ml mh) := .mk fun n n' s H en x P Q hc hB r hx hm q => by
  obtain ⟨tl, pl, hl⟩ := hl
  obtain ⟨th, ph, hh⟩ := hh
  refine leE (pe_slice (sl_list.or (sl_tupA.or sl_str)) peW pl ph) (h n (n + c1) s H en x _ _ (Nat.le_refl _) (by omega) r (hx.le (by omega)) hm fun d v H1 p k z => ?_)
  refine hl (n + c1) (n + c1 + c2) s H1 en x _ _ (Nat.le_refl _) (by omega) (r.kp k) ((hx.kp k).le (by omega)) p fun a H2 p k2 => ?_
  refine hh (n + c1 + c2) n' s H2 en x _ _ (by omega) hB ((r.kp k).kp k2) ((hx.kp k).kp k2) p fun b H3 p k3 => ?_
  have z3 := (r.kp k).go.bw (k2.trans k3) z
  have g3 := ((r.kp k).kp (k2.trans k3)).go
  have kk := (k.trans k2).trans k3
  cases d with
  | lst ds =>
    obtain ⟨l, vs, rfl, _, e1, z1⟩ := z3
    exact .inl ⟨l, vs, rfl, .inl (.inl e1), fun w hw => q _ _ _ p (kk.trans (g3.new hw)) (g3.newL hw (cut_rp z1 a b))⟩
  | tup ds =>
    obtain ⟨l, vs, rfl, e1, z1⟩ := bwT z3
    refine .inr (.inl ⟨l, vs, rfl, e1, fun hw => ?_, fun _ w hw => q _ _ _ p (kk.trans (g3.new hw)) (g3.newT hw (cut_rp z1 a b))⟩)
    have e2 : cutD ds a b = ds := by
      unfold cutD
      rw [← z1.length, hw.1, hw.2, List.drop_zero, z1.length]
      exact List.take_length
    refine q _ _ _ p kk ?_
    rw [e2]
    exact Rp.tup e1 z1
  | str y =>
    cases bwS z3
    exact .inr (.inr ⟨y, rfl, p.1, q _ _ _ p.2 kk (rp_str _)⟩)
  | _ => exact p.elim
end
/-! calls of built-ins -/
def cLen : MC := fun ds P => match ds with
  | [.lst xs] => P (.int xs.length)
  | [.tup xs] => P (.int xs.length)
  | [.str z] => z.length ≤ sizeLine ∧ P (.int z.length)
  | _ => False
theorem cb_len : CaB X (.builtin "len") cLen := fun G n A H xs ds P Q g h p q => by
  rcases ds with _ | ⟨d, _ | ⟨d2, ds⟩⟩
  · exact p.elim
  · have h0 := bwAll1 h; clear h; obtain ⟨v, rfl, h⟩ := h0
    cases d with
    | lst ys =>
      obtain ⟨a, vs, rfl, _, e1, z1⟩ := h
      exact leC call_len_seq ⟨a, vs, rfl, .inl (.inl (.inl e1)), q _ _ _ p (Kp.refl g.di) (by rw [z1.length]; exact rp_int _)⟩
    | tup ys =>
      obtain ⟨a, vs, rfl, e1, z1⟩ := bwT h
      exact leC call_len_seq ⟨a, vs, rfl, .inr e1, q _ _ _ p (Kp.refl g.di) (by rw [z1.length]; exact rp_int _)⟩
    | str z =>
      cases bwS h
      exact leC call_len_str ⟨z, rfl, p.1, q _ _ _ p.2 (Kp.refl g.di) (rp_int _)⟩
    | _ => exact p.elim
  · cases d <;> exact p.elim
def c1 (o : D → (D → Prop) → Prop) : MC := fun ds P => match ds with
  | [d] => o d P
  | _ => False
theorem c1_of {o : D → (D → Prop) → Prop} {ds : List D} {P : D → Prop} (h : c1 o ds P) : ∃ d, ds = [d] ∧ o d P := by
  rcases ds with _ | ⟨d, _ | ⟨d2, ds⟩⟩
  · exact h.elim
  · exact ⟨d, rfl, h⟩
  · exact h.elim
def oTup (d : D) (P : D → Prop) : Prop := match d with
  | .lst ds => P (.tup ds)
  | .tup ds => P (.tup ds)
  | _ => False
theorem cb_tuple : CaB X (.type "tuple") (c1 oTup) := fun G n A H xs ds P Q g h p q => by
  have p0 := c1_of p; clear p; obtain ⟨d, rfl, p⟩ := p0
  have h0 := bwAll1 h; clear h; obtain ⟨v, rfl, h⟩ := h0
  cases d with
  | lst ys =>
    obtain ⟨a, vs, rfl, _, e1, z1⟩ := h
    exact leC call_tuple_of ⟨a, vs, rfl, .inl ⟨.inl (.inl e1), fun l hl => q _ _ _ p (g.new hl) (g.newT hl z1)⟩⟩
  | tup ys =>
    obtain ⟨a, vs, rfl, e1, z1⟩ := bwT h
    exact leC call_tuple_of ⟨a, vs, rfl, .inr ⟨e1, q _ _ _ p (Kp.refl g.di) (Rp.tup e1 z1)⟩⟩
  | _ => exact p.elim
def oLst (d : D) (P : D → Prop) : Prop := match d with
  | .lst ds => P (.lst ds)
  | .tup ds => P (.lst ds)
  | _ => False
theorem cb_list : CaB X (.type "list") (c1 oLst) := fun G n A H xs ds P Q g h p q => by
  have p0 := c1_of p; clear p; obtain ⟨d, rfl, p⟩ := p0
  have h0 := bwAll1 h; clear h; obtain ⟨v, rfl, h⟩ := h0
  cases d with
  | lst ys =>
    obtain ⟨a, vs, rfl, _, e1, z1⟩ := h
    exact leC call_list_of ⟨a, vs, rfl, .inl (.inl (.inl e1)), fun l hl => q _ _ _ p (g.new hl) (g.newL hl z1)⟩
  | tup ys =>
    obtain ⟨a, vs, rfl, e1, z1⟩ := bwT h
    exact leC call_list_of ⟨a, vs, rfl, .inr e1, fun l hl => q _ _ _ p (g.new hl) (g.newL hl z1)⟩
  | _ => exact p.elim
def boolsD : List D → Option (List Bool)
  | [] => some []
  | .bl b :: ds => (boolsD ds).map (b :: ·)
  | _ :: _ => none
theorem bools_rp {K : PySem.W.Frag} {A : Addr → Prop} {H : Hp} : ∀ {ds : List D} {vs : List V} {bs : List Bool}, RpAll K A H ds vs → boolsD ds = some bs → vs = bs.map V.bl
  | [], vs, bs, h, e => by cases (show vs = [] by simpa only [RpAll] using h); cases e; rfl
  | d :: ds, vs, bs, h, e => by
    obtain ⟨v, r, rfl, h1, h2⟩ := (show ∃ v r, vs = v :: r ∧ Rp K A H d v ∧ RpAll K A H ds r by simpa only [RpAll] using h)
    cases d with
    | bl b =>
      cases (show v = .bl b by simpa only [Rp] using h1)
      have e1 : (boolsD ds).map (b :: ·) = some bs := e
      cases e2 : boolsD ds with
      | none => rw [e2] at e1; cases e1
      | some cs => rw [e2] at e1; cases e1; rw [bools_rp h2 e2]; rfl
    | _ => cases e
def oAllB (f : List Bool → Bool) (d : D) (P : D → Prop) : Prop := match d with
  | .lst ds => (match boolsD ds with
    | some bs => P (.bl (f bs))
    | none => False)
  | _ => False
theorem cb_allB {nm : String} {f : List Bool → Bool} (hr : CallR X (.builtin nm) (fun vs H Q => ∃ (a : Addr) (bs : List Bool), vs = [V.ref a] ∧ SqL X.K H a (bs.map V.bl) ∧ Q (.bl (f bs)) H)) : CaB X (.builtin nm) (c1 (oAllB f)) := fun G n A H xs ds P Q g h p q => by
  have p0 := c1_of p; clear p; obtain ⟨d, rfl, p⟩ := p0
  have h0 := bwAll1 h; clear h; obtain ⟨v, rfl, h⟩ := h0
  cases d with
  | lst ys =>
    obtain ⟨a, vs, rfl, _, e1, z1⟩ := h
    have p : (match boolsD ys with
      | some bs => P (.bl (f bs))
      | none => False) := p
    cases e : boolsD ys with
    | none => rw [e] at p; exact p.elim
    | some bs =>
      rw [e] at p
      have e2 := bools_rp z1 e
      subst e2
      exact leC hr ⟨a, bs, rfl, .inl (.inl e1), q _ _ _ p (Kp.refl g.di) (rp_bl _)⟩
  | _ => exact p.elim
theorem cb_all (ok : CxOk X) : CaB X (.builtin "all") (c1 (oAllB fun bs => bs.all id)) := cb_allB (cr_all ok.calm)
theorem cb_any (ok : CxOk X) : CaB X (.builtin "any") (c1 (oAllB fun bs => bs.any id)) := cb_allB (cr_any ok.calm)
def oInt (d : D) (P : D → Prop) : Prop := match d with
  | .int i => P (.int i)
  | .bl b => P (.int (if b then 1 else 0))
  | _ => False
theorem cb_int : CaB X (.type "int") (c1 oInt) := fun G n A H xs ds P Q g h p q => by
  have p0 := c1_of p; clear p; obtain ⟨d, rfl, p⟩ := p0
  have h0 := bwAll1 h; clear h; obtain ⟨v, rfl, h⟩ := h0
  cases d with
  | int i => cases bwI h; exact leC call_int1 (.inl ⟨i, rfl, q _ _ _ p (Kp.refl g.di) (rp_int _)⟩)
  | bl b => cases bwB h; exact leC call_int1 (.inr ⟨b, rfl, q _ _ _ p (Kp.refl g.di) (rp_int _)⟩)
  | _ => exact p.elim
def oAbs (d : D) (P : D → Prop) : Prop := match d with
  | .int i => P (.int (if i < 0 then -i else i))
  | _ => False
theorem cb_abs : CaB X (.builtin "abs") (c1 oAbs) := fun G n A H xs ds P Q g h p q => by
  have p0 := c1_of p; clear p; obtain ⟨d, rfl, p⟩ := p0
  have h0 := bwAll1 h; clear h; obtain ⟨v, rfl, h⟩ := h0
  cases d with
  | int i => cases bwI h; exact leC call_abs ⟨i, rfl, q _ _ _ p (Kp.refl g.di) (rp_int _)⟩
  | _ => exact p.elim
def c2I (f : Int → Int → Int) : MC := fun ds P => match ds with
  | [.int i, .int j] => P (.int (f i j))
  | _ => False
theorem c2I_of {f : Int → Int → Int} {ds : List D} {P : D → Prop} (h : c2I f ds P) : ∃ i j, ds = [.int i, .int j] ∧ P (.int (f i j)) := by
  unfold c2I at h
  split at h
  · exact ⟨_, _, rfl, h⟩
  · exact h.elim
theorem cb_2I {nm : String} {f : Int → Int → Int} (hr : CallR X (.builtin nm) (fun xs H Q => ∃ i j, xs = [.int i, .int j] ∧ Q (.int (f i j)) H)) : CaB X (.builtin nm) (c2I f) := fun G n A H xs ds P Q g h p q => by
  have p0 := c2I_of p; clear p; obtain ⟨i, j, rfl, p⟩ := p0
  obtain ⟨v, w, rfl, h1, h2⟩ := bwAll2 h
  cases bwI h1; cases bwI h2
  exact leC hr ⟨i, j, rfl, q _ _ _ p (Kp.refl g.di) (rp_int _)⟩
theorem cb_min (ok : CxOk X) : CaB X (.builtin "min") (c2I fun i j => if j < i then j else i) := cb_2I (call_min2 ok.calm)
theorem cb_max (ok : CxOk X) : CaB X (.builtin "max") (c2I fun i j => if j > i then j else i) := cb_2I (call_max2 ok.calm)
/-! repr -/
def oRepr (d : D) (P : D → Prop) : Prop := (whole d = true ∧ (py d).showable = true ∧ (py d).depth ≤ 60 ∧ (py d).shown.length ≤ sizeLine) ∧ P (.str (py d).shown)
theorem wp_repr (ok : CxOk X) {G : Gh} {n : Nat} {A : Addr → Prop} {H : Hp} {d : D} {v : V} {P : D → Prop} {Q : VK} (g : Go G n A H) (h : Bw X.K A G.dk H d v) (p : oRepr d P) (q : ∀ d v H', P d → Kp G n H H' → Rp X.K A H' d v → Q v H') : wpC X (.builtin "repr") [v] H Q := by
  obtain ⟨⟨p1, p2, p3, p4⟩, p5⟩ := p
  intro pins sh s us I r
  obtain ⟨u, rfl, ru⟩ := Vals.one r
  have fin : ∀ (sh' : Shared) (t : Tok), L2.Inv X pins s H sh' → EP X pins s Q (.str (py d).shown t) sh' := fun sh' t I' => ⟨.str (py d).shown, H, I', ⟨t, rfl⟩, q _ _ _ p5 (Kp.refl g.di) (rp_str _)⟩
  have gen : ∀ a, u = .ref a → wpAny (model X.prog X.w) X.A (call (.builtin "repr") [u]) (EP X pins s Q) X.xe sh := fun a e => by
    subst e
    obtain ⟨as, h1, h2⟩ := Bw.reads I ok.sm d v (.ref a) h ru p1
    have hu := ok.ro.un
    exact repr_of_reads' h1 p2 (fun _ => h2) ok.gd (by omega) (fun _ _ e => e) (fun h' t tk hk => fin _ t (I.kept hk)) p4
  cases d with
  | non =>
    cases bwN h
    cases (show u = .none from ru)
    exact PySem.P.repr_of_none (fin _ _ (I.tok _))
  | bl b =>
    cases bwB h
    cases (show u = .bool b from ru)
    exact PySem.P.repr_of_bool (fin _ _ (I.tok _))
  | int i =>
    cases bwI h
    obtain ⟨t, rfl⟩ := (show ∃ t, u = .int i t from ru)
    exact PySem.P.repr_of_int (by simpa [py, PyData.showable] using p2) (fin _ _ (I.tok _))
  | str z =>
    cases bwS h
    obtain ⟨t, rfl⟩ := (show ∃ t, u = .str z t from ru)
    exact PySem.P.repr_of_str (fin _ _ (I.tok _)) p4
  | tup ds => obtain ⟨a, vs, rfl, _⟩ := bwT h; exact gen a ru
  | lst ds => obtain ⟨a, vs, rfl, _⟩ := h; exact gen a ru
  | dct ds =>
    obtain ⟨a, us, rfl, _⟩ := (show ∃ a us, v = .ref a ∧ ¬ A a ∧ H a = some (.dK us) ∧ RpKv X.K A H ds us by simpa only [Bw, Rp] using h)
    exact gen a ru
  | obj a => simp [whole] at p1
theorem cb_repr (ok : CxOk X) : CaB X (.builtin "repr") (c1 oRepr) := fun G n A H xs ds P Q g h p q => by
  have p0 := c1_of p; clear p; obtain ⟨d, rfl, p⟩ := p0
  have h0 := bwAll1 h; clear h; obtain ⟨v, rfl, h⟩ := h0
  exact wp_repr ok g h p q
end
end BV

namespace BV
open PySem PySem.Spec L2
open PyProof.Rows hiding St
/-! ### enumerate(t), t a tuple -/
theorem new_enumT (t : Addr) (its : Array Value) (n : Nat) (dd : Option Addr) (sl : Array (Option Value)) :
    Meets (Builtin.«enumerate.__new__» ⟨[.type "enumerate", .ref t], []⟩) (fun _ R sh => sh.heap.get? t = some { cls := .type "tuple", dict := dd, data := .seq its n, slots := sl } ∧
      R (.ok (.ret (.ref (sh.heap.push { cls := .type "tuple_iterator", data := .fields #[.ref t, .int 0 0] }).objs.size)))
        { sh with heap := (sh.heap.push { cls := .type "tuple_iterator", data := .fields #[.ref t, .int 0 0] }).push { cls := .type "enumerate", data := .fields #[.none, .bool false, .ref sh.heap.objs.size, rawInt 0, .none, .none] } }) :=
  .of_wp fun prog w A R sh q => by
    obtain ⟨hp, g, d, tk, os⟩ := sh
    obtain ⟨q1, q2⟩ := q
    have f1 := sub_enumerate
    have f2 : Heap.IsTuple (Shared.heap ⟨hp, g, d, tk, os⟩) t its := ⟨_, q1, rfl, n, rfl⟩
    wp_walk using AutoSeq1.wpAny_loadPart' q1
    refine wpAny_stack_any fun st => wpAny_pure ?_
    split
    · rename_i c _ _ _ _ _
      cases (c == Value.type "enumerate") <;> (wp_walk using AutoSeq1.wpAny_loadPart' q1, wpAny_pyIter_tuple f2; exact ⟨_, rfl, q2⟩)
    · wp_walk using AutoSeq1.wpAny_loadPart' q1, wpAny_pyIter_tuple f2
      exact ⟨_, rfl, q2⟩
theorem call_enumT {prog : Program} {w : World} {A : Around} {E : Value → Shared → Prop} {sh : Shared} {t : Addr} {its : Array Value} {Q : Value → Shared → Prop} (ht : IsTup sh.heap t its)
    (h : ∀ h2, IsEnum h2 (sh.heap.objs.size + 1) sh.heap.objs.size 0 .none → h2.IsTupleIter sh.heap.objs.size t 0 → (∀ b o, sh.heap.get? b = some o → h2.get? b = some o) → Q (.ref (sh.heap.objs.size + 1)) { sh with heap := h2 }) :
    wpAny (model prog w) A (call (.type "enumerate") [.ref t]) Q E sh := by
  obtain ⟨⟨c, dd, dt, sl⟩, q1, q2, n, q3⟩ := ht
  obtain rfl : c = .type "tuple" := q2
  obtain rfl : dt = .seq its n := q3
  refine callType_new F.called_enumerate (by decide) (F.typeCall_enumerate_1 _) (F.newCall_enumerate_1 _) (fun obj => F.args_object_init_2 obj _) F.entry_enumerate_new (new_enumT t its n dd sl) ⟨q1, ?_⟩
  have sz : (sh.heap.push { cls := .type "tuple_iterator", data := .fields #[.ref t, .int 0 0] }).objs.size = sh.heap.objs.size + 1 := Heap.size_push ..
  have en := Heap.get?_push_size (sh.heap.push { cls := .type "tuple_iterator", data := .fields #[.ref t, .int 0 0] }) (o := { cls := .type "enumerate", data := .fields #[.none, .bool false, .ref sh.heap.objs.size, rawInt 0, .none, .none] }) rfl
  show _ ∧ _
  rw [sz] at en ⊢
  exact ⟨⟨_, en, rfl⟩, h _ en ⟨_, Heap.get?_push_of_some _ (Heap.get?_push_size _ rfl), rfl, rfl⟩ fun b o x => Heap.get?_push_of_some _ (Heap.get?_push_of_some _ x)⟩
/-- the tuple at a, each item in a new pair -/
def IteT (K : PySem.W.Frag) (a : Addr) : It where
  go := fun i H => ∃ (xs : List V) (x : V), SqT K H a xs ∧ xs[i]? = some x
  yld := fun i H v H2 => ∃ T x, v = .ref T ∧ H T = none ∧ H2 = upd H T (.tup [.int (i : Nat), x]) ∧ ∀ xs, SqT K H a xs → xs[i]? = some x
  stop := fun i H => ∃ xs : List V, SqT K H a xs ∧ xs.length = i
theorem turn_enumT {P : Program} {w : World} {K : PySem.W.Frag} {elts : List Expr} {kk : Nat} {tpos : Pos} (a e it : Addr) :
    Turn P w K (.Tuple elts kk tpos) (IteT K a) [e, it] e (fun i h => (∃ old, IsEnum h e it (0 + ((i : Nat) : Int)) old) ∧ h.IsTupleIter it a i ∧ e ≠ it ∧ a ≠ it ∧ a ≠ e) where
  mem := List.mem_cons_self
  obj := fun i h st b hb => by
    obtain ⟨⟨old, q1⟩, ⟨o, q2, _, q3⟩, _⟩ := st
    rcases List.mem_cons.mp hb with rfl | hb
    · exact ⟨_, q1, fun v z => nomatch z⟩
    · rw [List.mem_singleton.mp hb]
      exact ⟨o, q2, fun v z => by rw [q3] at z; cases z⟩
  keep := fun i h h2 st k => ⟨st.1.imp fun old q => k e (by simp) _ q, st.2.1.at fun o q => k it (by simp) o q, st.2.2⟩
  item := by
    intro X eP ew eK calm i pins sh s H E I fpok st go
    subst eP ew eK
    obtain ⟨⟨old, q1⟩, q2, n1, n2, n3⟩ := st
    obtain ⟨xs, x, g1, g2⟩ := go
    obtain ⟨its, rv, tp, _⟩ := I.tuple g1
    obtain ⟨u, g3, ru⟩ := rv.get g2
    have hlt : i < its.toArray.size := by simpa using (List.getElem?_eq_some_iff.mp g3).1
    have l1 : e < sh.heap.objs.size := Heap.lt_size q1
    have l2 : it < sh.heap.objs.size := by obtain ⟨_, q, _⟩ := q2; exact Heap.lt_size q
    refine wpAny_pyNext_enum_itemC (Draws.tuple (A := X.A.in1) (I.ok.hd calm) it a n2 its.toArray) q1 ⟨q2, tp⟩ hlt n1 (by simp [n1, n3.symm]) fun y h2 tk gy out st2 tup _ kp => ?_
    have gy : its.toArray[i]? = some y := gy
    have ey : y = u := by
      have z : its[i]? = some y := by simpa using gy
      rw [g3] at z; exact (Option.some.inj z).symm
    subst ey
    refine ⟨_, rfl, wpAny_letOwnedTupleGo_enum (s := { sh with heap := h2, toks := tk + 1 }) out fun h3 en3 sb => ?_⟩
    have tup3 : h3.get? sh.heap.objs.size = some { cls := .type "tuple", data := .seq #[.int (0 + ((i : Nat) : Int)) tk, y] } := (sb.2 _ (Nat.ne_of_gt l1)).trans tup
    have new : ObjOk X.prog X.w (upd H sh.heap.objs.size (.tup [.int (i : Nat), x])) h3 sh.heap.objs.size (.tup [.int (i : Nat), x]) :=
      ⟨by show 2 ≤ sizeLine; decide, [.int (0 + ((i : Nat) : Int)) tk, y], .cons ⟨tk, by rw [Int.zero_add]⟩ (.cons ru .nil), ⟨_, tup3, rfl, _, rfl⟩⟩
    have fr : H sh.heap.objs.size = none := I.hok.fresh (Nat.le_refl _)
    have I3 : Inv X pins s (upd H sh.heap.objs.size (.tup [.int (i : Nat), x])) { sh with heap := h3, toks := tk + 1 } :=
      I.turnedNew (ch := [e, it]) (fun b ob hb q => (sb.2 b fun z => hb (by simp [z])).trans (kp b ob (fun z => hb (by simp [z])) (fun z => hb (by simp [z])) q)) fpok (Nat.le_refl _) new
    refine ⟨.ref sh.heap.objs.size, _, I3, rfl, ⟨_, x, rfl, fr, rfl, fun ys hy => by rw [I.tuple_inj hy g1]; exact g2⟩, ⟨⟨y, ?_⟩, st2.1.at fun o q => (sb.2 it (Ne.symm n1)).trans q, n1, n2, n3⟩, fun b hb => ?_⟩
    · have z : (0 : Int) + ((i + 1 : Nat) : Int) = 0 + ((i : Nat) : Int) + 1 := by omega
      rw [z]; exact en3
    · have lb : b < sh.heap.objs.size := by
        rcases List.mem_cons.mp hb with z | z
        · rw [z]; exact l1
        · rw [List.mem_singleton.mp z]; exact l2
      rw [upd_ne (Nat.ne_of_lt lb)]
      exact (fpok b hb).1
  done := by
    intro X eP ew eK calm i pins sh s H E I fpok st stop
    subst eP ew eK
    obtain ⟨⟨old, q1⟩, q2, n1, n2, n3⟩ := st
    obtain ⟨xs, g1, g2⟩ := stop
    obtain ⟨its, rv, tp, _⟩ := I.tuple g1
    obtain ⟨f0, f1, f2, f3, f4, f5⟩ := fpok it (by simp)
    have hn : i = its.toArray.size := by rw [← g2, rv.length]; simp
    subst hn
    exact wpAny_pyNext_enum_endD (Draws.tuple (A := X.A.in1) (I.ok.hd calm) it a n2 its.toArray) q1 ⟨q2, tp⟩ fun h2 ex => ⟨rfl, I.turned (t' := sh.toks) (fun b o hb q => ex b o hb q) f0 f1 f3 f4 f5⟩
  self := fun A i sh Q E st q => st.1.elim fun old q1 => wpAny_pyIter_enum q1 q

/-! ### enumerate by value -/
def pairsD : Nat → List D → List D
  | _, [] => []
  | k, d :: ds => .tup [.int (k : Nat), d] :: pairsD (k + 1) ds
theorem pairsD_get : ∀ (ds : List D) (k i : Nat) (d : D), (pairsD k ds)[i]? = some d → ∃ x, ds[i]? = some x ∧ d = .tup [.int ((k + i : Nat) : Int), x]
  | [], _, _, _, h => by simp [pairsD] at h
  | x :: ds, k, 0, d, h => by
    simp [pairsD] at h
    exact ⟨x, rfl, h.symm⟩
  | x :: ds, k, i + 1, d, h => by
    obtain ⟨y, e1, e2⟩ := pairsD_get ds (k + 1) i d (by simpa [pairsD] using h)
    exact ⟨y, by simpa using e1, by rw [e2, show k + 1 + i = k + (i + 1) by omega]⟩
theorem pairsD_length : ∀ (ds : List D) (k : Nat), (pairsD k ds).length = ds.length
  | [], _ => rfl
  | _ :: ds, k => by simp [pairsD, pairsD_length ds (k + 1)]
section
variable {X : Cx} {G : Gh}
theorem pair_rp {K : PySem.W.Frag} {n : Nat} {A : Addr → Prop} {H : Hp} (g : Go G n A H) {T : Addr} (h : H T = none) {i : Int} {d : D} {x : V} (z : Rp K A H d x) : Kp G n H (upd H T (.tup [.int i, x])) ∧ Rp K A (upd H T (.tup [.int i, x])) (.tup [.int i, d]) (.ref T) :=
  ⟨g.new h, g.newT h (RpAll.cons (rp_int i) (RpAll.cons z RpAll.nil))⟩
theorem iteT_ok {K : PySem.W.Frag} {A1 : Addr → Prop} {H1 : Hp} {a : Addr} {vs : List V} {ds : List D} {n1 : Nat} (g1 : Go G n1 A1 H1) (h : SqT K H1 a vs) (z : RpAll K A1 H1 ds vs) (hl : vs.length ≤ sizeLine) : ItOk K G A1 H1 (IteT K a) (pairsD 0 ds) :=
  ⟨line62 (by rw [pairsD_length, ← z.length]; exact hl), fun nn A' H i g keep => by
    obtain ⟨rd, kt, hA⟩ := seq_go (K := K) g1 keep
    have hq : SqT K H a vs := sqT_go kt h
    have z' : RpAll K A' H ds vs := RpAll.go hA rd kt ds vs z
    refine ⟨fun hi => ⟨vs, hq, by rw [z.length, ← hi, pairsD_length]⟩, fun d hd => ?_⟩
    obtain ⟨x, e1, e2⟩ := pairsD_get ds 0 i d hd
    obtain ⟨v, e3, e4⟩ := z'.get e1
    refine ⟨⟨vs, v, hq, e3⟩, fun y H2 hy => ?_⟩
    obtain ⟨T, w, rfl, hT, rfl, hw⟩ := hy
    have e5 := hw vs hq
    rw [e3] at e5; cases e5
    rw [e2, Nat.zero_add]
    exact pair_rp g hT e4⟩
theorem iteTB_ok {K : PySem.W.Frag} {A1 : Addr → Prop} {H1 : Hp} {a : Addr} {vs : List V} {ds : List D} {n1 : Nat} (g1 : Go G n1 A1 H1) (h : SqT K H1 a vs) (z : RpAll K A1 H1 ds vs) (hl : vs.length ≤ sizeLine) : ItB K G A1 H1 (IteT K a) (pairsD 0 ds) :=
  ⟨line62 (by rw [pairsD_length, ← z.length]; exact hl), fun G' nn A' H i hG g keep => by
    obtain ⟨rd, kt, hA⟩ := seqB_go (K := K) g1 keep
    have hq : SqT K H a vs := sqT_go kt h
    have z' : RpAll K A' H ds vs := RpAll.go hA (fun b u q w => rd b u q fun y => w (g1.sub b y)) kt ds vs z
    refine ⟨fun hi => ⟨vs, hq, by rw [z.length, ← hi, pairsD_length]⟩, fun d hd => ?_⟩
    obtain ⟨x, e1, e2⟩ := pairsD_get ds 0 i d hd
    obtain ⟨v, e3, e4⟩ := z'.get e1
    refine ⟨⟨vs, v, hq, e3⟩, fun y H2 hy => ?_⟩
    obtain ⟨T, w, rfl, hT, rfl, hw⟩ := hy
    have e5 := hw vs hq
    rw [e3] at e5; cases e5
    rw [e2, Nat.zero_add]
    exact pair_rp g hT e4⟩
theorem iteL_ok {K : PySem.W.Frag} {A1 : Addr → Prop} {H1 : Hp} {a : Addr} {vs : List V} {ds : List D} {n1 : Nat} (g1 : Go G n1 A1 H1) (na : ¬ A1 a) (h : H1 a = some (.lst vs)) (z : RpAll K A1 H1 ds vs) (hl : vs.length ≤ sizeLine) : ItOk K G A1 H1 (Ite K a) (pairsD 0 ds) :=
  ⟨line62 (by rw [pairsD_length, ← z.length]; exact hl), fun nn A' H i g keep => by
    obtain ⟨rd, kt, hA⟩ := seq_go (K := K) g1 keep
    have hq : SqL K H a vs := .inl (.inl (rd _ _ h na))
    have z' : RpAll K A' H ds vs := RpAll.go hA rd kt ds vs z
    refine ⟨fun hi => ⟨vs, hq, by rw [z.length, ← hi, pairsD_length]; exact Nat.le_refl _⟩, fun d hd => ?_⟩
    obtain ⟨x, e1, e2⟩ := pairsD_get ds 0 i d hd
    obtain ⟨v, e3, e4⟩ := z'.get e1
    refine ⟨⟨vs, v, hq, e3⟩, fun y H2 hy => ?_⟩
    obtain ⟨T, w, rfl, hT, rfl, hw⟩ := hy
    have e5 := hw vs hq
    rw [e3] at e5; cases e5
    rw [e2, Nat.zero_add]
    exact pair_rp g hT e4⟩
theorem iteLB_ok {K : PySem.W.Frag} {A1 : Addr → Prop} {H1 : Hp} {a : Addr} {vs : List V} {ds : List D} {n1 : Nat} (g1 : Go G n1 A1 H1) (na : ¬ G.dk a) (h : H1 a = some (.lst vs)) (z : RpAll K A1 H1 ds vs) (hl : vs.length ≤ sizeLine) : ItB K G A1 H1 (Ite K a) (pairsD 0 ds) :=
  ⟨line62 (by rw [pairsD_length, ← z.length]; exact hl), fun G' nn A' H i hG g keep => by
    obtain ⟨rd, kt, hA⟩ := seqB_go (K := K) g1 keep
    have hq : SqL K H a vs := .inl (.inl (rd _ _ h na))
    have z' : RpAll K A' H ds vs := RpAll.go hA (fun b u q w => rd b u q fun y => w (g1.sub b y)) kt ds vs z
    refine ⟨fun hi => ⟨vs, hq, by rw [z.length, ← hi, pairsD_length]; exact Nat.le_refl _⟩, fun d hd => ?_⟩
    obtain ⟨x, e1, e2⟩ := pairsD_get ds 0 i d hd
    obtain ⟨v, e3, e4⟩ := z'.get e1
    refine ⟨⟨vs, v, hq, e3⟩, fun y H2 hy => ?_⟩
    obtain ⟨T, w, rfl, hT, rfl, hw⟩ := hy
    have e5 := hw vs hq
    rw [e3] at e5; cases e5
    rw [e2, Nat.zero_add]
    exact pair_rp g hT e4⟩
def enumD : List D → (List D → Prop) → Prop
  | [.lst ds], P => P (pairsD 0 ds)
  | [.tup ds], P => P (pairsD 0 ds)
  | _, _ => False
def mEnum (m : MA) : MA := fun en x P => m en x fun ds => enumD ds P
/-- enumerate(v) begins, v a tuple or a list that stands -/
def enSrc (X : Cx) (elts : List Expr) (kk : Nat) (tpos : Pos) (v : V) (H : Hp) (R : It → Hp → Prop) : Prop := ∀ pins sh s u, L2.Inv X pins s H sh → RelV v u → wpAny (model X.prog X.w) X.A (call (.type "enumerate") [u]) (fun z sh2 => wpAny (model X.prog X.w) X.A (pyIter z) (PIE X pins s (.Tuple elts kk tpos) R) X.xe sh2) X.xe sh
theorem enSrc_tup {elts : List Expr} {kk : Nat} {tpos : Pos} {a : Addr} {vs : List V} {H : Hp} {R : It → Hp → Prop} (hq : SqT X.K H a vs) (q : vs.length ≤ sizeLine → R (IteT X.K a) H) : enSrc X elts kk tpos (.ref a) H R := by
  intro pins sh s u I r
  cases (show u = .ref a from r)
  obtain ⟨its, rv, tp, hz⟩ := I.tuple hq
  refine call_enumT tp fun h2 en it kp => wpAny_pyIter_enum en ?_
  have la : a < sh.heap.objs.size := by obtain ⟨o, e, _⟩ := tp; exact Heap.lt_size e
  refine ⟨sh.heap.objs.size + 1, [sh.heap.objs.size + 1, sh.heap.objs.size], _, _, H, rfl, I.kept (t' := sh.toks) kp, turn_enumT a (sh.heap.objs.size + 1) sh.heap.objs.size, ⟨⟨.none, en⟩, it, Nat.succ_ne_self _, Nat.ne_of_lt la, Nat.ne_of_lt (Nat.lt_succ_of_lt la)⟩, fun b hb => ?_, q hz⟩
  have lb : sh.heap.objs.size ≤ b := by
    rcases List.mem_cons.mp hb with z | z
    · rw [z]; exact Nat.le_add_right _ _
    · rw [List.mem_singleton.mp z]; exact Nat.le_refl _
  exact I.fpOk lb (I.hok.fresh lb)
theorem enSrc_lst {elts : List Expr} {kk : Nat} {tpos : Pos} {a : Addr} {vs : List V} {H : Hp} {R : It → Hp → Prop} (hq : SqL X.K H a vs) (q : vs.length ≤ sizeLine → R (Ite X.K a) H) : enSrc X elts kk tpos (.ref a) H R := by
  intro pins sh s u I r
  cases (show u = .ref a from r)
  obtain ⟨its, rv, tp, hz⟩ := I.list hq
  refine call_enumerate_list tp.isList fun h2 en it sz kp => wpAny_pyIter_enum en ?_
  refine ⟨sh.heap.objs.size + 1, [sh.heap.objs.size + 1, sh.heap.objs.size], _, _, H, rfl, I.kept (t' := sh.toks) kp, turn_enum a (sh.heap.objs.size + 1) sh.heap.objs.size, ⟨⟨.none, en⟩, it, Nat.succ_ne_self _⟩, fun b hb => ?_, q hz⟩
  have lb : sh.heap.objs.size ≤ b := by
    rcases List.mem_cons.mp hb with z | z
    · rw [z]; exact Nat.le_add_right _ _
    · rw [List.mem_singleton.mp z]; exact Nat.le_refl _
  exact I.fpOk lb (I.hok.fresh lb)
theorem wpI_enum {elts : List Expr} {kk : Nat} {tpos p pos : Pos} {e : Expr} {s : L2.St} {H : Hp} {R : It → Hp → Prop} (hg : Gl X "enumerate") (hm : X.mg "enumerate" = none) (hs : starEach [e] X.env = [(false, eval e X.env)]) (h : wpA X [e] s H fun vs H1 => ∃ v, vs = [v] ∧ enSrc X elts kk tpos v H1 R) :
    wpI X (.Tuple elts kk tpos) (.Call (.Name "enumerate" p) [e] [] pos) s H R := fun pins sh I => by
  refine Call_ (ld_blt I hg hm boot_enumerate (callWith_type1 (thn (h pos pins sh I) fun us s1 q => ?_) hs rfl))
  obtain ⟨_, H1, I1, rv, v, rfl, q⟩ := q
  obtain ⟨u, rfl, ru⟩ := Vals.one rv
  exact q pins s1 s u I1 ru
theorem enumD_of {ds : List D} {P : List D → Prop} (h : enumD ds P) : (∃ xs, ds = [.lst xs] ∧ P (pairsD 0 xs)) ∨ ∃ xs, ds = [.tup xs] ∧ P (pairsD 0 xs) := by
  rcases ds with _ | ⟨d, _ | ⟨d2, ds⟩⟩
  · exact h.elim
  · cases d with
    | lst xs => exact .inl ⟨xs, rfl, h⟩
    | tup xs => exact .inr ⟨xs, rfl, h⟩
    | _ => exact h.elim
  · cases d <;> exact h.elim
section
variable {elts : List Expr} {kk : Nat} {tpos p pos : Pos} {e : Expr} {m : ME} {c1 : Nat}
theorem bi_enum (hg : Gl X "enumerate") (hm : X.mg "enumerate" = none) (ha : BE X G c1 e m) (hs : starEach [e] X.env = [(false, eval e X.env)] := by rfl) : BI X G c1 (.Tuple elts kk tpos) (.Call (.Name "enumerate" p) [e] [] pos) (mEnum (mCons m mNil)) := .mk fun n n' s H en x P R hc hB r hx hmm q => by
  refine wpI_enum hg hm hs ((ba_cons ha ba_nil hs) n n' s H en x _ _ hc hB r hx hmm fun ds vs H1 p k z => ?_)
  rcases enumD_of p with ⟨xs, rfl, p⟩ | ⟨xs, rfl, p⟩
  · obtain ⟨v, w, rfl, z1, z2⟩ := (show ∃ v w, vs = v :: w ∧ Rp X.K (Av G s en) H1 (.lst xs) v ∧ RpAll X.K (Av G s en) H1 [] w by simpa only [RpAll] using z)
    cases (show w = [] by simpa only [RpAll] using z2)
    obtain ⟨a, us, rfl, na, e1, z3⟩ := (show ∃ a us, v = .ref a ∧ ¬ (Av G s en) a ∧ H1 a = some (.lst us) ∧ RpAll X.K (Av G s en) H1 xs us by simpa only [Rp] using z1)
    exact ⟨_, rfl, enSrc_lst (.inl (.inl e1)) fun hz => q _ _ H1 p k (iteL_ok (r.kp k).go na e1 z3 hz)⟩
  · obtain ⟨v, w, rfl, z1, z2⟩ := (show ∃ v w, vs = v :: w ∧ Rp X.K (Av G s en) H1 (.tup xs) v ∧ RpAll X.K (Av G s en) H1 [] w by simpa only [RpAll] using z)
    cases (show w = [] by simpa only [RpAll] using z2)
    obtain ⟨a, us, rfl, e1, z3⟩ := (show ∃ a us, v = .ref a ∧ SqT X.K H1 a us ∧ RpAll X.K (Av G s en) H1 xs us by simpa only [Rp] using z1)
    exact ⟨_, rfl, enSrc_tup e1 fun hz => q _ _ H1 p k (iteT_ok (r.kp k).go e1 z3 hz)⟩
theorem bib_enum (hg : Gl X "enumerate") (hm : X.mg "enumerate" = none) (ha : BB X G c1 e m) (hs : starEach [e] X.env = [(false, eval e X.env)] := by rfl) : BIB X G c1 (.Tuple elts kk tpos) (.Call (.Name "enumerate" p) [e] [] pos) (mEnum (mCons m mNil)) := .mk fun n n' s H en x P R hc hB r hx hmm q => by
  refine wpI_enum hg hm hs ((bab_cons ha bab_nil hs) n n' s H en x _ _ hc hB r hx hmm fun ds vs H1 p k z => ?_)
  rcases enumD_of p with ⟨xs, rfl, p⟩ | ⟨xs, rfl, p⟩
  · obtain ⟨v, rfl, z1⟩ := bwAll1 z
    obtain ⟨a, us, rfl, na, e1, z3⟩ := z1
    exact ⟨_, rfl, enSrc_lst (.inl (.inl e1)) fun hz => q _ _ H1 p k (iteLB_ok (r.kp k).go na e1 z3 hz)⟩
  · obtain ⟨v, rfl, z1⟩ := bwAll1 z
    obtain ⟨a, us, rfl, e1, z3⟩ := bwT z1
    exact ⟨_, rfl, enSrc_tup e1 fun hz => q _ _ H1 p k (iteTB_ok (r.kp k).go e1 z3 hz)⟩
end
end
end BV

namespace BV
open PySem PySem.Spec L2
open PyProof.Rows hiding St

/-! ### the deck while a draw runs -/
abbrev nv (ns : List Nat) : List V := ns.map fun (k : Nat) => V.int k
structure DS (d : Dk) (dk : Addr → Prop) (H H1 : Hp) (ns : List Nat) (c : Nat) : Prop where
  hs : ∀ a, dk a ↔ d.has a
  keep : ∀ a o, H a = some o → ¬ dk a → H1 a = some o
  ne : d.p ≠ d.a0
  yok : d.Yok H1
  hp : H1 d.p = some (.lst [.ref d.a0, d.y, .int c])
  h0 : H1 d.a0 = some (.lst (nv ns))
section
variable {d : Dk} {dk : Addr → Prop} {H H1 : Hp} {ns : List Nat} {c : Nat}
theorem Dk.Yok.go {H H' : Hp} (h : d.Yok H) (k : ∀ a, a ≠ d.p → a ≠ d.a0 → ∀ o, H a = some o → H' a = some o) : d.Yok H' := by
  unfold Dk.Yok at h ⊢
  cases e : d.y with
  | int m => rw [e] at h; exact h
  | ref a =>
    rw [e] at h
    obtain ⟨z, h1, h2, ms, h3, h4⟩ := h
    exact ⟨z, h1, h2, ms, h3, k a h1 h2 _ h4⟩
  | _ => rw [e] at h; exact h
theorem DS.new (h : DS d dk H H1 ns c) {q : Addr} {o : HO} (hq : H1 q = none) : DS d dk H (upd H1 q o) ns c :=
  ⟨h.hs, fun a u e n => by rw [upd_ne (ne_of_none (h.keep a u e n) hq)]; exact h.keep a u e n, h.ne, h.yok.go fun a _ _ u e => by rw [upd_ne (ne_of_none e hq)]; exact e,
    by rw [upd_ne (ne_of_none h.hp hq)]; exact h.hp, by rw [upd_ne (ne_of_none h.h0 hq)]; exact h.h0⟩
theorem DS.set0 (h : DS d dk H H1 ns c) (ms : List Nat) : DS d dk H (upd H1 d.a0 (.lst (nv ms))) ms c :=
  ⟨h.hs, fun a u e n => by rw [upd_ne (fun z => n ((h.hs a).mpr (.inr (.inl z))))]; exact h.keep a u e n, h.ne, h.yok.go fun a _ n u e => by rw [upd_ne n]; exact e,
    by rw [upd_ne h.ne]; exact h.hp, upd_same⟩
theorem DS.setC (h : DS d dk H H1 ns c) (k : Nat) : DS d dk H (upd H1 d.p (.lst [.ref d.a0, d.y, .int k])) ns k :=
  ⟨h.hs, fun a u e n => by rw [upd_ne (fun z => n ((h.hs a).mpr (.inl z)))]; exact h.keep a u e n, h.ne, h.yok.go fun a n _ u e => by rw [upd_ne n]; exact e,
    upd_same, by rw [upd_ne h.ne.symm]; exact h.h0⟩
theorem DS.sq (h : DS d dk H H1 ns c) {K : PySem.W.Frag} : SqL K H1 d.p [.ref d.a0, d.y, .int c] := .inl (.inl h.hp)
theorem DS.sq0 (h : DS d dk H H1 ns c) {K : PySem.W.Frag} : SqL K H1 d.a0 (nv ns) := .inl (.inl h.h0)
theorem dp_nv {K : PySem.W.Frag} {H : Hp} : ∀ ns : List Nat, DpAll K H (nv ns) (ns.map fun (k : Nat) => PyData.int k)
  | [] => .nil
  | k :: r => .cons (.int k) (dp_nv r)
theorem lay_nv : ∀ ns : List Nat, PyData.canLayAll0 (ns.map fun (k : Nat) => PyData.int k) = true
  | [] => rfl
  | k :: r => by
    simp only [List.map_cons, PyData.canLayAll0, PyData.canLay0, lay_nv r, Bool.and_self]
end
end BV

namespace BV
open PySem PySem.Spec L2
open PyProof.Rows hiding St
/-- what a draw gives: any number below -/
def MDraw : MF := fun dl ds _ P => ∃ b : Int, ds = [.obj dl, .int b] ∧ 1 ≤ b ∧ b < 1073741824 ∧ ∀ r : Int, 0 ≤ r → r < b → P (.int r)
theorem capB_lt : (capB : Nat) < 2 ^ 200001 := by
  unfold capB
  exact Nat.pow_lt_pow_right (by decide) (by decide)
theorem big_mul {k : Nat} (h : k ≤ capB) : CMulW (48271 * (k : Int)) (k : Int) := by
  have h1 : k < 2 ^ 200001 := Nat.lt_of_le_of_lt h capB_lt
  refine wide_mul (a := 200017) (b := 200001) ?_ ?_ (by decide) (by decide) (by decide)
  · have e : (48271 * (k : Int)).natAbs = 48271 * k := by omega
    rw [e, show (200017 : Nat) = 16 + 200001 from rfl, Nat.pow_add]
    exact Nat.mul_lt_mul_of_le_of_lt (by decide) h1 (by decide)
  · simpa using h1
/-- a draw's start, by what is promised of it -/
theorem draw_in {K : PySem.W.Frag} {mg : Str → Option Value} {vs : List V} {H : Hp} {Q : VK} {E : XK} (h : spB K mg 2 1 MDraw vs H Q E) :
    ∃ (d : Dk) (dk : Addr → Prop) (ns : List Nat) (c : Nat) (b : Int), vs = [.ref d.p, .int b] ∧ 1 ≤ b ∧ b < 1073741824 ∧ c + 1 ≤ capB ∧ DS d dk H H ns c ∧
      ∀ (r : Int) (H' : Hp) (ms : List Nat) (k : Nat), 0 ≤ r → r < b → k ≤ c + 1 → DS d dk H H' ms k → Q (.int r) H' := by
  obtain ⟨G, n, n', dl, ds, xx, PP, hc, hB, hdp, hl, z, di, tr, ⟨b, rfl, hb1, hb2, hP⟩, hq, hE⟩ := h
  obtain ⟨d, rfl, hk, hd⟩ := G.cd dl hdp
  obtain ⟨ne, yok, ns, c, hcn, hp, h0⟩ := (hd n H).mp di
  obtain ⟨v1, r1, rfl, z1, z2⟩ := (show ∃ v r, vs = v :: r ∧ Rp K G.av H (.obj d.p) v ∧ RpAll K G.av H [.int b] r by simpa only [RpAll] using z)
  obtain ⟨v2, r2, rfl, z3, z4⟩ := (show ∃ v r, r1 = v :: r ∧ Rp K G.av H (.int b) v ∧ RpAll K G.av H [] r by simpa only [RpAll] using z2)
  cases (show v1 = .ref d.p by simpa only [Rp] using z1)
  cases (show v2 = .int b by simpa only [Rp] using z3)
  cases (show r2 = [] by simpa only [RpAll] using z4)
  refine ⟨d, G.dk, ns, c, b, rfl, hb1, hb2, by omega, ⟨hk, fun a o e _ => e, ne, yok, hp, h0⟩, fun r H' ms k h1 h2 h3 s => hq (.int r) (.int r) H' (hP r h1 h2) ⟨s.keep, (hd n' H').mpr ⟨s.ne, s.yok, ms, k, by omega, s.hp, s.h0⟩⟩ (rp_int r)⟩
theorem shaped_nv (ns : List Nat) : SeqAt.shaped (.list (ns.map fun (k : Nat) => PyData.int k)) = true := by
  have e : ∀ ns : List Nat, PyData.depthAll (ns.map fun (k : Nat) => PyData.int k) = 0 := fun ns => by
    induction ns with
    | nil => rfl
    | cons k r ih => rw [List.map_cons]; simp only [PyData.depthAll, PyData.depth, ih, Nat.max_self]
  unfold SeqAt.shaped
  simp only [PyData.canLay0, lay_nv, PyData.depth, e, Bool.true_and]
  decide
theorem eqv_nv (ns : List Nat) : PyData.eqv (.list (ns.map fun (k : Nat) => PyData.int k)) (.list []) = ns.isEmpty := by
  cases ns <;> rfl
end BV

namespace BV
open PySem PySem.Spec L2
open PyProof.Rows hiding St

/-! ### the ghost of a deck, and of nothing -/
def Dk.gh (d : Dk) : Gh where
  dk := d.has
  DI := d.Inv
  av := d.has
  sub := fun _ h => h
  tr := fun n H a h z => by
    obtain ⟨ne, yok, ns, c, hc, hp, h0⟩ := h
    rcases z with rfl | rfl | z
    · exact ⟨_, hp⟩
    · exact ⟨_, h0⟩
    · unfold Dk.Yok at yok
      rw [z] at yok
      obtain ⟨_, _, _, ms, _, e⟩ := yok
      exact ⟨_, e⟩
  st := fun n H H' h z => by
    obtain ⟨ne, yok, ns, c, hc, hp, h0⟩ := h
    refine ⟨ne, ?_, ns, c, hc, by rw [z _ (.inl rfl)]; exact hp, by rw [z _ (.inr (.inl rfl))]; exact h0⟩
    unfold Dk.Yok at yok ⊢
    cases e : d.y with
    | ref a =>
      rw [e] at yok
      obtain ⟨y0, y1, y2, ms, y3, y4⟩ := yok
      exact ⟨y0, y1, y2, ms, y3, by rw [z a (.inr (.inr e))]; exact y4⟩
    | int m => rw [e] at yok; exact yok
    | _ => rw [e] at yok; exact yok
  mo := fun n n' H h l => by
    obtain ⟨ne, yok, ns, c, hc, hp, h0⟩ := h
    exact ⟨ne, yok, ns, c, Nat.le_trans hc l, hp, h0⟩
  dp := fun p => p = d.p
  cd := fun p h => ⟨d, h.symm, fun _ => Iff.rfl, fun _ _ => Iff.rfl⟩
def gh0 : Gh where
  dk := fun _ => False
  DI := fun _ _ => True
  av := fun _ => False
  sub := fun _ h => h
  tr := fun _ _ _ _ h => h.elim
  st := fun _ _ _ _ _ => trivial
  mo := fun _ _ _ _ _ => trivial
  dp := fun _ => False
  cd := fun _ h => h.elim

/-! ### a call by a promise of its own -/
theorem pe_callG {X : Cx} {x : Str} {p pos : Pos} {e : Expr} {es : List Expr} {k : Nat} {f : Addr} {fd : FuncData} {ps : List Str} {sp : Sp} {t : TA} (F : FnOkG X.prog X.w X.K X.mg X.base (L2.CX X.prog X.w) k f fd ps sp) (hb : Binds X.K fd ps []) (hr : Room k X.A) (gd : X.A.guards = some [])
    (hg : Gl X x) (hm : X.mg x = some (.ref f)) (hk : PySem.W.keepIn X.K (.ref f) = true) (ha : PA X (e :: es) t) (hdb : (x == ("__debug__" : Str)) = false := by decide)
    (he : starEach (e :: es) X.env = (false, eval e X.env) :: starEach es X.env := by rfl) (hpl : (backTo pos (starEach es X.env)).any (·.1) = false := by rfl) :
    PE X (.Call (.Name x p) (e :: es) [] pos) (fun σ H Q => t σ H fun vs H1 => sp vs H1 Q (fun _ _ _ => False)) := ⟨fun pins sh s H Q I h => by
  refine wpAny_Call_Name_kw (ld_glob I hg hm ?_ hdb)
  refine PySem.W.callWith_K (h₀ := X.base) I.ok.mod.kin hk (thn (ha.run pos pins sh s H _ I h) fun us s1 ⟨vs, H1, I1, rv, q⟩ => ⟨I1.kIn, ?_⟩) he hpl
  have hvl := F.len _ _ _ _ q
  have hul : us.length = ps.length := by rw [← rv.length, hvl]
  have hbt := hb s1 us I1.kIn (by rw [List.append_nil]; exact hul)
  rw [List.append_nil] at hbt
  refine wpAny_call (codeAny_mono (F.run X.A X.stack s1 H1 ⟨us, []⟩ us vs Q _ hr gd I1.env0 hbt rv q) fun rr s' hq => ?_)
  cases rr with
  | error e => exact (takes0 (X := X)) e s' (XE.of_call (W := fun _ _ _ _ => False) (σ := s) I1 (fun _ _ _ h => h) hq)
  | ok fl =>
    cases fl with
    | ret u => exact I1.after hq
    | next => exact False.elim hq
    | brk => exact False.elim hq
    | cont => exact False.elim hq⟩

/-! ### a deck is made of a script -/
def spDeck (K : PySem.W.Frag) : Sp := fun vs H Q _ => ∃ (a : Addr) (ns : List Int), vs = [.ref a] ∧ SqL K H a (ns.map V.int) ∧ ns.length ≤ 63 ∧ ∀ (d : Dk) (H' : Hp), d.Inv 0 H' → Q (.ref d.p) H'
def spLaw (K : PySem.W.Frag) : Sp := fun vs H Q _ => ∃ (a : Addr) (ns : List Int), vs = [.ref a] ∧ SqL K H a (ns.map V.int) ∧ ns.length ≤ 63 ∧ ∀ (H' : Hp), Q (.bl true) H'
theorem spDeck.len {K : PySem.W.Frag} {vs : List V} {H : Hp} {Q : VK} {E : XK} (h : spDeck K vs H Q E) : vs.length = 1 := by
  obtain ⟨a, ns, rfl, _⟩ := h
  rfl
theorem spLaw.len {K : PySem.W.Frag} {vs : List V} {H : Hp} {Q : VK} {E : XK} (h : spLaw K vs H Q E) : vs.length = 1 := by
  obtain ⟨a, ns, rfl, _⟩ := h
  rfl
def rAbs : List V → Hp → VK → Prop := fun xs H Q => ∃ i, xs = [.int i] ∧ Q (.int (if i < 0 then -i else i)) H
theorem nv_abs (i : Int) : V.int (if i < 0 then -i else i) = V.int (i.natAbs : Nat) := by
  congr 1
  split <;> omega
theorem lc_abs {K : PySem.W.Frag} {σ : L2.St} {H H1 : Hp} {a : Addr} {ns : List Int} {i : Nat} {Q : VK} {tl : TE} (htl : ∀ R : VK, R (.ref a) H1 → tl σ H R) (hi : i < σ.length) (h : SqL K H1 a (ns.map V.int)) (hl : ns.length ≤ 63)
    (q : ∀ D, H1 D = none → Q (.ref D) (upd H1 D (.lst (nv (ns.map Int.natAbs))))) : tLc (iList K tl) (gName i) tYes (tCB rAbs (tCons (tVar i) tNil)) [i] σ H Q := by
  refine htl _ ⟨a, rfl, ⟨_, h⟩, fun D hD => ?_⟩
  have sq : ∀ xs, SqL K (upd H1 D (.lst xs)) a (ns.map V.int) := fun xs => by
    rcases h with h | h
    · rcases h with h | ⟨o, h⟩
      · exact .inl (.inl (by rw [upd_ne (ne_of_none h hD)]; exact h))
      · exact .inl (.inr ⟨o, by rw [upd_ne (ne_of_none h hD)]; exact h⟩)
    · exact .inr h
  refine ⟨fun j m H' => m + j = ns.length ∧ H' = upd H1 D (.lst (nv ((ns.take j).map Int.natAbs))), ⟨ns.length, rfl, rfl⟩, ?_⟩
  rintro j m H' ⟨hm, rfl⟩
  cases m with
  | zero =>
    refine .inl ⟨⟨_, sq _, by rw [List.length_map]; omega⟩, ?_⟩
    rw [List.take_of_length_le (by omega)]
    exact q D hD
  | succ m =>
    have hj : j < ns.length := by omega
    obtain ⟨k, hk⟩ : ∃ k, ns[j]? = some k := ⟨_, List.getElem?_eq_getElem hj⟩
    have hk2 : (ns.map V.int)[j]? = some (.int k) := by rw [List.getElem?_map, hk]; rfl
    refine .inr ⟨⟨_, _, sq _, hk2⟩, fun H' => H' = upd H1 D (.lst (nv ((ns.take (j + 1)).map Int.natAbs))), fun H' e => ⟨m, Nat.lt_succ_self _, by omega, e⟩, ?_⟩
    rintro x H' ⟨rfl, hy⟩
    have hx : x = .int k := (Option.some.inj (hk2.symm.trans (hy _ (sq _)))).symm
    subst hx
    refine ⟨by simp [wipe], ?_⟩
    refine ⟨.int k, by simp [wipe, hi], k, rfl, nv ((ns.take j).map Int.natAbs), upd_same, ?_, ?_⟩
    · rw [List.length_map, List.length_map, List.length_take]
      have : (64 : Nat) ≤ sizeLine := by decide
      omega
    · rw [upd_upd, nv_abs]
      congr 2
      have e : ns.take (j + 1) = ns.take j ++ [k] := by rw [List.take_add_one, hk]; rfl
      rw [e]
      simp [nv]
end BV

namespace BV
open PySem PySem.Spec L2
open PyProof.Rows hiding St

theorem Df.le {P : Program} {w : World} {K : PySem.W.Frag} {mg : Str → Option Value} {base : Heap} {k j : Nat} {x : Str} {np c c' : Nat} {M : MF} (h : Df P w K mg base k x np c M) (hc : c ≤ c') (hj : k ≤ j) : Df P w K mg base j x np c' M := by
  obtain ⟨f, fd, ps, h1, F, h3, h4, h5⟩ := h.ex
  refine ⟨⟨f, fd, ps, h1, ⟨fun vs H Q E q => F.len vs H Q E ?_, fun A outer s H args us vs Q E hr hg he hb hv q => F.run A outer s H args us vs Q E (hr.mono hj) hg he hb hv ?_⟩, h3, h4, h5⟩⟩
  all_goals
    obtain ⟨G, n, n', dl, ds, xx, PP, a, r⟩ := q
    exact ⟨G, n, n', dl, ds, xx, PP, by omega, r⟩

/-! ### what a law's text has -/
/-! ### constants of the text -/
mutual
/-- the value u in K stands for the constant d -/
def repB (K : PySem.W.Frag) : D → Value → Bool
  | .non, .none => true
  | .bl b, .bool c => b == c
  | .int i, .int j _ => decide (i = j)
  | .str x, .str y _ => decide (x = y)
  | .tup ds, .ref a => (match K.lookup a with
    | some ⟨.type c, _, .seq its _, _⟩ => decide (c = "tuple") && decide (its.size ≤ sizeLine) && repBs K ds its.toList
    | _ => false)
  | _, _ => false
def repBs (K : PySem.W.Frag) : List D → List Value → Bool
  | [], [] => true
  | d :: ds, u :: us => repB K d u && repBs K ds us
  | _, _ => false
end
mutual
theorem repB_ok {K : PySem.W.Frag} : ∀ (d : D) (u : Value), repB K d u = true → ∃ v, RelV v u ∧ ∀ A H, Rp K A H d v
  | .non, u, h => by
    cases u <;> first | exact ⟨.non, rfl, fun _ _ => rp_non⟩ | simp [repB] at h
  | .bl b, u, h => by
    cases u <;> first | (simp only [repB, beq_iff_eq] at h; subst h; exact ⟨.bl _, rfl, fun _ _ => rp_bl _⟩) | simp [repB] at h
  | .int b, u, h => by
    cases u <;> first | (simp only [repB, decide_eq_true_eq] at h; subst h; exact ⟨.int _, ⟨_, rfl⟩, fun _ _ => rp_int _⟩) | simp [repB] at h
  | .str b, u, h => by
    cases u <;> first | (simp only [repB, decide_eq_true_eq] at h; subst h; exact ⟨.str _, ⟨_, rfl⟩, fun _ _ => rp_str _⟩) | simp [repB] at h
  | .lst _, u, h => by cases u <;> simp [repB] at h
  | .dct _, u, h => by cases u <;> simp [repB] at h
  | .obj _, u, h => by cases u <;> simp [repB] at h
  | .tup ds, u, h => by
    cases u with
    | ref a =>
      simp only [repB] at h
      split at h
      · rename_i c dd its n sl q
        simp only [Bool.and_eq_true, decide_eq_true_eq] at h
        obtain ⟨vs, r, z⟩ := repBs_ok ds its.toList h.2
        refine ⟨.ref a, rfl, fun A H => Rp.tup (.inr ⟨_, its, n, q, ?_, rfl, h.1.2, r⟩) (z A H)⟩
        rw [h.1.1]
      · cases h
    | _ => simp [repB] at h
theorem repBs_ok {K : PySem.W.Frag} : ∀ (ds : List D) (us : List Value), repBs K ds us = true → ∃ vs, Vals vs us ∧ ∀ A H, RpAll K A H ds vs
  | [], us, h => by
    cases us with
    | nil => exact ⟨[], .nil, fun _ _ => RpAll.nil⟩
    | cons _ _ => simp [repBs] at h
  | d :: ds, us, h => by
    cases us with
    | nil => simp [repBs] at h
    | cons u us =>
      simp only [repBs, Bool.and_eq_true] at h
      obtain ⟨v, r, z⟩ := repB_ok d u h.1
      obtain ⟨vs, rs, zs⟩ := repBs_ok ds us h.2
      exact ⟨v :: vs, .cons r rs, fun A H => RpAll.cons (z A H) (zs A H)⟩
end
def conB (K : PySem.W.Frag) (q : Str × D) : Bool := match PySem.W.nsIn K mainGlobals q.1 with
  | some (some u) => repB K q.2 u
  | _ => false
theorem be_gc {X : Cx} {G : Gh} {x : Str} {d : D} {pos : Pos} (hg : Gl X x) (hm : ∃ u, X.mg x = some u ∧ repB X.K d u = true) (hd : (x == ("__debug__" : Str)) = false := by decide) : BE X G 0 (.Name x pos) (mC d) := by
  obtain ⟨u, hm, h⟩ := hm
  obtain ⟨v, r, z⟩ := repB_ok d u h
  exact be_const (pe_glob hg hm r hd) z
structure Has (fn : List He.DefD) (fr : List Str) (cs : List (Str × D)) (K : PySem.W.Frag) (mg : Str → Option Value) (base : Heap) : Prop where
  fu : ∀ (i : Nat) (d : He.DefD), fn[i]? = some d → ∃ f fd, FunD K d.name d.qual d.params d.body d.scope (d.dvs K) (d.kws K) f fd ∧ mg d.name = some (.ref f)
  fr : ∀ x, x ∈ fr → mg x = none
  sm : ∃ o, base.get? sysModules = some o
  co : ∀ (i : Nat) (x : Str) (d : D), cs[i]? = some (x, d) → ∃ u, mg x = some u ∧ repB K d u = true

/-! ### a deck that a def of the law's hands out -/
abbrev dInts (ns : List Nat) : List D := ns.map fun (k : Nat) => D.int k
theorem rpAll_ints {K : PySem.W.Frag} {A : Addr → Prop} {H : Hp} : ∀ {ns : List Nat} {vs : List V}, RpAll K A H (dInts ns) vs → vs = nv ns
  | [], vs, h => by simpa only [dInts, List.map_nil, RpAll] using h
  | k :: r, vs, h => by
    obtain ⟨v, s, rfl, h1, h2⟩ := (show ∃ v s, vs = v :: s ∧ Rp K A H (.int k) v ∧ RpAll K A H (dInts r) s by simpa only [dInts, List.map_cons, RpAll] using h)
    cases (show v = .int k by simpa only [Rp] using h1)
    rw [rpAll_ints h2]
    rfl
/-- a list of lists as a deck's -/
def deckD (d : D) : Prop := ∃ ns : List Nat, (∀ k ∈ ns, 1000000000000000000 ≤ k) ∧ ((yInt = true ∧ ∃ m : Nat, d = .lst [.lst (dInts ns), .int m, .int 0]) ∨ (yInt = false ∧ ∃ ms : List Nat, (∃ k ∈ ms, k < 1000000000000000000) ∧ d = .lst [.lst (dInts ns), .lst (dInts ms), .int 0]))
theorem deck_out {K : PySem.W.Frag} {A : Addr → Prop} {H : Hp} {d : D} {v : V} (h : Rp K A H d v) (hd : deckD d) : ∃ k : Dk, v = .ref k.p ∧ k.Inv 0 H := by
  obtain ⟨ns, hn, hd⟩ := hd
  rcases hd with ⟨hy, m, rfl⟩ | ⟨hy, ms, ⟨k0, hk0, hk1⟩, rfl⟩
  · simp only [Rp, RpAll] at h
    obtain ⟨p, vs, rfl, _, hp, _, _, rfl, ⟨a0, us, rfl, _, h0, hr⟩, _, _, rfl, rfl, _, _, rfl, rfl, rfl⟩ := h
    have e := rpAll_ints hr
    subst e
    refine ⟨⟨p, a0, .int m⟩, rfl, ?_, ⟨hy, Int.natCast_nonneg m⟩, ns, 0, Nat.le_refl _, hp, h0⟩
    rintro (rfl : p = a0)
    rw [hp] at h0
    have z := HO.lst.inj (Option.some.inj h0)
    cases ns with
    | nil => cases z
    | cons k r => cases z
  · simp only [Rp, RpAll] at h
    obtain ⟨p, vs, rfl, _, hp, _, _, rfl, ⟨a0, us, rfl, _, h0, hr⟩, _, _, rfl, ⟨a1, us1, rfl, _, h1, hr1⟩, _, _, rfl, rfl, rfl⟩ := h
    have e := rpAll_ints hr
    subst e
    have e := rpAll_ints hr1
    subst e
    have n0 : p ≠ a0 := by
      rintro rfl
      rw [hp] at h0
      have z := HO.lst.inj (Option.some.inj h0)
      cases ns with
      | nil => cases z
      | cons k r => cases z
    have n1 : a1 ≠ p := by
      rintro rfl
      rw [hp] at h1
      have z := HO.lst.inj (Option.some.inj h1)
      cases ms with
      | nil => cases z
      | cons k r => cases z
    have n2 : a1 ≠ a0 := by
      rintro rfl
      rw [h0] at h1
      have z := HO.lst.inj (Option.some.inj h1)
      have z2 : V.int (k0 : Nat) ∈ nv ns := by rw [z]; exact List.mem_map.mpr ⟨k0, hk0, rfl⟩
      obtain ⟨k, hk, e⟩ := List.mem_map.mp z2
      have e2 : ((k : Nat) : Int) = (k0 : Nat) := V.int.inj e
      have := hn k hk
      omega
    exact ⟨⟨p, a0, .ref a1⟩, rfl, n0, ⟨hy, n1, n2, ms, List.ne_nil_of_mem hk0, h1⟩, ns, 0, Nat.le_refl _, hp, h0⟩

/-! ### statements behind what was done by hand -/
theorem no_owns : ∀ (s : L2.St) (en : En), (∀ ds, Sl.own ds ∉ en) → owns s en = []
  | [], _, _ => by simp [owns]
  | v :: s, [], _ => by
    cases v with
    | none => simp [owns]
    | some v => cases v <;> simp [owns]
  | v :: s, x :: e, h => by
    have ih := no_owns s e fun ds z => h ds (List.mem_cons_of_mem _ z)
    cases v with
    | none => cases x <;> exact ih
    | some v => cases v <;> cases x <;> first | exact ih | exact absurd List.mem_cons_self (h _)
/-- the rest of a def whose slots are told by values, no list of its own yet -/
theorem rest_of {X : Cx} {G : Gh} {c n : Nat} {st : List Stmt} {ms : MS} {s : L2.St} {H : Hp} {en : En} {Dn : Ends} {R : D → Prop} (B : BSs X G c st ms) (hB : n + c ≤ capB) (hno : ∀ ds, Sl.own ds ∉ en) (sl : Slots X.K G.av G.av H s en) (di : G.DI n H) (tr : ∀ a, G.av a → ∃ xs, H a = some (.lst xs))
    (hm : ms { nx := fun _ => False, rt := R } en) (hR : ∀ d v H', R d → Rp X.K G.av H' d v → Dn.rt v H') : wpSs X st Dn s H := by
  have how := no_owns s en hno
  have hav : ∀ a, Av G s en a → G.av a := fun a h => h.elim (fun q => q) fun q => by rw [how] at q; cases q
  refine B n (n + c) s H en _ Dn (Nat.le_refl _) hB ⟨Slots.map (fun v x h => ?_) sl, di, tr, by rw [how]; exact List.nodup_nil⟩ hm ⟨fun _ _ _ h _ _ => h.elim, fun _ _ _ h _ _ => h.elim, fun _ _ _ h _ _ => h.elim, fun d v H' a b _ => hR d v H' a b, ⟨_, takes0, fun _ _ _ _ _ _ h _ _ _ => h.elim⟩⟩
  cases x with
  | no => exact h
  | val d =>
    obtain ⟨y, e1, e2⟩ := h
    exact ⟨y, e1, Rp.weak hav e2⟩
  | own ds =>
    obtain ⟨a, vs, e1, e0, e2, e3⟩ := h
    exact ⟨a, vs, e1, e0, e2, RpAll.weak hav e3⟩
theorem rp_nv {K : PySem.W.Frag} {A : Addr → Prop} {H : Hp} : ∀ ns : List Nat, RpAll K A H (dInts ns) (nv ns)
  | [] => RpAll.nil
  | k :: r => RpAll.cons (rp_int _) (rp_nv r)
theorem slots_no {K : PySem.W.Frag} {A B : Addr → Prop} {H : Hp} : ∀ n, Slots K A B H (List.replicate n none) (List.replicate n Sl.no)
  | 0 => trivial
  | n + 1 => ⟨trivial, slots_no n⟩
end BV

namespace BV
open PySem PySem.Spec L2
open PyProof.Rows hiding St

theorem ifT {c : Bool} {A B : Prop} (h : c = true) (a : A) : if c = true then A else B := by rw [if_pos h]; exact a
theorem ifF {c : Bool} {A B : Prop} (h : c = false) (a : B) : if c = true then A else B := by rw [if_neg (by rw [h]; exact Bool.false_ne_true)]; exact a
/-! ### plain laws of loops -/
/-- a comprehension whose turns are told by a function -/
theorem lcL_of {g : MG} {t : MT} {m : ME} {vs : List Nat} {en : En} {P : List D → Prop} (f : D → Option D) : ∀ (ds acc : List D), ds.length + acc.length ≤ sizeLine →
    (∀ d ∈ ds, ∀ (K1 : D → Prop) (K0 : Prop), (∀ y, f d = some y → K1 y) → (f d = none → K0) → g d (wipeE en vs) fun en2 => t en2 noX fun b => if b = true then m en2 noX K1 else K0) →
    P (acc ++ ds.filterMap f) → lcL g t m vs en P ds acc
  | [], acc, _, _, hP => by simpa [lcL] using hP
  | d :: ds, acc, hz, h, hP => by
    have hz2 : ds.length + acc.length + 1 ≤ sizeLine := by simp only [List.length_cons] at hz; omega
    refine h d List.mem_cons_self _ _ (fun y hy => ⟨by omega, lcL_of f ds _ (by simp only [List.length_append, List.length_cons, List.length_nil]; omega) (fun d hd => h d (List.mem_cons_of_mem _ hd)) ?_⟩) (fun hn => lcL_of f ds _ (by omega) (fun d hd => h d (List.mem_cons_of_mem _ hd)) ?_)
    · simpa [List.filterMap_cons, hy] using hP
    · simpa [List.filterMap_cons, hn] using hP
/-- what holds pair by pair -/
def All2 (R : D → D → Prop) : List D → List D → Prop
  | [], [] => True
  | d :: ds, y :: ys => R d y ∧ All2 R ds ys
  | _, _ => False
/-- a comprehension without a test whose turns are told by a relation -/
theorem lcL_rel {g : MG} {m : ME} {vs : List Nat} {en : En} {P : List D → Prop} (R : D → D → Prop) : ∀ (ds acc : List D), ds.length + acc.length ≤ sizeLine →
    (∀ d ∈ ds, ∀ (K1 : D → Prop), (∀ y, R d y → K1 y) → g d (wipeE en vs) fun en2 => m en2 noX K1) →
    (∀ ys, All2 R ds ys → P (acc ++ ys)) → lcL g mYes m vs en P ds acc
  | [], acc, _, _, hP => by simpa [lcL] using hP [] trivial
  | d :: ds, acc, hz, h, hP => by
    have hz2 : ds.length + acc.length + 1 ≤ sizeLine := by simp only [List.length_cons] at hz; omega
    have z := h d List.mem_cons_self (fun y => acc.length < sizeLine ∧ lcL g mYes m vs en P ds (acc ++ [y])) fun y hy => ⟨by omega, lcL_rel R ds _ (by simp only [List.length_append, List.length_cons, List.length_nil]; omega) (fun d hd => h d (List.mem_cons_of_mem _ hd)) fun ys hys => by
      have := hP (y :: ys) ⟨hy, hys⟩
      simpa using this⟩
    simpa [lcL, mYes] using z
theorem forL_of {g : MG} {b : MS} {E : Ed} (I : List D → En → Prop) (h : ∀ (d : D) (ds : List D) (en : En) (N : En → Prop), I (d :: ds) en → (∀ en', I ds en' → N en') → g d en fun en' => b { E with nx := N, ct := N, bk := E.nx } en') (h0 : ∀ en, I [] en → E.nx en) :
    ∀ (ds : List D) (en : En), I ds en → forL g b E ds en
  | [], en, hi => h0 en hi
  | d :: ds, en, hi => h d ds en _ hi fun en' hi' => forL_of I h h0 ds en' hi'
theorem All2.length {R : D → D → Prop} : ∀ {ds ys : List D}, All2 R ds ys → ys.length = ds.length
  | [], [], _ => rfl
  | _ :: ds, _ :: ys, h => by simp only [List.length_cons, All2.length h.2]
theorem All2.mem {R : D → D → Prop} : ∀ {ds ys : List D}, All2 R ds ys → ∀ y ∈ ys, ∃ d ∈ ds, R d y
  | [], [], _, y, hy => by cases hy
  | d :: ds, z :: ys, h, y, hy => by
    rcases List.mem_cons.mp hy with rfl | hy
    · exact ⟨d, List.mem_cons_self, h.1⟩
    · obtain ⟨e, he, r⟩ := All2.mem h.2 y hy
      exact ⟨e, List.mem_cons_of_mem _ he, r⟩

/-! ### data that repr shows: how deep, how much -/
structure Rb (k n : Nat) (d : D) : Prop where
  wh : whole d = true
  sh : (py d).showable = true
  ls : (py d).leavesShort 20 = true
  dp : (py d).depth ≤ k
  bk : (py d).bulk ≤ n
structure RbAll (k n : Nat) (ds : List D) : Prop where
  wh : wholes ds = true
  sh : PyData.showableAll (pys ds) = true
  ls : PyData.leavesShortAll 20 (pys ds) = true
  dp : PyData.depthAll (pys ds) ≤ k
  bk : PyData.bulkAll (pys ds) ≤ n
theorem Rb.le {k n k' n' : Nat} {d : D} (h : Rb k n d) (h1 : k ≤ k') (h2 : n ≤ n') : Rb k' n' d := ⟨h.wh, h.sh, h.ls, Nat.le_trans h.dp h1, Nat.le_trans h.bk h2⟩
theorem RbAll.le {k n k' n' : Nat} {d : List D} (h : RbAll k n d) (h1 : k ≤ k') (h2 : n ≤ n') : RbAll k' n' d := ⟨h.wh, h.sh, h.ls, Nat.le_trans h.dp h1, Nat.le_trans h.bk h2⟩
theorem Rb.non {k n : Nat} : Rb k n .non := ⟨rfl, rfl, rfl, Nat.zero_le _, Nat.zero_le _⟩
theorem Rb.bl {k n : Nat} {b : Bool} : Rb k n (.bl b) := ⟨rfl, rfl, rfl, Nat.zero_le _, Nat.zero_le _⟩
theorem Rb.int {k n : Nat} {i : Int} (h : i.natAbs < 10 ^ 19) : Rb k n (.int i) := by
  refine ⟨rfl, ?_, ?_, Nat.zero_le _, Nat.zero_le _⟩
  · show decide (i.natAbs.log2 < 1920) = true
    refine decide_eq_true ?_
    by_cases h0 : i.natAbs = 0
    · rw [h0]; decide
    · have z : i.natAbs < 2 ^ 64 := Nat.lt_trans h (by decide)
      have z2 := (Nat.log2_lt h0).mpr z
      omega
  · show decide ((PyData.shown (.int i)).length ≤ 20) = true
    refine decide_eq_true ?_
    have e := int_text_length_le10 (k := 19) (by decide) h
    show (Str.ofString (toString i)).length ≤ 20
    rw [PySem.ofString_length]
    exact e
theorem RbAll.nil {k n : Nat} : RbAll k n [] := ⟨rfl, rfl, rfl, Nat.zero_le _, Nat.zero_le _⟩
theorem RbAll.cons {k n m : Nat} {d : D} {ds : List D} (h : Rb k n d) (h2 : RbAll k m ds) : RbAll k (n + 1 + m) (d :: ds) := by
  refine ⟨by simp only [wholes, h.wh, h2.wh, Bool.and_self], by simp only [pys, PyData.showableAll, h.sh, h2.sh, Bool.and_self], by simp only [pys, PyData.leavesShortAll, h.ls, h2.ls, Bool.and_self], ?_, ?_⟩
  · simp only [pys, PyData.depthAll]
    exact Nat.max_le.mpr ⟨h.dp, h2.dp⟩
  · simp only [pys, PyData.bulkAll]
    have := h.bk
    have := h2.bk
    omega
theorem RbAll.each {k m : Nat} : ∀ {ds : List D}, (∀ d ∈ ds, Rb k m d) → RbAll k (ds.length * (m + 1)) ds
  | [], _ => RbAll.nil
  | d :: ds, h => by
    have z := RbAll.cons (h d List.mem_cons_self) (RbAll.each fun e he => h e (List.mem_cons_of_mem _ he))
    refine z.le (Nat.le_refl _) ?_
    rw [List.length_cons, Nat.succ_mul]
    omega
theorem Rb.tup {k n : Nat} {ds : List D} (h : RbAll k n ds) : Rb (k + 1) n (.tup ds) := ⟨by simpa only [whole] using h.wh, by simpa only [py, PyData.showable] using h.sh, by simpa only [py, PyData.leavesShort] using h.ls, by simp only [py, PyData.depth]; have := h.dp; omega, by simpa only [py, PyData.bulk] using h.bk⟩
theorem Rb.lst {k n : Nat} {ds : List D} (h : RbAll k n ds) : Rb (k + 1) n (.lst ds) := ⟨by simpa only [whole] using h.wh, by simpa only [py, PyData.showable] using h.sh, by simpa only [py, PyData.leavesShort] using h.ls, by simp only [py, PyData.depth]; have := h.dp; omega, by simpa only [py, PyData.bulk] using h.bk⟩
theorem Rb.repr {k n : Nat} {d : D} {P : D → Prop} (h : Rb k n d) (h1 : k ≤ 60) (h2 : n ≤ 700000) (hP : P (.str (py d).shown)) : oRepr d P := by
  refine ⟨⟨h.wh, h.sh, Nat.le_trans h.dp h1, ?_⟩, hP⟩
  have z := PyData.shown_le_bulk 20 (by decide) (py d) h.ls
  have := h.bk
  rw [sizeLine_eq]
  omega

/-! ### items -/
section
variable {a b c d : D} {ds : List D} {P : D → Prop}
theorem itemD_eq {i : Nat} (h : ds[i]? = some d) : itemD ds (i : Int) P = P d := by
  have hl : i < ds.length := by
    rcases Nat.lt_or_ge i ds.length with z | z
    · exact z
    · rw [List.getElem?_eq_none z] at h; cases h
  have e : atI ds (i : Int) = some d := by
    unfold atI ixN
    rw [if_pos (by omega), if_pos (by omega)]
    exact h
  unfold itemD
  rw [e]
theorem itemD_0 : itemD (a :: ds) 0 P = P a := itemD_eq (i := 0) rfl
theorem itemD_1 : itemD (a :: b :: ds) 1 P = P b := itemD_eq (i := 1) rfl
theorem itemD_2 : itemD (a :: b :: c :: ds) 2 P = P c := itemD_eq (i := 2) rfl
theorem itemD_3 : itemD (a :: b :: c :: d :: ds) 3 P = P d := itemD_eq (i := 3) rfl
theorem itemD_at {i : Int} (h0 : 0 ≤ i) (h : ds[i.toNat]? = some d) (hP : P d) : itemD ds i P := by
  have hl : i.toNat < ds.length := by
    rcases Nat.lt_or_ge i.toNat ds.length with z | z
    · exact z
    · rw [List.getElem?_eq_none z] at h; cases h
  have e : atI ds i = some d := by
    unfold atI ixN
    rw [if_pos h0, if_pos (by omega)]
    exact h
  unfold itemD
  rw [e]
  exact hP
theorem itemD_all {i : Int} (h0 : 0 ≤ i) (h1 : i < ds.length) (hP : ∀ d ∈ ds, P d) : itemD ds i P := by
  have hl : i.toNat < ds.length := by omega
  exact itemD_at h0 (List.getElem?_eq_getElem hl) (hP _ (List.getElem_mem hl))
end
theorem oEq_int {i j : Int} {P : D → Prop} : oEqG false (.int i) (.int j) P = P (.bl (decide (i = j))) := by
  show P (.bl (false != decide (i = j))) = _
  rw [Bool.false_bne]
theorem oNe_int {i j : Int} {P : D → Prop} : oEqG true (.int i) (.int j) P = P (.bl (!decide (i = j))) := by
  show P (.bl (true != decide (i = j))) = _
  rw [Bool.true_bne]
theorem oEq_str {i j : Str} {P : D → Prop} : oEqG false (.str i) (.str j) P = P (.bl (decide (i = j))) := by
  show P (.bl (false != decide (i = j))) = _
  rw [Bool.false_bne]
theorem oNe_str {i j : Str} {P : D → Prop} : oEqG true (.str i) (.str j) P = P (.bl (!decide (i = j))) := by
  show P (.bl (true != decide (i = j))) = _
  rw [Bool.true_bne]
/-- a draw -/
theorem draw_ok {dl : Addr} {b : Int} {x : XD → Prop} {P : D → Prop} (h1 : 1 ≤ b) (h2 : b < 1073741824) (hP : ∀ r : Int, 0 ≤ r → r < b → P (.int r)) : MDraw dl [.obj dl, .int b] x P := ⟨b, rfl, h1, h2, hP⟩

/-! ### the numbers of what a test takes -/
def sel (p : D → Bool) (g : Int → D) : Int → List D → List D
  | _, [] => []
  | k, v :: vs => if p v = true then sel p g (k + 1) vs else g k :: sel p g (k + 1) vs
def selE (p : D → Bool) (g : Int → D) (d : D) : Option D := match d with
  | .tup [.int i, v] => if p v = true then none else some (g i)
  | _ => none
def selR (p : D → Bool) (g : Int → D) (ws : List D) (d : D) : Option D := match d with
  | .int i => if p (ws[i.toNat]?.getD .non) = true then none else some (g i)
  | _ => none
theorem sel_enum (p : D → Bool) (g : Int → D) : ∀ (vs : List D) (k : Nat), (pairsD k vs).filterMap (selE p g) = sel p g k vs
  | [], k => rfl
  | v :: vs, k => by
    have ih := sel_enum p g vs (k + 1)
    simp only [pairsD, sel]
    rw [List.filterMap_cons]
    by_cases h : p v = true
    · simp only [selE, h, if_true]
      exact ih
    · simp only [selE, h, if_false, Bool.false_eq_true]
      rw [ih]
      rfl
theorem sel_rangeA (p : D → Bool) (g : Int → D) (ws : List D) : ∀ (vs pre : List D), pre ++ vs = ws → ((List.range' pre.length vs.length).map fun (k : Nat) => D.int (0 + k)).filterMap (selR p g ws) = sel p g pre.length vs
  | [], pre, _ => rfl
  | v :: vs, pre, e => by
    have ih := sel_rangeA p g ws vs (pre ++ [v]) (by rw [← e]; simp)
    have hv : ws[pre.length]? = some v := by rw [← e]; simp
    rw [List.length_append, List.length_cons, List.length_nil] at ih
    rw [List.length_cons, List.range'_succ, List.map_cons, List.filterMap_cons]
    have e2 : ((0 : Int) + (pre.length : Nat)) = (pre.length : Nat) := by omega
    simp only [sel]
    by_cases h : p v = true
    · simp only [selR, e2, Int.toNat_natCast, hv, Option.getD_some, h, if_true]
      exact ih
    · simp only [selR, e2, Int.toNat_natCast, hv, Option.getD_some, h, if_false, Bool.false_eq_true]
      rw [ih]
      rfl
theorem sel_range (p : D → Bool) (g : Int → D) (ws : List D) : (rangeD 0 ws.length).filterMap (selR p g ws) = sel p g 0 ws := by
  have z := sel_rangeA p g ws ws [] rfl
  unfold rangeD
  rw [List.range_eq_range']
  exact z
theorem sel_mem (p : D → Bool) (g : Int → D) : ∀ (vs : List D) (k : Int) (y : D), y ∈ sel p g k vs → ∃ i, k ≤ i ∧ i < k + vs.length ∧ y = g i
  | [], _, _, h => by cases h
  | v :: vs, k, y, h => by
    unfold sel at h
    have ih : y ∈ sel p g (k + 1) vs → ∃ i, k ≤ i ∧ i < k + (v :: vs).length ∧ y = g i := fun h => by
      obtain ⟨i, h1, h2, h3⟩ := sel_mem p g vs (k + 1) y h
      exact ⟨i, by omega, by rw [List.length_cons]; omega, h3⟩
    split at h
    · exact ih h
    · rcases List.mem_cons.mp h with h | h
      · exact ⟨k, by omega, by rw [List.length_cons]; omega, h⟩
      · exact ih h
theorem sel_len (p : D → Bool) (g : Int → D) : ∀ (vs : List D) (k : Int), (sel p g k vs).length ≤ vs.length
  | [], _ => Nat.le_refl _
  | v :: vs, k => by
    have ih := sel_len p g vs (k + 1)
    unfold sel
    split
    · rw [List.length_cons]; omega
    · rw [List.length_cons, List.length_cons]; omega
theorem pairsD_mem {ds : List D} {k : Nat} {d : D} (h : d ∈ pairsD k ds) : ∃ (i : Int) (v : D), v ∈ ds ∧ d = .tup [.int i, v] := by
  obtain ⟨i, hi, e⟩ := List.getElem_of_mem h
  have z : (pairsD k ds)[i]? = some d := by rw [List.getElem?_eq_getElem hi, e]
  obtain ⟨v, h1, h2⟩ := pairsD_get ds k i d z
  exact ⟨_, v, List.mem_of_getElem? h1, h2⟩
theorem rangeD_mem {n : Nat} {d : D} (h : d ∈ rangeD 0 n) : ∃ i : Nat, i < n ∧ d = .int i := by
  obtain ⟨i, hi, e⟩ := List.getElem_of_mem h
  have z : (rangeD 0 n)[i]? = some d := by rw [List.getElem?_eq_getElem hi, e]
  obtain ⟨h1, h2⟩ := rangeD_get z
  exact ⟨i, h1, by rw [h2]; congr 1; omega⟩
theorem isN_non : isN .non = true := rfl
theorem few {n : Nat} (h : n ≤ 16000000) : n ≤ sizeLine := by rw [sizeLine_eq]; omega
theorem sz0 : (0 ≤ sizeLine) = True := eq_true (few (by decide))
theorem sz1 : (0 + 1 ≤ sizeLine) = True := eq_true (few (by decide))
theorem sz2 : (0 + 1 + 1 ≤ sizeLine) = True := eq_true (few (by decide))
theorem sz3 : (0 + 1 + 1 + 1 ≤ sizeLine) = True := eq_true (few (by decide))
theorem sz4 : (0 + 1 + 1 + 1 + 1 ≤ sizeLine) = True := eq_true (few (by decide))
theorem sz5 : (0 + 1 + 1 + 1 + 1 + 1 ≤ sizeLine) = True := eq_true (few (by decide))
theorem sz6 : (0 + 1 + 1 + 1 + 1 + 1 + 1 ≤ sizeLine) = True := eq_true (few (by decide))
theorem sz7 : (0 + 1 + 1 + 1 + 1 + 1 + 1 + 1 ≤ sizeLine) = True := eq_true (few (by decide))
theorem sz8 : (0 + 1 + 1 + 1 + 1 + 1 + 1 + 1 + 1 ≤ sizeLine) = True := eq_true (few (by decide))
theorem sz9 : (0 + 1 + 1 + 1 + 1 + 1 + 1 + 1 + 1 + 1 ≤ sizeLine) = True := eq_true (few (by decide))
theorem sz10 : (0 + 1 + 1 + 1 + 1 + 1 + 1 + 1 + 1 + 1 + 1 ≤ sizeLine) = True := eq_true (few (by decide))
theorem sz11 : (0 + 1 + 1 + 1 + 1 + 1 + 1 + 1 + 1 + 1 + 1 + 1 ≤ sizeLine) = True := eq_true (few (by decide))
theorem sz12 : (0 + 1 + 1 + 1 + 1 + 1 + 1 + 1 + 1 + 1 + 1 + 1 + 1 ≤ sizeLine) = True := eq_true (few (by decide))
theorem sz13 : (0 + 1 + 1 + 1 + 1 + 1 + 1 + 1 + 1 + 1 + 1 + 1 + 1 + 1 ≤ sizeLine) = True := eq_true (few (by decide))
theorem sz14 : (0 + 1 + 1 + 1 + 1 + 1 + 1 + 1 + 1 + 1 + 1 + 1 + 1 + 1 + 1 ≤ sizeLine) = True := eq_true (few (by decide))
theorem sz15 : (0 + 1 + 1 + 1 + 1 + 1 + 1 + 1 + 1 + 1 + 1 + 1 + 1 + 1 + 1 + 1 ≤ sizeLine) = True := eq_true (few (by decide))
theorem sz16 : (0 + 1 + 1 + 1 + 1 + 1 + 1 + 1 + 1 + 1 + 1 + 1 + 1 + 1 + 1 + 1 + 1 ≤ sizeLine) = True := eq_true (few (by decide))
theorem oMul_tup {ds : List D} {k : Int} {P : D → Prop} : oMul (.tup ds) (.int k) P = ((ds ≠ [] ∧ 2 ≤ k ∧ ds.length * k.toNat ≤ 1000000) ∧ P (.tup (List.replicate k.toNat ds).flatten)) := rfl
theorem oMul_int {i j : Int} {P : D → Prop} : oMul (.int i) (.int j) P = (CM i j ∧ P (.int (i * j))) := rfl
theorem cm_small {i j : Int} (h1 : -18446744073709551616 < i) (h2 : i < 18446744073709551616) : CM i j := .inl (.inl ⟨by omega, by omega⟩)
theorem all_true {ds : List D} {P : D → Prop} (h : ∀ d ∈ ds, d = .bl true) (hP : P (.bl true)) : oAllB (fun bs => bs.all id) (.lst ds) P := by
  have e : ∀ ds : List D, (∀ d ∈ ds, d = .bl true) → ∃ bs, boolsD ds = some bs ∧ bs.all id = true := fun ds => by
    induction ds with
    | nil => exact fun _ => ⟨[], rfl, rfl⟩
    | cons d ds ih =>
      intro h
      obtain ⟨bs, e1, e2⟩ := ih fun e he => h e (List.mem_cons_of_mem _ he)
      have z := h d List.mem_cons_self
      subst z
      exact ⟨true :: bs, by simp [boolsD, e1], by simpa using e2⟩
  obtain ⟨bs, e1, e2⟩ := e ds h
  simp only [oAllB, e1, e2]
  exact hP
/-- a slot that holds no list of the def's own -/
def nOwn (s : Sl) : Prop := isOwn (some s) = false
end BV

namespace BV
open PySem PySem.Spec L2
open PyProof.Rows hiding St
theorem capB_of {c : Nat} (h : c ≤ 2 ^ 20000) : c ≤ capB := by
  unfold capB
  exact Nat.le_trans h (Nat.pow_le_pow_right (by decide) (by decide))
theorem rp_obj {K : PySem.W.Frag} {A : Addr → Prop} {H : Hp} {a : Addr} : Rp K A H (.obj a) (.ref a) := by simp only [Rp]
/-- a deck's great cells -/
def bigD (d : D) : Option D := match d with
  | .int k => if k < 1000000000000000000 then none else some (.int k)
  | _ => none
theorem bigD_lo {k : Int} (h : k < 1000000000000000000) : bigD (.int k) = none := by
  unfold bigD
  simp only [if_pos h]
theorem bigD_hi {k : Int} (h : ¬ k < 1000000000000000000) : bigD (.int k) = some (.int k) := by
  unfold bigD
  simp only [if_neg h]
theorem big_ints : ∀ ns : List Nat, (dInts ns).filterMap bigD = dInts (ns.filter fun k => decide (1000000000000000000 ≤ k))
  | [] => rfl
  | k :: r => by
    have ih := big_ints r
    show (D.int k :: dInts r).filterMap bigD = _
    by_cases z : 1000000000000000000 ≤ k
    · rw [List.filter_cons_of_pos (by simpa using z), List.filterMap_cons_some (bigD_hi (by omega)), ih]
      rfl
    · rw [List.filter_cons_of_neg (by simpa using z), List.filterMap_cons_none (bigD_lo (by omega)), ih]
/-! ### the head's facts -/
abbrev faOf (fn : List He.DefD) (fr : List Str) : List He.Fa := fn.map (fun d => He.Fa.glo d.name) ++ fr.map He.Fa.free
def obsC (n : Nat) (fa : List He.Fa) (fn : List He.DefD) (cs : List (Str × D)) (g : Addr → Option Obj) : He.AlD × Bool := (He.obsDG n fa fn g, isDictO (g sysModules) && cs.all (conB (He.frG g (He.asD g n))))
def hookC (n : Nat) (fa : List He.Fa) (fn : List He.DefD) (cs : List (Str × D)) : PySem.W.Hook where
  α := He.AlD × Bool
  obs := fun s => obsC n fa fn cs s.heap.get?
  val := fun _ => (He.valD fn, true)
  says := fun _ h => (∃ K : PySem.W.Frag, K.In h ∧ He.SaysD fa fn K ∧ cs.all (conB K) = true) ∧ ∃ o, h.get? sysModules = some o ∧ o.cls = .type "dict"
  of := fun _ s e => by
    have z : (isDictO (s.heap.get? sysModules) && cs.all (conB (He.frG s.heap.get? (He.asD s.heap.get? n)))) = true := congrArg Prod.snd e
    obtain ⟨z1, z2⟩ := Bool.and_eq_true_iff.mp z
    refine ⟨⟨_, He.frG_in, congrArg Prod.fst e, z2⟩, ?_⟩
    cases q : s.heap.get? sysModules with
    | none => rw [q] at z1; cases z1
    | some o => rw [q] at z1; exact ⟨o, rfl, of_decide_eq_true z1⟩
  keeps := fun _ _ _ z k => ⟨z.1.elim fun K c => ⟨K, PySem.W.Frag.In.keeps c.1 k, c.2⟩, z.2.elim fun o c => ⟨o, k _ _ c.1, c.2⟩⟩
theorem obsC_eq {n : Nat} {fa : List He.Fa} {fn : List He.DefD} {cs : List (Str × D)} {g : Addr → Option Obj} {s : Shared} (h : ∀ a, g a = s.heap.get? a) : obsC n fa fn cs g = (hookC n fa fn cs).obs s := by
  obtain rfl : g = s.heap.get? := funext h
  rfl
theorem has_of {fn : List He.DefD} {fr : List Str} {cs : List (Str × D)} {K : PySem.W.Frag} {h : Heap} {mg : Str → Option Value} (KX : K.In h) (G : h.Ns mainGlobals mg) (c : He.SaysD (faOf fn fr) fn K) (cc : cs.all (conB K) = true) (hat : ∀ d ∈ fn, d.at_ = (d.name, none)) {base : Heap} (hsm : ∃ o, base.get? sysModules = some o) : Has fn fr cs K mg base := by
  refine ⟨fun i d hd => ?_, fun x hx => ?_, hsm, fun i x d hc => ?_⟩
  · obtain ⟨fd, F⟩ := c.def_ i hd
    have hl : i < fn.length := by
      rcases Nat.lt_or_ge i fn.length with z | z
      · exact z
      · rw [List.getElem?_eq_none z] at hd; cases hd
    have e : (faOf fn fr)[i]? = some (.glo d.name) := by
      unfold faOf
      rw [List.getElem?_append_left (by rw [List.length_map]; exact hl), List.getElem?_map, hd]
      rfl
    have m := He.glo_ok KX G (c.fact i e)
    have a := hat d (List.mem_of_getElem? hd)
    refine ⟨_, fd, F, ?_⟩
    rw [m, a]
    rfl
  · obtain ⟨i, hi, e⟩ := List.getElem_of_mem (show He.Fa.free x ∈ faOf fn fr from List.mem_append_right _ (List.mem_map.mpr ⟨x, hx, rfl⟩))
    exact He.free_ok KX G (c.fact i (f := .free x) (by rw [List.getElem?_eq_getElem hi, e]))
  · have z : conB K (x, d) = true := List.all_eq_true.mp cc _ (List.mem_of_getElem? hc)
    unfold conB at z
    split at z
    · rename_i u q
      exact ⟨u, PySem.W.mg_of KX G q, z⟩
    · cases z
end BV

namespace BV
open PySem PySem.Spec L2
open PyProof.Rows hiding St

/-! ### isinstance(e, T), T a built-in type -/
def tyD : D → Option String
  | .non => some "NoneType"
  | .bl _ => some "bool"
  | .int _ => some "int"
  | .str _ => some "str"
  | .tup _ => some "tuple"
  | .lst _ => some "list"
  | .dct _ => some "dict"
  | .obj _ => none
inductive Ty where
  | int | bool | str | tuple | list | dict
def Ty.nm : Ty → String
  | .int => "int" | .bool => "bool" | .str => "str" | .tuple => "tuple" | .list => "list" | .dict => "dict"
/-- whether d is one -/
def isD : Ty → D → Bool
  | .int, .int _ => true
  | .int, .bl _ => true
  | .bool, .bl _ => true
  | .str, .str _ => true
  | .tuple, .tup _ => true
  | .list, .lst _ => true
  | .dict, .dct _ => true
  | _, _ => false
def noObj : D → Bool
  | .obj _ => false
  | _ => true
theorem kit_isD : ∀ (T : Ty) (d : D) (t : String), tyD d = some t → kitB t T.nm = some (isD T d) := fun T d t h => by
  cases T <;> cases d <;> cases h <;> first | (show _ = some true; decide +kernel) | (show _ = some false; decide +kernel)
def mIsi (T : Ty) (m : ME) : ME := fun en x P => m en x fun d => noObj d = true ∧ P (.bl (isD T d))
theorem ty_of {K : PySem.W.Frag} {A dk : Addr → Prop} {H : Hp} {d : D} {v : V} (h : Bw K A dk H d v) {t : String} (e : tyD d = some t) : TyX K H v (.type t) := by
  cases d with
  | non => cases bwN h; cases e; exact .base .non
  | bl b => cases bwB h; cases e; exact .base (.bl b)
  | int b => cases bwI h; cases e; exact .base (.int b)
  | str b => cases bwS h; cases e; exact .base (.str b)
  | tup ds =>
    obtain ⟨a, vs, rfl, q, _⟩ := bwT h
    cases e
    rcases q with (q | ⟨o, q⟩) | ⟨o, its, n, q1, q2, _⟩
    · exact .base (.tup q)
    · exact .fTuple q
    · exact .kTuple q1 q2
  | lst ds =>
    obtain ⟨a, vs, rfl, _, q, _⟩ := h
    cases e
    exact .base (.lst q)
  | dct ds =>
    obtain ⟨a, us, rfl, _, q, _⟩ := (show ∃ a us, v = .ref a ∧ ¬ A a ∧ H a = some (.dK us) ∧ RpKv K A H ds us by simpa only [Bw, Rp] using h)
    cases e
    exact .base (.dK q)
  | obj a => cases e
theorem be_isi {X : Cx} {G : Gh} {e : Expr} {m : ME} {c : Nat} {p p2 pos : Pos} {x : Str} (T : Ty) (ha : BB X G c e m) (hg : Gl X "isinstance") (hm : X.mg "isinstance" = none) (hgT : Gl X x) (hmT : X.mg x = none) (hv : bootBuiltins x = some (.type T.nm)) (hn : x ≠ "__name__" := by decide) (hd : (x == ("__debug__" : Str)) = false := by decide)
    (he : starEach [e, .Name x p2] X.env = (false, eval e X.env) :: starEach [.Name x p2] X.env := by rfl) (he2 : starEach [.Name x p2] X.env = (false, eval (.Name x p2) X.env) :: starEach [] X.env := by rfl) (hpl : (backTo pos (starEach [.Name x p2] X.env)).any (·.1) = false := by rfl) :
    BE X G c (.Call (.Name "isinstance" p) [e, .Name x p2] [] pos) (mIsi T m) := .mk fun n n' s H en xx P Q hc hB r hx hmm q => by
  refine leE (pe_callB call_isi hg hm boot_isinstance (pa_cons peW (pa_cons (pe_bltn (v := .ty T.nm) hgT hmT hv rfl hn hd) pa_nil he2) he) (by decide) (by decide) he hpl) ?_
  refine ha n n' s H en xx _ _ hc hB r hx hmm fun d v H1 p k z => ?_
  obtain ⟨p1, p2⟩ := p
  cases e1 : tyD d with
  | none =>
    cases d with
    | obj a => cases p1
    | _ => cases e1
  | some t => exact ⟨v, .ty T.nm, .type t, .type T.nm, isD T d, rfl, .ty _, ty_of z e1, kit_ty (kit_isD T d t e1), q _ _ _ p2 k (rp_bl _)⟩

/-! ### list + list is a new list -/
def mAddL (ma mb : ME) : MA := fun en x P => ma en x fun d1 => mb en x fun d2 => match d1, d2 with
  | .lst i, .lst j => i.length + j.length ≤ sizeLine ∧ P (i ++ j)
  | _, _ => False
theorem bf_add {X : Cx} {G : Gh} {a b : Expr} {ma mb : ME} {ca cb : Nat} {pos : Pos} (ha : BB X G ca a ma) (hb : BB X G cb b mb) : BF X G (ca + cb) (.BinOp a .Add b pos) (mAddL ma mb) := .mk fun n n' s H en x P Q hc hB r hx hm q =>
  leE (pe_op op_cat peW peW) (ha n (n + ca) s H en x _ _ (Nat.le_refl _) (by omega) r (hx.le (by omega)) hm fun d1 v1 H1 p1 k1 z1 => hb (n + ca) n' s H1 en x _ _ (by omega) (by omega) (r.kp k1) ((hx.kp k1).le (by omega)) p1 fun d2 v2 H2 p2 k2 z2 => by
    have z1' := (r.kp k1).go.bw k2 z1
    cases d1 with
    | lst i => cases d2 with
      | lst j =>
        obtain ⟨a1, vs, rfl, _, e1, y1⟩ := z1'
        obtain ⟨a2, us, rfl, _, e2, y2⟩ := z2
        have g := ((r.kp k1).kp k2).go
        exact ⟨a1, a2, vs, us, rfl, rfl, e1, e2, by rw [y1.length, y2.length]; exact p2.1, fun l hl => q _ _ _ _ p2.2 ((k1.trans k2).trans (g.new hl)) ((k1.trans k2).none hl) upd_same (g.rpNew hl (y1.append y2))⟩
      | _ => exact p2.elim
    | _ => exact p2.elim)
end BV

namespace BV
open PySem PySem.Spec L2
open PyProof.Rows hiding St
section
variable {X : Cx} {G : Gh} {pos : Pos}
/-! ### str(x) of a number, a bool, None, a text -/
def oStr (d : D) (P : D → Prop) : Prop := match d with
  | .int i => i.natAbs.log2 < 1920 ∧ P (.str (toString i))
  | .str s => P (.str s)
  | .bl b => P (.str (if b then "True" else "False"))
  | .non => P (.str "None")
  | _ => False
theorem cb_str : CaB X (.type "str") (c1 oStr) := fun G n A H xs ds P Q g h p q => by
  have p0 := c1_of p; clear p; obtain ⟨d, rfl, p⟩ := p0
  have h0 := bwAll1 h; clear h; obtain ⟨v, rfl, h⟩ := h0
  intro pins sh s us I r
  obtain ⟨u, rfl, ru⟩ := Vals.one r
  cases d with
  | int i =>
    cases bwI h
    obtain ⟨t, rfl⟩ := (show ∃ t, u = .int i t from ru)
    exact PySem.P.str_of_int p.1 ⟨.str _, H, I.tok _, ⟨_, rfl⟩, q _ _ _ p.2 (Kp.refl g.di) (rp_str _)⟩
  | str z =>
    cases bwS h
    obtain ⟨t, rfl⟩ := (show ∃ t, u = .str z t from ru)
    exact PySem.P.str_of_str ⟨.str _, H, I, ⟨_, rfl⟩, q _ _ _ p (Kp.refl g.di) (rp_str _)⟩
  | bl b =>
    cases bwB h
    cases (show u = .bool b from ru)
    exact PySem.P.str_of_bool ⟨.str _, H, I.tok _, ⟨_, rfl⟩, q _ _ _ p (Kp.refl g.di) (rp_str _)⟩
  | non =>
    cases bwN h
    cases (show u = .none from ru)
    exact PySem.P.str_of_none ⟨.str _, H, I.tok _, ⟨_, rfl⟩, q _ _ _ p (Kp.refl g.di) (rp_str _)⟩
  | _ => exact p.elim
/-! ### {} -/
theorem be_dict0 : BE X G 0 (.Dict [] [] pos) (mC (.dct [])) := .mk fun n n' s H en x P Q hc hB r hx hm q =>
  leE pe_dnewK fun p hp => q (.dct []) (.ref p) _ hm ((r.go.new hp).le (by omega)) (by
    simp only [Rp]
    exact ⟨p, [], rfl, r.go.fresh hp, upd_same, by simp only [RpKv]⟩)

/-! ### {k: v, ..}, the keys texts that are written -/
abbrev MP := En → (XD → Prop) → (List (Key × D) → Prop) → Prop
def BP (X : Cx) (G : Gh) (c : Nat) (pos : Pos) (ks : List (Option Expr)) (vs : List Expr) (m : MP) : Prop := ∃ trs, PPs X pos ks vs trs ∧ ∀ (n n' : Nat) (s : L2.St) (H : Hp) (en : En) (x : XD → Prop) (P : List (Key × D) → Prop) (Q : List (V × V) → Hp → Prop), n + c ≤ n' → n' ≤ capB → SR X.K G n s H en → XO X G n' s H x → m en x P →
  (∀ kds kvs H', P kds → Kp G n' H H' → RpKv X.K (Av G s en) H' kds kvs → Q (kvs.map fun kv => (kV kv.1, kv.2)) H') → tPairs trs s H Q
def mPNil : MP := fun _ _ P => P []
def mPCons (k : Str) (m : ME) (r : MP) : MP := fun en x P => m en x fun d => r en x fun kds => P ((.inr k, d) :: kds)
theorem bp_nil : BP X G 0 pos [] [] mPNil := ⟨[], pps_nil, fun n n' s H en x P Q hc hB r hx hm q => q [] [] H hm ((Kp.refl r.di).le (by omega)) (by simp only [RpKv])⟩
theorem RpKv.go2 {K : PySem.W.Frag} {A : Addr → Prop} {H : Hp} {k : Key} {d : D} {v : V} {kds : List (Key × D)} {kvs : List (Key × V)} (h : Rp K A H d v) (h2 : RpKv K A H kds kvs) : RpKv K A H ((k, d) :: kds) ((k, v) :: kvs) := by
  simp only [RpKv]
  exact ⟨v, kvs, rfl, h, h2⟩
theorem bp_cons {k : Str} {j : Nat} {p1 : Pos} {v : Expr} {ks : List (Option Expr)} {vs : List Expr} {m : ME} {mr : MP} {c1 c2 : Nat} (hv : BE X G c1 v m) (hr : BP X G c2 pos ks vs mr) : BP X G (c1 + c2) pos (some (.Constant (.str k) j p1) :: ks) (v :: vs) (mPCons k m mr) := by
  obtain ⟨trs, pp, hr⟩ := hr
  refine ⟨_, pps_cons pe_str peW pp, fun n n' s H en x P Q hc hB r hx hm q => ?_⟩
  refine hv n (n + c1) s H en x _ _ (Nat.le_refl _) (by omega) r (hx.le (by omega)) hm fun d w H1 p k1 z => ?_
  refine hr (n + c1) n' s H1 en x _ _ (by omega) hB (r.kp k1) (hx.kp k1) p fun kds kvs H2 p2 k2 z2 => ?_
  exact q ((.inr k, d) :: kds) ((.inr k, w) :: kvs) H2 p2 (k1.trans k2) (RpKv.go2 ((r.kp k1).go.rp k2 z) z2)
theorem merge_nodup : ∀ (kvs acc : List (Key × V)), ((acc ++ kvs).map Prod.fst).Nodup → mergeK acc kvs = acc ++ kvs
  | [], acc, _ => by simp [mergeK]
  | p :: r, acc, h => by
    have e : putK acc p.1 p.2 = acc ++ [p] := by
      unfold putK
      rw [if_neg]
      intro z
      obtain ⟨q, hq, e⟩ := List.any_eq_true.mp z
      have e := of_decide_eq_true e
      rw [List.map_append, List.nodup_append] at h
      exact h.2.2 q.1 (List.mem_map.mpr ⟨q, hq, rfl⟩) p.1 (List.mem_map.mpr ⟨p, List.mem_cons_self, rfl⟩) e
    show mergeK (putK acc p.1 p.2) r = _
    rw [e, merge_nodup r (acc ++ [p]) (by simpa using h)]
    simp
theorem RpKv.keys {K : PySem.W.Frag} {A : Addr → Prop} {H : Hp} : ∀ {kds : List (Key × D)} {kvs : List (Key × V)}, RpKv K A H kds kvs → kvs.map Prod.fst = kds.map Prod.fst
  | [], kvs, h => by cases (show kvs = [] by simpa only [RpKv] using h); rfl
  | (k, d) :: kds, kvs, h => by
    obtain ⟨v, s, rfl, _, h2⟩ := (show ∃ v s, kvs = (k, v) :: s ∧ Rp K A H d v ∧ RpKv K A H kds s by simpa only [RpKv] using h)
    rw [List.map_cons, List.map_cons, RpKv.keys h2]
/-! data without dicts -/
mutual
def noDct : D → Bool
  | .dct _ => false
  | .tup ds => noDcts ds
  | .lst ds => noDcts ds
  | _ => true
def noDcts : List D → Bool
  | [] => true
  | d :: ds => noDct d && noDcts ds
end
mutual
theorem Rp.updD {K : PySem.W.Frag} {A : Addr → Prop} {H : Hp} {p : Addr} {us : List (Key × V)} {o : HO} (hp : H p = some (.dK us)) : ∀ (d : D) (v : V), noDct d = true → Rp K A H d v → Rp K A (upd H p o) d v
  | .non, _, _, h => by simpa only [Rp] using h
  | .bl _, _, _, h => by simpa only [Rp] using h
  | .int _, _, _, h => by simpa only [Rp] using h
  | .str _, _, _, h => by simpa only [Rp] using h
  | .obj _, _, _, h => by simpa only [Rp] using h
  | .dct _, _, n, _ => by simp [noDct] at n
  | .tup ds, v, n, h => by
    simp only [Rp] at h ⊢
    obtain ⟨a, vs, e, q, r⟩ := h
    refine ⟨a, vs, e, ?_, RpAll.updD hp ds vs (by simpa only [noDct] using n) r⟩
    rcases q with (q | ⟨u, q⟩) | q
    · exact .inl (.inl (by rw [upd_ne (fun z => by rw [z, hp] at q; cases q)]; exact q))
    · exact .inl (.inr ⟨u, by rw [upd_ne (fun z => by rw [z, hp] at q; cases q)]; exact q⟩)
    · exact .inr q
  | .lst ds, v, n, h => by
    simp only [Rp] at h ⊢
    obtain ⟨a, vs, e, na, q, r⟩ := h
    exact ⟨a, vs, e, na, by rw [upd_ne (fun z => by rw [z, hp] at q; cases q)]; exact q, RpAll.updD hp ds vs (by simpa only [noDct] using n) r⟩
theorem RpAll.updD {K : PySem.W.Frag} {A : Addr → Prop} {H : Hp} {p : Addr} {us : List (Key × V)} {o : HO} (hp : H p = some (.dK us)) : ∀ (ds : List D) (vs : List V), noDcts ds = true → RpAll K A H ds vs → RpAll K A (upd H p o) ds vs
  | [], _, _, h => by simpa only [RpAll] using h
  | d :: ds, vs, n, h => by
    simp only [RpAll] at h ⊢
    simp only [noDcts, Bool.and_eq_true] at n
    obtain ⟨v, r, e, h1, h2⟩ := h
    exact ⟨v, r, e, Rp.updD hp d v n.1 h1, RpAll.updD hp ds r n.2 h2⟩
end
theorem RpKv.updD {K : PySem.W.Frag} {A : Addr → Prop} {H : Hp} {p : Addr} {us : List (Key × V)} {o : HO} (hp : H p = some (.dK us)) : ∀ (ds : List (Key × D)) (vs : List (Key × V)), (ds.all fun q => noDct q.2) = true → RpKv K A H ds vs → RpKv K A (upd H p o) ds vs
  | [], _, _, h => by simpa only [RpKv] using h
  | (k, d) :: ds, vs, n, h => by
    simp only [RpKv] at h ⊢
    simp only [List.all_cons, Bool.and_eq_true] at n
    obtain ⟨v, r, e, h1, h2⟩ := h
    exact ⟨v, r, e, Rp.updD hp d v n.1 h1, RpKv.updD hp ds r n.2 h2⟩
def mDisp (m : MP) : ME := fun en x P => m en x fun kds => ((kds.map Prod.fst).Nodup ∧ kds.length ≤ 15 ∧ (kds.all fun q => noDct q.2) = true) ∧ P (.dct kds)
theorem be_disp {c : Nat} {ks : List (Option Expr)} {vs : List Expr} {m : MP} (h : BP X G c pos ks vs m) (hall : ks.all (·.isSome) = true := by rfl) (hl : ks.length = vs.length := by rfl) (h0 : ks ≠ [] := by simp) (h15 : ks.length ≤ 15 := by decide) : BE X G c (.Dict ks vs pos) (mDisp m) := .mk fun n n' s H en x P Q hc hB r hx hm q => by
  obtain ⟨trs, pp, hr⟩ := h
  refine leE (pe_disp pp hall hl h0 h15) fun p hp => ?_
  have k0 : Kp G n H (upd H p (.dK [])) := r.go.new hp
  refine hr n n' s _ en x _ _ hc hB (r.kp k0) (hx.kp k0) hm fun kds kvs H2 p2 k2 z2 => ?_
  obtain ⟨⟨h1, h2, h3⟩, hP⟩ := p2
  have nA := r.go.fresh hp
  have e2 : H2 p = some (.dK []) := k2.keep p _ upd_same fun z => nA (.inl (G.sub p z))
  have ek := RpKv.keys z2
  have hlen : kvs.length = kds.length := by have := congrArg List.length ek; simpa using this
  have em : mergeK [] kvs = kvs := by rw [merge_nodup kvs [] (by rw [List.nil_append, ek]; exact h1)]; rfl
  refine ⟨e2, kvs, rfl, by omega, q (.dct kds) (.ref p) _ hP ⟨fun a o ha na => ?_, G.st n' H2 _ k2.di fun a ha => ?_⟩ ?_⟩
  · have ne : a ≠ p := fun z => by rw [z, hp] at ha; cases ha
    rw [upd_ne ne]
    exact (k0.trans k2).keep a o ha na
  · exact upd_ne fun z => nA (.inl (G.sub p (z ▸ ha)))
  · simp only [Rp]
    exact ⟨p, kvs, rfl, nA, by rw [em]; exact upd_same, RpKv.updD e2 kds kvs h3 z2⟩
end
end BV

namespace BV
open PySem PySem.Spec L2
open PyProof.Rows hiding St
def top (i : Nat) : Stmt := PySem.Challenge.pw_fragweave_k01_pieces_at_places.main.body.getD i (.Pass ⟨0, 0, 0, 0⟩)
def fn : List He.DefD := [
  ⟨("end_of", none), "end_of", "end_of", defArgs (top 1), defBody (top 1), defScope (top 1), [], []⟩,
  ⟨("places_of", none), "places_of", "places_of", defArgs (top 2), defBody (top 2), defScope (top 2), [], []⟩,
  ⟨("value_at", none), "value_at", "value_at", defArgs (top 3), defBody (top 3), defScope (top 3), [], []⟩,
  ⟨("over", none), "over", "over", defArgs (top 4), defBody (top 4), defScope (top 4), [], []⟩,
  ⟨("_law_deck", none), "_law_deck", "_law_deck", defArgs (top 6), defBody (top 6), defScope (top 6), [], []⟩,
  ⟨("_law_draw", none), "_law_draw", "_law_draw", defArgs (top 7), defBody (top 7), defScope (top 7), [], []⟩,
  ⟨("_law_same", none), "_law_same", "_law_same", defArgs (top 8), defBody (top 8), defScope (top 8), [], []⟩,
  ⟨("_law_row", none), "_law_row", "_law_row", defArgs (top 9), defBody (top 9), defScope (top 9), [], []⟩,
  ⟨("_law_value", none), "_law_value", "_law_value", defArgs (top 10), defBody (top 10), defScope (top 10), [], []⟩,
  ⟨("_law_piece_right", none), "_law_piece_right", "_law_piece_right", defArgs (top 11), defBody (top 11), defScope (top 11), [], []⟩,
  ⟨("law", none), "law", "law", defArgs (top 12), defBody (top 12), defScope (top 12), [], []⟩
]
def frees : List Str := ["abs", "all", "enumerate", "len", "range", "repr", "tuple"]
def cns : List (Str × D) := []
section
variable {P : Program} {w : World} {K : PySem.W.Frag} {mg : Str → Option Value} {base : Heap}
theorem df_draw {f : Addr} {fd : FuncData} (F : FunD K "_law_draw" "_law_draw" (defArgs (top 7)) (defBody (top 7)) (defScope (top 7)) [] [] f fd) (hm : mg "_law_draw" = some (.ref f)) (hb : Binds K fd ["_law_deck_here", "_law_below"] []) (hsm : ∃ o, base.get? sysModules = some o) (mL : mg "len" = none) :
    Df P w K mg base 1 "_law_draw" 2 1 MDraw := by
  have S : FnScope ["_law_deck_here", "_law_below", "_law_rest", "_law_cell", "_law_mixed"] ["_law_deck_here", "_law_below"] (defScope (top 7)) := ⟨rfl, rfl, rfl, by decide +kernel, rfl, by decide +kernel, by decide +kernel⟩
  obtain ⟨oc, od, dV, kV, doc, pm, an, cdv, ct, osl, rfl, lk, hcd, _, _⟩ := F.ex
  refine ⟨⟨f, _, _, rfl, fn_ofG lk hcd S (fun vs H Q E h => ?_) (fun A outer s H vs Q E hr hgd h => ?_), hm, F.kp, hb⟩⟩
  · obtain ⟨G, n, n', dl, ds, xx, PP, _, _, _, h1, _⟩ := h
    exact h1
  have ok : CxOk (cxOf (L2.CX P w) P w K mg base ["_law_deck_here", "_law_below", "_law_rest", "_law_cell", "_law_mixed"] "_law_draw" (defScope (top 7)) f cdv A outer s H E) := ⟨S.nd, rfl, passes_of (K := fun e s'' => L2.CX P w outer H s E e s'') (E₁ := fun e' s'' => L2.CX P w outer H s E e' s'') rfl, hgd, hsm, hr.mono (Nat.zero_le _)⟩
  obtain ⟨d, dk, ns, c, b, rfl, hb1, hb2, hcap, ds, hQ⟩ := draw_in h
  have v0 : ∀ {p}, PE (cxOf (L2.CX P w) P w K mg base ["_law_deck_here", "_law_below", "_law_rest", "_law_cell", "_law_mixed"] "_law_draw" (defScope (top 7)) f cdv A outer s H E) (.Name "_law_deck_here" p) (tVar 0) := pe_var rfl (Or.inl rfl)
  have v1 : ∀ {p}, PE (cxOf (L2.CX P w) P w K mg base ["_law_deck_here", "_law_below", "_law_rest", "_law_cell", "_law_mixed"] "_law_draw" (defScope (top 7)) f cdv A outer s H E) (.Name "_law_below" p) (tVar 1) := pe_var rfl (Or.inl rfl)
  have v2 : ∀ {p}, PE (cxOf (L2.CX P w) P w K mg base ["_law_deck_here", "_law_below", "_law_rest", "_law_cell", "_law_mixed"] "_law_draw" (defScope (top 7)) f cdv A outer s H E) (.Name "_law_rest" p) (tVar 2) := pe_var rfl (Or.inl rfl)
  have v3 : ∀ {p}, PE (cxOf (L2.CX P w) P w K mg base ["_law_deck_here", "_law_below", "_law_rest", "_law_cell", "_law_mixed"] "_law_draw" (defScope (top 7)) f cdv A outer s H E) (.Name "_law_cell" p) (tVar 3) := pe_var rfl (Or.inl rfl)
  have v4 : ∀ {p}, PE (cxOf (L2.CX P w) P w K mg base ["_law_deck_here", "_law_below", "_law_rest", "_law_cell", "_law_mixed"] "_law_draw" (defScope (top 7)) f cdv A outer s H E) (.Name "_law_mixed" p) (tVar 4) := pe_var rfl (Or.inl rfl)
  have px : ∀ {i k p}, PlainIx (.Constant (.int i) k p) := fun _ _ => rfl
  refine leSs (pss_cons (ps_while ok.pass (pt_cmpR (op_neD ok.ro.units) (pe_ix ix_list v0 pe_int px) (pe_lst pa_nil) rfl)
      (pss_cons (ps_set (i := 2) S.nd rfl (.inl rfl) (pe_ix ix_list (pe_ix ix_list v0 pe_int px) pe_int px))
      (pss_cons (ps_if (pt_cmp (pc_gt v2 pe_int)) (pss_cons (ps_asg (pe_op op_fdiv v2 v1) (pg_sub (pe_ix ix_list v0 pe_int px) pe_int set_list)) (pss_one (ps_ret (pe_op op_mod v2 v1)))) pss_nil)
      (pss_one (ps_expr (pe_bm PySem.F.plainAttrs_list PySem.F.slot_list_pop PySem.F.type_list_pop mt_popAt (pe_ix ix_list v0 pe_int px) (pa_cons pe_int pa_nil)))))))
    (pss_cons (ps_asg (pe_add (pe_ix ix_list v0 pe_int px) pe_int) (pg_sub v0 pe_int set_list))
    (pss_cons (ps_set (i := 3) S.nd rfl (.inl rfl) (pe_op op_mod (pe_ix ix_list (pe_ix ix_list v0 pe_int px) (pe_op op_mod (pe_ix ix_list v0 pe_int px) (pe_callB (x := "len") call_len (by rfl) mL boot_len (pa_cons (pe_ix ix_list v0 pe_int px) pa_nil))) fun _ _ => rfl) pe_int))
    (pss_cons (ps_set (i := 4) S.nd rfl (.inl rfl) (pe_add (pe_op op_mul v3 (pe_add pe_int (pe_op op_mul pe_int (pe_ix ix_list v0 pe_int px)))) pe_int))
    (pss_cons (ps_set (i := 4) S.nd rfl (.inl rfl) (pe_op op_mod (pe_add v4 (pe_op op_mulW (pe_op op_mul pe_int (pe_ix ix_list v0 pe_int px)) (pe_ix ix_list v0 pe_int px))) pe_int))
    (pss_one (ps_ret (pe_op op_mod (pe_op op_fdiv (pe_op op_mod (pe_op op_mul v4 v4) pe_int) pe_int) v1)))))))) ?_
  have at0 : ∀ (u y z : V), atI [u, y, z] 0 = some u := fun _ _ _ => rfl
  have at1 : ∀ (u y z : V), atI [u, y, z] 1 = some y := fun _ _ _ => rfl
  have at2 : ∀ (u y z : V), atI [u, y, z] 2 = some z := fun _ _ _ => rfl
  have atH : ∀ (x : Nat) (r : List Nat), atI (nv (x :: r)) 0 = some (.int x) := fun x r => by
    unfold atI ixN
    rw [if_pos (by omega), if_pos (by simp [nv])]
    rfl
  show ∃ W : Nat → L2.St → Hp → Prop, (∃ m, W m _ H) ∧ _
  refine ⟨fun m σ H1 => ∃ (ms : List Nat) (r : Option V), m = ms.length ∧ σ = [some (.ref d.p), some (.int b), r, none, none] ∧ DS d dk H H1 ms c, ⟨_, ns, none, rfl, rfl, ds⟩, ?_⟩
  rintro m σ H1 ⟨ms, r, rfl, rfl, h1⟩
  refine ⟨_, rfl, d.p, _, _, _, rfl, rfl, h1.sq, at0 _ _ _, ⟨by decide, fun q hq => ?_⟩⟩
  have h2 := h1.new (o := .lst []) hq
  refine ⟨_, _, Dp.lst h2.sq0 (dp_nv ms), Dp.lst (.inl (.inl upd_same)) .nil, shaped_nv ms, by decide, _, rfl, ?_⟩
  rw [eqv_nv]
  cases ms with
  | cons x ms =>
    refine ifT rfl ?_
    refine ⟨fun σ' H' => ∃ r', σ' = [some (.ref d.p), some (.int b), r', none, none] ∧ DS d dk H H' ms c, ?_, ?_⟩
    · rintro σ' H' ⟨r', rfl, h3⟩
      exact ⟨ms.length, Nat.lt_succ_self _, ms, r', rfl, rfl, h3⟩
    refine ⟨_, rfl, d.p, _, _, _, rfl, rfl, h2.sq, at0 _ _ _, d.a0, _, _, _, rfl, rfl, h2.sq0, atH x ms, ?_⟩
    refine ⟨_, rfl, x, 0, rfl, rfl, _, rfl, ?_⟩
    by_cases hx : 0 < x
    · refine ifT (by simpa using hx) ?_
      refine ⟨_, rfl, _, rfl, x, b, rfl, rfl, ⟨by omega, by omega⟩, ?_⟩
      refine ⟨_, rfl, d.p, _, _, _, rfl, rfl, h2.sq, at0 _ _ _, ?_⟩
      refine ⟨d.a0, _, 0, 0, rfl, rfl, h2.h0, by unfold ixN; rw [if_pos (by omega), if_pos (by simp [nv])]; rfl, ?_⟩
      refine ⟨_, rfl, _, rfl, x, b, rfl, rfl, by omega, ?_⟩
      have e : ((x : Int) / b) = (((x : Int) / b).toNat : Int) := (Int.toNat_of_nonneg (Int.ediv_nonneg (by omega) (by omega))).symm
      have h3 := h2.set0 (((x : Int) / b).toNat :: ms)
      have e2 : (nv (x :: ms)).set 0 (.int ((x : Int) / b)) = nv (((x : Int) / b).toNat :: ms) := by
        show V.int ((x : Int) / b) :: nv ms = V.int (((x : Int) / b).toNat : Int) :: nv ms
        rw [← e]
      rw [e2]
      exact hQ _ _ _ _ (Int.emod_nonneg _ (by omega)) (Int.emod_lt_of_pos _ (by omega)) (Nat.le_succ _) h3
    · refine ifF (by simpa using hx) ?_
      refine ⟨_, rfl, d.p, _, _, _, rfl, rfl, h2.sq, at0 _ _ _, .inl ⟨rfl, _, h2.sq0⟩, ?_⟩
      refine ⟨d.a0, _, 0, 0, _, rfl, rfl, h2.h0, by decide, by decide, ?_, rfl, ?_⟩
      · unfold seqIndex?
        simp
      · exact ⟨_, rfl, h2.set0 ms⟩
  | nil =>
    refine ifF rfl ?_
    refine ⟨_, rfl, d.p, _, _, _, rfl, rfl, h2.sq, at2 _ _ _, c, 1, rfl, rfl, ?_⟩
    refine ⟨_, rfl, d.p, _, 2, 2, rfl, rfl, h2.hp, rfl, ?_⟩
    have h3 : DS d dk H (upd (upd H1 q (.lst [])) d.p (.lst ([V.ref d.a0, d.y, .int c].set 2 (.int ((c : Int) + 1))))) [] (c + 1) := h2.setC (c + 1)
    obtain ⟨a1, hy, hy1, hy2, ks, hk0, hk⟩ : ∃ a1, d.y = .ref a1 ∧ a1 ≠ d.p ∧ a1 ≠ d.a0 ∧ ∃ ks : List Nat, ks ≠ [] ∧ (upd (upd H1 q (.lst [])) d.p (.lst ([V.ref d.a0, d.y, .int c].set 2 (.int ((c : Int) + 1))))) a1 = some (.lst (nv ks)) := by
      have y := h3.yok
      unfold Dk.Yok at y
      cases e : d.y with
      | ref a1 =>
        rw [e] at y
        exact ⟨a1, rfl, y.2.1, y.2.2.1, y.2.2.2⟩
      | int m => rw [e] at y; exact absurd y.1 (by decide)
      | _ => rw [e] at y; exact y.elim
    revert h3 hk
    generalize upd (upd H1 q (.lst [])) d.p (.lst ([V.ref d.a0, d.y, .int c].set 2 (.int ((c : Int) + 1)))) = H3
    intro h3 hk
    have hl : 0 < ks.length := List.length_pos_iff.mpr hk0
    have hq : SqL K H3 a1 (nv ks) := .inl (.inl hk)
    have hm2 : ((c + 1 : Nat) : Int) % ((nv ks).length : Int) = ((((c + 1) % ks.length : Nat)) : Int) := by rw [List.length_map]; rfl
    have hlt : (c + 1) % ks.length < ks.length := Nat.mod_lt _ hl
    obtain ⟨k1, hk1⟩ : ∃ k1, ks[(c + 1) % ks.length]? = some k1 := ⟨_, List.getElem?_eq_getElem hlt⟩
    have hat : atI (nv ks) ((((c + 1) % ks.length : Nat)) : Int) = some (.int k1) := by
      unfold atI ixN
      rw [if_pos (by omega), if_pos (by rw [List.length_map]; omega)]
      show (nv ks)[(((c + 1) % ks.length : Nat) : Int).toNat]? = _
      rw [Int.toNat_natCast, List.getElem?_map, hk1]
      rfl
    refine ⟨_, rfl, d.p, _, _, _, rfl, rfl, h3.sq, (at1 _ _ _).trans (by rw [hy]), _, rfl, d.p, _, _, _, rfl, rfl, h3.sq, at2 _ _ _, _, rfl, d.p, _, _, _, rfl, rfl, h3.sq, (at1 _ _ _).trans (by rw [hy]), .ref a1, (nv ks).length, rfl, .inl ⟨_, hq, rfl⟩, ((c + 1 : Nat) : Int), ((nv ks).length : Int), rfl, rfl, by rw [List.length_map]; omega, ?_⟩
    refine ⟨a1, _, _, .int k1, rfl, rfl, hq, by rw [hm2]; exact hat, k1, 2147483629, rfl, rfl, (show (0 : Int) < 2147483629 by decide), ?_⟩
    have g1 : 0 ≤ (k1 : Int) % 2147483629 := Int.emod_nonneg _ (by decide)
    have g2 : (k1 : Int) % 2147483629 < 2147483629 := Int.emod_lt_of_pos _ (by decide)
    have sm : ∀ x : Int, 0 ≤ x → x < 2147483648 → ∀ y : Int, CMul x y := fun x h1 h2 y => .inl ⟨by omega, by omega⟩
    refine ⟨_, rfl, _, rfl, d.p, _, _, _, rfl, rfl, h3.sq, at2 _ _ _, 2, ((c + 1 : Nat) : Int), rfl, rfl, sm 2 (by decide) (by decide) _, 69621, 2 * ((c + 1 : Nat) : Int), rfl, rfl, (k1 : Int) % 2147483629, 69621 + 2 * ((c + 1 : Nat) : Int), rfl, rfl, sm _ g1 (by omega) _, _, 30011, rfl, rfl, ?_⟩
    refine ⟨_, rfl, _, rfl, d.p, _, _, _, rfl, rfl, h3.sq, at2 _ _ _, 48271, ((c + 1 : Nat) : Int), rfl, rfl, sm _ (by decide) (by decide) _, _, rfl, d.p, _, _, _, rfl, rfl, h3.sq, at2 _ _ _, 48271 * ((c + 1 : Nat) : Int), ((c + 1 : Nat) : Int), rfl, rfl, big_mul hcap, _, _, rfl, rfl, _, 2147483587, rfl, rfl, (show (0 : Int) < 2147483587 by decide), ?_⟩
    have sq : ∀ x : Int, CMul (x % 2147483587) (x % 2147483587) := fun x => sm _ (Int.emod_nonneg _ (by decide)) (by have := Int.emod_lt_of_pos x (show (0 : Int) < 2147483587 by decide); omega) _
    refine ⟨_, rfl, _, rfl, _, _, rfl, rfl, sq _, _, 2147483563, rfl, rfl, (show (0 : Int) < 2147483563 by decide), _, 16, rfl, rfl, (show CDiv _ 16 from ⟨by decide, by decide⟩), _, rfl, _, b, rfl, rfl, (show (0 : Int) < b by omega), ?_⟩
    exact hQ _ _ _ _ (Int.emod_nonneg _ (by omega)) (Int.emod_lt_of_pos _ (by omega)) (Nat.le_refl _) h3
abbrev M__law_draw : MF := MDraw
theorem d__law_draw (h : Has fn frees cns K mg base) : Df P w K mg base 1 "_law_draw" 2 1 M__law_draw := by
  obtain ⟨f, fd, F0, hm⟩ := h.fu 5 _ rfl
  have F : FunD K "_law_draw" "_law_draw" (defArgs (top 7)) (defBody (top 7)) (defScope (top 7)) [] [] f fd := F0
  exact df_draw F hm (FunD.bindsN F fun _ _ _ _ _ _ us hl => match us, hl with | [_, _], _ => rfl) h.sm (h.fr "len" (by decide))
abbrev N_end_of : List Str := ["piece"]
def m_end_of : Addr → MS := fun dl => (mRet (mOp oAdd (mOp oIx (mVarB 0) (mC (.int 0))) (mCall cLen (mCons (mOp oIx (mVarB 0) (mC (.int 1))) mNil))))
def M_end_of : MF := fnM 1 1 m_end_of
theorem d_end_of (h : Has fn frees cns K mg base) : Df P w K mg base 1 "end_of" 1 0 M_end_of := by
  obtain ⟨f, fd, F0, hm⟩ := h.fu 0 _ rfl
  have F : FunD K "end_of" "end_of" (defArgs (top 1)) (defBody (top 1)) (defScope (top 1)) [] [] f fd := F0
  have S : FnScope N_end_of ["piece"] (defScope (top 1)) := ⟨rfl, rfl, rfl, by decide +kernel, rfl, by decide +kernel, by decide +kernel⟩
  have hb : Binds K fd ["piece"] [] := FunD.bindsN F fun _ _ _ _ _ _ us hl => match us, hl with | [_], _ => rfl
  exact (df_of (k := 0) (ms := m_end_of) F S hm hb h.sm fun cdv A outer s H E G dl ok hr hdp =>
    (bss_one (bs_ret (be_op ob_add (BE.toB (be_ix xb_ix (bb_var 0) (BE.toB be_int))) (BE.toB (be_callB cb_len (by rfl) (h.fr "len" (by decide)) boot_len (bab_cons (BE.toB (be_ix xb_ix (bb_var 0) (BE.toB be_int))) bab_nil))))))).le (by decide) (by decide)

abbrev N_places_of : List Str := ["piece", "at", "item"]
def m_places_of : Addr → MS := fun dl => (mRet (mCall (c1 oTup) (mCons (mFr (mLc (mEnum (mCons (mOp oIx (mVarB 0) (mC (.int 1))) mNil)) (mGTup 2 (mGCons (mGName 1) (mGCons (mGName 2) mGNil))) (mT (mOp oIsNot (mVarB 2) (mC .non))) (mOp oAdd (mOp oIx (mVarB 0) (mC (.int 0))) (mVarB 1)) [1, 2])) mNil)))
def M_places_of : MF := fnM 3 1 m_places_of
theorem d_places_of (h : Has fn frees cns K mg base) : Df P w K mg base 1 "places_of" 1 0 M_places_of := by
  obtain ⟨f, fd, F0, hm⟩ := h.fu 1 _ rfl
  have F : FunD K "places_of" "places_of" (defArgs (top 2)) (defBody (top 2)) (defScope (top 2)) [] [] f fd := F0
  have S : FnScope N_places_of ["piece"] (defScope (top 2)) := ⟨rfl, rfl, rfl, by decide +kernel, rfl, by decide +kernel, by decide +kernel⟩
  have hb : Binds K fd ["piece"] [] := FunD.bindsN F fun _ _ _ _ _ _ us hl => match us, hl with | [_], _ => rfl
  exact (df_of (k := 0) (ms := m_places_of) F S hm hb h.sm fun cdv A outer s H E G dl ok hr hdp =>
    (bss_one (bs_ret (be_callTy cb_tuple (by rfl) (h.fr "tuple" (by decide)) boot_tuple (bab_cons (BE.toB (BF.toE (bf_lc ok (bib_enum (by rfl) (h.fr "enumerate" (by decide)) (BE.toB (be_ix xb_ix (bb_var 0) (BE.toB be_int)))) (blkOk_by (N := N_places_of) (sc := defScope (top 2)) (own := [("at", 1), ("item", 2)]) (by decide +kernel)) (fun G1 hG1 _ _ _ _ _ => (bg_tup ok.blk.calm (bgs_cons (bg_name ok.blk.nd 1) (bgs_cons (bg_name ok.blk.nd 2) bgs_nil)))) (fun G1 hG1 _ _ _ _ _ => (bts_one (bt_cmp ob_isnot (bb_var 2) (BE.toB be_non) (by rfl)))) (fun G1 hG1 _ _ _ _ _ => (be_op ob_add (BE.toB (be_ix xb_ix (bb_var 0) (BE.toB be_int))) (bb_var 1)))))) bab_nil))))).le (by decide) (by decide)

abbrev N_value_at : List Str := ["piece", "place"]
def m_value_at : Addr → MS := fun dl => (mRet (mIf (mT (mChain oLe oLt (mOp oIx (mVarB 0) (mC (.int 0))) (mVarB 1) (mCallF 1 dl M_end_of (mCons (mVar 0) mNil)))) (mOp oIx (mOp oIx (mVarB 0) (mC (.int 1))) (mOp oSub (mVarB 1) (mOp oIx (mVarB 0) (mC (.int 0))))) (mC .non)))
def M_value_at : MF := fnM 2 2 m_value_at
theorem d_value_at (h : Has fn frees cns K mg base) : Df P w K mg base 2 "value_at" 2 0 M_value_at := by
  obtain ⟨f, fd, F0, hm⟩ := h.fu 2 _ rfl
  have F : FunD K "value_at" "value_at" (defArgs (top 3)) (defBody (top 3)) (defScope (top 3)) [] [] f fd := F0
  have S : FnScope N_value_at ["piece", "place"] (defScope (top 3)) := ⟨rfl, rfl, rfl, by decide +kernel, rfl, by decide +kernel, by decide +kernel⟩
  have hb : Binds K fd ["piece", "place"] [] := FunD.bindsN F fun _ _ _ _ _ _ us hl => match us, hl with | [_, _], _ => rfl
  have dend_of := d_end_of (P := P) (w := w) h
  exact (df_of (k := 1) (ms := m_value_at) F S hm hb h.sm fun cdv A outer s H E G dl ok hr hdp =>
    (bss_one (bs_ret (be_if (bt_chain ob_le ob_lt (BE.toB (be_ix xb_ix (bb_var 0) (BE.toB be_int))) (bb_var 1) (BE.toB (be_call ok hdp dend_of (hr.mono (by decide)) (by rfl) (ba_cons (be_var 0) ba_nil)))) (be_ix xb_ix (BE.toB (be_ix xb_ix (bb_var 0) (BE.toB be_int))) (BE.toB (be_op ob_sub (bb_var 1) (BE.toB (be_ix xb_ix (bb_var 0) (BE.toB be_int)))))) be_non)))).le (by decide) (by decide)

abbrev N_over : List Str := ["row", "place", "number", "piece"]
def m_over : Addr → MS := fun dl => (mRet (mCall (c1 oTup) (mCons (mFr (mLc (mEnum (mCons (mVarB 0) mNil)) (mGTup 2 (mGCons (mGName 2) (mGCons (mGName 3) mGNil))) (mT (mOp oIsNot (mCallF 2 dl M_value_at (mCons (mVar 3) (mCons (mVar 1) mNil))) (mC .non))) (mVar 2) [2, 3])) mNil)))
def M_over : MF := fnM 4 2 m_over
theorem d_over (h : Has fn frees cns K mg base) : Df P w K mg base 3 "over" 2 0 M_over := by
  obtain ⟨f, fd, F0, hm⟩ := h.fu 3 _ rfl
  have F : FunD K "over" "over" (defArgs (top 4)) (defBody (top 4)) (defScope (top 4)) [] [] f fd := F0
  have S : FnScope N_over ["row", "place"] (defScope (top 4)) := ⟨rfl, rfl, rfl, by decide +kernel, rfl, by decide +kernel, by decide +kernel⟩
  have hb : Binds K fd ["row", "place"] [] := FunD.bindsN F fun _ _ _ _ _ _ us hl => match us, hl with | [_, _], _ => rfl
  have dvalue_at := d_value_at (P := P) (w := w) h
  exact (df_of (k := 2) (ms := m_over) F S hm hb h.sm fun cdv A outer s H E G dl ok hr hdp =>
    (bss_one (bs_ret (be_callTy cb_tuple (by rfl) (h.fr "tuple" (by decide)) boot_tuple (bab_cons (BE.toB (BF.toE (bf_lc ok (bib_enum (by rfl) (h.fr "enumerate" (by decide)) (bb_var 0)) (blkOk_by (N := N_over) (sc := defScope (top 4)) (own := [("number", 2), ("piece", 3)]) (by decide +kernel)) (fun G1 hG1 _ _ _ _ _ => (bg_tup ok.blk.calm (bgs_cons (bg_name ok.blk.nd 2) (bgs_cons (bg_name ok.blk.nd 3) bgs_nil)))) (fun G1 hG1 _ _ _ _ _ => (bts_one (bt_cmp ob_isnot (BE.toB (be_call ok.blk (hG1 _ hdp) dvalue_at (hr.mono (by decide)) (by rfl) (ba_cons (be_var 3) (ba_cons (be_var 1) ba_nil)))) (BE.toB be_non) (by rfl)))) (fun G1 hG1 _ _ _ _ _ => (be_var 2))))) bab_nil))))).le (by decide) (by decide)

abbrev N__law_same : List Str := ["_law_found", "_law_due"]
def m__law_same : Addr → MS := fun dl => (mRet (mOp oEq (mCall (c1 oRepr) (mCons (mVarB 0) mNil)) (mCall (c1 oRepr) (mCons (mVarB 1) mNil))))
def M__law_same : MF := fnM 2 2 m__law_same
theorem d__law_same (h : Has fn frees cns K mg base) : Df P w K mg base 1 "_law_same" 2 0 M__law_same := by
  obtain ⟨f, fd, F0, hm⟩ := h.fu 6 _ rfl
  have F : FunD K "_law_same" "_law_same" (defArgs (top 8)) (defBody (top 8)) (defScope (top 8)) [] [] f fd := F0
  have S : FnScope N__law_same ["_law_found", "_law_due"] (defScope (top 8)) := ⟨rfl, rfl, rfl, by decide +kernel, rfl, by decide +kernel, by decide +kernel⟩
  have hb : Binds K fd ["_law_found", "_law_due"] [] := FunD.bindsN F fun _ _ _ _ _ _ us hl => match us, hl with | [_, _], _ => rfl
  exact (df_of (k := 0) (ms := m__law_same) F S hm hb h.sm fun cdv A outer s H E G dl ok hr hdp =>
    (bss_one (bs_ret (be_cmp (ob_eq ok) (BE.toB (be_callB (cb_repr ok) (by rfl) (h.fr "repr" (by decide)) boot_repr (bab_cons (bb_var 0) bab_nil))) (BE.toB (be_callB (cb_repr ok) (by rfl) (h.fr "repr" (by decide)) boot_repr (bab_cons (bb_var 1) bab_nil))) (by rfl))))).le (by decide) (by decide)

abbrev N__law_row : List Str := ["_law_deck_here", "_law_found", "_law_base", "_law_number", "_law_begin", "_law_some", "_law_values", "_law_place"]
def m__law_row : Addr → MS := fun dl => (mSeq (mOwn 1 (mSized mNil))
  (mSeq (mSet 2 (mOp oIx (mFr (mSized (mCons (mC (.int 0)) (mCons (mC (.int 0)) (mCons (mC (.int 3)) (mCons (mC (.int 4900)) mNil)))))) (mCallF 2 dl M__law_draw (mCons (mVar 0) (mCons (mC (.int 4)) mNil)))))
  (mSeq (mFor (mRng1 (mCons (mCallF 2 dl M__law_draw (mCons (mVar 0) (mCons (mC (.int 13)) mNil))) mNil)) (mGName 3) (mSeq (mSet 4 (mOp oAdd (mVarB 2) (mCallF 2 dl M__law_draw (mCons (mVar 0) (mCons (mC (.int 12)) mNil)))))
  (mSeq (mSet 5 (mFr (mSized (mCons (mC .non) (mCons (mC (.int 0)) (mCons (mC (.int 4)) (mCons (mOp oPow (mC (.int 10)) (mC (.int 6))) (mCons (mCallF 2 dl M__law_draw (mCons (mVar 0) (mCons (mC (.int 100)) mNil))) mNil))))))))
  (mSeq (mSet 6 (mFr (mLc (mRng1 (mCons (mOp oAdd (mC (.int 1)) (mCallF 2 dl M__law_draw (mCons (mVar 0) (mCons (mC (.int 9)) mNil)))) mNil)) (mGName 7) mYes (mOp oIx (mVarB 5) (mCallF 2 dl M__law_draw (mCons (mVar 0) (mCons (mC (.int 5)) mNil)))) [7])))
  (mApp 1 (mTup (mCons (mVar 4) (mCons (mCall (c1 oTup) (mCons (mVarB 6) mNil)) (mCons (mOp oEq (mCallF 2 dl M__law_draw (mCons (mVar 0) (mCons (mC (.int 3)) mNil))) (mC (.int 0))) mNil)))))))))
  (mRet (mCall (c1 oTup) (mCons (mVarB 1) mNil))))))
def M__law_row : MF := fnM 8 1 m__law_row
theorem d__law_row (h : Has fn frees cns K mg base) : Df P w K mg base 2 "_law_row" 1 21267647932558653984907657038195064834 M__law_row := by
  obtain ⟨f, fd, F0, hm⟩ := h.fu 7 _ rfl
  have F : FunD K "_law_row" "_law_row" (defArgs (top 9)) (defBody (top 9)) (defScope (top 9)) [] [] f fd := F0
  have S : FnScope N__law_row ["_law_deck_here"] (defScope (top 9)) := ⟨rfl, rfl, rfl, by decide +kernel, rfl, by decide +kernel, by decide +kernel⟩
  have hb : Binds K fd ["_law_deck_here"] [] := FunD.bindsN F fun _ _ _ _ _ _ us hl => match us, hl with | [_], _ => rfl
  have d_law_draw := d__law_draw (P := P) (w := w) h
  exact (df_of (k := 1) (ms := m__law_row) F S hm hb h.sm fun cdv A outer s H E G dl ok hr hdp =>
    (bss_cons (bs_own ok 1 (bf_lst ba_nil))
(bss_cons (bs_set ok 2 (be_ix xb_ix (BE.toB (BF.toE (bf_lst (ba_cons be_int (ba_cons be_int (ba_cons be_int (ba_cons be_int ba_nil))))))) (BE.toB (be_call ok hdp d_law_draw (hr.mono (by decide)) (by rfl) (ba_cons (be_var 0) (ba_cons be_int ba_nil))))))
(bss_cons (bs_for ok (bi_range1 (by rfl) (h.fr "range" (by decide)) (bab_cons (BE.toB (be_call ok hdp d_law_draw (hr.mono (by decide)) (by rfl) (ba_cons (be_var 0) (ba_cons be_int ba_nil)))) bab_nil)) (bg_name ok.nd 3)
(bss_cons (bs_set ok 4 (be_op ob_add (bb_var 2) (BE.toB (be_call ok hdp d_law_draw (hr.mono (by decide)) (by rfl) (ba_cons (be_var 0) (ba_cons be_int ba_nil))))))
(bss_cons (bs_set ok 5 (BF.toE (bf_lst (ba_cons be_non (ba_cons be_int (ba_cons be_int (ba_cons (be_op ob_pow (BE.toB be_int) (BE.toB be_int)) (ba_cons (be_call ok hdp d_law_draw (hr.mono (by decide)) (by rfl) (ba_cons (be_var 0) (ba_cons be_int ba_nil))) ba_nil))))))))
(bss_cons (bs_setLc ok 6 (bib_range1 (by rfl) (h.fr "range" (by decide)) (bab_cons (BE.toB (be_op ob_add (BE.toB be_int) (BE.toB (be_call ok hdp d_law_draw (hr.mono (by decide)) (by rfl) (ba_cons (be_var 0) (ba_cons be_int ba_nil)))))) bab_nil)) (blkOk_by (N := N__law_row) (sc := defScope (top 9)) (own := [("_law_place", 7)]) (by decide +kernel)) (fun G1 hG1 _ _ _ _ _ => (bg_name ok.blk.nd 7)) (fun G1 hG1 _ _ _ _ _ => bts_nil) (fun G1 hG1 _ _ _ _ _ => (be_ix xb_ix (bb_var 5) (BE.toB (be_call ok.blk (hG1 _ hdp) d_law_draw (hr.mono (by decide)) (by rfl) (ba_cons (be_var 0) (ba_cons be_int ba_nil)))))) (hsw := sw_true rfl rfl rfl (by decide +kernel)))
(bss_one (bs_app 1 (be_tup (ba_cons (be_var 4) (ba_cons (be_callTy cb_tuple (by rfl) (h.fr "tuple" (by decide)) boot_tuple (bab_cons (bb_var 6) bab_nil)) (ba_cons (be_cmp (ob_eq ok) (BE.toB (be_call ok hdp d_law_draw (hr.mono (by decide)) (by rfl) (ba_cons (be_var 0) (ba_cons be_int ba_nil)))) (BE.toB be_int) (by rfl)) ba_nil))))))))))
(bss_one (bs_ret (be_callTy cb_tuple (by rfl) (h.fr "tuple" (by decide)) boot_tuple (bab_cons (bb_var 1) bab_nil)))))))).le (by decide) (by decide)

abbrev N__law_value : List Str := ["_law_piece", "_law_place", "_law_one", "_law_here", "_law_found"]
def m__law_value : Addr → MS := fun dl => (mSeq (mPar 3 4 (mCons (mOp oIx (mVarB 0) (mC (.int 0))) (mCons (mC .non) mNil)))
  (mSeq (mFor (mSeqD (mOp oIx (mVarB 0) (mC (.int 1)))) (mGName 2) (mSeq (mIfS (mT (mOp oEq (mVarB 3) (mVarB 1))) (mSet 4 (mVar 2)) mNext)
  (mSet 3 (mOp oAdd (mVarB 3) (mC (.int 1))))))
  (mRet (mVar 4))))
def M__law_value : MF := fnM 5 2 m__law_value
theorem d__law_value (h : Has fn frees cns K mg base) : Df P w K mg base 1 "_law_value" 2 0 M__law_value := by
  obtain ⟨f, fd, F0, hm⟩ := h.fu 8 _ rfl
  have F : FunD K "_law_value" "_law_value" (defArgs (top 10)) (defBody (top 10)) (defScope (top 10)) [] [] f fd := F0
  have S : FnScope N__law_value ["_law_piece", "_law_place"] (defScope (top 10)) := ⟨rfl, rfl, rfl, by decide +kernel, rfl, by decide +kernel, by decide +kernel⟩
  have hb : Binds K fd ["_law_piece", "_law_place"] [] := FunD.bindsN F fun _ _ _ _ _ _ us hl => match us, hl with | [_, _], _ => rfl
  exact (df_of (k := 0) (ms := m__law_value) F S hm hb h.sm fun cdv A outer s H E G dl ok hr hdp =>
    (bss_cons (bs_par ok 3 4 (ba_cons (be_ix xb_ix (bb_var 0) (BE.toB be_int)) (ba_cons be_non ba_nil)))
(bss_cons (bs_for ok (bi_seq (be_ix xb_ix (bb_var 0) (BE.toB be_int))) (bg_name ok.nd 2)
(bss_cons (bs_if (bt_cmp (ob_eq ok) (bb_var 3) (bb_var 1) (by rfl))
(bss_one (bs_set ok 4 (be_var 2)))
bss_nil)
(bss_one (bs_set ok 3 (be_op ob_add (bb_var 3) (BE.toB be_int))))))
(bss_one (bs_ret (be_var 4)))))).le (by decide) (by decide)

abbrev N__law_piece_right : List Str := ["_law_piece", "_law_places", "_law_due", "_law_found", "_law_k", "_law_place"]
def m__law_piece_right : Addr → MS := fun dl => (mSeq (mSet 2 (mFr (mLc (mRng1 (mCons (mCall cLen (mCons (mOp oIx (mVarB 0) (mC (.int 1))) mNil)) mNil)) (mGName 4) (mT (mOp oIsNot (mOp oIx (mOp oIx (mVarB 0) (mC (.int 1))) (mVarB 4)) (mC .non))) (mOp oAdd (mOp oIx (mVarB 0) (mC (.int 0))) (mVarB 4)) [4])))
  (mSeq (mIfS (mNot (mTru (mCallF 2 dl M__law_same (mCons (mFr (mSized (mCons (mCallF 1 dl M_end_of (mCons (mVar 0) mNil)) (mCons (mCallF 1 dl M_places_of (mCons (mVar 0) mNil)) mNil)))) (mCons (mFr (mSized (mCons (mOp oAdd (mOp oIx (mVarB 0) (mC (.int 0))) (mCall cLen (mCons (mOp oIx (mVarB 0) (mC (.int 1))) mNil))) (mCons (mCall (c1 oTup) (mCons (mVarB 2) mNil)) mNil)))) mNil))))) (mRet (mC (.bl false))) mNext)
  (mSeq (mSet 3 (mFr (mLc (mSeqD (mVarB 1)) (mGName 5) mYes (mCallF 2 dl M_value_at (mCons (mVar 0) (mCons (mVar 5) mNil))) [5])))
  (mRet (mCallF 2 dl M__law_same (mCons (mVar 3) (mCons (mFr (mLc (mSeqD (mVarB 1)) (mGName 5) mYes (mCallF 2 dl M__law_value (mCons (mVar 0) (mCons (mVar 5) mNil))) [5])) mNil)))))))
def M__law_piece_right : MF := fnM 6 2 m__law_piece_right
theorem d__law_piece_right (h : Has fn frees cns K mg base) : Df P w K mg base 3 "_law_piece_right" 2 0 M__law_piece_right := by
  obtain ⟨f, fd, F0, hm⟩ := h.fu 9 _ rfl
  have F : FunD K "_law_piece_right" "_law_piece_right" (defArgs (top 11)) (defBody (top 11)) (defScope (top 11)) [] [] f fd := F0
  have S : FnScope N__law_piece_right ["_law_piece", "_law_places"] (defScope (top 11)) := ⟨rfl, rfl, rfl, by decide +kernel, rfl, by decide +kernel, by decide +kernel⟩
  have hb : Binds K fd ["_law_piece", "_law_places"] [] := FunD.bindsN F fun _ _ _ _ _ _ us hl => match us, hl with | [_, _], _ => rfl
  have d_law_same := d__law_same (P := P) (w := w) h
  have d_law_value := d__law_value (P := P) (w := w) h
  have dend_of := d_end_of (P := P) (w := w) h
  have dplaces_of := d_places_of (P := P) (w := w) h
  have dvalue_at := d_value_at (P := P) (w := w) h
  exact (df_of (k := 2) (ms := m__law_piece_right) F S hm hb h.sm fun cdv A outer s H E G dl ok hr hdp =>
    (bss_cons (bs_setLc ok 2 (bib_range1 (by rfl) (h.fr "range" (by decide)) (bab_cons (BE.toB (be_callB cb_len (by rfl) (h.fr "len" (by decide)) boot_len (bab_cons (BE.toB (be_ix xb_ix (bb_var 0) (BE.toB be_int))) bab_nil))) bab_nil)) (blkOk_by (N := N__law_piece_right) (sc := defScope (top 11)) (own := [("_law_k", 4)]) (by decide +kernel)) (fun G1 hG1 _ _ _ _ _ => (bg_name ok.blk.nd 4)) (fun G1 hG1 _ _ _ _ _ => (bts_one (bt_cmp ob_isnot (BE.toB (be_ix xb_ix (BE.toB (be_ix xb_ix (bb_var 0) (BE.toB be_int))) (bb_var 4))) (BE.toB be_non) (by rfl)))) (fun G1 hG1 _ _ _ _ _ => (be_op ob_add (BE.toB (be_ix xb_ix (bb_var 0) (BE.toB be_int))) (bb_var 4))) (hsw := sw_true rfl rfl rfl (by decide +kernel)))
(bss_cons (bs_if (bt_not (bt_tru (BE.toB (be_call ok hdp d_law_same (hr.mono (by decide)) (by rfl) (ba_cons (BF.toE (bf_lst (ba_cons (be_call ok hdp dend_of (hr.mono (by decide)) (by rfl) (ba_cons (be_var 0) ba_nil)) (ba_cons (be_call ok hdp dplaces_of (hr.mono (by decide)) (by rfl) (ba_cons (be_var 0) ba_nil)) ba_nil)))) (ba_cons (BF.toE (bf_lst (ba_cons (be_op ob_add (BE.toB (be_ix xb_ix (bb_var 0) (BE.toB be_int))) (BE.toB (be_callB cb_len (by rfl) (h.fr "len" (by decide)) boot_len (bab_cons (BE.toB (be_ix xb_ix (bb_var 0) (BE.toB be_int))) bab_nil)))) (ba_cons (be_callTy cb_tuple (by rfl) (h.fr "tuple" (by decide)) boot_tuple (bab_cons (bb_var 2) bab_nil)) ba_nil)))) ba_nil))))))
(bss_one (bs_ret be_bl))
bss_nil)
(bss_cons (bs_setLc ok 3 (bib_seq (bb_var 1)) (blkOk_by (N := N__law_piece_right) (sc := defScope (top 11)) (own := [("_law_place", 5)]) (by decide +kernel)) (fun G2 hG2 _ _ _ _ _ => (bg_name ok.blk.nd 5)) (fun G2 hG2 _ _ _ _ _ => bts_nil) (fun G2 hG2 _ _ _ _ _ => (be_call ok.blk (hG2 _ hdp) dvalue_at (hr.mono (by decide)) (by rfl) (ba_cons (be_var 0) (ba_cons (be_var 5) ba_nil)))) (hsw := sw_true rfl rfl rfl (by decide +kernel)))
(bss_one (bs_ret (be_call ok hdp d_law_same (hr.mono (by decide)) (by rfl) (ba_cons (be_var 3) (ba_cons (BF.toE (bf_lc ok (bib_seq (bb_var 1)) (blkOk_by (N := N__law_piece_right) (sc := defScope (top 11)) (own := [("_law_place", 5)]) (by decide +kernel)) (fun G3 hG3 _ _ _ _ _ => (bg_name ok.blk.nd 5)) (fun G3 hG3 _ _ _ _ _ => bts_nil) (fun G3 hG3 _ _ _ _ _ => (be_call ok.blk (hG3 _ hdp) d_law_value (hr.mono (by decide)) (by rfl) (ba_cons (be_var 0) (ba_cons (be_var 5) ba_nil)))))) ba_nil))))))))).le (by decide) (by decide)

abbrev N__law_deck : List Str := ["_law_script", "_law_cells", "_law_cell"]
def m__law_deck : Addr → MS := fun dl => (mRet (mFr (mSized (mCons (mFr (mLc (mSeqD (mVarB 1)) (mGName 2) (mT (mOp oGe (mVarB 2) (mOp oPow (mC (.int 10)) (mC (.int 18))))) (mVar 2) [2])) (mCons (mOp oAdd (mVarB 1) (mFr (mSized (mCons (mOp oAdd (mCall cLen (mCons (mVarB 1) mNil)) (mC (.int 7))) mNil)))) (mCons (mC (.int 0)) mNil))))))
abbrev X__law_deck (P : Program) (w : World) (K : PySem.W.Frag) (mg : Str → Option Value) (base : Heap) (f : Addr) (cdv : Value) (A : Around) (outer : List Env) (s : Shared) (H : Hp) (E : XK) : Cx := cxOf (L2.CX P w) P w K mg base N__law_deck "_law_deck" (defScope (top 6)) f cdv A outer s H E
theorem b__law_deck (h : Has fn frees cns K mg base) {f : Addr} {cdv : Value} {A : Around} {outer : List Env} {s : Shared} {H : Hp} {E : XK} (ok : CxOk (X__law_deck P w K mg base f cdv A outer s H E)) (hr : Room 0 (X__law_deck P w K mg base f cdv A outer s H E).A) {G : Gh} (dl : Addr) : ∃ c, c ≤ 2 ^ 20000 ∧ BSs (X__law_deck P w K mg base f cdv A outer s H E) G c ((defBody (top 6)).tail) (m__law_deck dl) :=
  ⟨_, by decide +kernel, (bss_one (bs_ret (BF.toE (bf_lst (ba_cons (BF.toE (bf_lc ok (bib_seq (bb_var 1)) (blkOk_by (N := N__law_deck) (sc := defScope (top 6)) (own := [("_law_cell", 2)]) (by decide +kernel)) (fun G1 hG1 _ _ _ _ _ => (bg_name ok.blk.nd 2)) (fun G1 hG1 _ _ _ _ _ => (bts_one (bt_cmp ob_ge (bb_var 2) (BE.toB (be_op ob_pow (BE.toB be_int) (BE.toB be_int))) (by rfl)))) (fun G1 hG1 _ _ _ _ _ => (be_var 2)))) (ba_cons (be_op ob_add (bb_var 1) (BE.toB (BF.toE (bf_lst (ba_cons (be_op ob_add (BE.toB (be_callB cb_len (by rfl) (h.fr "len" (by decide)) boot_len (bab_cons (bb_var 1) bab_nil))) (BE.toB be_int)) ba_nil))))) (ba_cons be_int ba_nil)))))))⟩
abbrev N_law : List Str := ["_law_script", "_law_deck_here", "_law_rows", "_law_row_here", "_law_untouched", "_law_places", "_law_piece", "_law_place", "_law_ends", "_law_due", "_law_turn", "_law_number"]
def m_law : Addr → MS := fun dl => (mSeq (mSet 2 (mFr (mSized (mCons (mTup mNil) (mCons (mTup (mCons (mTup (mCons (mC (.int 0)) (mCons (mTup (mCons (mC .non) (mCons (mC .non) mNil))) (mCons (mC (.bl true)) mNil)))) mNil)) (mCons (mTup (mCons (mTup (mCons (mC (.int 4999)) (mCons (mTup (mCons (mC (.int 7)) mNil)) (mCons (mC (.bl false)) mNil)))) (mCons (mTup (mCons (mC (.int 0)) (mCons (mOp oAdd (mOp oMul (mTup (mCons (mC .non) mNil)) (mC (.int 4999))) (mTup (mCons (mC (.int 8)) mNil))) (mCons (mC (.bl true)) mNil)))) mNil))) mNil))))))
  (mSeq (mSet 2 (mOp oAdd (mOp oAdd (mVarB 2) (mFr (mSized (mCons (mTup (mCons (mTup (mCons (mC (.int 0)) (mCons (mOp oMul (mTup (mCons (mC (.int 0)) mNil)) (mC (.int 5000))) (mCons (mC (.bl false)) mNil)))) mNil)) mNil)))) (mFr (mLc (mRng1 (mCons (mC (.int 14)) mNil)) (mGName 10) mYes (mCallF 1 dl M__law_row (mCons (mVar 1) mNil)) [10]))))
  (mSeq (mFor (mSeqD (mVar 2)) (mGName 3) (mSeq (mSet 4 (mCall (c1 oRepr) (mCons (mVarB 3) mNil)))
  (mSeq (mSet 5 (mOp oAdd (mFr (mSized (mCons (mC (.int 0)) (mCons (mC (.int 1)) (mCons (mC (.int 2)) (mCons (mC (.int 5)) (mCons (mC (.int 4998)) (mCons (mC (.int 4999)) (mCons (mC (.int 5000)) (mCons (mOp oPow (mC (.int 10)) (mC (.int 12))) mNil)))))))))) (mFr (mLc (mRng1 (mCons (mC (.int 4)) mNil)) (mGName 10) mYes (mCallF 2 dl M__law_draw (mCons (mVar 1) (mCons (mC (.int 5001)) mNil))) [10]))))
  (mSeq (mFor (mSeqD (mVar 3)) (mGName 6) (mSeq (mSet 8 (mFr (mSized (mCons (mOp oIx (mVarB 6) (mC (.int 0))) (mCons (mOp oSub (mOp oAdd (mOp oIx (mVarB 6) (mC (.int 0))) (mCall cLen (mCons (mOp oIx (mVarB 6) (mC (.int 1))) mNil))) (mC (.int 1))) (mCons (mOp oAdd (mOp oIx (mVarB 6) (mC (.int 0))) (mCall cLen (mCons (mOp oIx (mVarB 6) (mC (.int 1))) mNil))) mNil))))))
  (mSet 5 (mOp oAdd (mOp oAdd (mVarB 5) (mVarB 8)) (mIf (mT (mOp oGt (mOp oIx (mVarB 6) (mC (.int 0))) (mC (.int 0)))) (mFr (mSized (mCons (mOp oSub (mOp oIx (mVarB 6) (mC (.int 0))) (mC (.int 1))) mNil))) (mFr (mSized mNil)))))))
  (mSeq (mIfS (mNot (mTru (mCall (c1 (oAllB fun bs => bs.all id)) (mCons (mFr (mLc (mSeqD (mVarB 3)) (mGName 6) mYes (mCallF 2 dl M__law_piece_right (mCons (mVar 6) (mCons (mVar 5) mNil))) [6])) mNil)))) (mRet (mC (.bl false))) mNext)
  (mSeq (mFor (mSeqD (mVar 5)) (mGName 7) (mSeq (mSet 9 (mFr (mLc (mRng1 (mCons (mCall cLen (mCons (mVarB 3) mNil)) mNil)) (mGName 11) (mT (mOp oIsNot (mCallF 2 dl M__law_value (mCons (mOp oIx (mVarB 3) (mVarB 11)) (mCons (mVar 7) mNil))) (mC .non))) (mVar 11) [11])))
  (mIfS (mNot (mTru (mCallF 2 dl M__law_same (mCons (mCallF 2 dl M_over (mCons (mVar 3) (mCons (mVar 7) mNil))) (mCons (mCall (c1 oTup) (mCons (mVarB 9) mNil)) mNil))))) (mRet (mC (.bl false))) mNext)))
  (mIfS (mT (mOp oNe (mCall (c1 oRepr) (mCons (mVarB 3) mNil)) (mVarB 4))) (mRet (mC (.bl false))) mNext)))))))
  (mRet (mC (.bl true))))))
abbrev X_law (P : Program) (w : World) (K : PySem.W.Frag) (mg : Str → Option Value) (base : Heap) (f : Addr) (cdv : Value) (A : Around) (outer : List Env) (s : Shared) (H : Hp) (E : XK) : Cx := cxOf (L2.CX P w) P w K mg base N_law "law" (defScope (top 12)) f cdv A outer s H E
theorem b_law (h : Has fn frees cns K mg base) {f : Addr} {cdv : Value} {A : Around} {outer : List Env} {s : Shared} {H : Hp} {E : XK} (ok : CxOk (X_law P w K mg base f cdv A outer s H E)) (hr : Room 3 (X_law P w K mg base f cdv A outer s H E).A) {G : Gh} {dl : Addr} (hdp : G.dp dl) : ∃ c, c ≤ 2 ^ 20000 ∧ BSs (X_law P w K mg base f cdv A outer s H E) G c ((defBody (top 12)).tail) (m_law dl) := by
  have d_law_draw := d__law_draw (P := P) (w := w) h
  have d_law_piece_right := d__law_piece_right (P := P) (w := w) h
  have d_law_row := d__law_row (P := P) (w := w) h
  have d_law_same := d__law_same (P := P) (w := w) h
  have d_law_value := d__law_value (P := P) (w := w) h
  have dover := d_over (P := P) (w := w) h
  exact ⟨_, by decide +kernel, (bss_cons (bs_set ok 2 (BF.toE (bf_lst (ba_cons (be_tup ba_nil) (ba_cons (be_tup (ba_cons (be_tup (ba_cons be_int (ba_cons (be_tup (ba_cons be_non (ba_cons be_non ba_nil))) (ba_cons be_bl ba_nil)))) ba_nil)) (ba_cons (be_tup (ba_cons (be_tup (ba_cons be_int (ba_cons (be_tup (ba_cons be_int ba_nil)) (ba_cons be_bl ba_nil)))) (ba_cons (be_tup (ba_cons be_int (ba_cons (be_op ob_add (BE.toB (be_op ob_mul (BE.toB (be_tup (ba_cons be_non ba_nil))) (BE.toB be_int))) (BE.toB (be_tup (ba_cons be_int ba_nil)))) (ba_cons be_bl ba_nil)))) ba_nil))) ba_nil))))))
(bss_cons (bs_set ok 2 (be_op ob_add (BE.toB (be_op ob_add (bb_var 2) (BE.toB (BF.toE (bf_lst (ba_cons (be_tup (ba_cons (be_tup (ba_cons be_int (ba_cons (be_op ob_mul (BE.toB (be_tup (ba_cons be_int ba_nil))) (BE.toB be_int)) (ba_cons be_bl ba_nil)))) ba_nil)) ba_nil)))))) (BE.toB (BF.toE (bf_lc ok (bib_range1 (by rfl) (h.fr "range" (by decide)) (bab_cons (BE.toB be_int) bab_nil)) (blkOk_by (N := N_law) (sc := defScope (top 12)) (own := [("_law_turn", 10)]) (by decide +kernel)) (fun G1 hG1 _ _ _ _ _ => (bg_name ok.blk.nd 10)) (fun G1 hG1 _ _ _ _ _ => bts_nil) (fun G1 hG1 _ _ _ _ _ => (be_call ok.blk (hG1 _ hdp) d_law_row (hr.mono (by decide)) (by rfl) (ba_cons (be_var 1) ba_nil))))))))
(bss_cons (bs_for ok (bi_seq (be_var 2)) (bg_name ok.nd 3)
(bss_cons (bs_set ok 4 (be_callB (cb_repr ok) (by rfl) (h.fr "repr" (by decide)) boot_repr (bab_cons (bb_var 3) bab_nil)))
(bss_cons (bs_set ok 5 (be_op ob_add (BE.toB (BF.toE (bf_lst (ba_cons be_int (ba_cons be_int (ba_cons be_int (ba_cons be_int (ba_cons be_int (ba_cons be_int (ba_cons be_int (ba_cons (be_op ob_pow (BE.toB be_int) (BE.toB be_int)) ba_nil))))))))))) (BE.toB (BF.toE (bf_lc ok (bib_range1 (by rfl) (h.fr "range" (by decide)) (bab_cons (BE.toB be_int) bab_nil)) (blkOk_by (N := N_law) (sc := defScope (top 12)) (own := [("_law_turn", 10)]) (by decide +kernel)) (fun G2 hG2 _ _ _ _ _ => (bg_name ok.blk.nd 10)) (fun G2 hG2 _ _ _ _ _ => bts_nil) (fun G2 hG2 _ _ _ _ _ => (be_call ok.blk (hG2 _ hdp) d_law_draw (hr.mono (by decide)) (by rfl) (ba_cons (be_var 1) (ba_cons be_int ba_nil)))))))))
(bss_cons (bs_for ok (bi_seq (be_var 3)) (bg_name ok.nd 6)
(bss_cons (bs_set ok 8 (BF.toE (bf_lst (ba_cons (be_ix xb_ix (bb_var 6) (BE.toB be_int)) (ba_cons (be_op ob_sub (BE.toB (be_op ob_add (BE.toB (be_ix xb_ix (bb_var 6) (BE.toB be_int))) (BE.toB (be_callB cb_len (by rfl) (h.fr "len" (by decide)) boot_len (bab_cons (BE.toB (be_ix xb_ix (bb_var 6) (BE.toB be_int))) bab_nil))))) (BE.toB be_int)) (ba_cons (be_op ob_add (BE.toB (be_ix xb_ix (bb_var 6) (BE.toB be_int))) (BE.toB (be_callB cb_len (by rfl) (h.fr "len" (by decide)) boot_len (bab_cons (BE.toB (be_ix xb_ix (bb_var 6) (BE.toB be_int))) bab_nil)))) ba_nil))))))
(bss_one (bs_set ok 5 (be_op ob_add (BE.toB (be_op ob_add (bb_var 5) (bb_var 8))) (BE.toB (be_if (bt_cmp ob_gt (BE.toB (be_ix xb_ix (bb_var 6) (BE.toB be_int))) (BE.toB be_int) (by rfl)) (BF.toE (bf_lst (ba_cons (be_op ob_sub (BE.toB (be_ix xb_ix (bb_var 6) (BE.toB be_int))) (BE.toB be_int)) ba_nil))) (BF.toE (bf_lst ba_nil)))))))))
(bss_cons (bs_if (bt_not (bt_tru (BE.toB (be_callB (cb_all ok) (by rfl) (h.fr "all" (by decide)) boot_all (bab_cons (BE.toB (BF.toE (bf_lc ok (bib_seq (bb_var 3)) (blkOk_by (N := N_law) (sc := defScope (top 12)) (own := [("_law_piece", 6)]) (by decide +kernel)) (fun G3 hG3 _ _ _ _ _ => (bg_name ok.blk.nd 6)) (fun G3 hG3 _ _ _ _ _ => bts_nil) (fun G3 hG3 _ _ _ _ _ => (be_call ok.blk (hG3 _ hdp) d_law_piece_right (hr.mono (by decide)) (by rfl) (ba_cons (be_var 6) (ba_cons (be_var 5) ba_nil))))))) bab_nil)))))
(bss_one (bs_ret be_bl))
bss_nil)
(bss_cons (bs_for ok (bi_seq (be_var 5)) (bg_name ok.nd 7)
(bss_cons (bs_setLc ok 9 (bib_range1 (by rfl) (h.fr "range" (by decide)) (bab_cons (BE.toB (be_callB cb_len (by rfl) (h.fr "len" (by decide)) boot_len (bab_cons (bb_var 3) bab_nil))) bab_nil)) (blkOk_by (N := N_law) (sc := defScope (top 12)) (own := [("_law_number", 11)]) (by decide +kernel)) (fun G4 hG4 _ _ _ _ _ => (bg_name ok.blk.nd 11)) (fun G4 hG4 _ _ _ _ _ => (bts_one (bt_cmp ob_isnot (BE.toB (be_call ok.blk (hG4 _ hdp) d_law_value (hr.mono (by decide)) (by rfl) (ba_cons (be_ix xb_ix (bb_var 3) (bb_var 11)) (ba_cons (be_var 7) ba_nil)))) (BE.toB be_non) (by rfl)))) (fun G4 hG4 _ _ _ _ _ => (be_var 11)) (hsw := sw_true rfl rfl rfl (by decide +kernel)))
(bss_one (bs_if (bt_not (bt_tru (BE.toB (be_call ok hdp d_law_same (hr.mono (by decide)) (by rfl) (ba_cons (be_call ok hdp dover (hr.mono (by decide)) (by rfl) (ba_cons (be_var 3) (ba_cons (be_var 7) ba_nil))) (ba_cons (be_callTy cb_tuple (by rfl) (h.fr "tuple" (by decide)) boot_tuple (bab_cons (bb_var 9) bab_nil)) ba_nil))))))
(bss_one (bs_ret be_bl))
bss_nil))))
(bss_one (bs_if (bt_cmp (ob_ne ok) (BE.toB (be_callB (cb_repr ok) (by rfl) (h.fr "repr" (by decide)) boot_repr (bab_cons (bb_var 3) bab_nil))) (bb_var 4) (by rfl))
(bss_one (bs_ret be_bl))
bss_nil))))))))
(bss_one (bs_ret be_bl)))))⟩
end
end BV

namespace BV
open PySem PySem.Spec L2
open PyProof.Rows hiding St
abbrev pc (b : Int) (vs : List D) (l : Bool) : D := .tup [.int b, .tup vs, .bl l]
def valD (b : Int) (vs : List D) (q : Int) : D := if b ≤ q ∧ q < b + vs.length then vs[(q - b).toNat]?.getD .non else .non
section
variable {dl : Addr} {b q : Int} {vs : List D} {l : Bool} {x : XD → Prop} {P : D → Prop}
theorem same_ok {k n : Nat} {d : D} (h : Rb k n d) (h1 : k ≤ 60) (h2 : n ≤ 700000) (hP : P (.bl true)) : M__law_same dl [d, d] x P := by
  simp only [M__law_same, fnM, m__law_same, mSeq, mNext, mRet, mSet, mDrop, mIfS, mOp, mVar, mVarB, mRetV, slotV, slotB, mC, mCons, mNil, mTup, mSized, mFr, mT, asB, mChain, mIf, mNot, mTru, truB, mAnd, mOr, mCallF, mCall, mGName, mGCons, mGNil, mGTup, mPar, mYes, c1, oI0, oI, List.map_cons, List.map_nil, List.length_cons, List.length_nil, List.replicate, List.cons_append, List.nil_append, List.getElem?_cons_zero, List.getElem?_cons_succ, List.set_cons_zero, List.set_cons_succ, oAdd, oSub, oIx, oIs, oIsNot, cLen, oTup , oLe, oLt, oGt, oGe, oEq_int, oNe_int, oEq_str, oNe_str, itemD_0, itemD_1, itemD_2, itemD_3, decide_eq_true_eq, true_and, Bool.false_eq_true, if_false , mOwn, mApp, mRng1, mRng2, rng1, rng2, mSeqD, seqD, mEnum, enumD, oPow , sz0, sz1, sz2, sz3, sz4, sz5, sz6, sz7, sz8, sz9, sz10, sz11, sz12, sz13, sz14, sz15, sz16, oMul_tup, oMul_int]
  refine h.repr h1 h2 (h.repr h1 h2 ?_)
  simpa only [oEq_str, decide_true] using hP
theorem end_ok (hP : P (.int (b + vs.length))) : M_end_of dl [pc b vs l] x P := ⟨rfl, hP⟩
theorem value_ok (hP : P (valD b vs q)) : M_value_at dl [pc b vs l, .int q] x P := by
  unfold valD at hP
  simp only [M_value_at, fnM, m_value_at, mSeq, mNext, mRet, mSet, mDrop, mIfS, mOp, mVar, mVarB, mRetV, slotV, slotB, mC, mCons, mNil, mTup, mSized, mFr, mT, asB, mChain, mIf, mNot, mTru, truB, mAnd, mOr, mCallF, mCall, mGName, mGCons, mGNil, mGTup, mPar, mYes, c1, oI0, oI, List.map_cons, List.map_nil, List.length_cons, List.length_nil, List.replicate, List.cons_append, List.nil_append, List.getElem?_cons_zero, List.getElem?_cons_succ, List.set_cons_zero, List.set_cons_succ, oAdd, oSub, oIx, oIs, oIsNot, cLen, oTup , oLe, oLt, oGt, oGe, oEq_int, oNe_int, oEq_str, oNe_str, itemD_0, itemD_1, itemD_2, itemD_3, decide_eq_true_eq, true_and, Bool.false_eq_true, if_false , mOwn, mApp, mRng1, mRng2, rng1, rng2, mSeqD, seqD, mEnum, enumD, oPow , sz0, sz1, sz2, sz3, sz4, sz5, sz6, sz7, sz8, sz9, sz10, sz11, sz12, sz13, sz14, sz15, sz16, oMul_tup, oMul_int]
  by_cases h1 : b ≤ q
  · rw [if_pos h1]
    refine end_ok ?_
    simp only [mSeq, mNext, mRet, mSet, mDrop, mIfS, mOp, mVar, mVarB, mRetV, slotV, slotB, mC, mCons, mNil, mTup, mSized, mFr, mT, asB, mChain, mIf, mNot, mTru, truB, mAnd, mOr, mCallF, mCall, mGName, mGCons, mGNil, mGTup, mPar, mYes, c1, oI0, oI, List.map_cons, List.map_nil, List.length_cons, List.length_nil, List.replicate, List.cons_append, List.nil_append, List.getElem?_cons_zero, List.getElem?_cons_succ, List.set_cons_zero, List.set_cons_succ, oAdd, oSub, oIx, oIs, oIsNot, cLen, oTup , oLe, oLt, oGt, oGe, oEq_int, oNe_int, oEq_str, oNe_str, itemD_0, itemD_1, itemD_2, itemD_3, decide_eq_true_eq, true_and, Bool.false_eq_true, if_false , mOwn, mApp, mRng1, mRng2, rng1, rng2, mSeqD, seqD, mEnum, enumD, oPow , sz0, sz1, sz2, sz3, sz4, sz5, sz6, sz7, sz8, sz9, sz10, sz11, sz12, sz13, sz14, sz15, sz16, oMul_tup, oMul_int]
    by_cases h2 : q < b + vs.length
    · rw [if_pos h2]
      rw [if_pos ⟨h1, h2⟩] at hP
      have hl : (q - b).toNat < vs.length := by omega
      refine itemD_at (by omega) (List.getElem?_eq_getElem hl) ?_
      rw [List.getElem?_eq_getElem hl] at hP
      exact hP
    · rw [if_neg h2]
      rw [if_neg (fun z => h2 z.2)] at hP
      exact hP
  · rw [if_neg h1]
    rw [if_neg (fun z => h1 z.1)] at hP
    exact hP
/-- the law's own reading, place by place -/
def walkV (q : Int) : Int → D → List D → D
  | _, f, [] => f
  | h, f, v :: vs => walkV q (h + 1) (if h = q then v else f) vs
theorem walkV_eq (q : Int) : ∀ (vs : List D) (h : Int) (f : D), walkV q h f vs = if h ≤ q ∧ q < h + vs.length then vs[(q - h).toNat]?.getD .non else f
  | [], h, f => by
    rw [if_neg (by simp only [List.length_nil]; omega)]
    rfl
  | v :: vs, h, f => by
    show walkV q (h + 1) (if h = q then v else f) vs = _
    rw [walkV_eq q vs]
    simp only [List.length_cons]
    by_cases e : h = q
    · rw [if_neg (by omega), if_pos e, if_pos (by omega)]
      have z : (q - h).toNat = 0 := by omega
      rw [z]
      rfl
    · rw [if_neg e]
      by_cases z : h + 1 ≤ q ∧ q < h + 1 + vs.length
      · rw [if_pos z, if_pos (by omega)]
        have z2 : (q - h).toNat = (q - (h + 1)).toNat + 1 := by omega
        rw [z2]
        rfl
      · rw [if_neg z, if_neg (by omega)]
theorem lvalue_ok (hP : P (valD b vs q)) : M__law_value dl [pc b vs l, .int q] x P := by
  simp only [M__law_value, fnM, m__law_value, mSeq, mNext, mRet, mSet, mDrop, mIfS, mOp, mVar, mVarB, mRetV, slotV, slotB, mC, mCons, mNil, mTup, mSized, mFr, mT, asB, mChain, mIf, mNot, mTru, truB, mAnd, mOr, mCallF, mCall, mGName, mGCons, mGNil, mGTup, mPar, mYes, c1, oI0, oI, List.map_cons, List.map_nil, List.length_cons, List.length_nil, List.replicate, List.cons_append, List.nil_append, List.getElem?_cons_zero, List.getElem?_cons_succ, List.set_cons_zero, List.set_cons_succ, oAdd, oSub, oIx, oIs, oIsNot, cLen, oTup , oLe, oLt, oGt, oGe, oEq_int, oNe_int, oEq_str, oNe_str, itemD_0, itemD_1, itemD_2, itemD_3, decide_eq_true_eq, true_and, Bool.false_eq_true, if_false , mOwn, mApp, mRng1, mRng2, rng1, rng2, mSeqD, seqD, mEnum, enumD, oPow , sz0, sz1, sz2, sz3, sz4, sz5, sz6, sz7, sz8, sz9, sz10, sz11, sz12, sz13, sz14, sz15, sz16, oMul_tup, oMul_int]
  simp only [mFor, mSeq, mNext, mRet, mSet, mDrop, mIfS, mOp, mVar, mVarB, mRetV, slotV, slotB, mC, mCons, mNil, mTup, mSized, mFr, mT, asB, mChain, mIf, mNot, mTru, truB, mAnd, mOr, mCallF, mCall, mGName, mGCons, mGNil, mGTup, mPar, mYes, c1, oI0, oI, List.map_cons, List.map_nil, List.length_cons, List.length_nil, List.replicate, List.cons_append, List.nil_append, List.getElem?_cons_zero, List.getElem?_cons_succ, List.set_cons_zero, List.set_cons_succ, oAdd, oSub, oIx, oIs, oIsNot, cLen, oTup , oLe, oLt, oGt, oGe, oEq_int, oNe_int, oEq_str, oNe_str, itemD_0, itemD_1, itemD_2, itemD_3, decide_eq_true_eq, true_and, Bool.false_eq_true, if_false , mOwn, mApp, mRng1, mRng2, rng1, rng2, mSeqD, seqD, mEnum, enumD, oPow , sz0, sz1, sz2, sz3, sz4, sz5, sz6, sz7, sz8, sz9, sz10, sz11, sz12, sz13, sz14, sz15, sz16, oMul_tup, oMul_int]
  have e0 : walkV q b .non vs = valD b vs q := by rw [walkV_eq]; rfl
  refine forL_of (fun rest en => ∃ (t : Sl) (h : Int) (f : D), en = [Sl.val (pc b vs l), Sl.val (.int q), t, Sl.val (.int h), Sl.val f] ∧ walkV q h f rest = valD b vs q) ?_ ?_ vs _ ⟨_, b, .non, rfl, e0⟩
  · rintro d ds en N ⟨t, h, f, rfl, e⟩ hN
    simp only [mSeq, mNext, mRet, mSet, mDrop, mIfS, mOp, mVar, mVarB, mRetV, slotV, slotB, mC, mCons, mNil, mTup, mSized, mFr, mT, asB, mChain, mIf, mNot, mTru, truB, mAnd, mOr, mCallF, mCall, mGName, mGCons, mGNil, mGTup, mPar, mYes, c1, oI0, oI, List.map_cons, List.map_nil, List.length_cons, List.length_nil, List.replicate, List.cons_append, List.nil_append, List.getElem?_cons_zero, List.getElem?_cons_succ, List.set_cons_zero, List.set_cons_succ, oAdd, oSub, oIx, oIs, oIsNot, cLen, oTup , oLe, oLt, oGt, oGe, oEq_int, oNe_int, oEq_str, oNe_str, itemD_0, itemD_1, itemD_2, itemD_3, decide_eq_true_eq, true_and, Bool.false_eq_true, if_false , mOwn, mApp, mRng1, mRng2, rng1, rng2, mSeqD, seqD, mEnum, enumD, oPow , sz0, sz1, sz2, sz3, sz4, sz5, sz6, sz7, sz8, sz9, sz10, sz11, sz12, sz13, sz14, sz15, sz16, oMul_tup, oMul_int]
    by_cases z : h = q
    · rw [if_pos z]
      refine hN _ ⟨_, _, _, rfl, ?_⟩
      rw [← e]
      show _ = walkV q (h + 1) (if h = q then d else f) ds
      rw [if_pos z]
    · rw [if_neg z]
      refine hN _ ⟨_, _, _, rfl, ?_⟩
      rw [← e]
      show _ = walkV q (h + 1) (if h = q then d else f) ds
      rw [if_neg z]
  · rintro en ⟨t, h, f, rfl, e⟩
    simp only [mSeq, mNext, mRet, mSet, mDrop, mIfS, mOp, mVar, mVarB, mRetV, slotV, slotB, mC, mCons, mNil, mTup, mSized, mFr, mT, asB, mChain, mIf, mNot, mTru, truB, mAnd, mOr, mCallF, mCall, mGName, mGCons, mGNil, mGTup, mPar, mYes, c1, oI0, oI, List.map_cons, List.map_nil, List.length_cons, List.length_nil, List.replicate, List.cons_append, List.nil_append, List.getElem?_cons_zero, List.getElem?_cons_succ, List.set_cons_zero, List.set_cons_succ, oAdd, oSub, oIx, oIs, oIsNot, cLen, oTup , oLe, oLt, oGt, oGe, oEq_int, oNe_int, oEq_str, oNe_str, itemD_0, itemD_1, itemD_2, itemD_3, decide_eq_true_eq, true_and, Bool.false_eq_true, if_false , mOwn, mApp, mRng1, mRng2, rng1, rng2, mSeqD, seqD, mEnum, enumD, oPow , sz0, sz1, sz2, sz3, sz4, sz5, sz6, sz7, sz8, sz9, sz10, sz11, sz12, sz13, sz14, sz15, sz16, oMul_tup, oMul_int]
    have e : f = valD b vs q := e
    rw [e]
    exact hP
theorem places_ok (hz : vs.length ≤ 5000) (hP : P (.tup (sel isN (fun i => .int (b + i)) 0 vs))) : M_places_of dl [pc b vs l] x P := by
  simp only [M_places_of, fnM, m_places_of, mLc, mSeq, mNext, mRet, mSet, mDrop, mIfS, mOp, mVar, mVarB, mRetV, slotV, slotB, mC, mCons, mNil, mTup, mSized, mFr, mT, asB, mChain, mIf, mNot, mTru, truB, mAnd, mOr, mCallF, mCall, mGName, mGCons, mGNil, mGTup, mPar, mYes, c1, oI0, oI, List.map_cons, List.map_nil, List.length_cons, List.length_nil, List.replicate, List.cons_append, List.nil_append, List.getElem?_cons_zero, List.getElem?_cons_succ, List.set_cons_zero, List.set_cons_succ, oAdd, oSub, oIx, oIs, oIsNot, cLen, oTup , oLe, oLt, oGt, oGe, oEq_int, oNe_int, oEq_str, oNe_str, itemD_0, itemD_1, itemD_2, itemD_3, decide_eq_true_eq, true_and, Bool.false_eq_true, if_false , mOwn, mApp, mRng1, mRng2, rng1, rng2, mSeqD, seqD, mEnum, enumD, oPow , sz0, sz1, sz2, sz3, sz4, sz5, sz6, sz7, sz8, sz9, sz10, sz11, sz12, sz13, sz14, sz15, sz16, oMul_tup, oMul_int]
  refine ⟨rfl, ?_⟩
  refine lcL_of (selE isN fun i => .int (b + i)) _ [] (few (by rw [pairsD_length]; simp only [List.length_nil]; omega)) ?_ ?_
  · intro d hd K1 K0 h1 h0
    obtain ⟨i, v, _, rfl⟩ := pairsD_mem hd
    simp only [wipeE, isN_non, mSeq, mNext, mRet, mSet, mDrop, mIfS, mOp, mVar, mVarB, mRetV, slotV, slotB, mC, mCons, mNil, mTup, mSized, mFr, mT, asB, mChain, mIf, mNot, mTru, truB, mAnd, mOr, mCallF, mCall, mGName, mGCons, mGNil, mGTup, mPar, mYes, c1, oI0, oI, List.map_cons, List.map_nil, List.length_cons, List.length_nil, List.replicate, List.cons_append, List.nil_append, List.getElem?_cons_zero, List.getElem?_cons_succ, List.set_cons_zero, List.set_cons_succ, oAdd, oSub, oIx, oIs, oIsNot, cLen, oTup , oLe, oLt, oGt, oGe, oEq_int, oNe_int, oEq_str, oNe_str, itemD_0, itemD_1, itemD_2, itemD_3, decide_eq_true_eq, true_and, Bool.false_eq_true, if_false , mOwn, mApp, mRng1, mRng2, rng1, rng2, mSeqD, seqD, mEnum, enumD, oPow , sz0, sz1, sz2, sz3, sz4, sz5, sz6, sz7, sz8, sz9, sz10, sz11, sz12, sz13, sz14, sz15, sz16, oMul_tup, oMul_int]
    cases e : isN v with
    | true =>
      simp only [Bool.not_true, mSeq, mNext, mRet, mSet, mDrop, mIfS, mOp, mVar, mVarB, mRetV, slotV, slotB, mC, mCons, mNil, mTup, mSized, mFr, mT, asB, mChain, mIf, mNot, mTru, truB, mAnd, mOr, mCallF, mCall, mGName, mGCons, mGNil, mGTup, mPar, mYes, c1, oI0, oI, List.map_cons, List.map_nil, List.length_cons, List.length_nil, List.replicate, List.cons_append, List.nil_append, List.getElem?_cons_zero, List.getElem?_cons_succ, List.set_cons_zero, List.set_cons_succ, oAdd, oSub, oIx, oIs, oIsNot, cLen, oTup , oLe, oLt, oGt, oGe, oEq_int, oNe_int, oEq_str, oNe_str, itemD_0, itemD_1, itemD_2, itemD_3, decide_eq_true_eq, true_and, Bool.false_eq_true, if_false , mOwn, mApp, mRng1, mRng2, rng1, rng2, mSeqD, seqD, mEnum, enumD, oPow , sz0, sz1, sz2, sz3, sz4, sz5, sz6, sz7, sz8, sz9, sz10, sz11, sz12, sz13, sz14, sz15, sz16, oMul_tup, oMul_int]
      exact h0 (by simp only [selE, e, if_true])
    | false =>
      simp only [Bool.not_false, if_true, mSeq, mNext, mRet, mSet, mDrop, mIfS, mOp, mVar, mVarB, mRetV, slotV, slotB, mC, mCons, mNil, mTup, mSized, mFr, mT, asB, mChain, mIf, mNot, mTru, truB, mAnd, mOr, mCallF, mCall, mGName, mGCons, mGNil, mGTup, mPar, mYes, c1, oI0, oI, List.map_cons, List.map_nil, List.length_cons, List.length_nil, List.replicate, List.cons_append, List.nil_append, List.getElem?_cons_zero, List.getElem?_cons_succ, List.set_cons_zero, List.set_cons_succ, oAdd, oSub, oIx, oIs, oIsNot, cLen, oTup , oLe, oLt, oGt, oGe, oEq_int, oNe_int, oEq_str, oNe_str, itemD_0, itemD_1, itemD_2, itemD_3, decide_eq_true_eq, true_and, Bool.false_eq_true, if_false , mOwn, mApp, mRng1, mRng2, rng1, rng2, mSeqD, seqD, mEnum, enumD, oPow , sz0, sz1, sz2, sz3, sz4, sz5, sz6, sz7, sz8, sz9, sz10, sz11, sz12, sz13, sz14, sz15, sz16, oMul_tup, oMul_int]
      exact h1 _ (by simp only [selE, e, Bool.false_eq_true, if_false])
  · rw [sel_enum]
    exact hP
def okV (d : D) : Prop := d = .non ∨ ∃ k : Int, d = .int k ∧ 0 ≤ k ∧ k ≤ 1000000
def okP (d : D) : Prop := ∃ (b : Int) (vs : List D) (l : Bool), d = pc b vs l ∧ 0 ≤ b ∧ b ≤ 10000 ∧ vs.length ≤ 5000 ∧ ∀ v ∈ vs, okV v
def valO (q : Int) (d : D) : D := match d with
  | .tup [.int b, .tup vs, _] => valD b vs q
  | _ => .non
def okR (ps : List D) : Prop := ps.length ≤ 12 ∧ ∀ p ∈ ps, okP p
theorem okV.rb {d : D} (h : okV d) {k n : Nat} : Rb k n d := by
  rcases h with rfl | ⟨i, rfl, h1, h2⟩
  · exact .non
  · exact .int (by omega)
theorem valD_ok (h : ∀ v ∈ vs, okV v) : okV (valD b vs q) := by
  unfold valD
  split
  · rename_i z
    have hl : (q - b).toNat < vs.length := by omega
    rw [List.getElem?_eq_getElem hl]
    exact h _ (List.getElem_mem hl)
  · exact .inl rfl
theorem over_ok {ps : List D} (h : okR ps) (hP : P (.tup (sel (fun d => isN (valO q d)) (fun i => .int i) 0 ps))) : M_over dl [.tup ps, .int q] x P := by
  simp only [M_over, fnM, m_over, mLc, mSeq, mNext, mRet, mSet, mDrop, mIfS, mOp, mVar, mVarB, mRetV, slotV, slotB, mC, mCons, mNil, mTup, mSized, mFr, mT, asB, mChain, mIf, mNot, mTru, truB, mAnd, mOr, mCallF, mCall, mGName, mGCons, mGNil, mGTup, mPar, mYes, c1, oI0, oI, List.map_cons, List.map_nil, List.length_cons, List.length_nil, List.replicate, List.cons_append, List.nil_append, List.getElem?_cons_zero, List.getElem?_cons_succ, List.set_cons_zero, List.set_cons_succ, oAdd, oSub, oIx, oIs, oIsNot, cLen, oTup , oLe, oLt, oGt, oGe, oEq_int, oNe_int, oEq_str, oNe_str, itemD_0, itemD_1, itemD_2, itemD_3, decide_eq_true_eq, true_and, Bool.false_eq_true, if_false , mOwn, mApp, mRng1, mRng2, rng1, rng2, mSeqD, seqD, mEnum, enumD, oPow , sz0, sz1, sz2, sz3, sz4, sz5, sz6, sz7, sz8, sz9, sz10, sz11, sz12, sz13, sz14, sz15, sz16, oMul_tup, oMul_int]
  refine ⟨rfl, ?_⟩
  refine lcL_of (selE (fun d => isN (valO q d)) fun i => .int i) _ [] (few (by rw [pairsD_length]; simp only [List.length_nil]; have := h.1; omega)) ?_ ?_
  · intro d hd K1 K0 h1 h0
    obtain ⟨i, v, hv, rfl⟩ := pairsD_mem hd
    obtain ⟨b, vs, l, rfl, _⟩ := h.2 v hv
    simp only [wipeE, isN_non, mSeq, mNext, mRet, mSet, mDrop, mIfS, mOp, mVar, mVarB, mRetV, slotV, slotB, mC, mCons, mNil, mTup, mSized, mFr, mT, asB, mChain, mIf, mNot, mTru, truB, mAnd, mOr, mCallF, mCall, mGName, mGCons, mGNil, mGTup, mPar, mYes, c1, oI0, oI, List.map_cons, List.map_nil, List.length_cons, List.length_nil, List.replicate, List.cons_append, List.nil_append, List.getElem?_cons_zero, List.getElem?_cons_succ, List.set_cons_zero, List.set_cons_succ, oAdd, oSub, oIx, oIs, oIsNot, cLen, oTup , oLe, oLt, oGt, oGe, oEq_int, oNe_int, oEq_str, oNe_str, itemD_0, itemD_1, itemD_2, itemD_3, decide_eq_true_eq, true_and, Bool.false_eq_true, if_false , mOwn, mApp, mRng1, mRng2, rng1, rng2, mSeqD, seqD, mEnum, enumD, oPow , sz0, sz1, sz2, sz3, sz4, sz5, sz6, sz7, sz8, sz9, sz10, sz11, sz12, sz13, sz14, sz15, sz16, oMul_tup, oMul_int]
    refine value_ok ?_
    simp only [selE, valO] at h1 h0
    cases e : isN (valD b vs q) with
    | true =>
      simp only [e, Bool.not_true, mSeq, mNext, mRet, mSet, mDrop, mIfS, mOp, mVar, mVarB, mRetV, slotV, slotB, mC, mCons, mNil, mTup, mSized, mFr, mT, asB, mChain, mIf, mNot, mTru, truB, mAnd, mOr, mCallF, mCall, mGName, mGCons, mGNil, mGTup, mPar, mYes, c1, oI0, oI, List.map_cons, List.map_nil, List.length_cons, List.length_nil, List.replicate, List.cons_append, List.nil_append, List.getElem?_cons_zero, List.getElem?_cons_succ, List.set_cons_zero, List.set_cons_succ, oAdd, oSub, oIx, oIs, oIsNot, cLen, oTup , oLe, oLt, oGt, oGe, oEq_int, oNe_int, oEq_str, oNe_str, itemD_0, itemD_1, itemD_2, itemD_3, decide_eq_true_eq, true_and, Bool.false_eq_true, if_false , mOwn, mApp, mRng1, mRng2, rng1, rng2, mSeqD, seqD, mEnum, enumD, oPow , sz0, sz1, sz2, sz3, sz4, sz5, sz6, sz7, sz8, sz9, sz10, sz11, sz12, sz13, sz14, sz15, sz16, oMul_tup, oMul_int]
      exact h0 (by simp only [e, if_true])
    | false =>
      simp only [e, Bool.not_false, if_true, mSeq, mNext, mRet, mSet, mDrop, mIfS, mOp, mVar, mVarB, mRetV, slotV, slotB, mC, mCons, mNil, mTup, mSized, mFr, mT, asB, mChain, mIf, mNot, mTru, truB, mAnd, mOr, mCallF, mCall, mGName, mGCons, mGNil, mGTup, mPar, mYes, c1, oI0, oI, List.map_cons, List.map_nil, List.length_cons, List.length_nil, List.replicate, List.cons_append, List.nil_append, List.getElem?_cons_zero, List.getElem?_cons_succ, List.set_cons_zero, List.set_cons_succ, oAdd, oSub, oIx, oIs, oIsNot, cLen, oTup , oLe, oLt, oGt, oGe, oEq_int, oNe_int, oEq_str, oNe_str, itemD_0, itemD_1, itemD_2, itemD_3, decide_eq_true_eq, true_and, Bool.false_eq_true, if_false , mOwn, mApp, mRng1, mRng2, rng1, rng2, mSeqD, seqD, mEnum, enumD, oPow , sz0, sz1, sz2, sz3, sz4, sz5, sz6, sz7, sz8, sz9, sz10, sz11, sz12, sz13, sz14, sz15, sz16, oMul_tup, oMul_int]
      exact h1 _ (by simp only [e, Bool.false_eq_true, if_false])
  · rw [sel_enum]
    exact hP
theorem All2.fn {R : D → D → Prop} {f : D → D} : ∀ {ds ys : List D}, All2 R ds ys → (∀ d ∈ ds, ∀ y, R d y → y = f d) → ys = ds.map f
  | [], [], _, _ => rfl
  | d :: ds, y :: ys, h, hf => by
    rw [List.map_cons, ← hf d List.mem_cons_self y h.1, ← All2.fn h.2 fun e he => hf e (List.mem_cons_of_mem _ he)]
theorem right_ok {ws : List D} (h : okP (pc b vs l)) (hm : ∀ d ∈ ws, ∃ q : Int, d = .int q) (hi : ws.length ≤ 1000) (hP : P (.bl true)) : M__law_piece_right dl [pc b vs l, .lst ws] x P := by
  obtain ⟨b', vs', l', e, hb0, hb1, hl, hv⟩ := h
  cases e
  simp only [M__law_piece_right, fnM, m__law_piece_right, mLc, mSeq, mNext, mRet, mSet, mDrop, mIfS, mOp, mVar, mVarB, mRetV, slotV, slotB, mC, mCons, mNil, mTup, mSized, mFr, mT, asB, mChain, mIf, mNot, mTru, truB, mAnd, mOr, mCallF, mCall, mGName, mGCons, mGNil, mGTup, mPar, mYes, c1, oI0, oI, List.map_cons, List.map_nil, List.length_cons, List.length_nil, List.replicate, List.cons_append, List.nil_append, List.getElem?_cons_zero, List.getElem?_cons_succ, List.set_cons_zero, List.set_cons_succ, oAdd, oSub, oIx, oIs, oIsNot, cLen, oTup , oLe, oLt, oGt, oGe, oEq_int, oNe_int, oEq_str, oNe_str, itemD_0, itemD_1, itemD_2, itemD_3, decide_eq_true_eq, true_and, Bool.false_eq_true, if_false , mOwn, mApp, mRng1, mRng2, rng1, rng2, mSeqD, seqD, mEnum, enumD, oPow , sz0, sz1, sz2, sz3, sz4, sz5, sz6, sz7, sz8, sz9, sz10, sz11, sz12, sz13, sz14, sz15, sz16, oMul_tup, oMul_int]
  refine ⟨rfl, ⟨by omega, by omega⟩, ?_⟩
  rw [Int.toNat_natCast]
  refine lcL_of (selR isN (fun i => .int (b + i)) vs) _ [] (few (by rw [rangeD_length]; simp only [List.length_nil]; omega)) ?_ ?_
  · intro d hd K1 K0 h1 h0
    obtain ⟨i, hi, rfl⟩ := rangeD_mem hd
    simp only [wipeE, isN_non, mSeq, mNext, mRet, mSet, mDrop, mIfS, mOp, mVar, mVarB, mRetV, slotV, slotB, mC, mCons, mNil, mTup, mSized, mFr, mT, asB, mChain, mIf, mNot, mTru, truB, mAnd, mOr, mCallF, mCall, mGName, mGCons, mGNil, mGTup, mPar, mYes, c1, oI0, oI, List.map_cons, List.map_nil, List.length_cons, List.length_nil, List.replicate, List.cons_append, List.nil_append, List.getElem?_cons_zero, List.getElem?_cons_succ, List.set_cons_zero, List.set_cons_succ, oAdd, oSub, oIx, oIs, oIsNot, cLen, oTup , oLe, oLt, oGt, oGe, oEq_int, oNe_int, oEq_str, oNe_str, itemD_0, itemD_1, itemD_2, itemD_3, decide_eq_true_eq, true_and, Bool.false_eq_true, if_false , mOwn, mApp, mRng1, mRng2, rng1, rng2, mSeqD, seqD, mEnum, enumD, oPow , sz0, sz1, sz2, sz3, sz4, sz5, sz6, sz7, sz8, sz9, sz10, sz11, sz12, sz13, sz14, sz15, sz16, oMul_tup, oMul_int]
    refine itemD_at (by omega) (by rw [Int.toNat_natCast]; exact List.getElem?_eq_getElem hi) ?_
    simp only [selR, Int.toNat_natCast, List.getElem?_eq_getElem hi, Option.getD_some] at h1 h0
    cases e : isN vs[i] with
    | true =>
      simp only [Bool.not_true, mSeq, mNext, mRet, mSet, mDrop, mIfS, mOp, mVar, mVarB, mRetV, slotV, slotB, mC, mCons, mNil, mTup, mSized, mFr, mT, asB, mChain, mIf, mNot, mTru, truB, mAnd, mOr, mCallF, mCall, mGName, mGCons, mGNil, mGTup, mPar, mYes, c1, oI0, oI, List.map_cons, List.map_nil, List.length_cons, List.length_nil, List.replicate, List.cons_append, List.nil_append, List.getElem?_cons_zero, List.getElem?_cons_succ, List.set_cons_zero, List.set_cons_succ, oAdd, oSub, oIx, oIs, oIsNot, cLen, oTup , oLe, oLt, oGt, oGe, oEq_int, oNe_int, oEq_str, oNe_str, itemD_0, itemD_1, itemD_2, itemD_3, decide_eq_true_eq, true_and, Bool.false_eq_true, if_false , mOwn, mApp, mRng1, mRng2, rng1, rng2, mSeqD, seqD, mEnum, enumD, oPow , sz0, sz1, sz2, sz3, sz4, sz5, sz6, sz7, sz8, sz9, sz10, sz11, sz12, sz13, sz14, sz15, sz16, oMul_tup, oMul_int]
      exact h0 (by simp only [e, if_true])
    | false =>
      simp only [Bool.not_false, if_true, mSeq, mNext, mRet, mSet, mDrop, mIfS, mOp, mVar, mVarB, mRetV, slotV, slotB, mC, mCons, mNil, mTup, mSized, mFr, mT, asB, mChain, mIf, mNot, mTru, truB, mAnd, mOr, mCallF, mCall, mGName, mGCons, mGNil, mGTup, mPar, mYes, c1, oI0, oI, List.map_cons, List.map_nil, List.length_cons, List.length_nil, List.replicate, List.cons_append, List.nil_append, List.getElem?_cons_zero, List.getElem?_cons_succ, List.set_cons_zero, List.set_cons_succ, oAdd, oSub, oIx, oIs, oIsNot, cLen, oTup , oLe, oLt, oGt, oGe, oEq_int, oNe_int, oEq_str, oNe_str, itemD_0, itemD_1, itemD_2, itemD_3, decide_eq_true_eq, true_and, Bool.false_eq_true, if_false , mOwn, mApp, mRng1, mRng2, rng1, rng2, mSeqD, seqD, mEnum, enumD, oPow , sz0, sz1, sz2, sz3, sz4, sz5, sz6, sz7, sz8, sz9, sz10, sz11, sz12, sz13, sz14, sz15, sz16, oMul_tup, oMul_int]
      exact h1 _ (by simp only [e, Bool.false_eq_true, if_false])
  rw [sel_range, List.nil_append]
  have rs : RbAll 0 5000 (sel isN (fun i => .int (b + i)) 0 vs) := by
    refine (RbAll.each (k := 0) (m := 0) fun d hd => ?_).le (Nat.le_refl _) (by have := sel_len isN (fun i => D.int (b + i)) vs 0; omega)
    obtain ⟨i, h1, h2, rfl⟩ := sel_mem _ _ _ _ _ hd
    exact .int (by omega)
  refine end_ok (places_ok hl (same_ok (Rb.lst (RbAll.cons (k := 1) (n := 0) (.int (by omega)) (RbAll.cons (m := 0) (Rb.tup rs) .nil))) (by decide) (by decide) ?_))
  simp only [Bool.not_true, mSeq, mNext, mRet, mSet, mDrop, mIfS, mOp, mVar, mVarB, mRetV, slotV, slotB, mC, mCons, mNil, mTup, mSized, mFr, mT, asB, mChain, mIf, mNot, mTru, truB, mAnd, mOr, mCallF, mCall, mGName, mGCons, mGNil, mGTup, mPar, mYes, c1, oI0, oI, List.map_cons, List.map_nil, List.length_cons, List.length_nil, List.replicate, List.cons_append, List.nil_append, List.getElem?_cons_zero, List.getElem?_cons_succ, List.set_cons_zero, List.set_cons_succ, oAdd, oSub, oIx, oIs, oIsNot, cLen, oTup , oLe, oLt, oGt, oGe, oEq_int, oNe_int, oEq_str, oNe_str, itemD_0, itemD_1, itemD_2, itemD_3, decide_eq_true_eq, true_and, Bool.false_eq_true, if_false , mOwn, mApp, mRng1, mRng2, rng1, rng2, mSeqD, seqD, mEnum, enumD, oPow , sz0, sz1, sz2, sz3, sz4, sz5, sz6, sz7, sz8, sz9, sz10, sz11, sz12, sz13, sz14, sz15, sz16, oMul_tup, oMul_int]
  refine ⟨rfl, ?_⟩
  refine lcL_of (fun d => match d with | .int q => some (valD b vs q) | _ => none) _ [] (few (by simp only [List.length_nil]; omega)) ?_ ?_
  · intro d hd K1 K0 h1 h0
    obtain ⟨q, rfl⟩ := hm d hd
    simp only [wipeE, if_true, mSeq, mNext, mRet, mSet, mDrop, mIfS, mOp, mVar, mVarB, mRetV, slotV, slotB, mC, mCons, mNil, mTup, mSized, mFr, mT, asB, mChain, mIf, mNot, mTru, truB, mAnd, mOr, mCallF, mCall, mGName, mGCons, mGNil, mGTup, mPar, mYes, c1, oI0, oI, List.map_cons, List.map_nil, List.length_cons, List.length_nil, List.replicate, List.cons_append, List.nil_append, List.getElem?_cons_zero, List.getElem?_cons_succ, List.set_cons_zero, List.set_cons_succ, oAdd, oSub, oIx, oIs, oIsNot, cLen, oTup , oLe, oLt, oGt, oGe, oEq_int, oNe_int, oEq_str, oNe_str, itemD_0, itemD_1, itemD_2, itemD_3, decide_eq_true_eq, true_and, Bool.false_eq_true, if_false , mOwn, mApp, mRng1, mRng2, rng1, rng2, mSeqD, seqD, mEnum, enumD, oPow , sz0, sz1, sz2, sz3, sz4, sz5, sz6, sz7, sz8, sz9, sz10, sz11, sz12, sz13, sz14, sz15, sz16, oMul_tup, oMul_int]
    exact value_ok (h1 _ rfl)
  refine ⟨rfl, ?_⟩
  refine lcL_of (fun d => match d with | .int q => some (valD b vs q) | _ => none) _ [] (few (by simp only [List.length_nil]; omega)) ?_ ?_
  · intro d hd K1 K0 h1 h0
    obtain ⟨q, rfl⟩ := hm d hd
    simp only [wipeE, if_true, mSeq, mNext, mRet, mSet, mDrop, mIfS, mOp, mVar, mVarB, mRetV, slotV, slotB, mC, mCons, mNil, mTup, mSized, mFr, mT, asB, mChain, mIf, mNot, mTru, truB, mAnd, mOr, mCallF, mCall, mGName, mGCons, mGNil, mGTup, mPar, mYes, c1, oI0, oI, List.map_cons, List.map_nil, List.length_cons, List.length_nil, List.replicate, List.cons_append, List.nil_append, List.getElem?_cons_zero, List.getElem?_cons_succ, List.set_cons_zero, List.set_cons_succ, oAdd, oSub, oIx, oIs, oIsNot, cLen, oTup , oLe, oLt, oGt, oGe, oEq_int, oNe_int, oEq_str, oNe_str, itemD_0, itemD_1, itemD_2, itemD_3, decide_eq_true_eq, true_and, Bool.false_eq_true, if_false , mOwn, mApp, mRng1, mRng2, rng1, rng2, mSeqD, seqD, mEnum, enumD, oPow , sz0, sz1, sz2, sz3, sz4, sz5, sz6, sz7, sz8, sz9, sz10, sz11, sz12, sz13, sz14, sz15, sz16, oMul_tup, oMul_int]
    exact lvalue_ok (h1 _ rfl)
  rw [List.nil_append]
  refine same_ok (Rb.lst (RbAll.each (k := 0) (m := 0) fun d hd => ?_)) (by decide) ?_ hP
  · obtain ⟨e, he, z⟩ := List.mem_filterMap.mp hd
    obtain ⟨q, rfl⟩ := hm e he
    cases z
    exact (valD_ok hv).rb
  · have z := List.length_filterMap_le (fun d => match d with | D.int q => some (valD b vs q) | _ => none) ws
    omega
theorem row_ok (hP : ∀ ps, okR ps → P (.tup ps)) : M__law_row dl [.obj dl] x P := by
  simp only [M__law_row, fnM, m__law_row, M__law_draw, mSeq, mNext, mRet, mSet, mDrop, mIfS, mOp, mVar, mVarB, mRetV, slotV, slotB, mC, mCons, mNil, mTup, mSized, mFr, mT, asB, mChain, mIf, mNot, mTru, truB, mAnd, mOr, mCallF, mCall, mGName, mGCons, mGNil, mGTup, mPar, mYes, c1, oI0, oI, List.map_cons, List.map_nil, List.length_cons, List.length_nil, List.replicate, List.cons_append, List.nil_append, List.getElem?_cons_zero, List.getElem?_cons_succ, List.set_cons_zero, List.set_cons_succ, oAdd, oSub, oIx, oIs, oIsNot, cLen, oTup , oLe, oLt, oGt, oGe, oEq_int, oNe_int, oEq_str, oNe_str, itemD_0, itemD_1, itemD_2, itemD_3, decide_eq_true_eq, true_and, Bool.false_eq_true, if_false , mOwn, mApp, mRng1, mRng2, rng1, rng2, mSeqD, seqD, mEnum, enumD, oPow , sz0, sz1, sz2, sz3, sz4, sz5, sz6, sz7, sz8, sz9, sz10, sz11, sz12, sz13, sz14, sz15, sz16, oMul_tup, oMul_int]
  refine draw_ok (by decide) (by decide) fun r0 h1 h2 => itemD_all h1 h2 fun d0 hd0 => ?_
  obtain ⟨b0, rfl, hb0, hb1⟩ : ∃ b0 : Int, d0 = .int b0 ∧ 0 ≤ b0 ∧ b0 ≤ 4900 := by
    simp only [List.mem_cons, List.not_mem_nil, or_false] at hd0
    rcases hd0 with rfl | rfl | rfl | rfl
    all_goals exact ⟨_, rfl, by decide, by decide⟩
  simp only [mFor, mSeq, mNext, mRet, mSet, mDrop, mIfS, mOp, mVar, mVarB, mRetV, slotV, slotB, mC, mCons, mNil, mTup, mSized, mFr, mT, asB, mChain, mIf, mNot, mTru, truB, mAnd, mOr, mCallF, mCall, mGName, mGCons, mGNil, mGTup, mPar, mYes, c1, oI0, oI, List.map_cons, List.map_nil, List.length_cons, List.length_nil, List.replicate, List.cons_append, List.nil_append, List.getElem?_cons_zero, List.getElem?_cons_succ, List.set_cons_zero, List.set_cons_succ, oAdd, oSub, oIx, oIs, oIsNot, cLen, oTup , oLe, oLt, oGt, oGe, oEq_int, oNe_int, oEq_str, oNe_str, itemD_0, itemD_1, itemD_2, itemD_3, decide_eq_true_eq, true_and, Bool.false_eq_true, if_false , mOwn, mApp, mRng1, mRng2, rng1, rng2, mSeqD, seqD, mEnum, enumD, oPow , sz0, sz1, sz2, sz3, sz4, sz5, sz6, sz7, sz8, sz9, sz10, sz11, sz12, sz13, sz14, sz15, sz16, oMul_tup, oMul_int]
  refine draw_ok (by decide) (by decide) fun r1 h1 h2 => ?_
  simp only [mSeq, mNext, mRet, mSet, mDrop, mIfS, mOp, mVar, mVarB, mRetV, slotV, slotB, mC, mCons, mNil, mTup, mSized, mFr, mT, asB, mChain, mIf, mNot, mTru, truB, mAnd, mOr, mCallF, mCall, mGName, mGCons, mGNil, mGTup, mPar, mYes, c1, oI0, oI, List.map_cons, List.map_nil, List.length_cons, List.length_nil, List.replicate, List.cons_append, List.nil_append, List.getElem?_cons_zero, List.getElem?_cons_succ, List.set_cons_zero, List.set_cons_succ, oAdd, oSub, oIx, oIs, oIsNot, cLen, oTup , oLe, oLt, oGt, oGe, oEq_int, oNe_int, oEq_str, oNe_str, itemD_0, itemD_1, itemD_2, itemD_3, decide_eq_true_eq, true_and, Bool.false_eq_true, if_false , mOwn, mApp, mRng1, mRng2, rng1, rng2, mSeqD, seqD, mEnum, enumD, oPow , sz0, sz1, sz2, sz3, sz4, sz5, sz6, sz7, sz8, sz9, sz10, sz11, sz12, sz13, sz14, sz15, sz16, oMul_tup, oMul_int]
  refine ⟨⟨by omega, by omega⟩, ?_⟩
  refine forL_of (fun rest en => ∃ (ps : List D) (s3 s4 s5 s6 : Sl), en = [Sl.val (.obj dl), Sl.own ps, Sl.val (.int b0), s3, s4, s5, s6, Sl.no] ∧ ps.length + rest.length ≤ 12 ∧ ∀ p ∈ ps, okP p) ?_ ?_ _ _ ⟨[], _, _, _, _, rfl, by rw [rangeD_length]; simp only [List.length_nil]; omega, fun p h => by cases h⟩
  · rintro d ds en N ⟨ps, s3, s4, s5, s6, rfl, hl, hp⟩ hN
    simp only [mSeq, mNext, mRet, mSet, mDrop, mIfS, mOp, mVar, mVarB, mRetV, slotV, slotB, mC, mCons, mNil, mTup, mSized, mFr, mT, asB, mChain, mIf, mNot, mTru, truB, mAnd, mOr, mCallF, mCall, mGName, mGCons, mGNil, mGTup, mPar, mYes, c1, oI0, oI, List.map_cons, List.map_nil, List.length_cons, List.length_nil, List.replicate, List.cons_append, List.nil_append, List.getElem?_cons_zero, List.getElem?_cons_succ, List.set_cons_zero, List.set_cons_succ, oAdd, oSub, oIx, oIs, oIsNot, cLen, oTup , oLe, oLt, oGt, oGe, oEq_int, oNe_int, oEq_str, oNe_str, itemD_0, itemD_1, itemD_2, itemD_3, decide_eq_true_eq, true_and, Bool.false_eq_true, if_false , mOwn, mApp, mRng1, mRng2, rng1, rng2, mSeqD, seqD, mEnum, enumD, oPow , sz0, sz1, sz2, sz3, sz4, sz5, sz6, sz7, sz8, sz9, sz10, sz11, sz12, sz13, sz14, sz15, sz16, oMul_tup, oMul_int]
    refine draw_ok (by decide) (by decide) fun r2 g1 g2 => ?_
    simp only [mSeq, mNext, mRet, mSet, mDrop, mIfS, mOp, mVar, mVarB, mRetV, slotV, slotB, mC, mCons, mNil, mTup, mSized, mFr, mT, asB, mChain, mIf, mNot, mTru, truB, mAnd, mOr, mCallF, mCall, mGName, mGCons, mGNil, mGTup, mPar, mYes, c1, oI0, oI, List.map_cons, List.map_nil, List.length_cons, List.length_nil, List.replicate, List.cons_append, List.nil_append, List.getElem?_cons_zero, List.getElem?_cons_succ, List.set_cons_zero, List.set_cons_succ, oAdd, oSub, oIx, oIs, oIsNot, cLen, oTup , oLe, oLt, oGt, oGe, oEq_int, oNe_int, oEq_str, oNe_str, itemD_0, itemD_1, itemD_2, itemD_3, decide_eq_true_eq, true_and, Bool.false_eq_true, if_false , mOwn, mApp, mRng1, mRng2, rng1, rng2, mSeqD, seqD, mEnum, enumD, oPow , sz0, sz1, sz2, sz3, sz4, sz5, sz6, sz7, sz8, sz9, sz10, sz11, sz12, sz13, sz14, sz15, sz16, oMul_tup, oMul_int]
    rw [List.length_cons] at hl
    refine ⟨⟨by decide, by decide, by decide⟩, draw_ok (by decide) (by decide) fun r3 g3 g4 => ?_⟩
    simp only [mLc, mSeq, mNext, mRet, mSet, mDrop, mIfS, mOp, mVar, mVarB, mRetV, slotV, slotB, mC, mCons, mNil, mTup, mSized, mFr, mT, asB, mChain, mIf, mNot, mTru, truB, mAnd, mOr, mCallF, mCall, mGName, mGCons, mGNil, mGTup, mPar, mYes, c1, oI0, oI, List.map_cons, List.map_nil, List.length_cons, List.length_nil, List.replicate, List.cons_append, List.nil_append, List.getElem?_cons_zero, List.getElem?_cons_succ, List.set_cons_zero, List.set_cons_succ, oAdd, oSub, oIx, oIs, oIsNot, cLen, oTup , oLe, oLt, oGt, oGe, oEq_int, oNe_int, oEq_str, oNe_str, itemD_0, itemD_1, itemD_2, itemD_3, decide_eq_true_eq, true_and, Bool.false_eq_true, if_false , mOwn, mApp, mRng1, mRng2, rng1, rng2, mSeqD, seqD, mEnum, enumD, oPow , sz0, sz1, sz2, sz3, sz4, sz5, sz6, sz7, sz8, sz9, sz10, sz11, sz12, sz13, sz14, sz15, sz16, oMul_tup, oMul_int]
    refine ⟨rfl, draw_ok (by decide) (by decide) fun r4 g5 g6 => ?_⟩
    simp only [mSeq, mNext, mRet, mSet, mDrop, mIfS, mOp, mVar, mVarB, mRetV, slotV, slotB, mC, mCons, mNil, mTup, mSized, mFr, mT, asB, mChain, mIf, mNot, mTru, truB, mAnd, mOr, mCallF, mCall, mGName, mGCons, mGNil, mGTup, mPar, mYes, c1, oI0, oI, List.map_cons, List.map_nil, List.length_cons, List.length_nil, List.replicate, List.cons_append, List.nil_append, List.getElem?_cons_zero, List.getElem?_cons_succ, List.set_cons_zero, List.set_cons_succ, oAdd, oSub, oIx, oIs, oIsNot, cLen, oTup , oLe, oLt, oGt, oGe, oEq_int, oNe_int, oEq_str, oNe_str, itemD_0, itemD_1, itemD_2, itemD_3, decide_eq_true_eq, true_and, Bool.false_eq_true, if_false , mOwn, mApp, mRng1, mRng2, rng1, rng2, mSeqD, seqD, mEnum, enumD, oPow , sz0, sz1, sz2, sz3, sz4, sz5, sz6, sz7, sz8, sz9, sz10, sz11, sz12, sz13, sz14, sz15, sz16, oMul_tup, oMul_int]
    refine ⟨⟨by omega, by omega⟩, lcL_rel (fun _ y => okV y) _ [] (few (by rw [rangeD_length]; simp only [List.length_nil]; omega)) (fun d' hd' K1 hK => ?_) fun ys hys => ?_⟩
    · simp only [wipeE, mSeq, mNext, mRet, mSet, mDrop, mIfS, mOp, mVar, mVarB, mRetV, slotV, slotB, mC, mCons, mNil, mTup, mSized, mFr, mT, asB, mChain, mIf, mNot, mTru, truB, mAnd, mOr, mCallF, mCall, mGName, mGCons, mGNil, mGTup, mPar, mYes, c1, oI0, oI, List.map_cons, List.map_nil, List.length_cons, List.length_nil, List.replicate, List.cons_append, List.nil_append, List.getElem?_cons_zero, List.getElem?_cons_succ, List.set_cons_zero, List.set_cons_succ, oAdd, oSub, oIx, oIs, oIsNot, cLen, oTup , oLe, oLt, oGt, oGe, oEq_int, oNe_int, oEq_str, oNe_str, itemD_0, itemD_1, itemD_2, itemD_3, decide_eq_true_eq, true_and, Bool.false_eq_true, if_false , mOwn, mApp, mRng1, mRng2, rng1, rng2, mSeqD, seqD, mEnum, enumD, oPow , sz0, sz1, sz2, sz3, sz4, sz5, sz6, sz7, sz8, sz9, sz10, sz11, sz12, sz13, sz14, sz15, sz16, oMul_tup, oMul_int]
      refine draw_ok (by decide) (by decide) fun r5 g7 g8 => itemD_all g7 g8 fun e he => hK e ?_
      simp only [List.mem_cons, List.not_mem_nil, or_false] at he
      rcases he with rfl | rfl | rfl | rfl | rfl
      · exact .inl rfl
      · exact .inr ⟨_, rfl, by decide, by decide⟩
      · exact .inr ⟨_, rfl, by decide, by decide⟩
      · exact .inr ⟨_, rfl, by decide, by decide⟩
      · exact .inr ⟨_, rfl, by omega, by omega⟩
    rw [List.nil_append]
    have hyl := hys.length
    rw [rangeD_length] at hyl
    refine draw_ok (by decide) (by decide) fun r6 g9 g10 => ?_
    simp only [mSeq, mNext, mRet, mSet, mDrop, mIfS, mOp, mVar, mVarB, mRetV, slotV, slotB, mC, mCons, mNil, mTup, mSized, mFr, mT, asB, mChain, mIf, mNot, mTru, truB, mAnd, mOr, mCallF, mCall, mGName, mGCons, mGNil, mGTup, mPar, mYes, c1, oI0, oI, List.map_cons, List.map_nil, List.length_cons, List.length_nil, List.replicate, List.cons_append, List.nil_append, List.getElem?_cons_zero, List.getElem?_cons_succ, List.set_cons_zero, List.set_cons_succ, oAdd, oSub, oIx, oIs, oIsNot, cLen, oTup , oLe, oLt, oGt, oGe, oEq_int, oNe_int, oEq_str, oNe_str, itemD_0, itemD_1, itemD_2, itemD_3, decide_eq_true_eq, true_and, Bool.false_eq_true, if_false , mOwn, mApp, mRng1, mRng2, rng1, rng2, mSeqD, seqD, mEnum, enumD, oPow , sz0, sz1, sz2, sz3, sz4, sz5, sz6, sz7, sz8, sz9, sz10, sz11, sz12, sz13, sz14, sz15, sz16, oMul_tup, oMul_int]
    refine ⟨few (by omega), hN _ ⟨_, _, _, _, _, rfl, by rw [List.length_append]; simp only [List.length_cons, List.length_nil]; omega, fun p hp' => ?_⟩⟩
    rcases List.mem_append.mp hp' with z | z
    · exact hp p z
    · cases List.mem_singleton.mp z
      refine ⟨b0 + r2, ys, _, rfl, by omega, by omega, by omega, fun v hv => ?_⟩
      obtain ⟨_, _, z⟩ := hys.mem v hv
      exact z
  · rintro en ⟨ps, s3, s4, s5, s6, rfl, hl, hp⟩
    simp only [mSeq, mNext, mRet, mSet, mDrop, mIfS, mOp, mVar, mVarB, mRetV, slotV, slotB, mC, mCons, mNil, mTup, mSized, mFr, mT, asB, mChain, mIf, mNot, mTru, truB, mAnd, mOr, mCallF, mCall, mGName, mGCons, mGNil, mGTup, mPar, mYes, c1, oI0, oI, List.map_cons, List.map_nil, List.length_cons, List.length_nil, List.replicate, List.cons_append, List.nil_append, List.getElem?_cons_zero, List.getElem?_cons_succ, List.set_cons_zero, List.set_cons_succ, oAdd, oSub, oIx, oIs, oIsNot, cLen, oTup , oLe, oLt, oGt, oGe, oEq_int, oNe_int, oEq_str, oNe_str, itemD_0, itemD_1, itemD_2, itemD_3, decide_eq_true_eq, true_and, Bool.false_eq_true, if_false , mOwn, mApp, mRng1, mRng2, rng1, rng2, mSeqD, seqD, mEnum, enumD, oPow , sz0, sz1, sz2, sz3, sz4, sz5, sz6, sz7, sz8, sz9, sz10, sz11, sz12, sz13, sz14, sz15, sz16, oMul_tup, oMul_int]
    exact hP ps ⟨by simpa using hl, hp⟩
theorem okR.rb {ps : List D} (h : okR ps) : Rb 3 70000 (.tup ps) := by
  refine Rb.tup ((RbAll.each (k := 2) (m := 5004) fun d hd => ?_).le (Nat.le_refl _) (by have := h.1; omega))
  obtain ⟨b, vs, l, rfl, h0, h1, h2, h3⟩ := h.2 d hd
  have z : RbAll 0 5000 vs := (RbAll.each (k := 0) (m := 0) fun v hv => (h3 v hv).rb).le (Nat.le_refl _) (by omega)
  exact (Rb.tup (RbAll.cons (k := 1) (n := 0) (.int (by omega)) (RbAll.cons (Rb.tup z) (RbAll.cons (n := 0) (m := 0) .bl .nil)))).le (by decide) (by decide)
theorem mem_rep {d e : D} {n : Nat} (h : d ∈ (List.replicate n [e]).flatten) : d = e := by
  obtain ⟨l, h1, h2⟩ := List.mem_flatten.mp h
  rw [(List.mem_replicate.mp h1).2] at h2
  exact List.mem_singleton.mp h2
theorem len_rep {e : D} {n : Nat} : (List.replicate n [e]).flatten.length = n := by
  rw [List.length_flatten, List.map_replicate, List.sum_replicate_nat]
  simp
theorem law_ok {E : Ed} (hE : E.rt (.bl true)) : m_law dl E [.no, .val (.obj dl), .no, .no, .no, .no, .no, .no, .no, .no, .no, .no] := by
  simp only [m_law, mSeq, mNext, mRet, mSet, mDrop, mIfS, mOp, mVar, mVarB, mRetV, slotV, slotB, mC, mCons, mNil, mTup, mSized, mFr, mT, asB, mChain, mIf, mNot, mTru, truB, mAnd, mOr, mCallF, mCall, mGName, mGCons, mGNil, mGTup, mPar, mYes, c1, oI0, oI, List.map_cons, List.map_nil, List.length_cons, List.length_nil, List.replicate, List.cons_append, List.nil_append, List.getElem?_cons_zero, List.getElem?_cons_succ, List.set_cons_zero, List.set_cons_succ, oAdd, oSub, oIx, oIs, oIsNot, cLen, oTup , oLe, oLt, oGt, oGe, oEq_int, oNe_int, oEq_str, oNe_str, itemD_0, itemD_1, itemD_2, itemD_3, decide_eq_true_eq, true_and, Bool.false_eq_true, if_false , mOwn, mApp, mRng1, mRng2, rng1, rng2, mSeqD, seqD, mEnum, enumD, oPow , sz0, sz1, sz2, sz3, sz4, sz5, sz6, sz7, sz8, sz9, sz10, sz11, sz12, sz13, sz14, sz15, sz16, oMul_tup, oMul_int]
  refine ⟨⟨by simp, by decide, by decide⟩, ?_⟩
  generalize hA : (List.replicate (Int.toNat 4999) [D.non]).flatten = A
  generalize hB : (List.replicate (Int.toNat 5000) [D.int 0]).flatten = B
  have lA : A.length = 4999 := by rw [← hA, len_rep]; rfl
  have lB : B.length = 5000 := by rw [← hB, len_rep]; rfl
  have mA : ∀ v ∈ A, v = .non := fun v hv => by rw [← hA] at hv; exact mem_rep hv
  have mB : ∀ v ∈ B, v = .int 0 := fun v hv => by rw [← hB] at hv; exact mem_rep hv
  refine ⟨few (by rw [lA]; decide), ⟨by simp, by decide, by decide⟩, ?_⟩
  simp only [mLc, mSeq, mNext, mRet, mSet, mDrop, mIfS, mOp, mVar, mVarB, mRetV, slotV, slotB, mC, mCons, mNil, mTup, mSized, mFr, mT, asB, mChain, mIf, mNot, mTru, truB, mAnd, mOr, mCallF, mCall, mGName, mGCons, mGNil, mGTup, mPar, mYes, c1, oI0, oI, List.map_cons, List.map_nil, List.length_cons, List.length_nil, List.replicate, List.cons_append, List.nil_append, List.getElem?_cons_zero, List.getElem?_cons_succ, List.set_cons_zero, List.set_cons_succ, oAdd, oSub, oIx, oIs, oIsNot, cLen, oTup , oLe, oLt, oGt, oGe, oEq_int, oNe_int, oEq_str, oNe_str, itemD_0, itemD_1, itemD_2, itemD_3, decide_eq_true_eq, true_and, Bool.false_eq_true, if_false , mOwn, mApp, mRng1, mRng2, rng1, rng2, mSeqD, seqD, mEnum, enumD, oPow , sz0, sz1, sz2, sz3, sz4, sz5, sz6, sz7, sz8, sz9, sz10, sz11, sz12, sz13, sz14, sz15, sz16, oMul_tup, oMul_int]
  refine ⟨rfl, ⟨by decide, by decide⟩, lcL_rel (fun _ y => ∃ ps, y = .tup ps ∧ okR ps) _ [] (few (by rw [rangeD_length]; decide)) (fun d' hd' K1 hK => ?_) fun ys hys => ?_⟩
  · simp only [wipeE, mSeq, mNext, mRet, mSet, mDrop, mIfS, mOp, mVar, mVarB, mRetV, slotV, slotB, mC, mCons, mNil, mTup, mSized, mFr, mT, asB, mChain, mIf, mNot, mTru, truB, mAnd, mOr, mCallF, mCall, mGName, mGCons, mGNil, mGTup, mPar, mYes, c1, oI0, oI, List.map_cons, List.map_nil, List.length_cons, List.length_nil, List.replicate, List.cons_append, List.nil_append, List.getElem?_cons_zero, List.getElem?_cons_succ, List.set_cons_zero, List.set_cons_succ, oAdd, oSub, oIx, oIs, oIsNot, cLen, oTup , oLe, oLt, oGt, oGe, oEq_int, oNe_int, oEq_str, oNe_str, itemD_0, itemD_1, itemD_2, itemD_3, decide_eq_true_eq, true_and, Bool.false_eq_true, if_false , mOwn, mApp, mRng1, mRng2, rng1, rng2, mSeqD, seqD, mEnum, enumD, oPow , sz0, sz1, sz2, sz3, sz4, sz5, sz6, sz7, sz8, sz9, sz10, sz11, sz12, sz13, sz14, sz15, sz16, oMul_tup, oMul_int]
    exact row_ok fun ps h => hK _ ⟨ps, rfl, h⟩
  rw [List.nil_append]
  have hyl := hys.length
  rw [rangeD_length] at hyl
  refine ⟨few (by rw [hyl]; decide), ?_⟩
  have hr : ∀ d ∈ ([D.tup [], D.tup [pc 0 [D.non, D.non] true], D.tup [pc 4999 [D.int 7] false, pc 0 (A ++ [D.int 8]) true]] ++ [D.tup [pc 0 B false]] ++ ys), ∃ ps, d = .tup ps ∧ okR ps := fun d hd => by
    rcases List.mem_append.mp hd with hd | hd
    · simp only [List.cons_append, List.nil_append, List.mem_cons, List.not_mem_nil, or_false] at hd
      rcases hd with rfl | rfl | rfl | rfl
      · exact ⟨_, rfl, by decide, fun p hp => by cases hp⟩
      · refine ⟨_, rfl, by decide, fun p hp => ?_⟩
        cases List.mem_singleton.mp hp
        refine ⟨_, _, _, rfl, by decide, by decide, by decide, fun v hv => ?_⟩
        simp only [List.mem_cons, List.not_mem_nil, or_false, or_self] at hv
        exact .inl hv
      · refine ⟨_, rfl, Nat.le_of_ble_eq_true rfl, fun p hp => ?_⟩
        simp only [List.mem_cons, List.not_mem_nil, or_false] at hp
        rcases hp with rfl | rfl
        · refine ⟨_, _, _, rfl, by decide, by decide, by decide, fun v hv => ?_⟩
          exact .inr ⟨7, List.mem_singleton.mp hv, by decide, by decide⟩
        · refine ⟨_, _, _, rfl, by decide, by decide, by rw [List.length_append, lA]; decide, fun v hv => ?_⟩
          rcases List.mem_append.mp hv with z | z
          · exact .inl (mA v z)
          · exact .inr ⟨8, List.mem_singleton.mp z, by decide, by decide⟩
      · refine ⟨_, rfl, Nat.le_of_ble_eq_true rfl, fun p hp => ?_⟩
        cases List.mem_singleton.mp hp
        exact ⟨_, _, _, rfl, by decide, by decide, by rw [lB]; decide, fun v hv => .inr ⟨0, mB v hv, by decide, by decide⟩⟩
    · obtain ⟨_, _, z⟩ := hys.mem d hd
      exact z
  simp only [mFor, mSeq, mNext, mRet, mSet, mDrop, mIfS, mOp, mVar, mVarB, mRetV, slotV, slotB, mC, mCons, mNil, mTup, mSized, mFr, mT, asB, mChain, mIf, mNot, mTru, truB, mAnd, mOr, mCallF, mCall, mGName, mGCons, mGNil, mGTup, mPar, mYes, c1, oI0, oI, List.map_cons, List.map_nil, List.length_cons, List.length_nil, List.replicate, List.cons_append, List.nil_append, List.getElem?_cons_zero, List.getElem?_cons_succ, List.set_cons_zero, List.set_cons_succ, oAdd, oSub, oIx, oIs, oIsNot, cLen, oTup , oLe, oLt, oGt, oGe, oEq_int, oNe_int, oEq_str, oNe_str, itemD_0, itemD_1, itemD_2, itemD_3, decide_eq_true_eq, true_and, Bool.false_eq_true, if_false , mOwn, mApp, mRng1, mRng2, rng1, rng2, mSeqD, seqD, mEnum, enumD, oPow , sz0, sz1, sz2, sz3, sz4, sz5, sz6, sz7, sz8, sz9, sz10, sz11, sz12, sz13, sz14, sz15, sz16, oMul_tup, oMul_int]
  refine forL_of (fun rest en => (∀ d ∈ rest, ∃ ps, d = .tup ps ∧ okR ps) ∧ ∃ (s2 s3 s4 s5 s6 s7 s8 s9 : Sl), en = [Sl.no, Sl.val (.obj dl), s2, s3, s4, s5, s6, s7, s8, s9, Sl.no, Sl.no] ∧ nOwn s6) ?_ ?_ _ _ ⟨hr, _, _, _, _, _, _, _, _, rfl, rfl⟩
  · rintro d ds en N ⟨hd, s2, s3, s4, s5, s6, s7, s8, s9, rfl, h6⟩ hN
    obtain ⟨ps, rfl, hps⟩ := hd d List.mem_cons_self
    simp only [mLc, M__law_draw, mSeq, mNext, mRet, mSet, mDrop, mIfS, mOp, mVar, mVarB, mRetV, slotV, slotB, mC, mCons, mNil, mTup, mSized, mFr, mT, asB, mChain, mIf, mNot, mTru, truB, mAnd, mOr, mCallF, mCall, mGName, mGCons, mGNil, mGTup, mPar, mYes, c1, oI0, oI, List.map_cons, List.map_nil, List.length_cons, List.length_nil, List.replicate, List.cons_append, List.nil_append, List.getElem?_cons_zero, List.getElem?_cons_succ, List.set_cons_zero, List.set_cons_succ, oAdd, oSub, oIx, oIs, oIsNot, cLen, oTup , oLe, oLt, oGt, oGe, oEq_int, oNe_int, oEq_str, oNe_str, itemD_0, itemD_1, itemD_2, itemD_3, decide_eq_true_eq, true_and, Bool.false_eq_true, if_false , mOwn, mApp, mRng1, mRng2, rng1, rng2, mSeqD, seqD, mEnum, enumD, oPow , sz0, sz1, sz2, sz3, sz4, sz5, sz6, sz7, sz8, sz9, sz10, sz11, sz12, sz13, sz14, sz15, sz16, oMul_tup, oMul_int]
    refine hps.rb.repr (by decide) (by decide) ⟨⟨by decide, by decide, by decide⟩, ?_⟩
    refine ⟨rfl, ⟨by decide, by decide⟩, lcL_rel (fun _ y => ∃ q : Int, y = .int q) _ [] (few (by rw [rangeD_length]; decide)) (fun d' hd' K1 hK => ?_) fun zs hzs => ?_⟩
    · simp only [wipeE, mSeq, mNext, mRet, mSet, mDrop, mIfS, mOp, mVar, mVarB, mRetV, slotV, slotB, mC, mCons, mNil, mTup, mSized, mFr, mT, asB, mChain, mIf, mNot, mTru, truB, mAnd, mOr, mCallF, mCall, mGName, mGCons, mGNil, mGTup, mPar, mYes, c1, oI0, oI, List.map_cons, List.map_nil, List.length_cons, List.length_nil, List.replicate, List.cons_append, List.nil_append, List.getElem?_cons_zero, List.getElem?_cons_succ, List.set_cons_zero, List.set_cons_succ, oAdd, oSub, oIx, oIs, oIsNot, cLen, oTup , oLe, oLt, oGt, oGe, oEq_int, oNe_int, oEq_str, oNe_str, itemD_0, itemD_1, itemD_2, itemD_3, decide_eq_true_eq, true_and, Bool.false_eq_true, if_false , mOwn, mApp, mRng1, mRng2, rng1, rng2, mSeqD, seqD, mEnum, enumD, oPow , sz0, sz1, sz2, sz3, sz4, sz5, sz6, sz7, sz8, sz9, sz10, sz11, sz12, sz13, sz14, sz15, sz16, oMul_tup, oMul_int]
      exact draw_ok (by decide) (by decide) fun r _ _ => hK _ ⟨r, rfl⟩
    rw [List.nil_append]
    have hzl : zs.length = 4 := by have z := hzs.length; rw [rangeD_length] at z; exact z
    refine ⟨few (by omega), ?_⟩
    simp only [mFor, mSeq, mNext, mRet, mSet, mDrop, mIfS, mOp, mVar, mVarB, mRetV, slotV, slotB, mC, mCons, mNil, mTup, mSized, mFr, mT, asB, mChain, mIf, mNot, mTru, truB, mAnd, mOr, mCallF, mCall, mGName, mGCons, mGNil, mGTup, mPar, mYes, c1, oI0, oI, List.map_cons, List.map_nil, List.length_cons, List.length_nil, List.replicate, List.cons_append, List.nil_append, List.getElem?_cons_zero, List.getElem?_cons_succ, List.set_cons_zero, List.set_cons_succ, oAdd, oSub, oIx, oIs, oIsNot, cLen, oTup , oLe, oLt, oGt, oGe, oEq_int, oNe_int, oEq_str, oNe_str, itemD_0, itemD_1, itemD_2, itemD_3, decide_eq_true_eq, true_and, Bool.false_eq_true, if_false , mOwn, mApp, mRng1, mRng2, rng1, rng2, mSeqD, seqD, mEnum, enumD, oPow , sz0, sz1, sz2, sz3, sz4, sz5, sz6, sz7, sz8, sz9, sz10, sz11, sz12, sz13, sz14, sz15, sz16, oMul_tup, oMul_int]
    refine forL_of (fun rest en => (∀ p ∈ rest, okP p) ∧ ∃ (ws : List D) (t6 t8 : Sl), en = [Sl.no, Sl.val (.obj dl), s2, Sl.val (.tup ps), Sl.val (.str (py (.tup ps)).shown), Sl.val (.lst ws), t6, s7, t8, s9, Sl.no, Sl.no] ∧ nOwn t6 ∧ ws.length + 4 * rest.length ≤ 60 ∧ ∀ d ∈ ws, ∃ q : Int, d = .int q) ?_ ?_ _ _
      ⟨hps.2, _, _, _, rfl, h6, by simp only [List.length_cons]; have := hps.1; omega, fun d hd => ?_⟩
    · rintro p rest en N' ⟨hp, ws, t6, t8, rfl, g6, hl, hw⟩ hN'
      obtain ⟨b, vs, l, rfl, hb0, hb1, hvl, hv⟩ := hp p List.mem_cons_self
      rw [List.length_cons] at hl
      simp only [mSeq, mNext, mRet, mSet, mDrop, mIfS, mOp, mVar, mVarB, mRetV, slotV, slotB, mC, mCons, mNil, mTup, mSized, mFr, mT, asB, mChain, mIf, mNot, mTru, truB, mAnd, mOr, mCallF, mCall, mGName, mGCons, mGNil, mGTup, mPar, mYes, c1, oI0, oI, List.map_cons, List.map_nil, List.length_cons, List.length_nil, List.replicate, List.cons_append, List.nil_append, List.getElem?_cons_zero, List.getElem?_cons_succ, List.set_cons_zero, List.set_cons_succ, oAdd, oSub, oIx, oIs, oIsNot, cLen, oTup , oLe, oLt, oGt, oGe, oEq_int, oNe_int, oEq_str, oNe_str, itemD_0, itemD_1, itemD_2, itemD_3, decide_eq_true_eq, true_and, Bool.false_eq_true, if_false , mOwn, mApp, mRng1, mRng2, rng1, rng2, mSeqD, seqD, mEnum, enumD, oPow , sz0, sz1, sz2, sz3, sz4, sz5, sz6, sz7, sz8, sz9, sz10, sz11, sz12, sz13, sz14, sz15, sz16, oMul_tup, oMul_int]
      refine ⟨few (by omega), ?_⟩
      have hrest : ∀ p ∈ rest, okP p := fun p h => hp p (List.mem_cons_of_mem _ h)
      by_cases hb : 0 < b
      · rw [if_pos hb]
        refine ⟨few (by simp only [List.length_append, List.length_cons, List.length_nil]; omega), hN' _ ⟨hrest, _, _, _, rfl, rfl, by simp only [List.length_append, List.length_cons, List.length_nil]; omega, fun d hd => ?_⟩⟩
        simp only [List.mem_append, List.mem_cons, List.not_mem_nil, or_false] at hd
        rcases hd with (hd | hd | hd | hd) | hd
        · exact hw d hd
        · exact ⟨_, hd⟩
        · exact ⟨_, hd⟩
        · exact ⟨_, hd⟩
        · exact ⟨_, hd⟩
      · rw [if_neg hb]
        refine ⟨few (by simp only [List.length_append, List.length_cons, List.length_nil]; omega), hN' _ ⟨hrest, _, _, _, rfl, rfl, by simp only [List.length_append, List.length_cons, List.length_nil]; omega, fun d hd => ?_⟩⟩
        simp only [List.mem_append, List.mem_cons, List.not_mem_nil, or_false] at hd
        rcases hd with (hd | hd | hd | hd)
        · exact hw d hd
        · exact ⟨_, hd⟩
        · exact ⟨_, hd⟩
        · exact ⟨_, hd⟩
    · rintro en ⟨_, ws, t6, t8, rfl, g6, hl, hw⟩
      rw [List.length_nil, Nat.mul_zero, Nat.add_zero] at hl
      simp only [mLc, mSeq, mNext, mRet, mSet, mDrop, mIfS, mOp, mVar, mVarB, mRetV, slotV, slotB, mC, mCons, mNil, mTup, mSized, mFr, mT, asB, mChain, mIf, mNot, mTru, truB, mAnd, mOr, mCallF, mCall, mGName, mGCons, mGNil, mGTup, mPar, mYes, c1, oI0, oI, List.map_cons, List.map_nil, List.length_cons, List.length_nil, List.replicate, List.cons_append, List.nil_append, List.getElem?_cons_zero, List.getElem?_cons_succ, List.set_cons_zero, List.set_cons_succ, oAdd, oSub, oIx, oIs, oIsNot, cLen, oTup , oLe, oLt, oGt, oGe, oEq_int, oNe_int, oEq_str, oNe_str, itemD_0, itemD_1, itemD_2, itemD_3, decide_eq_true_eq, true_and, Bool.false_eq_true, if_false , mOwn, mApp, mRng1, mRng2, rng1, rng2, mSeqD, seqD, mEnum, enumD, oPow , sz0, sz1, sz2, sz3, sz4, sz5, sz6, sz7, sz8, sz9, sz10, sz11, sz12, sz13, sz14, sz15, sz16, oMul_tup, oMul_int]
      refine ⟨by show (!isOwn (some t6) && true) = true; rw [g6]; rfl, lcL_of (fun _ => some (.bl true)) _ [] (few (by simp only [List.length_nil]; have := hps.1; omega)) ?_ ?_⟩
      · intro p hp K1 K0 h1 h0
        obtain ⟨b, vs, l, rfl, hh⟩ := hps.2 p hp
        simp only [wipeE, if_true, mSeq, mNext, mRet, mSet, mDrop, mIfS, mOp, mVar, mVarB, mRetV, slotV, slotB, mC, mCons, mNil, mTup, mSized, mFr, mT, asB, mChain, mIf, mNot, mTru, truB, mAnd, mOr, mCallF, mCall, mGName, mGCons, mGNil, mGTup, mPar, mYes, c1, oI0, oI, List.map_cons, List.map_nil, List.length_cons, List.length_nil, List.replicate, List.cons_append, List.nil_append, List.getElem?_cons_zero, List.getElem?_cons_succ, List.set_cons_zero, List.set_cons_succ, oAdd, oSub, oIx, oIs, oIsNot, cLen, oTup , oLe, oLt, oGt, oGe, oEq_int, oNe_int, oEq_str, oNe_str, itemD_0, itemD_1, itemD_2, itemD_3, decide_eq_true_eq, true_and, Bool.false_eq_true, if_false , mOwn, mApp, mRng1, mRng2, rng1, rng2, mSeqD, seqD, mEnum, enumD, oPow , sz0, sz1, sz2, sz3, sz4, sz5, sz6, sz7, sz8, sz9, sz10, sz11, sz12, sz13, sz14, sz15, sz16, oMul_tup, oMul_int]
        exact right_ok ⟨b, vs, l, rfl, hh⟩ hw (by omega) (h1 _ rfl)
      rw [List.nil_append]
      refine all_true (fun d hd => ?_) ?_
      · obtain ⟨_, _, z⟩ := List.mem_filterMap.mp hd
        exact (Option.some.inj z).symm
      simp only [Bool.not_true, mFor, mSeq, mNext, mRet, mSet, mDrop, mIfS, mOp, mVar, mVarB, mRetV, slotV, slotB, mC, mCons, mNil, mTup, mSized, mFr, mT, asB, mChain, mIf, mNot, mTru, truB, mAnd, mOr, mCallF, mCall, mGName, mGCons, mGNil, mGTup, mPar, mYes, c1, oI0, oI, List.map_cons, List.map_nil, List.length_cons, List.length_nil, List.replicate, List.cons_append, List.nil_append, List.getElem?_cons_zero, List.getElem?_cons_succ, List.set_cons_zero, List.set_cons_succ, oAdd, oSub, oIx, oIs, oIsNot, cLen, oTup , oLe, oLt, oGt, oGe, oEq_int, oNe_int, oEq_str, oNe_str, itemD_0, itemD_1, itemD_2, itemD_3, decide_eq_true_eq, true_and, Bool.false_eq_true, if_false , mOwn, mApp, mRng1, mRng2, rng1, rng2, mSeqD, seqD, mEnum, enumD, oPow , sz0, sz1, sz2, sz3, sz4, sz5, sz6, sz7, sz8, sz9, sz10, sz11, sz12, sz13, sz14, sz15, sz16, oMul_tup, oMul_int]
      refine forL_of (fun rest en => (∀ d ∈ rest, ∃ q : Int, d = .int q) ∧ ∃ (t7 t9 : Sl), en = [Sl.no, Sl.val (.obj dl), s2, Sl.val (.tup ps), Sl.val (.str (py (.tup ps)).shown), Sl.val (.lst ws), t6, t7, t8, t9, Sl.no, Sl.no]) ?_ ?_ _ _ ⟨hw, _, _, rfl⟩
      · rintro d rest en N2 ⟨hq, t7, t9, rfl⟩ hN2
        obtain ⟨q, rfl⟩ := hq d List.mem_cons_self
        simp only [mLc, mSeq, mNext, mRet, mSet, mDrop, mIfS, mOp, mVar, mVarB, mRetV, slotV, slotB, mC, mCons, mNil, mTup, mSized, mFr, mT, asB, mChain, mIf, mNot, mTru, truB, mAnd, mOr, mCallF, mCall, mGName, mGCons, mGNil, mGTup, mPar, mYes, c1, oI0, oI, List.map_cons, List.map_nil, List.length_cons, List.length_nil, List.replicate, List.cons_append, List.nil_append, List.getElem?_cons_zero, List.getElem?_cons_succ, List.set_cons_zero, List.set_cons_succ, oAdd, oSub, oIx, oIs, oIsNot, cLen, oTup , oLe, oLt, oGt, oGe, oEq_int, oNe_int, oEq_str, oNe_str, itemD_0, itemD_1, itemD_2, itemD_3, decide_eq_true_eq, true_and, Bool.false_eq_true, if_false , mOwn, mApp, mRng1, mRng2, rng1, rng2, mSeqD, seqD, mEnum, enumD, oPow , sz0, sz1, sz2, sz3, sz4, sz5, sz6, sz7, sz8, sz9, sz10, sz11, sz12, sz13, sz14, sz15, sz16, oMul_tup, oMul_int]
        refine ⟨rfl, ⟨by have := hps.1; omega, by have := hps.1; omega⟩, ?_⟩
        rw [Int.toNat_natCast]
        refine lcL_of (selR (fun d => isN (valO q d)) (fun i => .int i) ps) _ [] (few (by rw [rangeD_length]; simp only [List.length_nil]; have := hps.1; omega)) ?_ ?_
        · intro d hd K1 K0 h1 h0
          obtain ⟨i, hi, rfl⟩ := rangeD_mem hd
          simp only [wipeE, isN_non, mSeq, mNext, mRet, mSet, mDrop, mIfS, mOp, mVar, mVarB, mRetV, slotV, slotB, mC, mCons, mNil, mTup, mSized, mFr, mT, asB, mChain, mIf, mNot, mTru, truB, mAnd, mOr, mCallF, mCall, mGName, mGCons, mGNil, mGTup, mPar, mYes, c1, oI0, oI, List.map_cons, List.map_nil, List.length_cons, List.length_nil, List.replicate, List.cons_append, List.nil_append, List.getElem?_cons_zero, List.getElem?_cons_succ, List.set_cons_zero, List.set_cons_succ, oAdd, oSub, oIx, oIs, oIsNot, cLen, oTup , oLe, oLt, oGt, oGe, oEq_int, oNe_int, oEq_str, oNe_str, itemD_0, itemD_1, itemD_2, itemD_3, decide_eq_true_eq, true_and, Bool.false_eq_true, if_false , mOwn, mApp, mRng1, mRng2, rng1, rng2, mSeqD, seqD, mEnum, enumD, oPow , sz0, sz1, sz2, sz3, sz4, sz5, sz6, sz7, sz8, sz9, sz10, sz11, sz12, sz13, sz14, sz15, sz16, oMul_tup, oMul_int]
          refine itemD_at (by omega) (by rw [Int.toNat_natCast]; exact List.getElem?_eq_getElem hi) ?_
          simp only [selR, Int.toNat_natCast, List.getElem?_eq_getElem hi, Option.getD_some] at h1 h0
          obtain ⟨b, vs, l, e, _⟩ := hps.2 ps[i] (List.getElem_mem hi)
          rw [e] at h1 h0 ⊢
          refine lvalue_ok ?_
          simp only [valO] at h1 h0
          cases e2 : isN (valD b vs q) with
          | true =>
            simp only [Bool.not_true, mSeq, mNext, mRet, mSet, mDrop, mIfS, mOp, mVar, mVarB, mRetV, slotV, slotB, mC, mCons, mNil, mTup, mSized, mFr, mT, asB, mChain, mIf, mNot, mTru, truB, mAnd, mOr, mCallF, mCall, mGName, mGCons, mGNil, mGTup, mPar, mYes, c1, oI0, oI, List.map_cons, List.map_nil, List.length_cons, List.length_nil, List.replicate, List.cons_append, List.nil_append, List.getElem?_cons_zero, List.getElem?_cons_succ, List.set_cons_zero, List.set_cons_succ, oAdd, oSub, oIx, oIs, oIsNot, cLen, oTup , oLe, oLt, oGt, oGe, oEq_int, oNe_int, oEq_str, oNe_str, itemD_0, itemD_1, itemD_2, itemD_3, decide_eq_true_eq, true_and, Bool.false_eq_true, if_false , mOwn, mApp, mRng1, mRng2, rng1, rng2, mSeqD, seqD, mEnum, enumD, oPow , sz0, sz1, sz2, sz3, sz4, sz5, sz6, sz7, sz8, sz9, sz10, sz11, sz12, sz13, sz14, sz15, sz16, oMul_tup, oMul_int]
            exact h0 (by simp only [e2, if_true])
          | false =>
            simp only [Bool.not_false, if_true, mSeq, mNext, mRet, mSet, mDrop, mIfS, mOp, mVar, mVarB, mRetV, slotV, slotB, mC, mCons, mNil, mTup, mSized, mFr, mT, asB, mChain, mIf, mNot, mTru, truB, mAnd, mOr, mCallF, mCall, mGName, mGCons, mGNil, mGTup, mPar, mYes, c1, oI0, oI, List.map_cons, List.map_nil, List.length_cons, List.length_nil, List.replicate, List.cons_append, List.nil_append, List.getElem?_cons_zero, List.getElem?_cons_succ, List.set_cons_zero, List.set_cons_succ, oAdd, oSub, oIx, oIs, oIsNot, cLen, oTup , oLe, oLt, oGt, oGe, oEq_int, oNe_int, oEq_str, oNe_str, itemD_0, itemD_1, itemD_2, itemD_3, decide_eq_true_eq, true_and, Bool.false_eq_true, if_false , mOwn, mApp, mRng1, mRng2, rng1, rng2, mSeqD, seqD, mEnum, enumD, oPow , sz0, sz1, sz2, sz3, sz4, sz5, sz6, sz7, sz8, sz9, sz10, sz11, sz12, sz13, sz14, sz15, sz16, oMul_tup, oMul_int]
            exact h1 _ (by simp only [e2, Bool.false_eq_true, if_false])
        rw [sel_range, List.nil_append]
        have rs : RbAll 0 12 (sel (fun d => isN (valO q d)) (fun i => .int i) 0 ps) := by
          refine (RbAll.each (k := 0) (m := 0) fun d hd => ?_).le (Nat.le_refl _) (by have := sel_len (fun d => isN (valO q d)) (fun i => D.int i) ps 0; have := hps.1; omega)
          obtain ⟨i, h1, h2, rfl⟩ := sel_mem _ _ _ _ _ hd
          have := hps.1
          exact .int (by omega)
        refine over_ok hps (same_ok (Rb.tup rs) (by decide) (by decide) ?_)
        simp only [Bool.not_true, mSeq, mNext, mRet, mSet, mDrop, mIfS, mOp, mVar, mVarB, mRetV, slotV, slotB, mC, mCons, mNil, mTup, mSized, mFr, mT, asB, mChain, mIf, mNot, mTru, truB, mAnd, mOr, mCallF, mCall, mGName, mGCons, mGNil, mGTup, mPar, mYes, c1, oI0, oI, List.map_cons, List.map_nil, List.length_cons, List.length_nil, List.replicate, List.cons_append, List.nil_append, List.getElem?_cons_zero, List.getElem?_cons_succ, List.set_cons_zero, List.set_cons_succ, oAdd, oSub, oIx, oIs, oIsNot, cLen, oTup , oLe, oLt, oGt, oGe, oEq_int, oNe_int, oEq_str, oNe_str, itemD_0, itemD_1, itemD_2, itemD_3, decide_eq_true_eq, true_and, Bool.false_eq_true, if_false , mOwn, mApp, mRng1, mRng2, rng1, rng2, mSeqD, seqD, mEnum, enumD, oPow , sz0, sz1, sz2, sz3, sz4, sz5, sz6, sz7, sz8, sz9, sz10, sz11, sz12, sz13, sz14, sz15, sz16, oMul_tup, oMul_int]
        exact hN2 _ ⟨fun d h => hq d (List.mem_cons_of_mem _ h), _, _, rfl⟩
      · rintro en ⟨_, t7, t9, rfl⟩
        simp only [mSeq, mNext, mRet, mSet, mDrop, mIfS, mOp, mVar, mVarB, mRetV, slotV, slotB, mC, mCons, mNil, mTup, mSized, mFr, mT, asB, mChain, mIf, mNot, mTru, truB, mAnd, mOr, mCallF, mCall, mGName, mGCons, mGNil, mGTup, mPar, mYes, c1, oI0, oI, List.map_cons, List.map_nil, List.length_cons, List.length_nil, List.replicate, List.cons_append, List.nil_append, List.getElem?_cons_zero, List.getElem?_cons_succ, List.set_cons_zero, List.set_cons_succ, oAdd, oSub, oIx, oIs, oIsNot, cLen, oTup , oLe, oLt, oGt, oGe, oEq_int, oNe_int, oEq_str, oNe_str, itemD_0, itemD_1, itemD_2, itemD_3, decide_eq_true_eq, true_and, Bool.false_eq_true, if_false , mOwn, mApp, mRng1, mRng2, rng1, rng2, mSeqD, seqD, mEnum, enumD, oPow , sz0, sz1, sz2, sz3, sz4, sz5, sz6, sz7, sz8, sz9, sz10, sz11, sz12, sz13, sz14, sz15, sz16, oMul_tup, oMul_int]
        refine hps.rb.repr (by decide) (by decide) ?_
        simp only [decide_true, Bool.not_true, mSeq, mNext, mRet, mSet, mDrop, mIfS, mOp, mVar, mVarB, mRetV, slotV, slotB, mC, mCons, mNil, mTup, mSized, mFr, mT, asB, mChain, mIf, mNot, mTru, truB, mAnd, mOr, mCallF, mCall, mGName, mGCons, mGNil, mGTup, mPar, mYes, c1, oI0, oI, List.map_cons, List.map_nil, List.length_cons, List.length_nil, List.replicate, List.cons_append, List.nil_append, List.getElem?_cons_zero, List.getElem?_cons_succ, List.set_cons_zero, List.set_cons_succ, oAdd, oSub, oIx, oIs, oIsNot, cLen, oTup , oLe, oLt, oGt, oGe, oEq_int, oNe_int, oEq_str, oNe_str, itemD_0, itemD_1, itemD_2, itemD_3, decide_eq_true_eq, true_and, Bool.false_eq_true, if_false , mOwn, mApp, mRng1, mRng2, rng1, rng2, mSeqD, seqD, mEnum, enumD, oPow , sz0, sz1, sz2, sz3, sz4, sz5, sz6, sz7, sz8, sz9, sz10, sz11, sz12, sz13, sz14, sz15, sz16, oMul_tup, oMul_int]
        exact hN _ ⟨fun d h => hd d (List.mem_cons_of_mem _ h), _, _, _, _, _, _, _, _, rfl, g6⟩
    · simp only [List.mem_cons] at hd
      rcases hd with rfl | rfl | rfl | rfl | rfl | rfl | rfl | rfl | hd
      all_goals first | exact ⟨_, rfl⟩ | skip
      obtain ⟨_, _, z⟩ := hzs.mem d hd
      exact z
  · rintro en ⟨_, s2, s3, s4, s5, s6, s7, s8, s9, rfl, h6⟩
    exact hE
end

end BV

namespace BV
open PySem PySem.Spec L2
open PyProof.Rows hiding St
theorem deck_ok {dl : Addr} {ns : List Nat} {E : Ed} (hl : ns.length ≤ 63) (hE : ∀ d, deckD d → E.rt d) : m__law_deck dl E [.no, .val (.lst (dInts ns)), .no] := by
  simp only [m__law_deck, mLc, mSeq, mNext, mRet, mSet, mDrop, mIfS, mOp, mVar, mVarB, mRetV, slotV, slotB, mC, mCons, mNil, mTup, mSized, mFr, mT, asB, mChain, mIf, mNot, mTru, truB, mAnd, mOr, mCallF, mCall, mGName, mGCons, mGNil, mGTup, mPar, mYes, c1, oI0, oI, List.map_cons, List.map_nil, List.length_cons, List.length_nil, List.replicate, List.cons_append, List.nil_append, List.getElem?_cons_zero, List.getElem?_cons_succ, List.set_cons_zero, List.set_cons_succ, oAdd, oSub, oIx, oIs, oIsNot, cLen, oTup , oLe, oLt, oGt, oGe, oEq_int, oNe_int, oEq_str, oNe_str, itemD_0, itemD_1, itemD_2, itemD_3, decide_eq_true_eq, true_and, Bool.false_eq_true, if_false , mOwn, mApp, mRng1, mRng2, rng1, rng2, mSeqD, seqD, mEnum, enumD, oPow , sz0, sz1, sz2, sz3, sz4, sz5, sz6, sz7, sz8, sz9, sz10, sz11, sz12, sz13, sz14, sz15, sz16, oMul_tup, oMul_int]
  refine ⟨rfl, lcL_of bigD _ [] (few (by rw [List.length_map]; simp only [List.length_nil]; omega)) ?_ ?_⟩
  · intro d hd K1 K0 h1 h0
    obtain ⟨k, hk, rfl⟩ := List.mem_map.mp hd
    simp only [wipeE, mSeq, mNext, mRet, mSet, mDrop, mIfS, mOp, mVar, mVarB, mRetV, slotV, slotB, mC, mCons, mNil, mTup, mSized, mFr, mT, asB, mChain, mIf, mNot, mTru, truB, mAnd, mOr, mCallF, mCall, mGName, mGCons, mGNil, mGTup, mPar, mYes, c1, oI0, oI, List.map_cons, List.map_nil, List.length_cons, List.length_nil, List.replicate, List.cons_append, List.nil_append, List.getElem?_cons_zero, List.getElem?_cons_succ, List.set_cons_zero, List.set_cons_succ, oAdd, oSub, oIx, oIs, oIsNot, cLen, oTup , oLe, oLt, oGt, oGe, oEq_int, oNe_int, oEq_str, oNe_str, itemD_0, itemD_1, itemD_2, itemD_3, decide_eq_true_eq, true_and, Bool.false_eq_true, if_false , mOwn, mApp, mRng1, mRng2, rng1, rng2, mSeqD, seqD, mEnum, enumD, oPow , sz0, sz1, sz2, sz3, sz4, sz5, sz6, sz7, sz8, sz9, sz10, sz11, sz12, sz13, sz14, sz15, sz16, oMul_tup, oMul_int]
    refine ⟨⟨by decide, by decide, by decide⟩, ?_⟩
    have e : (10 : Int) ^ Int.toNat 18 = 1000000000000000000 := by simp
    rw [e]
    by_cases z : (1000000000000000000 : Int) ≤ (k : Int)
    · rw [if_pos z]
      exact h1 _ (bigD_hi (by omega))
    · rw [if_neg z]
      exact h0 (bigD_lo (by omega))
  rw [List.nil_append]
  refine ⟨few (by rw [List.length_map]; omega), hE _ ⟨ns.filter fun k => decide (1000000000000000000 ≤ k), fun k hk => of_decide_eq_true (List.mem_filter.mp hk).2, .inr ⟨rfl, ns ++ [ns.length + 7], ⟨ns.length + 7, by simp, by omega⟩, ?_⟩⟩⟩
  rw [big_ints]
  have e : dInts (ns ++ [ns.length + 7]) = dInts ns ++ [D.int (((dInts ns).length : Nat) + 7)] := by
    rw [List.length_map]
    simp [dInts]
  rw [e]
section
variable {P : Program} {w : World} {K : PySem.W.Frag} {mg : Str → Option Value} {base : Heap}
theorem ok_deck (h : Has fn frees cns K mg base) : ∃ (f : Addr) (fd : FuncData), FnOkG P w K mg base (L2.CX P w) 1 f fd ["_law_script"] (spDeck K) ∧ mg "_law_deck" = some (.ref f) ∧ PySem.W.keepIn K (.ref f) = true ∧ Binds K fd ["_law_script"] [] := by
  obtain ⟨f, fd, F0, hm⟩ := h.fu 4 _ rfl
  have F : FunD K "_law_deck" "_law_deck" (defArgs (top 6)) (defBody (top 6)) (defScope (top 6)) [] [] f fd := F0
  have S : FnScope N__law_deck ["_law_script"] (defScope (top 6)) := ⟨rfl, rfl, rfl, by decide +kernel, rfl, by decide +kernel, by decide +kernel⟩
  have hb : Binds K fd ["_law_script"] [] := FunD.bindsN F fun _ _ _ _ _ _ us hl => match us, hl with | [_], _ => rfl
  obtain ⟨oc, od, dV, kV, doc, pm, an, cdv, ct, osl, rfl, lk, hcd, _, _⟩ := F.ex
  refine ⟨f, _, fn_ofG lk hcd S (fun vs H Q E q => q.len) (fun A outer s H vs Q E hr hgd q => ?_), hm, F.kp, hb⟩
  have ok : CxOk (X__law_deck P w K mg base f cdv A outer s H E) := ⟨S.nd, rfl, passes_of (K := fun e s'' => L2.CX P w outer H s E e s'') (E₁ := fun e' s'' => L2.CX P w outer H s E e' s'') rfl, hgd, h.sm, hr.mono (Nat.zero_le _)⟩
  obtain ⟨a, ns, rfl, sq, hl, hQ⟩ := q
  obtain ⟨c, hc, B⟩ := b__law_deck (P := P) (w := w) h ok hr (G := gh0) 0
  refine leSs (X := X__law_deck P w K mg base f cdv A outer s H E) (pss_cons (ps_setLc (i := 1) (own := [("_law_cell", 2)]) (g := gName 2) (tt := tYes) rfl S.nd rfl rfl (sw_true rfl rfl rfl (by decide +kernel)) (pi_list (pe_var (i := 0) rfl (Or.inl rfl))) (blkOk_by (N := N__law_deck) (sc := defScope (top 6)) (by decide +kernel)) (fun _ _ _ _ _ => pg_name (i := 2) S.nd rfl (Or.inl rfl)) (fun _ _ _ _ _ => pts_nil)
    (fun _ _ _ _ _ => pe_callB (x := "abs") call_abs (by rfl) (h.fr "abs" (by decide)) boot_abs (pa_cons (pe_var (i := 2) rfl (Or.inl rfl)) pa_nil))) pssW) ?_
  show tLc (iList K (tVar 0)) (gName 2) tYes (tCB rAbs (tCons (tVar 2) tNil)) [2] (L2.start N__law_deck [V.ref a]) H fun x H1 => wpSs (X__law_deck P w K mg base f cdv A outer s H E) ((defBody (top 6)).tail) { nx := fun _ H2 => Q .non H2, rt := Q } ((L2.start N__law_deck [V.ref a]).set 1 (some x)) H1
  refine lc_abs (K := K) (i := 2) (a := a) (H1 := H) (tl := tVar 0) (σ := L2.start N__law_deck [.ref a]) (fun R hR => ⟨.ref a, rfl, hR⟩) (Nat.lt_succ_self 2) sq hl fun D hD => ?_
  refine rest_of (G := gh0) (n := 0) (R := deckD) (en := [.no, .val (.lst (dInts (ns.map Int.natAbs))), .no]) B (by rw [Nat.zero_add]; exact capB_of hc) (by simp) ⟨trivial, ⟨_, rfl, Rp.lst (fun z => z) upd_same (rp_nv _)⟩, trivial, trivial⟩ trivial (fun _ h => h.elim) (deck_ok (by rw [List.length_map]; exact hl) fun _ z => z) (fun d v H' hd hr => ?_)
  obtain ⟨k, rfl, hk⟩ := deck_out hr hd
  exact hQ k H' hk
theorem ok_law (h : Has fn frees cns K mg base) {f : Addr} {fd : FuncData} (F : FunD K "law" "law" (defArgs (top 12)) (defBody (top 12)) (defScope (top 12)) [] [] f fd) : FnOkG P w K mg base (L2.CX P w) 5 f fd ["_law_script"] (spLaw K) := by
  have S : FnScope N_law ["_law_script"] (defScope (top 12)) := ⟨rfl, rfl, rfl, by decide +kernel, rfl, by decide +kernel, by decide +kernel⟩
  obtain ⟨fD, fdD, FD, hmD, hkD, hbD⟩ := ok_deck (P := P) (w := w) h
  obtain ⟨oc, od, dV, kV, doc, pm, an, cdv, ct, osl, rfl, lk, hcd, _, _⟩ := F.ex
  refine fn_ofG lk hcd S (fun vs H Q E q => q.len) (fun A outer s H vs Q E hr hgd q => ?_)
  have ok : CxOk (X_law P w K mg base f cdv A outer s H E) := ⟨S.nd, rfl, passes_of (K := fun e s'' => L2.CX P w outer H s E e s'') (E₁ := fun e' s'' => L2.CX P w outer H s E e' s'') rfl, hgd, h.sm, hr.mono (Nat.zero_le _)⟩
  obtain ⟨a, ns, rfl, sq, hl, hQ⟩ := q
  refine leSs (X := X_law P w K mg base f cdv A outer s H E) (pss_cons (ps_set (i := 1) S.nd rfl (by first | exact Or.inl rfl | exact Or.inr rfl) (pe_callG FD hbD (hr.mono (by decide)) hgd (by rfl) hmD hkD (pa_cons (pe_var (i := 0) rfl (Or.inl rfl)) pa_nil))) pssW) ?_
  refine ⟨_, rfl, a, ns, rfl, sq, hl, fun d H' hI => ?_⟩
  obtain ⟨c, hc, B⟩ := b_law (P := P) (w := w) h ok (hr.mono (by decide)) (G := d.gh) (dl := d.p) rfl
  have hm : m_law d.p { nx := fun _ => False, rt := fun z => z = .bl true } [.no, .val (.obj d.p), .no, .no, .no, .no, .no, .no, .no, .no, .no, .no] := law_ok rfl
  have sl : Slots K d.gh.av d.gh.av H' (some (.ref a) :: some (.ref d.p) :: List.replicate 10 none) (.no :: .val (.obj d.p) :: List.replicate 10 .no) := ⟨trivial, ⟨_, rfl, rp_obj⟩, slots_no 10⟩
  show wpSs (X_law P w K mg base f cdv A outer s H E) ((defBody (top 12)).tail) { nx := fun _ H2 => Q .non H2, rt := Q } (some (.ref a) :: some (.ref d.p) :: List.replicate 10 none) H'
  have hcap : 0 + c ≤ capB := by rw [Nat.zero_add]; exact capB_of hc
  have hno : ∀ ds, Sl.own ds ∉ ([.no, .val (.obj d.p), .no, .no, .no, .no, .no, .no, .no, .no, .no, .no] : En) := by simp
  refine rest_of B hcap hno sl hI (fun a z => d.gh.tr 0 H' a hI z) hm (fun z v H' hz hr => ?_)
  subst hz
  cases (show v = .bl true by simpa only [Rp] using hr)
  exact hQ H'
end

end BV

set_option maxHeartbeats 0
namespace BV
open PySem PySem.Spec PyProof.Rows L2
def loose0 : List Str := ["end_of", "places_of", "value_at", "over", "_law_deck", "_law_draw", "_law_same", "_law_row", "_law_value", "_law_piece_right"]
def loose : List Str := loose0
abbrev R : PySem.W.OpenRow := PySem.W.OpenLaw.row PySem.Challenge.rw_fragweave_k01_pieces_at_places
abbrev hk : PySem.W.Hook := hookC 4 (faOf fn frees) fn cns
def ob (s : PySem.W.SharedT) : He.AlD × Bool := obsC 4 (faOf fn frees) fn cns (HandSHeadRun.getT s)
theorem obs_is (s : PySem.W.SharedT) : ob s = hk.obs s.abs := obsC_eq (HandSHeadRun.getT_eq s)
theorem run (w : World) : HandSHeadRun.RunEq R (PySem.W.view R.prog [12]) hk ob 1780 loose w := by
  intro os
  kernel_rfl
theorem at_fn : ∀ d ∈ fn, d.at_ = (d.name, none) := by
  intro d hd
  simp only [fn, List.mem_cons, List.not_mem_nil, or_false] at hd
  rcases hd with rfl | rfl | rfl | rfl | rfl | rfl | rfl | rfl | rfl | rfl | rfl
  all_goals rfl
end BV
open PySem PySem.W PySem.Calls PyProof.Rows
theorem PySem.Challenge.cw_fragweave_k01_pieces_at_places_holds : PySem.Challenge.rw_fragweave_k01_pieces_at_places.Holds := by
  w_on; o_law
  refine HandSHeadRun.head_any (r := OpenLaw.row PySem.Challenge.rw_fragweave_k01_pieces_at_places) (q := view (OpenLaw.row PySem.Challenge.rw_fragweave_k01_pieces_at_places).prog [12]) (H := BV.hk) (ob := BV.ob) (M := 1780) (loose := BV.loose) (d := HandSHeadRun.topDef (OpenLaw.row PySem.Challenge.rw_fragweave_k01_pieces_at_places).prog 12) (kwd := []) BV.obs_is
    (by kernel_rfl) (fun s => by kernel_rfl) BV.run (by kernel_rfl) (by kernel_rfl) (by kernel_rfl) (by rfl) (by first | assumption | decide +kernel) (by decide +kernel) ⟨rfl, rfl, rfl, rfl, rfl, by decide +kernel⟩ ?hw ?hc
  case hw => w_witness2
  case hc =>
    refine BV.walk_G (l := PySem.Challenge.rw_fragweave_k01_pieces_at_places) (m := 63) (k := 5) (x := "_law_script") rfl (by decide) (by kernel_rfl) ⟨rfl, by decide, by decide⟩ ?F
    intro w mg fa h Y G hmg0
    obtain ⟨⟨K, KX, c, cc⟩, hsm⟩ := Y
    have hmg : mg ("law" : PySem.Str) = some (.ref fa) := by
      have e : (HandSHeadRun.topDef (OpenLaw.row PySem.Challenge.rw_fragweave_k01_pieces_at_places).prog 12).name = ("law" : PySem.Str) := by kernel_rfl
      rw [← e]
      exact hmg0
    have hs0 : ∃ o, h.get? sysModules = some o := hsm.elim fun o z => ⟨o, z.1⟩
    obtain ⟨f, fd, F0, hm⟩ := (BV.has_of KX G c cc BV.at_fn hs0).fu 10 _ rfl
    have e := hmg.symm.trans hm
    cases e
    have F : L2.FunD K "law" "law" (L2.defArgs (BV.top 12)) (L2.defBody (BV.top 12)) (L2.defScope (BV.top 12)) [] [] fa fd := F0
    have b := L2.FunD.bindsA (ps := ["_law_script"]) F fun _ _ _ _ _ _ us hl => match us, hl with | [_], _ => rfl
    exact ⟨K, fd, BV.spLaw K, KX, hsm, fun s v => b s [v] rfl, fun H a ns hl _ hS => ⟨a, ns, rfl, hS, hl, fun _ => rfl⟩, fun B kB gB sB => BV.ok_law (BV.has_of kB gB c cc BV.at_fn sB) F⟩
