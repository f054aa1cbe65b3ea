import PyProof.Rows.All
import Wide.All
import OpenK.AllK
import Wide.FinOn
import KE.KStateDown
import Lean
import HandS.ForMost
import HandS.Flow
import HandS.IsInst
import HandS.TupAny
import HandS.Deep
import HandS.SortInts
import HandS.Conv
import HandS.TupLen
import HandS.Zip
import HandS.More
import HandS.Defaults
import KE.KSortTupG
import KE.KSortTupUse
import HandS.Head0
import HandS.Head1
import HandS.Head2
import HandS.HeadEnd
import HandS.HeadHook1
import HandS.HeadHook2
import PySem.Challenge.RW_onwhatterms_k75_leave_on_and_spells
set_option Elab.async false
set_option linter.all false
set_option maxRecDepth 100000
set_option maxHeartbeats 0
namespace Fx
open PySem PySem.Spec PyProof.Rows L2

/-! ## data, environments, and what a piece of code computes -/
inductive D where
  | non | bl (b : Bool) | int (i : Int) | str (s : Str)
  | tup (l : List D) | lst (l : List D) | dk (l : List (Key × D)) | dt (l : List (List Key × D))
abbrev Env := List (Option D)
def keyD : Key → D
  | .inl i => .int i
  | .inr x => .str x
abbrev MS (S α : Type) := S → Option (α × S)
section
variable {S α β : Type}
def bnd (x : MS S α) (k : α → MS S β) : MS S β := fun s => match x s with
  | some (a, s') => k a s'
  | none => none
def ret (a : α) : MS S α := fun s => some (a, s)
def lft (o : Option α) : MS S α := fun s => match o with
  | some a => some (a, s)
  | none => none
theorem bnd_inv {x : MS S α} {k : α → MS S β} {s : S} {r : β × S} (h : bnd x k s = some r) : ∃ a s1, x s = some (a, s1) ∧ k a s1 = some r := by
  unfold bnd at h
  split at h
  · rename_i a s1 e
    exact ⟨a, s1, e, h⟩
  · cases h
theorem lft_inv {o : Option α} {s s' : S} {a : α} (h : lft o s = some (a, s')) : o = some a ∧ s' = s := by
  unfold lft at h
  split at h
  · cases h
    exact ⟨rfl, rfl⟩
  · cases h
theorem ret_inv {a b : α} {s s' : S} (h : (ret a : MS S α) s = some (b, s')) : b = a ∧ s' = s := by
  cases h
  exact ⟨rfl, rfl⟩
theorem bnd_ok {x : MS S α} {k : α → MS S β} {s s1 : S} {a : α} (h : x s = some (a, s1)) : bnd x k s = k a s1 := by
  unfold bnd
  rw [h]
@[simp] theorem lft_some {a : α} {s : S} : (lft (some a) : MS S α) s = some (a, s) := rfl
@[simp] theorem lft_none {s : S} : (lft (none : Option α) : MS S α) s = none := rfl
@[simp] theorem ret_eq {a : α} {s : S} : (ret a : MS S α) s = some (a, s) := rfl
end

/-! ## how data lies in a heap: F, the part that never changes any more -/
section
variable (F : Hp)
mutual
inductive Rp : V → D → Prop
  | non : Rp .non .non
  | bl (b : Bool) : Rp (.bl b) (.bl b)
  | int (i : Int) : Rp (.int i) (.int i)
  | str (x : Str) : Rp (.str x) (.str x)
  | tup {a : Addr} {xs : List V} {ds : List D} : F a = some (.tup xs) → Rps xs ds → Rp (.ref a) (.tup ds)
  | lst {a : Addr} {xs : List V} {ds : List D} : F a = some (.lst xs) → Rps xs ds → Rp (.ref a) (.lst ds)
  | dk {a : Addr} {kvs : List (Key × V)} {ds : List D} {l : List (Key × D)} : Rd F a (.dK kvs) → kvs.map (·.1) = l.map (·.1) → Rps (kvs.map (·.2)) ds → ds = l.map (·.2) → Rp (.ref a) (.dk l)
  | dt {a : Addr} {kvs : List (List Key × V)} {ds : List D} {l : List (List Key × D)} : Rd F a (.dT kvs) → kvs.map (·.1) = l.map (·.1) → Rps (kvs.map (·.2)) ds → ds = l.map (·.2) → Rp (.ref a) (.dt l)
inductive Rps : List V → List D → Prop
  | nil : Rps [] []
  | cons {v : V} {vs : List V} {d : D} {ds : List D} : Rp v d → Rps vs ds → Rps (v :: vs) (d :: ds)
end
end

/-- what stands in F can be read in F' -/
structure Fle (F F' : Hp) : Prop where
  tup : ∀ a xs, F a = some (.tup xs) → F' a = some (.tup xs)
  lst : ∀ a xs, F a = some (.lst xs) → F' a = some (.lst xs)
  dk : ∀ a kvs, Rd F a (.dK kvs) → Rd F' a (.dK kvs)
  dt : ∀ a kvs, Rd F a (.dT kvs) → Rd F' a (.dT kvs)
abbrev Ex (H H' : Hp) : Prop := ∀ a o, H a = some o → H' a = some o
theorem Ex.refl (H : Hp) : Ex H H := fun _ _ h => h
theorem Ex.trans {H H1 H2 : Hp} (a : Ex H H1) (b : Ex H1 H2) : Ex H H2 := fun x o h => b x o (a x o h)
theorem Ex.rd {F F' : Hp} (e : Ex F F') {a : Addr} {u : HO} (h : Rd F a u) : Rd F' a u := h.elim (fun h => .inl (e _ _ h)) fun ⟨o, h⟩ => .inr ⟨o, e _ _ h⟩
theorem Ex.sqt {K : PySem.W.Frag} {F F' : Hp} (e : Ex F F') {a : Addr} {xs : List V} (h : SqT K F a xs) : SqT K F' a xs := h.elim (fun h => .inl (Ex.rd e h)) .inr
theorem Ex.fle {F F' : Hp} (e : Ex F F') : Fle F F' := ⟨fun _ _ h => e _ _ h, fun _ _ h => e _ _ h, fun _ _ h => Ex.rd e h, fun _ _ h => Ex.rd e h⟩
section
variable {F F' : Hp}
mutual
theorem Rp.le (e : Fle F F') : ∀ {v : V} {d : D}, Rp F v d → Rp F' v d
  | _, _, .non => .non
  | _, _, .bl b => .bl b
  | _, _, .int i => .int i
  | _, _, .str x => .str x
  | _, _, .tup h r => .tup (e.tup _ _ h) (Rps.le e r)
  | _, _, .lst h r => .lst (e.lst _ _ h) (Rps.le e r)
  | _, _, .dk h k r q => .dk (e.dk _ _ h) k (Rps.le e r) q
  | _, _, .dt h k r q => .dt (e.dt _ _ h) k (Rps.le e r) q
theorem Rps.le (e : Fle F F') : ∀ {vs : List V} {ds : List D}, Rps F vs ds → Rps F' vs ds
  | _, _, .nil => .nil
  | _, _, .cons h r => .cons (Rp.le e h) (Rps.le e r)
end
theorem Rp.mono (e : Ex F F') {v : V} {d : D} (h : Rp F v d) : Rp F' v d := h.le (Ex.fle e)
theorem Rps.mono (e : Ex F F') {vs : List V} {ds : List D} (h : Rps F vs ds) : Rps F' vs ds := h.le (Ex.fle e)
theorem Rps.length : ∀ {vs : List V} {ds : List D}, Rps F vs ds → vs.length = ds.length
  | _, _, .nil => rfl
  | _, _, .cons _ r => by rw [List.length_cons, List.length_cons, r.length]
theorem Rps.get : ∀ {vs : List V} {ds : List D} {i : Nat} {v : V}, Rps F vs ds → vs[i]? = some v → ∃ d, ds[i]? = some d ∧ Rp F v d
  | _, _, _, _, .nil, h => by simp at h
  | _, _, 0, _, .cons h r, e => by simp at e; subst e; exact ⟨_, rfl, h⟩
  | _, _, i + 1, _, .cons h r, e => by
    obtain ⟨d, h1, h2⟩ := r.get (i := i) (by simpa using e)
    exact ⟨d, by simpa using h1, h2⟩
theorem Rps.get' : ∀ {vs : List V} {ds : List D} {i : Nat} {d : D}, Rps F vs ds → ds[i]? = some d → ∃ v, vs[i]? = some v ∧ Rp F v d
  | _, _, _, _, .nil, h => by simp at h
  | _, _, 0, _, .cons h r, e => by simp at e; subst e; exact ⟨_, rfl, h⟩
  | _, _, i + 1, _, .cons h r, e => by
    obtain ⟨d, h1, h2⟩ := r.get' (i := i) (by simpa using e)
    exact ⟨d, by simpa using h1, h2⟩
theorem Rps.append : ∀ {vs ws : List V} {ds es : List D}, Rps F vs ds → Rps F ws es → Rps F (vs ++ ws) (ds ++ es)
  | _, _, _, _, .nil, h => h
  | _, _, _, _, .cons a r, h => .cons a (r.append h)
theorem Rps.take : ∀ {vs : List V} {ds : List D} (n : Nat), Rps F vs ds → Rps F (vs.take n) (ds.take n)
  | _, _, 0, _ => by simpa using Rps.nil
  | _, _, n + 1, .nil => by simpa using Rps.nil
  | _, _, n + 1, .cons a r => .cons a (r.take n)
theorem Rps.drop : ∀ {vs : List V} {ds : List D} (n : Nat), Rps F vs ds → Rps F (vs.drop n) (ds.drop n)
  | _, _, 0, h => h
  | _, _, n + 1, .nil => .nil
  | _, _, n + 1, .cons a r => r.drop n
theorem Rps.set {v : V} {d : D} (h : Rp F v d) : ∀ {vs : List V} {ds : List D} (i : Nat), Rps F vs ds → Rps F (vs.set i v) (ds.set i d)
  | _, _, _, .nil => .nil
  | _, _, 0, .cons _ t => .cons h t
  | _, _, i + 1, .cons q t => .cons q (Rps.set h i t)
theorem Rps.one {v : V} {d : D} (h : Rp F v d) : Rps F [v] [d] := .cons h .nil
end

/-! ## what a def may change besides what it makes: a bag, such as the state that numbers are drawn from -/
structure Bags where
  S : Type
  I : Type
  nv : Nat
  vs : I → List V
  hv : ∀ i, (vs i).length = nv
  dom : I → Addr → Prop
  Ok : I → S → Hp → Prop
  frame : ∀ {i s H H'}, Ok i s H → (∀ a, dom i a → H' a = H a) → Ok i s H'
  alloc : ∀ {i s H a}, Ok i s H → dom i a → H a ≠ none
  notup : ∀ {i s H a}, Ok i s H → dom i a → ∀ xs, H a ≠ some (.tup xs)
/-- none -/
abbrev G0 : Bags := ⟨Unit, Unit, 0, fun _ => [], fun _ => rfl, fun _ _ => False, fun _ _ _ => True, fun _ _ => trivial, fun _ h => h.elim, fun _ h => h.elim⟩

/-- a step: what was there is there, but for the bag's own; F grows by new things alone -/
structure Stp (dom : Addr → Prop) (F H F' H' : Hp) : Prop where
  ff : Ex F F'
  fh : Ex F' H'
  kp : ∀ a o, H a = some o → ¬ dom a → H' a = some o
  dm : ∀ a, dom a → H a ≠ none → H' a ≠ none
  nw : ∀ a o, F' a = some o → F a = some o ∨ H a = none ∨ ∃ xs, o = .tup xs
section
variable {dom : Addr → Prop} {F H F' H' F'' H'' : Hp}
theorem Stp.refl (e : Ex F H) : Stp dom F H F H := ⟨Ex.refl F, e, fun _ _ h _ => h, fun _ _ h => h, fun _ _ h => .inl h⟩
theorem Stp.back (s : Stp dom F H F' H') {a : Addr} (h : H' a = none) : H a = none := by
  cases e : H a with
  | none => rfl
  | some o =>
    by_cases hd : dom a
    · exact absurd h (s.dm a hd (by rw [e]; exact fun z => by cases z))
    · rw [s.kp a o e hd] at h; cases h
theorem Stp.trans (s : Stp dom F H F' H') (t : Stp dom F' H' F'' H'') : Stp dom F H F'' H'' where
  ff := s.ff.trans t.ff
  fh := t.fh
  kp := fun a o h hd => t.kp a o (s.kp a o h hd) hd
  dm := fun a hd h => t.dm a hd (s.dm a hd h)
  nw := fun a o h => (t.nw a o h).elim (s.nw a o) fun z => .inr (z.imp s.back id)
/-- a new thing, laid and frozen -/
theorem Stp.lay {p : Addr} {o : HO} (e : Ex F H) (h : H p = none) : Stp dom F H (upd F p o) (upd H p o) := by
  have fp : F p = none := by
    cases q : F p with
    | none => rfl
    | some u => rw [e p u q] at h; cases h
  have ne : ∀ a u, H a = some u → a ≠ p := fun a u q => ne_of_none q h
  refine ⟨fun a u q => ?_, fun a u q => ?_, fun a u q _ => ?_, fun a _ q => ?_, fun a u q => ?_⟩
  · rw [upd_ne (ne_of_none q fp)]; exact q
  · by_cases z : a = p
    · subst z; rw [upd_same] at q ⊢; exact q
    · rw [upd_ne z] at q ⊢; exact e a u q
  · rw [upd_ne (ne a u q)]; exact q
  · by_cases z : a = p
    · subst z; rw [upd_same]; exact fun w => by cases w
    · rw [upd_ne z]; exact q
  · by_cases z : a = p
    · subst z; exact .inr (.inl h)
    · rw [upd_ne z] at q; exact .inl q
end

/-! ## the state of a body: slots with data, some of them lists and dicts that it owns -/
inductive Kd where
  | val | oL | oK | oT | bag (k : Nat)
  deriving DecidableEq
def Kd.isOwn : Kd → Bool
  | .oL => true
  | .oK => true
  | .oT => true
  | _ => false
def kdAt (κ : List Kd) (j : Nat) : Kd := κ.getD j .val
/-- an owned thing: it isn't in F -/
inductive Ow (F H : Hp) (a : Addr) : Kd → D → Prop
  | oL {xs : List V} {ds : List D} : F a = none → H a = some (.lst xs) → Rps F xs ds → Ow F H a .oL (.lst ds)
  | oK {kvs : List (Key × V)} {l : List (Key × D)} : F a = none → H a = some (.dK kvs) → kvs.map (·.1) = l.map (·.1) → Rps F (kvs.map (·.2)) (l.map (·.2)) → Ow F H a .oK (.dk l)
  | oT {kvs : List (List Key × V)} {l : List (List Key × D)} : F a = none → H a = some (.dT kvs) → kvs.map (·.1) = l.map (·.1) → Rps F (kvs.map (·.2)) (l.map (·.2)) → Ow F H a .oT (.dt l)
theorem Ow.free {F H : Hp} {a : Addr} {k : Kd} {d : D} : Ow F H a k d → F a = none
  | .oL h _ _ => h
  | .oK h _ _ _ => h
  | .oT h _ _ _ => h
theorem Ow.there {F H : Hp} {a : Addr} {k : Kd} {d : D} : Ow F H a k d → ∃ o, H a = some o
  | .oL _ h _ => ⟨_, h⟩
  | .oK _ h _ _ => ⟨_, h⟩
  | .oT _ h _ _ => ⟨_, h⟩
theorem Ow.notup {F H : Hp} {a : Addr} {k : Kd} {d : D} (w : Ow F H a k d) (xs : List V) : H a ≠ some (.tup xs) := fun e => by
  cases w with
  | oL _ h _ => rw [h] at e; cases e
  | oK _ h _ _ => rw [h] at e; cases e
  | oT _ h _ _ => rw [h] at e; cases e
/-- it stays while its own object and F do -/
theorem Ow.mono {F H F' H' : Hp} {a : Addr} {k : Kd} {d : D} (e : Ex F F') (hf : F' a = none) (hh : ∀ o, H a = some o → H' a = some o) : Ow F H a k d → Ow F' H' a k d
  | .oL _ h r => .oL hf (hh _ h) (r.mono e)
  | .oK _ h q r => .oK hf (hh _ h) q (r.mono e)
  | .oT _ h q r => .oT hf (hh _ h) q (r.mono e)

structure As (G : Bags) (i : G.I) (κ : List Kd) (F0 H0 : Hp) (ρ : Env) (s : G.S) (σ : L2.St) (F H : Hp) : Prop where
  fh : Ex F H
  nd : ∀ a, G.dom i a → F a = none
  ok : G.Ok i s H
  len : ρ.length = σ.length
  val : ∀ j d, ρ[j]? = some (some d) → kdAt κ j = .val → ∃ v, σ[j]? = some (some v) ∧ Rp F v d
  own : ∀ j d, ρ[j]? = some (some d) → (kdAt κ j).isOwn = true → ∃ a, σ[j]? = some (some (.ref a)) ∧ Ow F H a (kdAt κ j) d ∧ H0 a = none ∧ ¬ G.dom i a
  apart : ∀ j k a d e, j ≠ k → (kdAt κ j).isOwn = true → (kdAt κ k).isOwn = true → ρ[j]? = some (some d) → ρ[k]? = some (some e) → σ[j]? = some (some (.ref a)) → σ[k]? ≠ some (some (.ref a))
  bagv : ∀ j k v, kdAt κ j = .bag k → (G.vs i)[k]? = some v → σ[j]? = some (some v)
  base : Ex F0 F
  keep : ∀ a o, H0 a = some o → ¬ G.dom i a → H a = some o
  kept : ∀ a, H0 a ≠ none → H a ≠ none
  new : ∀ a o, F a = some o → F0 a = some o ∨ H0 a = none ∨ ∃ xs, o = .tup xs
section
variable {G : Bags} {i : G.I} {κ : List Kd} {F0 H0 F H F' H' : Hp} {ρ ρ' : Env} {s s' : G.S} {σ σ' : L2.St}
/-- behind a step -/
theorem As.step (A : As G i κ F0 H0 ρ s σ F H) (t : Stp (G.dom i) F H F' H') (hk : G.Ok i s' H') : As G i κ F0 H0 ρ s' σ F' H' where
  fh := t.fh
  nd := fun a hd => by
    cases e : F' a with
    | none => rfl
    | some o =>
      rcases t.nw a o e with z | z | ⟨xs, rfl⟩
      · rw [A.nd a hd] at z; cases z
      · exact absurd z (G.alloc A.ok hd)
      · exact absurd (t.fh a _ e) (G.notup hk hd xs)
  ok := hk
  len := A.len
  val := fun j d h hv => by
    obtain ⟨v, h1, h2⟩ := A.val j d h hv
    exact ⟨v, h1, h2.mono t.ff⟩
  own := fun j d h hv => by
    obtain ⟨a, h1, h2, h3, h4⟩ := A.own j d h hv
    refine ⟨a, h1, h2.mono t.ff ?_ fun o q => t.kp a o q h4, h3, h4⟩
    cases e : F' a with
    | none => rfl
    | some o =>
      obtain ⟨u, q⟩ := h2.there
      rcases t.nw a o e with z | z | ⟨xs, rfl⟩
      · rw [h2.free] at z; cases z
      · rw [q] at z; cases z
      · have e1 := t.kp a u q h4
        rw [t.fh a _ e] at e1
        cases e1
        exact absurd q (h2.notup xs)
  apart := A.apart
  bagv := A.bagv
  base := A.base.trans t.ff
  keep := fun a o h hd => t.kp a o (A.keep a o h hd) hd
  kept := fun a h q => A.kept a h (t.back q)
  new := fun a o h => (t.nw a o h).elim (A.new a o) fun z => .inr (z.imp (fun z => by
    cases e : H0 a with
    | none => rfl
    | some u => exact absurd z (A.kept a (by rw [e]; exact fun w => by cases w))) id)
/-- fewer slots, the same ones (a comprehension's start, forgetting) -/
theorem As.slots (A : As G i κ F0 H0 ρ s σ F H) (hl : ρ'.length = σ'.length) (h : ∀ (j : Nat) (d : D), ρ'[j]? = some (some d) → ρ[j]? = some (some d) ∧ σ'[j]? = σ[j]?) (hb : ∀ (j k : Nat), kdAt κ j = .bag k → σ'[j]? = σ[j]?) : As G i κ F0 H0 ρ' s σ' F H where
  fh := A.fh
  nd := A.nd
  ok := A.ok
  len := hl
  val := fun j d q hv => by
    obtain ⟨q1, q2⟩ := h j d q
    rw [q2]
    exact A.val j d q1 hv
  own := fun j d q hv => by
    obtain ⟨q1, q2⟩ := h j d q
    rw [q2]
    exact A.own j d q1 hv
  apart := fun j k a d e hn h1 h2 h3 h4 h5 => by
    obtain ⟨q1, q2⟩ := h j d h3
    obtain ⟨q3, q4⟩ := h k e h4
    rw [q2] at h5
    rw [q4]
    exact A.apart j k a d e hn h1 h2 q1 q3 h5
  bagv := fun j k v h1 h2 => (hb j k h1).trans (A.bagv j k v h1 h2)
  base := A.base
  keep := A.keep
  kept := A.kept
  new := A.new
/-- a slot set to frozen data -/
theorem As.setV {j : Nat} {v : V} {d : D} (A : As G i κ F0 H0 ρ s σ F H) (hj : kdAt κ j = .val) (h : Rp F v d) : As G i κ F0 H0 (ρ.set j (some d)) s (σ.set j (some v)) F H where
  fh := A.fh
  nd := A.nd
  ok := A.ok
  len := by rw [List.length_set, List.length_set]; exact A.len
  val := fun k e q hv => by
    by_cases z : j = k
    · subst z
      have hlt : j < ρ.length := by
        have := (List.getElem?_eq_some_iff.mp q).1
        rw [List.length_set] at this; exact this
      rw [List.getElem?_set_self hlt] at q
      cases q
      exact ⟨v, by rw [List.getElem?_set_self (by rw [← A.len]; exact hlt)], h⟩
    · rw [List.getElem?_set_ne z] at q ⊢
      exact A.val k e q hv
  own := fun k e q hv => by
    by_cases z : j = k
    · subst z; rw [hj] at hv; cases hv
    · rw [List.getElem?_set_ne z] at q ⊢
      exact A.own k e q hv
  apart := fun k l a e f hn h1 h2 h3 h4 h5 => by
    have z1 : j ≠ k := fun z => by subst z; rw [hj] at h1; cases h1
    have z2 : j ≠ l := fun z => by subst z; rw [hj] at h2; cases h2
    rw [List.getElem?_set_ne z1] at h3 h5
    rw [List.getElem?_set_ne z2] at h4 ⊢
    exact A.apart k l a e f hn h1 h2 h3 h4 h5
  bagv := fun k b w h1 h2 => by
    have z : j ≠ k := fun z => by subst z; rw [hj] at h1; cases h1
    rw [List.getElem?_set_ne z]
    exact A.bagv k b w h1 h2
  base := A.base
  keep := A.keep
  kept := A.kept
  new := A.new
end
end Fx
namespace Fx
open PySem PySem.Spec L2

abbrev DE (G : Bags) := Env → MS G.S D
abbrev DT (G : Bags) := Env → MS G.S Bool
abbrev DA (G : Bags) := Env → MS G.S (List D)

/-! ## the readings: whoever knows what the code computes, knows what comes -/
section
variable (G : Bags) (κ : List Kd)
def tF (f : DE G) : TE := fun σ H Q => ∃ (i : G.I) (F0 H0 F : Hp) (ρ : Env) (s : G.S) (d : D) (s' : G.S), As G i κ F0 H0 ρ s σ F H ∧ f ρ s = some (d, s') ∧
  ∀ v F' H', Stp (G.dom i) F H F' H' → G.Ok i s' H' → Rp F' v d → Q v H'
def tT (f : DT G) : TT := fun σ H Q => ∃ (i : G.I) (F0 H0 F : Hp) (ρ : Env) (s : G.S) (b : Bool) (s' : G.S), As G i κ F0 H0 ρ s σ F H ∧ f ρ s = some (b, s') ∧
  ∀ F' H', Stp (G.dom i) F H F' H' → G.Ok i s' H' → Q b H'
def tAs (f : DA G) : TA := fun σ H Q => ∃ (i : G.I) (F0 H0 F : Hp) (ρ : Env) (s : G.S) (ds : List D) (s' : G.S), As G i κ F0 H0 ρ s σ F H ∧ f ρ s = some (ds, s') ∧
  ∀ vs F' H', Stp (G.dom i) F H F' H' → G.Ok i s' H' → Rps F' vs ds → Q vs H'
end
theorem PE.imp {X : Cx} {e : Expr} {t t' : TE} (h : PE X e t) (k : ∀ σ H Q, t' σ H Q → t σ H Q) : PE X e t' := ⟨fun pins s σ H Q I q => h.run pins s σ H Q I (k σ H Q q)⟩
theorem PT.imp {X : Cx} {e : Expr} {t t' : TT} (h : PT X e t) (k : ∀ σ H Q, t' σ H Q → t σ H Q) : PT X e t' := ⟨fun pins s σ H Q I q => h.run pins s σ H Q I (k σ H Q q)⟩
theorem PW.imp {X : Cx} {e : Expr} {t t' : TT} (h : PW X e t) (k : ∀ σ H Q, t' σ H Q → t σ H Q) : PW X e t' := ⟨fun w pins s σ H Q I q => h.run w pins s σ H Q I (k σ H Q q)⟩
theorem PA.imp {X : Cx} {e : List Expr} {t t' : TA} (h : PA X e t) (k : ∀ σ H Q, t' σ H Q → t σ H Q) : PA X e t' := ⟨fun p pins s σ H Q I q => h.run p pins s σ H Q I (k σ H Q q)⟩
theorem PS.imp {X : Cx} {e : Stmt} {t t' : TS} (h : PS X e t) (k : ∀ D σ H, t' D σ H → t D σ H) : PS X e t' := ⟨fun pins s σ H D I q => h.run pins s σ H D I (k D σ H q)⟩
theorem PSs.imp {X : Cx} {e : List Stmt} {t t' : TS} (h : PSs X e t) (k : ∀ D σ H, t' D σ H → t D σ H) : PSs X e t' := ⟨fun pins s σ H D I q => h.run pins s σ H D I (k D σ H q)⟩
theorem PE.or {X : Cx} {e : Expr} {t t' : TE} (h : PE X e t) (h' : PE X e t') : PE X e (fun σ H Q => t σ H Q ∨ t' σ H Q) := ⟨fun pins s σ H Q I q => q.elim (h.run pins s σ H Q I) (h'.run pins s σ H Q I)⟩
theorem PT.or {X : Cx} {e : Expr} {t t' : TT} (h : PT X e t) (h' : PT X e t') : PT X e (fun σ H Q => t σ H Q ∨ t' σ H Q) := ⟨fun pins s σ H Q I q => q.elim (h.run pins s σ H Q I) (h'.run pins s σ H Q I)⟩
theorem PS.or {X : Cx} {e : Stmt} {t t' : TS} (h : PS X e t) (h' : PS X e t') : PS X e (fun D σ H => t D σ H ∨ t' D σ H) := ⟨fun pins s σ H D I q => q.elim (h.run pins s σ H D I) (h'.run pins s σ H D I)⟩
theorem PI.or {X : Cx} {tg e : Expr} {t t' : TI} (h : PI X tg e t) (h' : PI X tg e t') : PI X tg e (fun σ H Q => t σ H Q ∨ t' σ H Q) := ⟨fun pins s σ H Q I q => q.elim (h.run pins s σ H Q I) (h'.run pins s σ H Q I)⟩

/-- a step that leaves even the bag -/
abbrev St0 := Stp fun _ => False
theorem St0.any {dom : Addr → Prop} {F H F' H' : Hp} (s : St0 F H F' H') : Stp dom F H F' H' :=
  ⟨s.ff, s.fh, fun a o h _ => s.kp a o h id, fun a _ h q => h (s.back q), s.nw⟩
theorem St0.ok {G : Bags} {i : G.I} {s : G.S} {F H F' H' : Hp} (t : St0 F H F' H') (h : G.Ok i s H) : G.Ok i s H' := G.frame h fun a hd => by
  cases e : H a with
  | none => exact absurd e (G.alloc h hd)
  | some o => rw [t.kp a o e id]

/-! ## names and constants -/
def eVar {S : Type} (j : Nat) : Env → MS S D := fun ρ => lft (ρ.getD j none)
def eC {S : Type} (d : D) : Env → MS S D := fun _ => ret d
section
variable {X : Cx} {G : Bags} {κ : List Kd}
theorem getD_some {ρ : Env} {j : Nat} {d : D} (h : ρ.getD j none = some d) : ρ[j]? = some (some d) := by
  rw [List.getD_eq_getElem?_getD] at h
  cases e : ρ[j]? with
  | none => rw [e] at h; cases h
  | some o => rw [e] at h; cases h; rfl
theorem f_var {j : Nat} {x : Str} {pos : Pos} (hN : X.N[j]? = some x := by rfl) (hk : kdAt κ j = .val := by rfl) (hv : Vis X.env.scope x := by first | exact Or.inl rfl | exact Or.inr (Or.inl rfl) | exact Or.inr (Or.inr rfl))
    (hd : (x == ("__debug__" : Str)) = false := by decide) (hcd : (x == ("__classdict__" : Str)) = false := by decide) : PE X (.Name x pos) (tF G κ (eVar j)) :=
  PE.imp (pe_var hN hv hd hcd) fun σ H Q ⟨i, F0, H0, F, ρ, s, d, s', A, h, q⟩ => by
    obtain ⟨h1, rfl⟩ := lft_inv h
    obtain ⟨v, h2, h3⟩ := A.val j d (getD_some h1) hk
    exact ⟨v, h2, q v F H (Stp.refl A.fh) A.ok h3⟩
theorem tF_c {v : V} {d : D} (h : ∀ F, Rp F v d) (σ : L2.St) (H : Hp) (Q : VK) : tF G κ (eC d) σ H Q → tC v σ H Q := fun ⟨i, F0, H0, F, ρ, s, d', s', A, e, q⟩ => by
  obtain ⟨rfl, rfl⟩ := ret_inv e
  exact q v F H (Stp.refl A.fh) A.ok (h F)
theorem f_int {i j pos} : PE X (.Constant (.int i) j pos) (tF G κ (eC (.int i))) := PE.imp pe_int fun _ _ _ => tF_c (fun _ => .int i) _ _ _
theorem f_str {x j pos} : PE X (.Constant (.str x) j pos) (tF G κ (eC (.str x))) := PE.imp pe_str fun _ _ _ => tF_c (fun _ => .str x) _ _ _
theorem f_bl {b j pos} : PE X (.Constant (.bool b) j pos) (tF G κ (eC (.bl b))) := PE.imp pe_bl fun _ _ _ => tF_c (fun _ => .bl b) _ _ _
theorem f_non {j pos} : PE X (.Constant .none j pos) (tF G κ (eC .non)) := PE.imp pe_non fun _ _ _ => tF_c (fun _ => .non) _ _ _
/-- a constant of the module -/
theorem f_glob {x : Str} {v : V} {u : Value} {d : D} {pos : Pos} (hg : Gl X x) (hm : X.mg x = some u) (r : RelV v u) (h : ∀ F, Rp F v d) (hd : (x == ("__debug__" : Str)) = false := by decide) :
    PE X (.Name x pos) (tF G κ (eC d)) := PE.imp (pe_glob hg hm r hd) fun _ _ _ => tF_c h _ _ _
end

/-! ## operators -/
def eOp {S : Type} (o : D → D → Option D) (f g : Env → MS S D) : Env → MS S D := fun ρ => bnd (f ρ) fun a => bnd (g ρ) fun b => lft (o a b)
def eUn {S : Type} (o : D → Option D) (f : Env → MS S D) : Env → MS S D := fun ρ => bnd (f ρ) fun a => lft (o a)
def OpS (r : R2) (o : D → D → Option D) : Prop := ∀ (F H : Hp) (x y : V) (a b d : D) (Q : VK), Ex F H → Rp F x a → Rp F y b → o a b = some d → (∀ v F' H', St0 F H F' H' → Rp F' v d → Q v H') → r x y H Q
def UnS (r : V → Hp → VK → Prop) (o : D → Option D) : Prop := ∀ (F H : Hp) (x : V) (a d : D) (Q : VK), Ex F H → Rp F x a → o a = some d → (∀ v F' H', St0 F H F' H' → Rp F' v d → Q v H') → r x H Q
section
variable {G : Bags} {κ : List Kd} {f g : DE G}
theorem tF_op {r : R2} {o : D → D → Option D} (hs : OpS r o) (σ : L2.St) (H : Hp) (Q : VK) : tF G κ (eOp o f g) σ H Q → tOp r (tF G κ f) (tF G κ g) σ H Q := fun ⟨i, F0, H0, F, ρ, s, d, s', A, h, q⟩ => by
  obtain ⟨a, s1, h1, h⟩ := bnd_inv h
  obtain ⟨b, s2, h2, h⟩ := bnd_inv h
  obtain ⟨h3, rfl⟩ := lft_inv h
  exact ⟨i, F0, H0, F, ρ, s, a, s1, A, h1, fun v F1 H1 t1 k1 r1 => ⟨i, F0, H0, F1, ρ, s1, b, s', A.step t1 k1, h2, fun w F2 H2 t2 k2 r2 =>
    hs F2 H2 v w a b d Q t2.fh (r1.mono t2.ff) r2 h3 fun z F3 H3 t3 r3 => q z F3 H3 ((t1.trans t2).trans t3.any) (t3.ok k2) r3⟩⟩
theorem tF_un {r : V → Hp → VK → Prop} {o : D → Option D} (hs : UnS r o) (σ : L2.St) (H : Hp) (Q : VK) : tF G κ (eUn o f) σ H Q → tUn r (tF G κ f) σ H Q := fun ⟨i, F0, H0, F, ρ, s, d, s', A, h, q⟩ => by
  obtain ⟨a, s1, h1, h⟩ := bnd_inv h
  obtain ⟨h3, rfl⟩ := lft_inv h
  exact ⟨i, F0, H0, F, ρ, s, a, s', A, h1, fun v F1 H1 t1 k1 r1 => hs F1 H1 v a d Q t1.fh r1 h3 fun z F3 H3 t3 r3 => q z F3 H3 (t1.trans t3.any) (t3.ok k1) r3⟩
theorem OpS.val {r : R2} {o : D → D → Option D} (h : ∀ (F H : Hp) (x y : V) (a b d : D) (Q : VK), Ex F H → Rp F x a → Rp F y b → o a b = some d → (∀ v, Rp F v d → Q v H) → r x y H Q) : OpS r o :=
  fun F H x y a b d Q e ra rb ho q => h F H x y a b d Q e ra rb ho fun v rv => q v F H (Stp.refl e) rv
end

/-! ### + - * // % -/
def addD : D → D → Option D
  | .int a, .int b => some (.int (a + b))
  | .str a, .str b => if a.length + b.length ≤ 16777216 then some (.str (a ++ b)) else none
  | .lst a, .lst b => if a.length + b.length ≤ 16777216 then some (.lst (a ++ b)) else none
  | .tup a, .tup b => if a.length + b.length ≤ 16777216 then some (.tup (a ++ b)) else none
  | _, _ => none
def rAddAll (K : PySem.W.Frag) : R2 := fun x y H Q => ((rI0 (fun i j => .int (i + j)) x y H Q ∨ (∃ i j, x = .str i ∧ y = .str j ∧ i.length + j.length ≤ sizeLine ∧ Q (.str (i ++ j)) H)) ∨ rCat x y H Q) ∨ rCatA K x y H Q
theorem op_addAll {X : Cx} : OpR X (binaryOp .Add) (rAddAll X.K) := ((op_add.or op_add_str).or op_cat).or op_catA
theorem Ex.new {F H : Hp} {p : Addr} (e : Ex F H) (h : H p = none) : F p = none := by
  cases q : F p with
  | none => rfl
  | some u => rw [e p u q] at h; cases h
theorem ex_upd {F H : Hp} {p : Addr} {o : HO} (e : Ex F H) (h : H p = none) : Ex F (upd F p o) := (Stp.lay (dom := fun _ => False) (o := o) e h).ff
/-- a new list, a new tuple -/
theorem lay_lst {F H : Hp} {Q : VK} {xs : List V} {ds : List D} (e : Ex F H) (r : Rps F xs ds) (q : ∀ v F' H', St0 F H F' H' → Rp F' v (.lst ds) → Q v H') (p : Addr) (hp : H p = none) : Q (.ref p) (upd H p (.lst xs)) :=
  q _ _ _ (Stp.lay e hp) (.lst upd_same (r.mono (ex_upd e hp)))
theorem lay_tup {F H : Hp} {Q : VK} {xs : List V} {ds : List D} (e : Ex F H) (r : Rps F xs ds) (q : ∀ v F' H', St0 F H F' H' → Rp F' v (.tup ds) → Q v H') (p : Addr) (hp : H p = none) : Q (.ref p) (upd H p (.tup xs)) :=
  q _ _ _ (Stp.lay e hp) (.tup upd_same (r.mono (ex_upd e hp)))
theorem Rps.nil_of {F : Hp} {xs : List V} {ds : List D} (r : Rps F xs ds) (h : xs = []) : ds = [] := by
  subst h
  cases r
  rfl
theorem addS {K : PySem.W.Frag} : OpS (rAddAll K) addD := fun F H x y a b d Q e ra rb ho q => by
  have hz := sizeLine_eq
  cases ra with
  | int i =>
    cases rb with
    | int j =>
      cases ho
      exact .inl (.inl (.inl ⟨i, j, rfl, rfl, q _ F H (Stp.refl e) (.int _)⟩))
    | _ => cases ho
  | str i =>
    cases rb with
    | str j =>
      simp only [addD] at ho
      split at ho
      · cases ho
        exact .inl (.inl (.inr ⟨i, j, rfl, rfl, by omega, q _ F H (Stp.refl e) (.str _)⟩))
      · cases ho
    | _ => cases ho
  | @lst p xs ds hp r =>
    cases rb with
    | @lst p' ys es hp' r' =>
      simp only [addD] at ho
      split at ho
      · rename_i hl
        cases ho
        have l1 := r.length
        have l2 := r'.length
        exact .inl (.inr ⟨p, p', xs, ys, rfl, rfl, e _ _ hp, e _ _ hp', by omega, lay_lst e (r.append r') q⟩)
      · cases ho
    | _ => cases ho
  | @tup p xs ds hp r =>
    cases rb with
    | @tup p' ys es hp' r' =>
      simp only [addD] at ho
      split at ho
      · rename_i hl
        cases ho
        have l1 := r.length
        have l2 := r'.length
        refine .inr ⟨p, p', xs, ys, rfl, rfl, SqT.of (e _ _ hp), SqT.of (e _ _ hp'), by omega, fun h1 => ?_, fun h1 h2 => ?_, fun h1 h2 => lay_tup e (r.append r') q⟩
        · have := r.nil_of h1
          subst this
          exact q _ F H (Stp.refl e) (.tup hp' r')
        · have := r'.nil_of h2
          subst this
          rw [List.append_nil] at q
          exact q _ F H (Stp.refl e) (.tup hp r)
      · cases ho
    | _ => cases ho
  | _ => cases ho
section
variable {X : Cx} {G : Bags} {κ : List Kd} {f g : DE G} {a b : Expr} {pos : Pos}
theorem f_add (ha : PE X a (tF G κ f)) (hb : PE X b (tF G κ g)) : PE X (.BinOp a .Add b pos) (tF G κ (eOp addD f g)) := PE.imp (pe_op op_addAll ha hb) (tF_op addS)
end
/-- two ints to an int -/
def i2 (C : Int → Int → Bool) (h : Int → Int → Int) : D → D → Option D
  | .int a, .int b => if C a b then some (.int (h a b)) else none
  | _, _ => none
theorem i2S {C : Int → Int → Prop} {C' : Int → Int → Bool} {h : Int → Int → Int} (hc : ∀ i j, C' i j = true → C i j) : OpS (rI C fun i j => .int (h i j)) (i2 C' h) := OpS.val fun F H x y a b d Q e ra rb ho q => by
  cases ra with
  | int i =>
    cases rb with
    | int j =>
      simp only [i2] at ho
      split at ho
      · rename_i hh
        cases ho
        exact ⟨i, j, rfl, rfl, hc i j hh, q _ (.int _)⟩
      · cases ho
    | _ => cases ho
  | _ => cases ho
theorem i20S {h : Int → Int → Int} : OpS (rI0 fun i j => .int (h i j)) (i2 (fun _ _ => true) h) := OpS.val fun F H x y a b d Q e ra rb ho q => by
  cases ra with
  | int i =>
    cases rb with
    | int j => cases ho; exact ⟨i, j, rfl, rfl, q _ (.int _)⟩
    | _ => cases ho
  | _ => cases ho
def subD : D → D → Option D := i2 (fun _ _ => true) (· - ·)
def mulD : D → D → Option D := i2 (fun i j => (decide (-(2 ^ 64) < i) && decide (i < 2 ^ 64)) || (decide (-(2 ^ 64) < j) && decide (j < 2 ^ 64))) (· * ·)
def modD : D → D → Option D := i2 (fun _ j => decide (j ≠ 0)) Int.fmod
def fdivD : D → D → Option D := i2 (fun _ j => decide (j ≠ 0) && decide (j.natAbs < 1073741824)) Int.fdiv
section
variable {X : Cx} {G : Bags} {κ : List Kd} {f g : DE G} {a b : Expr} {pos : Pos}
theorem f_sub (ha : PE X a (tF G κ f)) (hb : PE X b (tF G κ g)) : PE X (.BinOp a .Sub b pos) (tF G κ (eOp subD f g)) := PE.imp (pe_op op_sub ha hb) (tF_op i20S)
theorem f_mul (ha : PE X a (tF G κ f)) (hb : PE X b (tF G κ g)) : PE X (.BinOp a .Mult b pos) (tF G κ (eOp mulD f g)) := PE.imp (pe_op op_mul ha hb) (tF_op (i2S fun i j h => by
  simp only [Bool.or_eq_true, Bool.and_eq_true, decide_eq_true_eq] at h
  exact h))
theorem f_mod (ha : PE X a (tF G κ f)) (hb : PE X b (tF G κ g)) : PE X (.BinOp a .Mod b pos) (tF G κ (eOp modD f g)) := PE.imp (pe_op op_modN ha hb) (tF_op (i2S fun i j h => of_decide_eq_true h))
theorem f_fdiv (ha : PE X a (tF G κ f)) (hb : PE X b (tF G κ g)) : PE X (.BinOp a .FloorDiv b pos) (tF G κ (eOp fdivD f g)) := PE.imp (pe_op op_fdivN ha hb) (tF_op (i2S fun i j h => by
  simp only [Bool.and_eq_true, decide_eq_true_eq] at h
  exact h))
def negD : D → Option D
  | .int a => some (.int (-a))
  | _ => none
theorem f_neg (ha : PE X a (tF G κ f)) : PE X (.UnaryOp .USub a pos) (tF G κ (eUn negD f)) := PE.imp (pe_un un_neg ha) (tF_un fun F H x a d Q e ra ho q => by
  cases ra with
  | int i => cases ho; exact ⟨i, rfl, q _ F H (Stp.refl e) (.int _)⟩
  | _ => cases ho)
end
end Fx
namespace Fx
open PySem PySem.Spec L2

/-! ## comparisons -/
def eCmp {S : Type} (o : D → D → Option Bool) (f g : Env → MS S D) : Env → MS S D := fun ρ => bnd (f ρ) fun a => bnd (g ρ) fun b => lft ((o a b).map D.bl)
def cCmp {S : Type} (o : D → D → Option Bool) (f g : Env → MS S D) : Env → MS S Bool := fun ρ => bnd (f ρ) fun a => bnd (g ρ) fun b => lft (o a b)
def CmpS (r : R2) (o : D → D → Option Bool) : Prop := ∀ (F H : Hp) (x y : V) (a b : D) (k : Bool) (Q : VK), Ex F H → Rp F x a → Rp F y b → o a b = some k → Q (.bl k) H → r x y H Q
theorem CmpS.or1 {r r' : R2} {o : D → D → Option Bool} (h : CmpS r o) : CmpS (fun x y H Q => r x y H Q ∨ r' x y H Q) o := fun F H x y a b k Q e ra rb ho q => .inl (h F H x y a b k Q e ra rb ho q)
section
variable {X : Cx} {G : Bags} {κ : List Kd} {f g : DE G} {a b : Expr} {pos : Pos}
theorem tF_cmp {r : R2} {o : D → D → Option Bool} (hs : CmpS r o) (σ : L2.St) (H : Hp) (Q : VK) : tF G κ (eCmp o f g) σ H Q → tOp r (tF G κ f) (tF G κ g) σ H Q := fun ⟨i, F0, H0, F, ρ, s, d, s', A, h, q⟩ => by
  obtain ⟨a, s1, h1, h⟩ := bnd_inv h
  obtain ⟨b, s2, h2, h⟩ := bnd_inv h
  obtain ⟨h3, rfl⟩ := lft_inv h
  obtain ⟨k, h4, rfl⟩ := Option.map_eq_some_iff.mp h3
  exact ⟨i, F0, H0, F, ρ, s, a, s1, A, h1, fun v F1 H1 t1 k1 r1 => ⟨i, F0, H0, F1, ρ, s1, b, s', A.step t1 k1, h2, fun w F2 H2 t2 k2 r2 =>
    hs F2 H2 v w a b k Q t2.fh (r1.mono t2.ff) r2 h4 (q _ F2 H2 (t1.trans t2) k2 (.bl k))⟩⟩
theorem tT_cmp {r : R2} {o : D → D → Option Bool} (hs : CmpS r o) (σ : L2.St) (H : Hp) (Q : Bool → Hp → Prop) : tT G κ (cCmp o f g) σ H Q → tTest (tOp r (tF G κ f) (tF G κ g)) σ H Q := fun ⟨i, F0, H0, F, ρ, s, k, s', A, h, q⟩ => by
  obtain ⟨a, s1, h1, h⟩ := bnd_inv h
  obtain ⟨b, s2, h2, h⟩ := bnd_inv h
  obtain ⟨h3, rfl⟩ := lft_inv h
  exact ⟨i, F0, H0, F, ρ, s, a, s1, A, h1, fun v F1 H1 t1 k1 r1 => ⟨i, F0, H0, F1, ρ, s1, b, s', A.step t1 k1, h2, fun w F2 H2 t2 k2 r2 =>
    hs F2 H2 v w a b k _ t2.fh (r1.mono t2.ff) r2 h3 ⟨k, rfl, q F2 H2 (t1.trans t2) k2⟩⟩⟩
theorem f_cmp {op : CmpOp} {r : R2} {o : D → D → Option Bool} (ho : OpR X (compareOp op) r) (hs : CmpS r o) (ha : PE X a (tF G κ f)) (hb : PE X b (tF G κ g)) (hm : behindInMarks op b = false := by exact nomark _) : PE X (.Compare a [op] [b] pos) (tF G κ (eCmp o f g)) :=
  PE.imp (pe_cmpR ho ha hb hm) (tF_cmp hs)
theorem t_cmp {op : CmpOp} {r : R2} {o : D → D → Option Bool} (ho : OpR X (compareOp op) r) (hs : CmpS r o) (ha : PE X a (tF G κ f)) (hb : PE X b (tF G κ g)) (hm : behindInMarks op b = false := by exact nomark _) : PT X (.Compare a [op] [b] pos) (tT G κ (cCmp o f g)) :=
  PT.imp (pt_cmpR ho ha hb hm) (tT_cmp hs)
end

/-! ### == over data -/
mutual
def toPy : D → PyData
  | .non => .none
  | .bl b => .bool b
  | .int i => .int i
  | .str x => .str x
  | .tup l => .tuple (toPys l)
  | .lst l => .list (toPys l)
  | .dk _ => .dict []
  | .dt _ => .dict []
def toPys : List D → List PyData
  | [] => []
  | d :: l => toPy d :: toPys l
end
theorem toPys_map : ∀ l : List D, toPys l = l.map toPy
  | [] => rfl
  | d :: l => by rw [toPys, toPys_map l, List.map_cons]
section
variable {K : PySem.W.Frag} {F H : Hp}
mutual
theorem Rp.dp (e : Ex F H) : ∀ {v : V} {d : D}, Rp F v d → (toPy d).canLay0 = true → Dp K H v (toPy d)
  | _, _, .non, _ => by rw [toPy]; exact .non
  | _, _, .bl b, _ => by rw [toPy]; exact .bl b
  | _, _, .int i, _ => by rw [toPy]; exact .int i
  | _, _, .str x, _ => by rw [toPy]; exact .str x
  | _, _, .tup h r, c => by rw [toPy] at c ⊢; exact .tup (SqT.of (e _ _ h)) (Rps.dp e r c)
  | _, _, .lst h r, c => by rw [toPy] at c ⊢; exact .lst (SqL.of (e _ _ h)) (Rps.dp e r c)
  | _, _, .dk _ _ _ _, c => by rw [toPy] at c; exact nomatch c
  | _, _, .dt _ _ _ _, c => by rw [toPy] at c; exact nomatch c
theorem Rps.dp (e : Ex F H) : ∀ {vs : List V} {ds : List D}, Rps F vs ds → PyData.canLayAll0 (toPys ds) = true → DpAll K H vs (toPys ds)
  | _, _, .nil, _ => by rw [toPys]; exact .nil
  | _, _, .cons h r, c => by
    rw [toPys] at c ⊢
    rw [PyData.canLayAll0, Bool.and_eq_true] at c
    exact .cons (Rp.dp e h c.1) (Rps.dp e r c.2)
end
end
def okD (d : D) : Bool := SeqAt.shaped (toPy d)
def eqB (a b : D) : Bool := PyData.eqv (toPy a) (toPy b)
def eqO (a b : D) : Option Bool := if okD a && okD b then some (eqB a b) else none
def neO (a b : D) : Option Bool := if okD a && okD b then some (!eqB a b) else none
theorem eqS {K : PySem.W.Frag} : CmpS (rEqD K) eqO := fun F H x y a b k Q e ra rb ho q => by
  unfold eqO at ho
  split at ho
  · rename_i h
    rw [Bool.and_eq_true] at h
    cases ho
    exact ⟨toPy a, toPy b, ra.dp e (SeqAt.canLay_of_shaped h.1), rb.dp e (SeqAt.canLay_of_shaped h.2), h.1, h.2, q⟩
  · cases ho
theorem neS {K : PySem.W.Frag} : CmpS (rNeD K) neO := fun F H x y a b k Q e ra rb ho q => by
  unfold neO at ho
  split at ho
  · rename_i h
    rw [Bool.and_eq_true] at h
    cases ho
    exact ⟨toPy a, toPy b, ra.dp e (SeqAt.canLay_of_shaped h.1), rb.dp e (SeqAt.canLay_of_shaped h.2), h.1, h.2, q⟩
  · cases ho
/-! ### < <= > >= of ints and texts -/
def strLt (x y : Str) : Bool := decide (x.cps.toList < y.cps.toList)
def ordO (hi : Int → Int → Bool) (hs : Str → Str → Bool) : D → D → Option Bool
  | .int a, .int b => some (hi a b)
  | .str a, .str b => some (hs a b)
  | _, _ => none
def ltO := ordO (fun a b => decide (a < b)) strLt
def leO := ordO (fun a b => decide (a ≤ b)) fun x y => !strLt y x
def gtO := ordO (fun a b => decide (b < a)) fun x y => strLt y x
def geO := ordO (fun a b => decide (b ≤ a)) fun x y => !strLt x y
theorem ordS {hi : Int → Int → Bool} {hs : Str → Str → Bool} : CmpS (fun x y H Q => rI0 (fun i j => .bl (hi i j)) x y H Q ∨ ∃ i j, x = .str i ∧ y = .str j ∧ Q (.bl (hs i j)) H) (ordO hi hs) := fun F H x y a b k Q e ra rb ho q => by
  cases ra with
  | int i =>
    cases rb with
    | int j => cases ho; exact .inl ⟨i, j, rfl, rfl, q⟩
    | _ => cases ho
  | str i =>
    cases rb with
    | str j => cases ho; exact .inr ⟨i, j, rfl, rfl, q⟩
    | _ => cases ho
  | _ => cases ho
/-! ### is None -/
def isNonD : D → Bool
  | .non => true
  | _ => false
theorem Rp.non_iff {F : Hp} {v : V} {d : D} (r : Rp F v d) : decide (v = .non) = isNonD d := by cases r <;> rfl
def isO (a b : D) : Option Bool := if isNonD b then some (isNonD a) else none
def isnO (a b : D) : Option Bool := if isNonD b then some (!isNonD a) else none
theorem isS : CmpS (fun x y H Q => y = .non ∧ Q (.bl (decide (x = .non))) H) isO := fun F H x y a b k Q e ra rb ho q => by
  unfold isO at ho
  split at ho
  · rename_i h
    cases ho
    rw [← rb.non_iff] at h
    refine ⟨of_decide_eq_true h, ?_⟩
    rw [ra.non_iff]
    exact q
  · cases ho
theorem isnS : CmpS (fun x y H Q => y = .non ∧ Q (.bl (!decide (x = .non))) H) isnO := fun F H x y a b k Q e ra rb ho q => by
  unfold isnO at ho
  split at ho
  · rename_i h
    cases ho
    rw [← rb.non_iff] at h
    refine ⟨of_decide_eq_true h, ?_⟩
    rw [ra.non_iff]
    exact q
  · cases ho
section
variable {X : Cx} {G : Bags} {κ : List Kd} {f g : DE G} {a b : Expr} {pos : Pos}
theorem f_eq (hu : X.A.units + 64 < cLine) (ha : PE X a (tF G κ f)) (hb : PE X b (tF G κ g)) : PE X (.Compare a [.Eq] [b] pos) (tF G κ (eCmp eqO f g)) := f_cmp (op_eqD hu) eqS ha hb
theorem t_eq (hu : X.A.units + 64 < cLine) (ha : PE X a (tF G κ f)) (hb : PE X b (tF G κ g)) : PT X (.Compare a [.Eq] [b] pos) (tT G κ (cCmp eqO f g)) := t_cmp (op_eqD hu) eqS ha hb
theorem f_ne (hu : X.A.units + 64 < cLine) (ha : PE X a (tF G κ f)) (hb : PE X b (tF G κ g)) : PE X (.Compare a [.NotEq] [b] pos) (tF G κ (eCmp neO f g)) := f_cmp (op_neD hu) neS ha hb
theorem t_ne (hu : X.A.units + 64 < cLine) (ha : PE X a (tF G κ f)) (hb : PE X b (tF G κ g)) : PT X (.Compare a [.NotEq] [b] pos) (tT G κ (cCmp neO f g)) := t_cmp (op_neD hu) neS ha hb
theorem f_lt (ha : PE X a (tF G κ f)) (hb : PE X b (tF G κ g)) : PE X (.Compare a [.Lt] [b] pos) (tF G κ (eCmp ltO f g)) := f_cmp (op_lt.or op_lt_str) ordS ha hb
theorem t_lt (ha : PE X a (tF G κ f)) (hb : PE X b (tF G κ g)) : PT X (.Compare a [.Lt] [b] pos) (tT G κ (cCmp ltO f g)) := t_cmp (op_lt.or op_lt_str) ordS ha hb
theorem f_le (ha : PE X a (tF G κ f)) (hb : PE X b (tF G κ g)) : PE X (.Compare a [.LtE] [b] pos) (tF G κ (eCmp leO f g)) := f_cmp (op_le.or op_le_str) ordS ha hb
theorem t_le (ha : PE X a (tF G κ f)) (hb : PE X b (tF G κ g)) : PT X (.Compare a [.LtE] [b] pos) (tT G κ (cCmp leO f g)) := t_cmp (op_le.or op_le_str) ordS ha hb
theorem f_gt (ha : PE X a (tF G κ f)) (hb : PE X b (tF G κ g)) : PE X (.Compare a [.Gt] [b] pos) (tF G κ (eCmp gtO f g)) := f_cmp (op_gt.or op_gt_str) ordS ha hb
theorem t_gt (ha : PE X a (tF G κ f)) (hb : PE X b (tF G κ g)) : PT X (.Compare a [.Gt] [b] pos) (tT G κ (cCmp gtO f g)) := t_cmp (op_gt.or op_gt_str) ordS ha hb
theorem f_ge (ha : PE X a (tF G κ f)) (hb : PE X b (tF G κ g)) : PE X (.Compare a [.GtE] [b] pos) (tF G κ (eCmp geO f g)) := f_cmp (op_ge.or op_ge_str) ordS ha hb
theorem t_ge (ha : PE X a (tF G κ f)) (hb : PE X b (tF G κ g)) : PT X (.Compare a [.GtE] [b] pos) (tT G κ (cCmp geO f g)) := t_cmp (op_ge.or op_ge_str) ordS ha hb
theorem f_is (ha : PE X a (tF G κ f)) (hb : PE X b (tF G κ g)) : PE X (.Compare a [.Is] [b] pos) (tF G κ (eCmp isO f g)) := f_cmp op_isN isS ha hb
theorem t_is (ha : PE X a (tF G κ f)) (hb : PE X b (tF G κ g)) : PT X (.Compare a [.Is] [b] pos) (tT G κ (cCmp isO f g)) := t_cmp op_isN isS ha hb
theorem f_isn (ha : PE X a (tF G κ f)) (hb : PE X b (tF G κ g)) : PE X (.Compare a [.IsNot] [b] pos) (tF G κ (eCmp isnO f g)) := f_cmp op_notN isnS ha hb
theorem t_isn (ha : PE X a (tF G κ f)) (hb : PE X b (tF G κ g)) : PT X (.Compare a [.IsNot] [b] pos) (tT G κ (cCmp isnO f g)) := t_cmp op_notN isnS ha hb
end

/-! ### a < b <= c -/
def cChain {S : Type} (o o' : D → D → Option Bool) (f g h : Env → MS S D) : Env → MS S Bool := fun ρ => bnd (f ρ) fun a => bnd (g ρ) fun b => bnd (lft (o a b)) fun k => if k then bnd (h ρ) fun c => lft (o' b c) else ret false
section
variable {X : Cx} {G : Bags} {κ : List Kd} {f g h : DE G} {a b c : Expr} {pos : Pos}
theorem t_chain {op op' : CmpOp} {r r' : R2} {o o' : D → D → Option Bool} (ho : OpR X (compareOp op) r) (ho' : OpR X (compareOp op') r') (hs : CmpS r o) (hs' : CmpS r' o') (ha : PE X a (tF G κ f)) (hb : PE X b (tF G κ g)) (hc : PE X c (tF G κ h))
    (hm : lastMarks [op, op'] [b, c] = false := by with_unfolding_all rfl) : PT X (.Compare a [op, op'] [b, c] pos) (tT G κ (cChain o o' f g h)) :=
  PT.imp (pt_chain ho ho' ha hb hc hm) fun σ H Q ⟨i, F0, H0, F, ρ, s, k, s', A, e, q⟩ => by
    obtain ⟨a, s1, h1, e⟩ := bnd_inv e
    obtain ⟨b, s2, h2, e⟩ := bnd_inv e
    obtain ⟨kb, s3, h3, e⟩ := bnd_inv e
    obtain ⟨h4, rfl⟩ := lft_inv h3
    refine ⟨i, F0, H0, F, ρ, s, a, s1, A, h1, fun v F1 H1 t1 k1 r1 => ⟨i, F0, H0, F1, ρ, s1, b, s3, A.step t1 k1, h2, fun w F2 H2 t2 k2 r2 => ?_⟩⟩
    refine hs F2 H2 v w a b _ _ t2.fh (r1.mono t2.ff) r2 h4 ⟨_, rfl, ?_⟩
    cases kb with
    | true =>
      obtain ⟨c, s4, h5, e⟩ := bnd_inv (show bnd (h ρ) _ s3 = _ from e)
      obtain ⟨h6, rfl⟩ := lft_inv e
      exact iteT ⟨i, F0, H0, F2, ρ, s3, c, s', (A.step t1 k1).step t2 k2, h5, fun z F3 H3 t3 k3 r3 => hs' F3 H3 w z b c k _ t3.fh (r2.mono t3.ff) r3 h6 ⟨k, rfl, q F3 H3 ((t1.trans t2).trans t3) k3⟩⟩
    | false =>
      obtain ⟨rfl, rfl⟩ := ret_inv (show ret false s3 = _ from e)
      exact iteF ⟨_, rfl, q F2 H2 (t1.trans t2) k2⟩
end

/-! ## and, or, not, if -/
def cAnd {S : Type} (f g : Env → MS S Bool) : Env → MS S Bool := fun ρ => bnd (f ρ) fun b => if b then g ρ else ret false
def cOr {S : Type} (f g : Env → MS S Bool) : Env → MS S Bool := fun ρ => bnd (f ρ) fun b => if b then ret true else g ρ
def cNot {S : Type} (f : Env → MS S Bool) : Env → MS S Bool := fun ρ => bnd (f ρ) fun b => ret (!b)
def eIf {S : Type} (c : Env → MS S Bool) (f g : Env → MS S D) : Env → MS S D := fun ρ => bnd (c ρ) fun b => if b then f ρ else g ρ
def boolD : D → Option Bool
  | .bl b => some b
  | _ => none
def eAnd {S : Type} (f g : Env → MS S D) : Env → MS S D := fun ρ => bnd (f ρ) fun a => bnd (lft (boolD a)) fun b => if b then g ρ else ret (.bl false)
def eOr {S : Type} (f g : Env → MS S D) : Env → MS S D := fun ρ => bnd (f ρ) fun a => bnd (lft (boolD a)) fun b => if b then ret (.bl true) else g ρ
def notD : D → Option D
  | .bl b => some (.bl (!b))
  | _ => none
/-- a value's truth -/
def truD : D → Option Bool
  | .non => some false
  | .bl b => some b
  | .int i => some (i != 0)
  | .str x => if x.length ≤ 16777216 then some ((x.length : Int) != 0) else none
  | .tup l => some (!l.isEmpty)
  | .lst l => some (!l.isEmpty)
  | .dk _ => none
  | .dt _ => none
def cTru {S : Type} (f : Env → MS S D) : Env → MS S Bool := fun ρ => bnd (f ρ) fun a => lft (truD a)
theorem Rps.isEmpty {F : Hp} {vs : List V} {ds : List D} (r : Rps F vs ds) : vs.isEmpty = ds.isEmpty := by cases r <;> rfl
theorem truV {K : PySem.W.Frag} {F H : Hp} {v : V} {d : D} {k : Bool} (e : Ex F H) (r : Rp F v d) (h : truD d = some k) : TruV K v H k := by
  have hz := sizeLine_eq
  cases r with
  | non => cases h; rfl
  | bl b => cases h; rfl
  | int i => cases h; rfl
  | str x =>
    simp only [truD] at h
    split at h
    · cases h
      exact ⟨by omega, rfl⟩
    · cases h
  | tup hp r =>
    cases h
    exact .inr (.inl ⟨_, SqT.of (e _ _ hp), by rw [r.isEmpty]⟩)
  | lst hp r =>
    cases h
    exact .inl ⟨_, SqL.of (e _ _ hp), by rw [r.isEmpty]⟩
  | dk => cases h
  | dt => cases h
section
variable {X : Cx} {G : Bags} {κ : List Kd} {f g : DE G} {c c' : DT G} {a b e : Expr} {rest : List Expr} {pos : Pos}
theorem t_tru (ha : PE X a (tF G κ f)) (he : ∀ whole, isTrue a X.env whole = (do let v ← whole; standAt a.pos; holding [v] (truthy v)) := by intro _; rfl) : PT X a (tT G κ (cTru f)) :=
  PT.imp (pt_truth ha he) fun σ H Q ⟨i, F0, H0, F, ρ, s, k, s', A, h, q⟩ => by
    obtain ⟨a, s1, h1, h⟩ := bnd_inv h
    obtain ⟨h2, rfl⟩ := lft_inv h
    exact ⟨i, F0, H0, F, ρ, s, a, s', A, h1, fun v F1 H1 t1 k1 r1 => ⟨k, truV t1.fh r1 h2, q F1 H1 t1 k1⟩⟩
theorem tT_and (σ : L2.St) (H : Hp) (Q : Bool → Hp → Prop) : tT G κ (cAnd c c') σ H Q → tAnd (tT G κ c) (tT G κ c') σ H Q := fun ⟨i, F0, H0, F, ρ, s, k, s', A, h, q⟩ => by
  obtain ⟨b, s1, h1, h⟩ := bnd_inv h
  refine ⟨i, F0, H0, F, ρ, s, b, s1, A, h1, fun F1 H1 t1 k1 => ?_⟩
  cases b with
  | true => exact iteT ⟨i, F0, H0, F1, ρ, s1, k, s', A.step t1 k1, h, fun F2 H2 t2 k2 => q F2 H2 (t1.trans t2) k2⟩
  | false =>
    obtain ⟨rfl, rfl⟩ := ret_inv (show ret false s1 = _ from h)
    exact iteF (q F1 H1 t1 k1)
theorem tT_or (σ : L2.St) (H : Hp) (Q : Bool → Hp → Prop) : tT G κ (cOr c c') σ H Q → tOr (tT G κ c) (tT G κ c') σ H Q := fun ⟨i, F0, H0, F, ρ, s, k, s', A, h, q⟩ => by
  obtain ⟨b, s1, h1, h⟩ := bnd_inv h
  refine ⟨i, F0, H0, F, ρ, s, b, s1, A, h1, fun F1 H1 t1 k1 => ?_⟩
  cases b with
  | true =>
    obtain ⟨rfl, rfl⟩ := ret_inv (show ret true s1 = _ from h)
    exact iteT (q F1 H1 t1 k1)
  | false => exact iteF ⟨i, F0, H0, F1, ρ, s1, k, s', A.step t1 k1, h, fun F2 H2 t2 k2 => q F2 H2 (t1.trans t2) k2⟩
theorem w_one1 (ha : PT X a (tT G κ c)) : PW X (.BoolOp .And [a] pos) (tT G κ c) := pw_and1 ha
theorem w_or1 (ha : PT X a (tT G κ c)) : PW X (.BoolOp .Or [a] pos) (tT G κ c) := pw_or1 ha
theorem w_and (ha : PT X a (tT G κ c)) (hb : PW X (.BoolOp .And (b :: rest) pos) (tT G κ c')) : PW X (.BoolOp .And (a :: b :: rest) pos) (tT G κ (cAnd c c')) := PW.imp (pw_and ha hb) tT_and
theorem w_or (ha : PT X a (tT G κ c)) (hb : PW X (.BoolOp .Or (b :: rest) pos) (tT G κ c')) : PW X (.BoolOp .Or (a :: b :: rest) pos) (tT G κ (cOr c c')) := PW.imp (pw_or ha hb) tT_or
theorem t_not (ha : PT X a (tT G κ c)) : PT X (.UnaryOp .Not a pos) (tT G κ (cNot c)) := PT.imp (pt_not ha) fun σ H Q ⟨i, F0, H0, F, ρ, s, k, s', A, h, q⟩ => by
  obtain ⟨b, s1, h1, h⟩ := bnd_inv h
  obtain ⟨rfl, rfl⟩ := ret_inv h
  exact ⟨i, F0, H0, F, ρ, s, b, s', A, h1, fun F1 H1 t1 k1 => q F1 H1 t1 k1⟩
theorem f_if (hc : PT X e (tT G κ c)) (ha : PE X a (tF G κ f)) (hb : PE X b (tF G κ g)) : PE X (.IfExp e a b pos) (tF G κ (eIf c f g)) := PE.imp (pe_ifExp hc ha hb) fun σ H Q ⟨i, F0, H0, F, ρ, s, d, s', A, h, q⟩ => by
  obtain ⟨b, s1, h1, h⟩ := bnd_inv h
  refine ⟨i, F0, H0, F, ρ, s, b, s1, A, h1, fun F1 H1 t1 k1 => ?_⟩
  cases b with
  | true => exact iteT ⟨i, F0, H0, F1, ρ, s1, d, s', A.step t1 k1, h, fun v F2 H2 t2 k2 r2 => q v F2 H2 (t1.trans t2) k2 r2⟩
  | false => exact iteF ⟨i, F0, H0, F1, ρ, s1, d, s', A.step t1 k1, h, fun v F2 H2 t2 k2 r2 => q v F2 H2 (t1.trans t2) k2 r2⟩
theorem boolD_inv {d : D} {b : Bool} (h : boolD d = some b) : d = .bl b := by
  cases d <;> cases h
  rfl
theorem f_one {op : BoolOp} (ha : PE X a (tF G κ f)) : PE X (.BoolOp op [a] pos) (tF G κ f) := pe_one ha
theorem f_and (ha : PE X a (tF G κ f)) (hb : PE X (.BoolOp .And (b :: rest) pos) (tF G κ g)) : PE X (.BoolOp .And (a :: b :: rest) pos) (tF G κ (eAnd f g)) := PE.imp (pe_and ha hb) fun σ H Q ⟨i, F0, H0, F, ρ, s, d, s', A, h, q⟩ => by
  obtain ⟨a, s1, h1, h⟩ := bnd_inv h
  obtain ⟨k, s2, h2, h⟩ := bnd_inv h
  obtain ⟨h3, rfl⟩ := lft_inv h2
  have := boolD_inv h3
  subst this
  refine ⟨i, F0, H0, F, ρ, s, _, s2, A, h1, fun v F1 H1 t1 k1 r1 => ?_⟩
  cases r1
  refine ⟨k, rfl, ?_⟩
  cases k with
  | true => exact iteT ⟨i, F0, H0, F1, ρ, s2, d, s', A.step t1 k1, h, fun v F2 H2 t2 k2 r2 => q v F2 H2 (t1.trans t2) k2 r2⟩
  | false =>
    obtain ⟨rfl, rfl⟩ := ret_inv (show ret (D.bl false) s2 = _ from h)
    exact iteF (q _ F1 H1 t1 k1 (.bl false))
theorem f_or (ha : PE X a (tF G κ f)) (hb : PE X (.BoolOp .Or (b :: rest) pos) (tF G κ g)) : PE X (.BoolOp .Or (a :: b :: rest) pos) (tF G κ (eOr f g)) := PE.imp (pe_or ha hb) fun σ H Q ⟨i, F0, H0, F, ρ, s, d, s', A, h, q⟩ => by
  obtain ⟨a, s1, h1, h⟩ := bnd_inv h
  obtain ⟨k, s2, h2, h⟩ := bnd_inv h
  obtain ⟨h3, rfl⟩ := lft_inv h2
  have := boolD_inv h3
  subst this
  refine ⟨i, F0, H0, F, ρ, s, _, s2, A, h1, fun v F1 H1 t1 k1 r1 => ?_⟩
  cases r1
  refine ⟨k, rfl, ?_⟩
  cases k with
  | true =>
    obtain ⟨rfl, rfl⟩ := ret_inv (show ret (D.bl true) s2 = _ from h)
    exact iteT (q _ F1 H1 t1 k1 (.bl true))
  | false => exact iteF ⟨i, F0, H0, F1, ρ, s2, d, s', A.step t1 k1, h, fun v F2 H2 t2 k2 r2 => q v F2 H2 (t1.trans t2) k2 r2⟩
theorem f_not (ha : PE X a (tF G κ f)) : PE X (.UnaryOp .Not a pos) (tF G κ (eUn notD f)) := PE.imp (pe_not ha) fun σ H Q ⟨i, F0, H0, F, ρ, s, d, s', A, h, q⟩ => by
  obtain ⟨a, s1, h1, h⟩ := bnd_inv h
  obtain ⟨h2, rfl⟩ := lft_inv h
  refine ⟨i, F0, H0, F, ρ, s, a, s', A, h1, fun v F1 H1 t1 k1 r1 => ?_⟩
  cases r1 with
  | bl b =>
    cases h2
    exact ⟨b, rfl, q _ F1 H1 t1 k1 (.bl _)⟩
  | _ => cases h2
end

/-! ## argument lists, displays, calls -/
def aNil {S : Type} : Env → MS S (List D) := fun _ => ret []
def aCons {S : Type} (f : Env → MS S D) (g : Env → MS S (List D)) : Env → MS S (List D) := fun ρ => bnd (f ρ) fun a => bnd (g ρ) fun l => ret (a :: l)
def eTup {S : Type} (f : Env → MS S (List D)) : Env → MS S D := fun ρ => bnd (f ρ) fun l => lft (if l.length ≤ 16777216 then some (.tup l) else none)
def eLst {S : Type} (f : Env → MS S (List D)) : Env → MS S D := fun ρ => bnd (f ρ) fun l => lft (if l.length ≤ 16777216 then some (.lst l) else none)
/-- a new thing that nothing else holds yet -/
def tFN (G : Bags) (κ : List Kd) (k : Kd) (f : DE G) : TE := fun σ H Q => ∃ (i : G.I) (F0 H0 F : Hp) (ρ : Env) (s : G.S) (d : D) (s' : G.S), As G i κ F0 H0 ρ s σ F H ∧ f ρ s = some (d, s') ∧
  ∀ a F' H', Stp (G.dom i) F H F' H' → G.Ok i s' H' → Ow F' H' a k d → H a = none → Q (.ref a) H'
theorem Stp.freeze {dom : Addr → Prop} {F H F' H' : Hp} {a : Addr} {o : HO} (t : Stp dom F H F' H') (hf : F' a = none) (hh : H' a = some o) (hn : H a = none) : Stp dom F H (upd F' a o) H' where
  ff := t.ff.trans fun b u h => by
    rw [upd_ne (ne_of_none h hf)]; exact h
  fh := fun b u h => by
    by_cases z : b = a
    · subst z; rw [upd_same] at h; cases h; exact hh
    · rw [upd_ne z] at h; exact t.fh b u h
  kp := t.kp
  dm := t.dm
  nw := fun b u h => by
    by_cases z : b = a
    · subst z; exact .inr (.inl hn)
    · rw [upd_ne z] at h; exact t.nw b u h
theorem Ow.freeze {F H : Hp} {a : Addr} {k : Kd} {d : D} (h : Ow F H a k d) : ∃ o, H a = some o ∧ Rp (upd F a o) (.ref a) d := by
  have up : ∀ (o : HO), F a = none → Ex F (upd F a o) := fun o hf b u q => by rw [upd_ne (ne_of_none q hf)]; exact q
  cases h with
  | oL hf hh r => exact ⟨_, hh, .lst upd_same (r.mono (up _ hf))⟩
  | oK hf hh q r => exact ⟨_, hh, .dk (.inl upd_same) q (r.mono (up _ hf)) rfl⟩
  | oT hf hh q r => exact ⟨_, hh, .dt (.inl upd_same) q (r.mono (up _ hf)) rfl⟩
section
variable {X : Cx} {G : Bags} {κ : List Kd} {f : DE G} {fs : DA G} {e : Expr} {es : List Expr} {pos : Pos}
/-- a new thing may be frozen at once -/
theorem f_frz {k : Kd} (h : PE X e (tFN G κ k f)) : PE X e (tF G κ f) := PE.imp h fun σ H Q ⟨i, F0, H0, F, ρ, s, d, s', A, h, q⟩ =>
  ⟨i, F0, H0, F, ρ, s, d, s', A, h, fun a F' H' t k o hn => by
    obtain ⟨u, h1, h2⟩ := o.freeze
    exact q _ _ H' (t.freeze o.free h1 hn) k h2⟩
theorem a_nil : PA X [] (tAs G κ aNil) := PA.imp pa_nil fun σ H Q ⟨i, F0, H0, F, ρ, s, ds, s', A, h, q⟩ => by
  obtain ⟨rfl, rfl⟩ := ret_inv h
  exact q [] F H (Stp.refl A.fh) A.ok .nil
theorem a_cons (ha : PE X e (tF G κ f)) (hr : PA X es (tAs G κ fs)) (hs : starEach (e :: es) X.env = (false, eval e X.env) :: starEach es X.env := by rfl) : PA X (e :: es) (tAs G κ (aCons f fs)) :=
  PA.imp (pa_cons ha hr hs) fun σ H Q ⟨i, F0, H0, F, ρ, s, ds, s', A, h, q⟩ => by
    obtain ⟨a, s1, h1, h⟩ := bnd_inv h
    obtain ⟨l, s2, h2, h⟩ := bnd_inv h
    obtain ⟨rfl, rfl⟩ := ret_inv h
    exact ⟨i, F0, H0, F, ρ, s, a, s1, A, h1, fun v F1 H1 t1 k1 r1 => ⟨i, F0, H0, F1, ρ, s1, l, s', A.step t1 k1, h2, fun vs F2 H2 t2 k2 r2 => q _ F2 H2 (t1.trans t2) k2 (.cons (r1.mono t2.ff) r2)⟩⟩
theorem f_tup {x1} (h : PA X es (tAs G κ fs)) : PE X (.Tuple es x1 pos) (tF G κ (eTup fs)) := PE.imp (pe_tup h) fun σ H Q ⟨i, F0, H0, F, ρ, s, d, s', A, h, q⟩ => by
  have hz := sizeLine_eq
  obtain ⟨l, s1, h1, h⟩ := bnd_inv h
  obtain ⟨h2, rfl⟩ := lft_inv h
  split at h2
  · cases h2
    exact ⟨i, F0, H0, F, ρ, s, l, s', A, h1, fun vs F1 H1 t1 k1 r1 => ⟨by rw [r1.length]; omega, lay_tup t1.fh r1 fun v F' H' t r => q v F' H' (t1.trans t.any) (t.ok k1) r⟩⟩
  · cases h2
theorem n_lst (h : PA X es (tAs G κ fs)) : PE X (.List es pos) (tFN G κ .oL (eLst fs)) := PE.imp (pe_lst h) fun σ H Q ⟨i, F0, H0, F, ρ, s, d, s', A, h, q⟩ => by
  have hz := sizeLine_eq
  obtain ⟨l, s1, h1, h⟩ := bnd_inv h
  obtain ⟨h2, rfl⟩ := lft_inv h
  split at h2
  · cases h2
    refine ⟨i, F0, H0, F, ρ, s, l, s', A, h1, fun vs F1 H1 t1 k1 r1 => ⟨by rw [r1.length]; omega, fun p hp => ?_⟩⟩
    have lay : Stp (G.dom i) F1 H1 F1 (upd H1 p (.lst vs)) := by
      refine ⟨Ex.refl F1, fun b u z => ?_, fun b u z _ => ?_, fun b _ z => ?_, fun b u z => .inl z⟩
      · rw [upd_ne (ne_of_none (t1.fh b u z) hp)]; exact t1.fh b u z
      · rw [upd_ne (ne_of_none z hp)]; exact z
      · by_cases y : b = p
        · subst y; rw [upd_same]; exact fun w => by cases w
        · rw [upd_ne y]; exact z
    exact q p F1 _ (t1.trans lay) (G.frame k1 fun b hb => upd_ne fun y => G.alloc k1 hb (y ▸ hp)) (.oL (t1.fh.new hp) upd_same r1) (t1.back hp)
  · cases h2
theorem f_lst (h : PA X es (tAs G κ fs)) : PE X (.List es pos) (tF G κ (eLst fs)) := f_frz (n_lst h)
end
end Fx
namespace Fx
open PySem PySem.Spec L2

/-! ## built-in functions -/
def eFn {S : Type} (o : List D → Option D) (fs : Env → MS S (List D)) : Env → MS S D := fun ρ => bnd (fs ρ) fun l => lft (o l)
def CbS (r : List V → Hp → VK → Prop) (o : List D → Option D) : Prop := ∀ (F H : Hp) (vs : List V) (ds : List D) (d : D) (Q : VK), Ex F H → Rps F vs ds → o ds = some d → (∀ v F' H', St0 F H F' H' → Rp F' v d → Q v H') → r vs H Q
/-- it gives a new thing of its own -/
def CbN (k : Kd) (r : List V → Hp → VK → Prop) (o : List D → Option D) : Prop := ∀ (F H : Hp) (vs : List V) (ds : List D) (d : D) (Q : VK), Ex F H → Rps F vs ds → o ds = some d →
  (∀ a F' H', St0 F H F' H' → Ow F' H' a k d → H a = none → Q (.ref a) H') → r vs H Q
section
variable {X : Cx} {G : Bags} {κ : List Kd} {fs : DA G} {x : Str} {p pos : Pos} {e : Expr} {es : List Expr} {id T : String} {r : List V → Hp → VK → Prop} {o : List D → Option D}
theorem tF_cb (hs : CbS r o) (σ : L2.St) (H : Hp) (Q : VK) : tF G κ (eFn o fs) σ H Q → tCB r (tAs G κ fs) σ H Q := fun ⟨i, F0, H0, F, ρ, s, d, s', A, h, q⟩ => by
  obtain ⟨l, s1, h1, h⟩ := bnd_inv h
  obtain ⟨h2, rfl⟩ := lft_inv h
  exact ⟨i, F0, H0, F, ρ, s, l, s', A, h1, fun vs F1 H1 t1 k1 r1 => hs F1 H1 vs l d Q t1.fh r1 h2 fun v F' H' t r => q v F' H' (t1.trans t.any) (t.ok k1) r⟩
theorem tFN_cb {k : Kd} (hs : CbN k r o) (σ : L2.St) (H : Hp) (Q : VK) : tFN G κ k (eFn o fs) σ H Q → tCB r (tAs G κ fs) σ H Q := fun ⟨i, F0, H0, F, ρ, s, d, s', A, h, q⟩ => by
  obtain ⟨l, s1, h1, h⟩ := bnd_inv h
  obtain ⟨h2, rfl⟩ := lft_inv h
  exact ⟨i, F0, H0, F, ρ, s, l, s', A, h1, fun vs F1 H1 t1 k1 r1 => hs F1 H1 vs l d Q t1.fh r1 h2 fun a F' H' t ow hn => q a F' H' (t1.trans t.any) (t.ok k1) ow (t1.back hn)⟩
theorem f_cb (hc : CallR X (.builtin id) r) (hs : CbS r o) (hg : Gl X x) (hm : X.mg x = none) (hv : bootBuiltins x = some (.builtin id)) (ha : PA X (e :: es) (tAs G κ fs)) (hn : x ≠ "__name__" := by decide) (hdb : (x == ("__debug__" : Str)) = false := by decide)
    (he : starEach (e :: es) X.env = (false, eval e X.env) :: starEach es X.env := by rfl) (hpl : (backTo pos (starEach es X.env)).any (·.1) = false := by rfl) : PE X (.Call (.Name x p) (e :: es) [] pos) (tF G κ (eFn o fs)) :=
  PE.imp (pe_callB hc hg hm hv ha hn hdb he hpl) (tF_cb hs)
theorem f_ct (hc : CallR X (.type T) r) (hs : CbS r o) (hg : Gl X x) (hm : X.mg x = none) (hv : bootBuiltins x = some (.type T)) (ha : PA X (e :: es) (tAs G κ fs)) (hn : x ≠ "__name__" := by decide) (hdb : (x == ("__debug__" : Str)) = false := by decide)
    (he : starEach (e :: es) X.env = (false, eval e X.env) :: starEach es X.env := by rfl) (hpl : (backTo pos (starEach es X.env)).any (·.1) = false := by rfl) : PE X (.Call (.Name x p) (e :: es) [] pos) (tF G κ (eFn o fs)) :=
  PE.imp (pe_callTy hc hg hm hv ha hn hdb he hpl) (tF_cb hs)
theorem n_cb {k : Kd} (hc : CallR X (.builtin id) r) (hs : CbN k r o) (hg : Gl X x) (hm : X.mg x = none) (hv : bootBuiltins x = some (.builtin id)) (ha : PA X (e :: es) (tAs G κ fs)) (hn : x ≠ "__name__" := by decide) (hdb : (x == ("__debug__" : Str)) = false := by decide)
    (he : starEach (e :: es) X.env = (false, eval e X.env) :: starEach es X.env := by rfl) (hpl : (backTo pos (starEach es X.env)).any (·.1) = false := by rfl) : PE X (.Call (.Name x p) (e :: es) [] pos) (tFN G κ k (eFn o fs)) :=
  PE.imp (pe_callB hc hg hm hv ha hn hdb he hpl) (tFN_cb hs)
theorem n_ct {k : Kd} (hc : CallR X (.type T) r) (hs : CbN k r o) (hg : Gl X x) (hm : X.mg x = none) (hv : bootBuiltins x = some (.type T)) (ha : PA X (e :: es) (tAs G κ fs)) (hn : x ≠ "__name__" := by decide) (hdb : (x == ("__debug__" : Str)) = false := by decide)
    (he : starEach (e :: es) X.env = (false, eval e X.env) :: starEach es X.env := by rfl) (hpl : (backTo pos (starEach es X.env)).any (·.1) = false := by rfl) : PE X (.Call (.Name x p) (e :: es) [] pos) (tFN G κ k (eFn o fs)) :=
  PE.imp (pe_callTy hc hg hm hv ha hn hdb he hpl) (tFN_cb hs)
end
theorem Rps.inv1 {F : Hp} {vs : List V} {d : D} (r : Rps F vs [d]) : ∃ v, vs = [v] ∧ Rp F v d := by
  cases r with
  | cons h t => cases t; exact ⟨_, rfl, h⟩
theorem Rps.inv2 {F : Hp} {vs : List V} {d e : D} (r : Rps F vs [d, e]) : ∃ v w, vs = [v, w] ∧ Rp F v d ∧ Rp F w e := by
  cases r with
  | cons h t =>
    obtain ⟨w, rfl, h2⟩ := t.inv1
    exact ⟨_, w, rfl, h, h2⟩
/-- a one-place built-in -/
def fn1 (o : D → Option D) : List D → Option D
  | [d] => o d
  | _ => none
def fn2 (o : D → D → Option D) : List D → Option D
  | [d, e] => o d e
  | _ => none
theorem fn1_inv {o : D → Option D} {ds : List D} {d : D} (h : fn1 o ds = some d) : ∃ a, ds = [a] ∧ o a = some d := by
  match ds, h with
  | [a], h => exact ⟨a, rfl, h⟩
theorem fn2_inv {o : D → D → Option D} {ds : List D} {d : D} (h : fn2 o ds = some d) : ∃ a b, ds = [a, b] ∧ o a b = some d := by
  match ds, h with
  | [a, b], h => exact ⟨a, b, rfl, h⟩
/-! ### len -/
theorem Rp.kvlen {κ α β : Type} {kvs : List (κ × α)} {l : List (κ × β)} (h : kvs.map (·.1) = l.map (·.1)) : kvs.length = l.length := by
  have := congrArg List.length h
  simpa using this
def lenO : D → Option D
  | .str x => if x.length ≤ 16777216 then some (.int x.length) else none
  | .tup l => some (.int l.length)
  | .lst l => some (.int l.length)
  | .dk l => some (.int l.length)
  | .dt l => some (.int l.length)
  | _ => none
section
variable {X : Cx}
theorem call_lenDk : CallR X (.builtin "len") (fun xs H Q => ∃ a kvs, xs = [V.ref a] ∧ Rd H a (.dK kvs) ∧ Q (.int kvs.length) H) := by
  intro pins s σ H xs us Q I r h
  obtain ⟨a, kvs, rfl, ha, q⟩ := h
  obtain ⟨u, rfl, ru⟩ := vals1 r
  cases ru
  exact d_len I ha fun t s' I' => ⟨.int kvs.length, H, I', ⟨t, rfl⟩, q⟩
theorem call_lenDt : CallR X (.builtin "len") (fun xs H Q => ∃ (p : Addr) (kvs : List (List Key × V)), xs = [.ref p] ∧ Rd H p (.dT kvs) ∧ Q (.int ((kvs.length : Nat) : Int)) H) := by
  intro pins s σ H xs us Q I r h
  obtain ⟨p, kvs, rfl, hp, q⟩ := h
  obtain ⟨u, rfl, rx⟩ := vals1 r
  obtain rfl : u = .ref p := rx
  obtain ⟨z, hd, ys, rel, dd⟩ := dt_rd I.hok hp
  have hl : kvs.length = ys.length := Paired.length rel
  refine call_len_dictH hd dd (by rw [← hl]; rw [sizeLine_eq] at z; omega) ?_
  rw [← hl]
  exact ⟨.int ((kvs.length : Nat) : Int), H, I.tok _, ⟨_, rfl⟩, q⟩
end
def rLenAll (K : PySem.W.Frag) : List V → Hp → VK → Prop := fun xs H Q => ((∃ x n, xs = [x] ∧ LenV K x H n ∧ Q (.int n) H) ∨ (∃ a kvs, xs = [V.ref a] ∧ Rd H a (.dK kvs) ∧ Q (.int kvs.length) H)) ∨
  (∃ (p : Addr) (kvs : List (List Key × V)), xs = [.ref p] ∧ Rd H p (.dT kvs) ∧ Q (.int ((kvs.length : Nat) : Int)) H)
theorem call_lenAll {X : Cx} : CallR X (.builtin "len") (rLenAll X.K) := (call_len.or call_lenDk).or call_lenDt
theorem lenS {K : PySem.W.Frag} : CbS (rLenAll K) (fn1 lenO) := fun F H vs ds d Q e r ho q => by
  have hz := sizeLine_eq
  obtain ⟨a, rfl, h⟩ := fn1_inv ho
  obtain ⟨v, rfl, r1⟩ := r.inv1
  cases r1 with
  | str x =>
    simp only [lenO] at h
    split at h
    · cases h
      exact .inl (.inl ⟨_, x.length, rfl, ⟨by omega, rfl⟩, q _ F H (Stp.refl e) (.int _)⟩)
    · cases h
  | tup hp r3 =>
    cases h
    exact .inl (.inl ⟨_, _, rfl, .inr ⟨_, SqT.of (e _ _ hp), rfl⟩, by rw [r3.length]; exact q _ F H (Stp.refl e) (.int _)⟩)
  | lst hp r3 =>
    cases h
    exact .inl (.inl ⟨_, _, rfl, .inl ⟨_, SqL.of (e _ _ hp), rfl⟩, by rw [r3.length]; exact q _ F H (Stp.refl e) (.int _)⟩)
  | dk hp hk r he =>
    cases h
    exact .inl (.inr ⟨_, _, rfl, Ex.rd e hp, by rw [Rp.kvlen hk]; exact q _ F H (Stp.refl e) (.int _)⟩)
  | dt hp hk r he =>
    cases h
    exact .inr ⟨_, _, rfl, Ex.rd e hp, by rw [Rp.kvlen hk]; exact q _ F H (Stp.refl e) (.int _)⟩
  | _ => cases h
/-! ### abs, max, min of ints, int, str -/
def absO : D → Option D
  | .int i => some (.int (if i < 0 then -i else i))
  | _ => none
def maxO : D → D → Option D
  | .int i, .int j => some (.int (if j > i then j else i))
  | _, _ => none
def minO : D → D → Option D
  | .int i, .int j => some (.int (if j < i then j else i))
  | _, _ => none
def intO : D → Option D
  | .int i => some (.int i)
  | .bl k => some (.int (if k then 1 else 0))
  | _ => none
def strO : D → Option D
  | .int i => if i.natAbs.log2 < 1920 then some (.str (toString i)) else none
  | _ => none
theorem absS : CbS (fun xs H Q => ∃ i, xs = [.int i] ∧ Q (.int (if i < 0 then -i else i)) H) (fn1 absO) := fun F H vs ds d Q e r ho q => by
  obtain ⟨a, rfl, h⟩ := fn1_inv ho
  obtain ⟨v, rfl, r1⟩ := r.inv1
  cases r1 with
  | int i => cases h; exact ⟨i, rfl, q _ F H (Stp.refl e) (.int _)⟩
  | _ => cases h
theorem maxS : CbS (fun xs H Q => ∃ i j, xs = [.int i, .int j] ∧ Q (.int (if j > i then j else i)) H) (fn2 maxO) := fun F H vs ds d Q e r ho q => by
  obtain ⟨a, b, rfl, h⟩ := fn2_inv ho
  obtain ⟨v, w, rfl, r1, r2⟩ := r.inv2
  cases r1 with
  | int i =>
    cases r2 with
    | int j => cases h; exact ⟨i, j, rfl, q _ F H (Stp.refl e) (.int _)⟩
    | _ => cases h
  | _ => cases h
theorem minS : CbS (fun xs H Q => ∃ i j, xs = [.int i, .int j] ∧ Q (.int (if j < i then j else i)) H) (fn2 minO) := fun F H vs ds d Q e r ho q => by
  obtain ⟨a, b, rfl, h⟩ := fn2_inv ho
  obtain ⟨v, w, rfl, r1, r2⟩ := r.inv2
  cases r1 with
  | int i =>
    cases r2 with
    | int j => cases h; exact ⟨i, j, rfl, q _ F H (Stp.refl e) (.int _)⟩
    | _ => cases h
  | _ => cases h
theorem intS : CbS (fun xs H Q => (∃ i, xs = [.int i] ∧ Q (.int i) H) ∨ ∃ k, xs = [.bl k] ∧ Q (.int (if k then 1 else 0)) H) (fn1 intO) := fun F H vs ds d Q e r ho q => by
  obtain ⟨a, rfl, h⟩ := fn1_inv ho
  obtain ⟨v, rfl, r1⟩ := r.inv1
  cases r1 with
  | int i => cases h; exact .inl ⟨i, rfl, q _ F H (Stp.refl e) (.int _)⟩
  | bl k => cases h; exact .inr ⟨k, rfl, q _ F H (Stp.refl e) (.int _)⟩
  | _ => cases h
theorem strS : CbS (fun xs H Q => ∃ i, xs = [.int i] ∧ i.natAbs.log2 < 1920 ∧ Q (.str (toString i)) H) (fn1 strO) := fun F H vs ds d Q e r ho q => by
  obtain ⟨a, rfl, h⟩ := fn1_inv ho
  obtain ⟨v, rfl, r1⟩ := r.inv1
  cases r1 with
  | int i =>
    simp only [strO] at h
    split at h
    · rename_i hl
      cases h; exact ⟨i, rfl, hl, q _ F H (Stp.refl e) (.str _)⟩
    · cases h
  | _ => cases h
/-! ### list(..), tuple(..) -/
def seqO : D → Option (List D)
  | .tup l => some l
  | .lst l => some l
  | _ => none
def listO (d : D) : Option D := (seqO d).map .lst
def tupleO (d : D) : Option D := (seqO d).map .tup
theorem St0.lay0 {F H : Hp} {p : Addr} {o : HO} (e : Ex F H) (h : H p = none) : St0 F H F (upd H p o) := by
  refine ⟨Ex.refl F, fun b u z => ?_, fun b u z _ => ?_, fun b z => z.elim, fun b u z => .inl z⟩
  · rw [upd_ne (ne_of_none (e b u z) h)]; exact e b u z
  · rw [upd_ne (ne_of_none z h)]; exact z
theorem listS {K : PySem.W.Frag} : CbN .oL (fun xs H Q => ∃ p ys, xs = [.ref p] ∧ (SqL K H p ys ∨ SqT K H p ys) ∧ ∀ l, H l = none → Q (.ref l) (upd H l (.lst ys))) (fn1 listO) := fun F H vs ds d Q e r ho q => by
  obtain ⟨a, rfl, h⟩ := fn1_inv ho
  obtain ⟨v, rfl, r1⟩ := r.inv1
  cases r1 with
  | tup hp r3 =>
    cases h
    exact ⟨_, _, rfl, .inr (SqT.of (e _ _ hp)), fun l hl => q l F _ (St0.lay0 e hl) (.oL (e.new hl) upd_same r3) hl⟩
  | lst hp r3 =>
    cases h
    exact ⟨_, _, rfl, .inl (SqL.of (e _ _ hp)), fun l hl => q l F _ (St0.lay0 e hl) (.oL (e.new hl) upd_same r3) hl⟩
  | _ => cases h
theorem tupleS {K : PySem.W.Frag} : CbS (fun xs H Q => ∃ p ys, xs = [.ref p] ∧ ((SqL K H p ys ∧ ∀ l, H l = none → Q (.ref l) (upd H l (.tup ys))) ∨ (SqT K H p ys ∧ Q (.ref p) H))) (fn1 tupleO) := fun F H vs ds d Q e r ho q => by
  obtain ⟨a, rfl, h⟩ := fn1_inv ho
  obtain ⟨v, rfl, r1⟩ := r.inv1
  cases r1 with
  | tup hp r3 =>
    cases h
    exact ⟨_, _, rfl, .inr ⟨SqT.of (e _ _ hp), q _ F H (Stp.refl e) (.tup hp r3)⟩⟩
  | lst hp r3 =>
    cases h
    exact ⟨_, _, rfl, .inl ⟨SqL.of (e _ _ hp), lay_tup e r3 q⟩⟩
  | _ => cases h
section
variable {X : Cx} {G : Bags} {κ : List Kd} {fs : DA G} {p pos : Pos} {e : Expr} {es : List Expr}
theorem f_len (hg : Gl X "len") (hm : X.mg "len" = none) (ha : PA X (e :: es) (tAs G κ fs)) (he : starEach (e :: es) X.env = (false, eval e X.env) :: starEach es X.env := by rfl) (hpl : (backTo pos (starEach es X.env)).any (·.1) = false := by rfl) :
    PE X (.Call (.Name "len" p) (e :: es) [] pos) (tF G κ (eFn (fn1 lenO) fs)) := f_cb call_lenAll lenS hg hm PySem.boot_len ha (by decide) (by decide) he hpl
theorem f_abs (hg : Gl X "abs") (hm : X.mg "abs" = none) (ha : PA X (e :: es) (tAs G κ fs)) (he : starEach (e :: es) X.env = (false, eval e X.env) :: starEach es X.env := by rfl) (hpl : (backTo pos (starEach es X.env)).any (·.1) = false := by rfl) :
    PE X (.Call (.Name "abs" p) (e :: es) [] pos) (tF G κ (eFn (fn1 absO) fs)) := f_cb call_abs absS hg hm (by decide +kernel) ha (by decide) (by decide) he hpl
theorem f_max2 (hc : X.calm = true) (hg : Gl X "max") (hm : X.mg "max" = none) (ha : PA X (e :: es) (tAs G κ fs)) (he : starEach (e :: es) X.env = (false, eval e X.env) :: starEach es X.env := by rfl) (hpl : (backTo pos (starEach es X.env)).any (·.1) = false := by rfl) :
    PE X (.Call (.Name "max" p) (e :: es) [] pos) (tF G κ (eFn (fn2 maxO) fs)) := f_cb (call_max2 hc) maxS hg hm (by decide +kernel) ha (by decide) (by decide) he hpl
theorem f_min2 (hc : X.calm = true) (hg : Gl X "min") (hm : X.mg "min" = none) (ha : PA X (e :: es) (tAs G κ fs)) (he : starEach (e :: es) X.env = (false, eval e X.env) :: starEach es X.env := by rfl) (hpl : (backTo pos (starEach es X.env)).any (·.1) = false := by rfl) :
    PE X (.Call (.Name "min" p) (e :: es) [] pos) (tF G κ (eFn (fn2 minO) fs)) := f_cb (call_min2 hc) minS hg hm (by decide +kernel) ha (by decide) (by decide) he hpl
theorem f_intc (hg : Gl X "int") (hm : X.mg "int" = none) (ha : PA X (e :: es) (tAs G κ fs)) (he : starEach (e :: es) X.env = (false, eval e X.env) :: starEach es X.env := by rfl) (hpl : (backTo pos (starEach es X.env)).any (·.1) = false := by rfl) :
    PE X (.Call (.Name "int" p) (e :: es) [] pos) (tF G κ (eFn (fn1 intO) fs)) := f_ct call_int1 intS hg hm (by decide +kernel) ha (by decide) (by decide) he hpl
theorem f_strc (hg : Gl X "str") (hm : X.mg "str" = none) (ha : PA X (e :: es) (tAs G κ fs)) (he : starEach (e :: es) X.env = (false, eval e X.env) :: starEach es X.env := by rfl) (hpl : (backTo pos (starEach es X.env)).any (·.1) = false := by rfl) :
    PE X (.Call (.Name "str" p) (e :: es) [] pos) (tF G κ (eFn (fn1 strO) fs)) := f_ct call_str_int strS hg hm (by decide +kernel) ha (by decide) (by decide) he hpl
theorem n_list (hg : Gl X "list") (hm : X.mg "list" = none) (ha : PA X (e :: es) (tAs G κ fs)) (he : starEach (e :: es) X.env = (false, eval e X.env) :: starEach es X.env := by rfl) (hpl : (backTo pos (starEach es X.env)).any (·.1) = false := by rfl) :
    PE X (.Call (.Name "list" p) (e :: es) [] pos) (tFN G κ .oL (eFn (fn1 listO) fs)) := n_ct call_list_of listS hg hm (by decide +kernel) ha (by decide) (by decide) he hpl
theorem f_list (hg : Gl X "list") (hm : X.mg "list" = none) (ha : PA X (e :: es) (tAs G κ fs)) (he : starEach (e :: es) X.env = (false, eval e X.env) :: starEach es X.env := by rfl) (hpl : (backTo pos (starEach es X.env)).any (·.1) = false := by rfl) :
    PE X (.Call (.Name "list" p) (e :: es) [] pos) (tF G κ (eFn (fn1 listO) fs)) := f_frz (n_list hg hm ha he hpl)
theorem f_tuple (hg : Gl X "tuple") (hm : X.mg "tuple" = none) (ha : PA X (e :: es) (tAs G κ fs)) (he : starEach (e :: es) X.env = (false, eval e X.env) :: starEach es X.env := by rfl) (hpl : (backTo pos (starEach es X.env)).any (·.1) = false := by rfl) :
    PE X (.Call (.Name "tuple" p) (e :: es) [] pos) (tF G κ (eFn (fn1 tupleO) fs)) := f_ct call_tuple_of tupleS hg hm (by decide +kernel) ha (by decide) (by decide) he hpl
end

/-! ### isinstance(x, T) -/
def tyN : D → String
  | .non => "NoneType" | .bl _ => "bool" | .int _ => "int" | .str _ => "str" | .tup _ => "tuple" | .lst _ => "list" | .dk _ => "dict" | .dt _ => "dict"
def isiO (T : String) (d : D) : Option D := (kitB (tyN d) T).map .bl
section
variable {X : Cx} {G : Bags} {κ : List Kd} {f : DE G} {p q pos : Pos} {e : Expr} {T : String} {x : Str}
theorem Rp.tyX {K : PySem.W.Frag} {F H : Hp} {v : V} {d : D} (e : Ex F H) (r : Rp F v d) (hd : ∀ l, d ≠ .dk l) (ht : ∀ l, d ≠ .dt l) : TyX K H v (.type (tyN d)) := by
  cases r with
  | non => exact .base .non
  | bl b => exact .base (.bl b)
  | int i => exact .base (.int i)
  | str x => exact .base (.str x)
  | tup hp _ => exact .base (.tup (e _ _ hp))
  | lst hp _ => exact .base (.lst (e _ _ hp))
  | dk => exact absurd rfl (hd _)
  | dt => exact absurd rfl (ht _)
def isiO' (T : String) : D → Option D
  | .dk _ => none
  | .dt _ => none
  | d => isiO T d
theorem f_isi (hg : Gl X "isinstance") (hm : X.mg "isinstance" = none) (hg' : Gl X x) (hm' : X.mg x = none) (hv : bootBuiltins x = some (.type T)) (ha : PE X e (tF G κ f)) (hn : x ≠ "__name__" := by decide) (hdb : (x == ("__debug__" : Str)) = false := by decide)
    (hs : starEach [e, .Name x q] X.env = (false, eval e X.env) :: starEach [.Name x q] X.env := by rfl) (hs2 : starEach [.Name x q] X.env = (false, eval (.Name x q) X.env) :: starEach [] X.env := by rfl) (hpl : (backTo pos (starEach [.Name x q] X.env)).any (·.1) = false := by rfl) :
    PE X (.Call (.Name "isinstance" p) [e, .Name x q] [] pos) (tF G κ (eUn (isiO' T) f)) :=
  PE.imp (pe_callB call_isi hg hm (by decide +kernel) (pa_cons ha (pa_cons (pe_bltn (v := .ty T) hg' hm' hv rfl hn hdb) pa_nil hs2) hs) (by decide) (by decide) hs hpl) fun σ H Q ⟨i, F0, H0, F, ρ, s, d, s', A, h, k⟩ => by
    obtain ⟨a, s1, h1, h⟩ := bnd_inv h
    obtain ⟨h2, rfl⟩ := lft_inv h
    refine ⟨i, F0, H0, F, ρ, s, a, s', A, h1, fun v F1 H1 t1 k1 r1 => ?_⟩
    have h3 : isiO T a = some d ∧ (∀ l, a ≠ .dk l) ∧ ∀ l, a ≠ .dt l := by
      cases a <;> first | exact ⟨h2, fun _ z => (by cases z), fun _ z => (by cases z)⟩ | cases h2
    obtain ⟨b, h4, rfl⟩ := Option.map_eq_some_iff.mp h3.1
    exact ⟨v, .ty T, .type (tyN a), .type T, b, rfl, .ty T, r1.tyX t1.fh h3.2.1 h3.2.2, kit_ty h4, k _ F1 H1 t1 k1 (.bl b)⟩
end
end Fx
namespace Fx
open PySem PySem.Spec L2

/-! ## keys -/
def asKey : D → Option Key
  | .int i => some (.inl i)
  | .str x => some (.inr x)
  | _ => none
def keysOf : List D → Option (List Key)
  | [] => some []
  | d :: l => match asKey d, keysOf l with
    | some k, some ks => some (k :: ks)
    | _, _ => none
def asKeys : D → Option (List Key)
  | .tup l => keysOf l
  | _ => none
theorem asKey_rp {F : Hp} {v : V} {d : D} {k : Key} (r : Rp F v d) (h : asKey d = some k) : v = kV k := by
  cases r with
  | int i => cases h; rfl
  | str x => cases h; rfl
  | _ => cases h
theorem keysOf_rp {F : Hp} : ∀ {vs : List V} {ds : List D} {ks : List Key}, Rps F vs ds → keysOf ds = some ks → vs = ks.map kV
  | _, _, _, .nil, h => by cases h; rfl
  | _, _, _, .cons (d := d) (ds := ds) a r, h => by
    rw [keysOf] at h
    cases h1 : asKey d with
    | none => rw [h1] at h; cases h
    | some k =>
      cases h2 : keysOf ds with
      | none => rw [h1, h2] at h; cases h
      | some ks =>
        rw [h1, h2] at h
        cases h
        rw [asKey_rp a h1, keysOf_rp r h2]
        rfl
theorem asKeys_rp {F : Hp} {v : V} {d : D} {ks : List Key} (r : Rp F v d) (h : asKeys d = some ks) : ∃ b, v = .ref b ∧ F b = some (.tup (ks.map kV)) := by
  cases r with
  | tup hp r1 =>
    rw [← keysOf_rp r1 h]
    exact ⟨_, rfl, hp⟩
  | _ => cases h
section
variable {α : Type} [DecidableEq α]
def valD (l : List (α × D)) (k : α) : Option D := (l.find? fun kv => decide (kv.1 = k)).map (·.2)
def putD (l : List (α × D)) (k : α) (v : D) : List (α × D) := if (l.any fun kv => decide (kv.1 = k)) = true then l.map (fun kv => if kv.1 = k then (kv.1, v) else kv) else l ++ [(k, v)]
theorem kv_get {F : Hp} (k : α) : ∀ {kvs : List (α × V)} {l : List (α × D)}, kvs.map (·.1) = l.map (·.1) → Rps F (kvs.map (·.2)) (l.map (·.2)) →
    (valV kvs k = none ∧ valD l k = none) ∨ ∃ v d, valV kvs k = some v ∧ valD l k = some d ∧ Rp F v d
  | [], [], _, _ => .inl ⟨rfl, rfl⟩
  | [], _ :: _, h, _ => by cases h
  | _ :: _, [], h, _ => by cases h
  | p :: kvs, q :: l, h, r => by
    rw [List.map_cons, List.map_cons] at h r
    injection h with h1 h2
    cases r with
    | cons ra rt =>
      by_cases e : p.1 = k
      · exact .inr ⟨p.2, q.2, valV_pos e, by simp [valD, List.find?_cons, h1.symm.trans e], ra⟩
      · have e' : ¬ q.1 = k := fun z => e (h1.trans z)
        rw [valV_neg e, show valD (q :: l) k = valD l k by simp [valD, List.find?_cons, e']]
        exact kv_get k h2 rt
theorem kv_any (k : α) : ∀ {kvs : List (α × V)} {l : List (α × D)}, kvs.map (·.1) = l.map (·.1) → (kvs.any fun kv => decide (kv.1 = k)) = (l.any fun kv => decide (kv.1 = k))
  | [], [], _ => rfl
  | [], _ :: _, h => by cases h
  | _ :: _, [], h => by cases h
  | p :: kvs, q :: l, h => by
    rw [List.map_cons, List.map_cons] at h
    injection h with h1 h2
    rw [List.any_cons, List.any_cons, kv_any k h2, h1]
theorem kv_repl {F : Hp} {k : α} {v : V} {d : D} (rv : Rp F v d) : ∀ {kvs : List (α × V)} {l : List (α × D)}, kvs.map (·.1) = l.map (·.1) → Rps F (kvs.map (·.2)) (l.map (·.2)) →
    Rps F ((kvs.map fun kv => if kv.1 = k then (kv.1, v) else kv).map (·.2)) ((l.map fun kv => if kv.1 = k then (kv.1, d) else kv).map (·.2))
  | [], [], _, _ => .nil
  | [], _ :: _, h, _ => by cases h
  | _ :: _, [], h, _ => by cases h
  | p :: kvs, q :: l, h, r => by
    rw [List.map_cons, List.map_cons] at h r
    injection h with h1 h2
    cases r with
    | cons ra rt =>
      rw [List.map_cons, List.map_cons, List.map_cons, List.map_cons]
      refine .cons ?_ (kv_repl rv h2 rt)
      by_cases e : p.1 = k
      · rw [if_pos e, if_pos (h1.symm.trans e)]; exact rv
      · rw [if_neg e, if_neg (fun z => e (h1.trans z))]; exact ra
theorem kv_put {F : Hp} {k : α} {v : V} {d : D} (rv : Rp F v d) {kvs : List (α × V)} {l : List (α × D)} (h : kvs.map (·.1) = l.map (·.1)) (r : Rps F (kvs.map (·.2)) (l.map (·.2))) :
    (putK kvs k v).map (·.1) = (putD l k d).map (·.1) ∧ Rps F ((putK kvs k v).map (·.2)) ((putD l k d).map (·.2)) := by
  unfold putK putD
  rw [kv_any k h]
  split
  · refine ⟨?_, ?_⟩
    · have e : ∀ (β : Type) (y : β) (m : List (α × β)), (m.map fun kv => if kv.1 = k then (kv.1, y) else kv).map (·.1) = m.map (·.1) := fun β y m => by
        rw [List.map_map]
        refine List.map_congr_left fun p _ => ?_
        show (if p.1 = k then (p.1, y) else p).1 = p.1
        split <;> rfl
      rw [e, e, h]
    · exact kv_repl rv h r
  · rw [List.map_append, List.map_append, List.map_append, List.map_append, h]
    exact ⟨rfl, r.append (.cons rv .nil)⟩
end
/-- what the dict d holds at the key e -/
def getO (d e : D) : Option (Option D) := match d with
  | .dk l => (asKey e).map (valD l)
  | .dt l => (asKeys e).map (valD l)
  | _ => none
theorem getO_rp {F H : Hp} {x y : V} {d e : D} {o : Option D} (ex : Ex F H) (rx : Rp F x d) (ry : Rp F y e) (h : getO d e = some o) :
    ∃ a z, x = .ref a ∧ DGet H a y z ∧ IsD H a ∧ ((z = none ∧ o = none) ∨ ∃ v u, z = some v ∧ o = some u ∧ Rp F v u) := by
  cases rx with
  | dk hp hk r he =>
    obtain ⟨k, h1, rfl⟩ := Option.map_eq_some_iff.mp (show (asKey e).map _ = _ from h)
    have := asKey_rp ry h1
    subst this
    subst he
    refine ⟨_, _, rfl, .inl ⟨_, k, Ex.rd ex hp, rfl, rfl⟩, .inl ⟨_, Ex.rd ex hp⟩, ?_⟩
    rcases kv_get k hk r with ⟨h2, h3⟩ | ⟨v, u, h2, h3, h4⟩
    · exact .inl ⟨h2, h3⟩
    · exact .inr ⟨v, u, h2, h3, h4⟩
  | dt hp hk r he =>
    obtain ⟨k, h1, rfl⟩ := Option.map_eq_some_iff.mp (show (asKeys e).map _ = _ from h)
    obtain ⟨b, rfl, hb⟩ := asKeys_rp ry h1
    subst he
    refine ⟨_, _, rfl, .inr ⟨_, k, b, Ex.rd ex hp, rfl, ex _ _ hb, rfl⟩, .inr ⟨_, Ex.rd ex hp⟩, ?_⟩
    rcases kv_get k hk r with ⟨h2, h3⟩ | ⟨v, u, h2, h3, h4⟩
    · exact .inl ⟨h2, h3⟩
    · exact .inr ⟨v, u, h2, h3, h4⟩
  | _ => cases h

/-! ## x in y -/
def inS (x : D) (l : List D) : Bool := l.any fun z => eqB z x
def inO : D → D → Option Bool
  | x, .lst l => if okD x && okD (.lst l) then some (inS x l) else none
  | x, .tup l => if okD x && okD (.tup l) then some (inS x l) else none
  | .str c, .str z => match c.cps.toList with
    | [n] => some (decide (n ∈ z.cps.toList))
    | _ => none
  | _, _ => none
def inDO (x y : D) : Option Bool := (getO y x).map Option.isSome
def inAll (x y : D) : Option Bool := match inO x y with
  | some b => some b
  | none => inDO x y
def ninAll (x y : D) : Option Bool := (inAll x y).map (!·)
section
variable {X : Cx}
def rInT (K : PySem.W.Frag) : R2 := fun x y H Q => ∃ d ds, Dp K H x d ∧ Dp K H y (.tuple ds) ∧ SeqAt.shaped d = true ∧ SeqAt.shaped (.tuple ds) = true ∧ Q (.bl (ds.any fun z => PyData.eqv z d)) H
def rNotInT (K : PySem.W.Frag) : R2 := fun x y H Q => ∃ d ds, Dp K H x d ∧ Dp K H y (.tuple ds) ∧ SeqAt.shaped d = true ∧ SeqAt.shaped (.tuple ds) = true ∧ Q (.bl (!ds.any fun z => PyData.eqv z d)) H
theorem room_shaped {u : Nat} {d : PyData} {n : Nat} (sd : SeqAt.shaped d = true) (hu : u + 65 < cLine) : u + 1 + min n d.depth < cLine := by
  have h := SeqAt.depth_of_shaped sd
  have h2 : min n d.depth ≤ d.depth := Nat.min_le_right _ _
  omega
theorem op_inT (hu : X.A.units + 65 < cLine) : OpR X (compareOp .In) (rInT X.K) := by
  intro pins s σ H x y v u Q I rx ry h
  obtain ⟨d, ds, hd, he, sd, se, q⟩ := h
  obtain ⟨as, r1⟩ := Dp.reads I d x v hd rx
  obtain ⟨bs, r2⟩ := Dp.reads I (.tuple ds) y u he ry
  exact SeqAt.in_tuple_reads r2 r1 (SeqAt.canLay_of_shaped se) (SeqAt.canLay_of_shaped sd) (room_shaped sd hu) ⟨.bl _, H, I, rfl, q⟩
theorem op_notInT (hu : X.A.units + 65 < cLine) : OpR X (compareOp .NotIn) (rNotInT X.K) := by
  intro pins s σ H x y v u Q I rx ry h
  obtain ⟨d, ds, hd, he, sd, se, q⟩ := h
  obtain ⟨as, r1⟩ := Dp.reads I d x v hd rx
  obtain ⟨bs, r2⟩ := Dp.reads I (.tuple ds) y u he ry
  exact SeqAt.notIn_tuple_reads r2 r1 (SeqAt.canLay_of_shaped se) (SeqAt.canLay_of_shaped sd) (room_shaped sd hu) ⟨.bl _, H, I, rfl, q⟩
end
def rInAll (K : PySem.W.Frag) : R2 := fun x y H Q => (rInD K x y H Q ∨ rInT K x y H Q) ∨ (∃ (c : Nat) (z : Str), x = .str ⟨#[c]⟩ ∧ y = .str z ∧ Q (.bl (decide (c ∈ z.cps.toList))) H)
def rNotInAll (K : PySem.W.Frag) : R2 := fun x y H Q => (rNotInD K x y H Q ∨ rNotInT K x y H Q) ∨ (∃ (c : Nat) (z : Str), x = .str ⟨#[c]⟩ ∧ y = .str z ∧ Q (.bl (!decide (c ∈ z.cps.toList))) H)
theorem any_py (x : D) (l : List D) : ((toPys l).any fun z => PyData.eqv z (toPy x)) = inS x l := by
  rw [toPys_map, List.any_map]
  rfl
theorem str1 {c : Str} {n : Nat} (h : c.cps.toList = [n]) : c = ⟨#[n]⟩ := by
  obtain ⟨a⟩ := c
  have : a = #[n] := by rw [← Array.toList_inj]; exact h
  rw [this]
theorem inS_ {K : PySem.W.Frag} : CmpS (rInAll K) inO := fun F H x y a b k Q e ra rb ho q => by
  cases rb with
  | @lst p xs ds hp r =>
    cases ho' : (okD a && okD (.lst ds)) with
    | false => cases a <;> (simp only [inO, ho'] at ho; cases ho)
    | true =>
      have ho : some (inS a ds) = some k := by cases a <;> (simp only [inO, ho'] at ho; exact ho)
      cases ho
      rw [Bool.and_eq_true] at ho'
      refine .inl (.inl ⟨toPy a, toPys ds, ra.dp e (SeqAt.canLay_of_shaped ho'.1), ?_, ho'.1, ?_, ?_⟩)
      · have := (Rp.lst hp r).dp (K := K) e (SeqAt.canLay_of_shaped ho'.2)
        rw [toPy] at this; exact this
      · have := ho'.2; unfold okD at this; rw [toPy] at this; exact this
      · rw [any_py]; exact q
  | @tup p xs ds hp r =>
    cases ho' : (okD a && okD (.tup ds)) with
    | false => cases a <;> (simp only [inO, ho'] at ho; cases ho)
    | true =>
      have ho : some (inS a ds) = some k := by cases a <;> (simp only [inO, ho'] at ho; exact ho)
      cases ho
      rw [Bool.and_eq_true] at ho'
      refine .inl (.inr ⟨toPy a, toPys ds, ra.dp e (SeqAt.canLay_of_shaped ho'.1), ?_, ho'.1, ?_, ?_⟩)
      · have := (Rp.tup hp r).dp (K := K) e (SeqAt.canLay_of_shaped ho'.2)
        rw [toPy] at this; exact this
      · have := ho'.2; unfold okD at this; rw [toPy] at this; exact this
      · rw [any_py]; exact q
  | str z =>
    cases ra with
    | str c =>
      simp only [inO] at ho
      split at ho
      · rename_i n hn
        cases ho
        rw [str1 hn]
        exact .inr ⟨n, z, rfl, rfl, q⟩
      · cases ho
    | _ => cases ho
  | _ => cases ra <;> cases ho
theorem ninS_ {K : PySem.W.Frag} : CmpS (rNotInAll K) (fun a b => (inO a b).map (!·)) := fun F H x y a b k Q e ra rb ho0 q => by
  obtain ⟨k', ho, rfl⟩ := Option.map_eq_some_iff.mp ho0
  clear ho0
  cases rb with
  | @lst p xs ds hp r =>
    cases ho' : (okD a && okD (.lst ds)) with
    | false => cases a <;> (simp only [inO, ho'] at ho; cases ho)
    | true =>
      have ho : some (inS a ds) = some k' := by cases a <;> (simp only [inO, ho'] at ho; exact ho)
      cases ho
      rw [Bool.and_eq_true] at ho'
      refine .inl (.inl ⟨toPy a, toPys ds, ra.dp e (SeqAt.canLay_of_shaped ho'.1), ?_, ho'.1, ?_, ?_⟩)
      · have := (Rp.lst hp r).dp (K := K) e (SeqAt.canLay_of_shaped ho'.2)
        rw [toPy] at this; exact this
      · have := ho'.2; unfold okD at this; rw [toPy] at this; exact this
      · rw [any_py]; exact q
  | @tup p xs ds hp r =>
    cases ho' : (okD a && okD (.tup ds)) with
    | false => cases a <;> (simp only [inO, ho'] at ho; cases ho)
    | true =>
      have ho : some (inS a ds) = some k' := by cases a <;> (simp only [inO, ho'] at ho; exact ho)
      cases ho
      rw [Bool.and_eq_true] at ho'
      refine .inl (.inr ⟨toPy a, toPys ds, ra.dp e (SeqAt.canLay_of_shaped ho'.1), ?_, ho'.1, ?_, ?_⟩)
      · have := (Rp.tup hp r).dp (K := K) e (SeqAt.canLay_of_shaped ho'.2)
        rw [toPy] at this; exact this
      · have := ho'.2; unfold okD at this; rw [toPy] at this; exact this
      · rw [any_py]; exact q
  | str z =>
    cases ra with
    | str c =>
      simp only [inO] at ho
      split at ho
      · rename_i n hn
        cases ho
        rw [str1 hn]
        exact .inr ⟨n, z, rfl, rfl, q⟩
      · cases ho
    | _ => cases ho
  | _ => cases ra <;> cases ho
section
variable {X : Cx} {G : Bags} {κ : List Kd} {f g : DE G} {a b : Expr} {pos : Pos}
theorem tF_din (σ : L2.St) (H : Hp) (Q : VK) : tF G κ (eCmp inDO f g) σ H Q → tDIn (tF G κ f) (tF G κ g) σ H Q := fun ⟨i, F0, H0, F, ρ, s, d, s', A, h, q⟩ => by
  obtain ⟨a, s1, h1, h⟩ := bnd_inv h
  obtain ⟨b, s2, h2, h⟩ := bnd_inv h
  obtain ⟨h3, rfl⟩ := lft_inv h
  obtain ⟨k, h4, rfl⟩ := Option.map_eq_some_iff.mp h3
  obtain ⟨o, h5, rfl⟩ := Option.map_eq_some_iff.mp h4
  refine ⟨i, F0, H0, F, ρ, s, a, s1, A, h1, fun v F1 H1 t1 k1 r1 => ⟨i, F0, H0, F1, ρ, s1, b, s', A.step t1 k1, h2, fun w F2 H2 t2 k2 r2 => ?_⟩⟩
  obtain ⟨p, z, rfl, g1, _, h6⟩ := getO_rp t2.fh r2 (r1.mono t2.ff) h5
  refine ⟨p, z, rfl, g1, ?_⟩
  have : z.isSome = o.isSome := by
    rcases h6 with ⟨rfl, rfl⟩ | ⟨v, u, rfl, rfl, _⟩ <;> rfl
  rw [this]
  exact q _ F2 H2 (t1.trans t2) k2 (.bl _)
theorem tF_dnin (σ : L2.St) (H : Hp) (Q : VK) : tF G κ (eCmp (fun x y => (inDO x y).map (!·)) f g) σ H Q → tDNotIn (tF G κ f) (tF G κ g) σ H Q := fun ⟨i, F0, H0, F, ρ, s, d, s', A, h, q⟩ => by
  obtain ⟨a, s1, h1, h⟩ := bnd_inv h
  obtain ⟨b, s2, h2, h⟩ := bnd_inv h
  obtain ⟨h3, rfl⟩ := lft_inv h
  obtain ⟨k, h4, rfl⟩ := Option.map_eq_some_iff.mp h3
  obtain ⟨k', h7, rfl⟩ := Option.map_eq_some_iff.mp (show (inDO a b).map (!·) = some k from h4)
  obtain ⟨o, h5, rfl⟩ := Option.map_eq_some_iff.mp (show (getO b a).map Option.isSome = some k' from h7)
  refine ⟨i, F0, H0, F, ρ, s, a, s1, A, h1, fun v F1 H1 t1 k1 r1 => ⟨i, F0, H0, F1, ρ, s1, b, s', A.step t1 k1, h2, fun w F2 H2 t2 k2 r2 => ?_⟩⟩
  obtain ⟨p, z, rfl, g1, _, h6⟩ := getO_rp t2.fh r2 (r1.mono t2.ff) h5
  refine ⟨p, z, rfl, g1, ?_⟩
  have : z.isSome = o.isSome := by
    rcases h6 with ⟨rfl, rfl⟩ | ⟨v, u, rfl, rfl, _⟩ <;> rfl
  rw [this]
  exact q _ F2 H2 (t1.trans t2) k2 (.bl _)
theorem eCmp_split {S : Type} {o o1 o2 : D → D → Option Bool} {f g : Env → MS S D} {ρ : Env} {s s' : S} {d : D} (h : eCmp o f g ρ s = some (d, s')) (ho : ∀ a b k, o a b = some k → o1 a b = some k ∨ o2 a b = some k) : eCmp o1 f g ρ s = some (d, s') ∨ eCmp o2 f g ρ s = some (d, s') := by
  obtain ⟨a, s1, h1, h⟩ := bnd_inv h
  obtain ⟨b, s2, h2, h⟩ := bnd_inv h
  obtain ⟨h3, rfl⟩ := lft_inv h
  obtain ⟨k, h4, rfl⟩ := Option.map_eq_some_iff.mp h3
  have go : ∀ o', o' a b = some k → eCmp o' f g ρ s = some (D.bl k, s') := fun o' e => by
    unfold eCmp
    rw [bnd_ok h1, bnd_ok h2, e]
    rfl
  exact (ho a b k h4).imp (go _) (go _)
theorem inAll_or (a b : D) (k : Bool) (h : inAll a b = some k) : inO a b = some k ∨ inDO a b = some k := by
  unfold inAll at h
  split at h
  · rename_i e; exact .inl (e.trans h)
  · exact .inr h
theorem ninAll_or (a b : D) (k : Bool) (h : ninAll a b = some k) : (inO a b).map (!·) = some k ∨ (inDO a b).map (!·) = some k := by
  obtain ⟨k', h7, rfl⟩ := Option.map_eq_some_iff.mp h
  rcases inAll_or a b k' h7 with e | e
  · exact .inl (by rw [e]; rfl)
  · exact .inr (by rw [e]; rfl)
theorem f_in (hu : X.A.units + 65 < cLine) (ha : PE X a (tF G κ f)) (hb : PE X b (tF G κ g)) (hm : behindInMarks .In b = false := by rfl) : PE X (.Compare a [.In] [b] pos) (tF G κ (eCmp inAll f g)) :=
  PE.imp (Fx.PE.or (pe_cmpR (((op_inD hu).or (op_inT hu)).or op_in_sign) ha hb hm) (pe_cmp (pc_din (by omega) ha hb) hm)) fun σ H Q ⟨i, F0, H0, F, ρ, s, d, s', A, h, q⟩ =>
    (eCmp_split h inAll_or).imp (fun h => tF_cmp inS_ σ H Q ⟨i, F0, H0, F, ρ, s, d, s', A, h, q⟩) fun h => tF_din σ H Q ⟨i, F0, H0, F, ρ, s, d, s', A, h, q⟩
theorem f_nin (hu : X.A.units + 65 < cLine) (ha : PE X a (tF G κ f)) (hb : PE X b (tF G κ g)) (hm : behindInMarks .NotIn b = false := by rfl) : PE X (.Compare a [.NotIn] [b] pos) (tF G κ (eCmp ninAll f g)) :=
  PE.imp (Fx.PE.or (pe_cmpR (((op_notInD hu).or (op_notInT hu)).or op_notIn_sign) ha hb hm) (pe_cmp (pc_dnotin (by omega) ha hb) hm)) fun σ H Q ⟨i, F0, H0, F, ρ, s, d, s', A, h, q⟩ =>
    (eCmp_split h ninAll_or).imp (fun h => tF_cmp ninS_ σ H Q ⟨i, F0, H0, F, ρ, s, d, s', A, h, q⟩) fun h => tF_dnin σ H Q ⟨i, F0, H0, F, ρ, s, d, s', A, h, q⟩
/-- a test that is a comparison: by its value -/
theorem tB_of {o : D → D → Option Bool} {t : TE} (k : ∀ σ H Q, tF G κ (eCmp o f g) σ H Q → t σ H Q) (σ : L2.St) (H : Hp) (Q : Bool → Hp → Prop) : tT G κ (cCmp o f g) σ H Q → t σ H (fun x H1 => ∃ c, x = .bl c ∧ Q c H1) := fun ⟨i, F0, H0, F, ρ, s, d, s', A, h, q⟩ => by
  obtain ⟨a, s1, h1, h⟩ := bnd_inv h
  obtain ⟨b, s2, h2, h⟩ := bnd_inv h
  obtain ⟨h3, rfl⟩ := lft_inv h
  refine k σ H _ ⟨i, F0, H0, F, ρ, s, .bl d, s', A, ?_, fun v F' H' t k r => ?_⟩
  · unfold eCmp
    rw [bnd_ok h1, bnd_ok h2, h3]
    rfl
  · cases r
    exact ⟨d, rfl, q F' H' t k⟩
theorem t_in (hu : X.A.units + 65 < cLine) (ha : PE X a (tF G κ f)) (hb : PE X b (tF G κ g)) (hm : behindInMarks .In b = false := by rfl) : PT X (.Compare a [.In] [b] pos) (tT G κ (cCmp inAll f g)) :=
  PT.imp (Fx.PT.or (pt_cmpR (((op_inD hu).or (op_inT hu)).or op_in_sign) ha hb hm) (pt_cmp (pc_din (by omega) ha hb) hm)) fun σ H Q h => by
    have := tB_of (t := fun σ H Q => tOp (rInAll X.K) (tF G κ f) (tF G κ g) σ H Q ∨ tDIn (tF G κ f) (tF G κ g) σ H Q) (fun σ H Q ⟨i, F0, H0, F, ρ, s, d, s', A, h, q⟩ =>
      (eCmp_split h inAll_or).imp (fun h => tF_cmp inS_ σ H Q ⟨i, F0, H0, F, ρ, s, d, s', A, h, q⟩) fun h => tF_din σ H Q ⟨i, F0, H0, F, ρ, s, d, s', A, h, q⟩) σ H Q h
    exact this
theorem t_nin (hu : X.A.units + 65 < cLine) (ha : PE X a (tF G κ f)) (hb : PE X b (tF G κ g)) (hm : behindInMarks .NotIn b = false := by rfl) : PT X (.Compare a [.NotIn] [b] pos) (tT G κ (cCmp ninAll f g)) :=
  PT.imp (Fx.PT.or (pt_cmpR (((op_notInD hu).or (op_notInT hu)).or op_notIn_sign) ha hb hm) (pt_cmp (pc_dnotin (by omega) ha hb) hm)) fun σ H Q h => by
    have := tB_of (t := fun σ H Q => tOp (rNotInAll X.K) (tF G κ f) (tF G κ g) σ H Q ∨ tDNotIn (tF G κ f) (tF G κ g) σ H Q) (fun σ H Q ⟨i, F0, H0, F, ρ, s, d, s', A, h, q⟩ =>
      (eCmp_split h ninAll_or).imp (fun h => tF_cmp ninS_ σ H Q ⟨i, F0, H0, F, ρ, s, d, s', A, h, q⟩) fun h => tF_dnin σ H Q ⟨i, F0, H0, F, ρ, s, d, s', A, h, q⟩) σ H Q h
    exact this
end
end Fx
namespace Fx
open PySem PySem.Spec L2

/-! ## x[i], x[i:j], d.get(k) -/
theorem atI_rps {F : Hp} {vs : List V} {ds : List D} {i : Int} {d : D} (r : Rps F vs ds) (h : atI ds i = some d) : ∃ v, atI vs i = some v ∧ Rp F v d := by
  unfold atI at h ⊢
  rw [r.length]
  cases e : ixN ds.length i with
  | none => rw [e] at h; cases h
  | some j =>
    rw [e] at h
    exact r.get' (show ds[j]? = some d from h)
def ixO : D → D → Option D
  | .tup l, .int i => atI l i
  | .lst l, .int i => atI l i
  | .str z, .int i => if z.length ≤ 16777216 then (atI z.cps.toList i).map fun c => .str ⟨#[c]⟩ else none
  | _, _ => none
def ixDO (d e : D) : Option D := (getO d e).bind id
def ixAll (d e : D) : Option D := match d with
  | .dk _ => ixDO d e
  | .dt _ => ixDO d e
  | _ => ixO d e
theorem ixS_ {K : PySem.W.Frag} : OpS (rIx K) ixO := OpS.val fun F H x y a b d Q e ra rb ho q => by
  have hz := sizeLine_eq
  cases rb with
  | int i =>
    cases ra with
    | tup hp r =>
      obtain ⟨v, h1, h2⟩ := atI_rps r ho
      exact .inr (.inl ⟨_, _, i, v, rfl, rfl, SqT.of (e _ _ hp), h1, q v h2⟩)
    | lst hp r =>
      obtain ⟨v, h1, h2⟩ := atI_rps r ho
      exact .inl ⟨_, _, i, v, rfl, rfl, SqL.of (e _ _ hp), h1, q v h2⟩
    | str z =>
      simp only [ixO] at ho
      split at ho
      · obtain ⟨c, h1, rfl⟩ := Option.map_eq_some_iff.mp ho
        exact .inr (.inr ⟨z, i, c, rfl, rfl, by omega, h1, q _ (.str _)⟩)
      · cases ho
    | _ => cases ho
  | _ => cases ra <;> cases ho
section
variable {X : Cx} {G : Bags} {κ : List Kd} {f g h : DE G} {a b c : Expr} {pos : Pos}
theorem tF_dget (σ : L2.St) (H : Hp) (Q : VK) : tF G κ (eOp ixDO f g) σ H Q → tDGet (tF G κ f) (tF G κ g) σ H Q := fun ⟨i, F0, H0, F, ρ, s, d, s', A, h, q⟩ => by
  obtain ⟨a, s1, h1, h⟩ := bnd_inv h
  obtain ⟨b, s2, h2, h⟩ := bnd_inv h
  obtain ⟨h3, rfl⟩ := lft_inv h
  obtain ⟨o, h4, h5⟩ := Option.bind_eq_some_iff.mp (show (getO a b).bind id = some d from h3)
  refine ⟨i, F0, H0, F, ρ, s, a, s1, A, h1, fun v F1 H1 t1 k1 r1 => ⟨i, F0, H0, F1, ρ, s1, b, s', A.step t1 k1, h2, fun w F2 H2 t2 k2 r2 => ?_⟩⟩
  obtain ⟨p, z, rfl, g1, _, h6⟩ := getO_rp t2.fh (r1.mono t2.ff) r2 h4
  have h5' : o = some d := h5
  rcases h6 with ⟨_, h7⟩ | ⟨v, u, rfl, h7, ru⟩
  · rw [h7] at h5'; cases h5'
  · rw [h7] at h5'
    cases h5'
    exact ⟨p, v, rfl, g1, q v F2 H2 (t1.trans t2) k2 ru⟩
theorem f_ix (hu : X.A.units + 1 < cLine) (ha : PE X a (tF G κ f)) (hb : PE X b (tF G κ g)) (hs : PlainIx b := by exact fun _ _ => rfl) : PE X (.Subscript a b pos) (tF G κ (eOp ixAll f g)) :=
  PE.imp (Fx.PE.or (pe_ix ix_seq ha hb hs) (pe_dget hu ha hb hs)) fun σ H Q ⟨i, F0, H0, F, ρ, s, d, s', A, h, q⟩ => by
    obtain ⟨a, s1, h1, h⟩ := bnd_inv h
    obtain ⟨b, s2, h2, h⟩ := bnd_inv h
    obtain ⟨h3, rfl⟩ := lft_inv h
    have go : ∀ o : D → D → Option D, o a b = some d → eOp o f g ρ s = some (d, s') := fun o e => by
      unfold eOp
      rw [bnd_ok h1, bnd_ok h2, e]
      rfl
    have l1 : ixO a b = some d → tOp (rIx X.K) (tF G κ f) (tF G κ g) σ H Q := fun e => tF_op ixS_ σ H Q ⟨i, F0, H0, F, ρ, s, d, s', A, go _ e, q⟩
    have l2 : ixDO a b = some d → tDGet (tF G κ f) (tF G κ g) σ H Q := fun e => tF_dget σ H Q ⟨i, F0, H0, F, ρ, s, d, s', A, go _ e, q⟩
    cases a <;> first | exact .inl (l1 h3) | exact .inr (l2 h3)
/-! ### slices: parts -/
def oNone {S : Type} : Env → MS S (Option Int) := fun _ => ret none
def oSome {S : Type} (f : Env → MS S D) : Env → MS S (Option Int) := fun ρ => bnd (f ρ) fun d => match d with
  | .int i => ret (some i)
  | _ => fun _ => none
def tO (G : Bags) (κ : List Kd) (f : Env → MS G.S (Option Int)) : TO := fun σ H Q => ∃ (i : G.I) (F0 H0 F : Hp) (ρ : Env) (s : G.S) (b : Option Int) (s' : G.S), As G i κ F0 H0 ρ s σ F H ∧ f ρ s = some (b, s') ∧
  ∀ F' H', Stp (G.dom i) F H F' H' → G.Ok i s' H' → Q b H'
theorem PO.imp {e : Option Expr} {t t' : TO} (h : PO X e t) (k : ∀ σ H Q, t' σ H Q → t σ H Q) : PO X e t' := ⟨fun pins s σ H Q I q => h.run pins s σ H Q I (k σ H Q q)⟩
theorem o_none : PO X none (tO G κ oNone) := PO.imp po_none fun σ H Q ⟨i, F0, H0, F, ρ, s, b, s', A, h, q⟩ => by
  obtain ⟨rfl, rfl⟩ := ret_inv h
  exact q F H (Stp.refl A.fh) A.ok
theorem o_some (ha : PE X a (tF G κ f)) : PO X (some a) (tO G κ (oSome f)) := PO.imp (po_some ha) fun σ H Q ⟨i, F0, H0, F, ρ, s, b, s', A, h, q⟩ => by
  obtain ⟨d, s1, h1, h⟩ := bnd_inv h
  cases d with
  | int j =>
    obtain ⟨rfl, rfl⟩ := ret_inv (show ret (some j) s1 = _ from h)
    exact ⟨i, F0, H0, F, ρ, s, _, _, A, h1, fun v F1 H1 t1 k1 r1 => by
      cases r1
      exact ⟨j, rfl, q F1 H1 t1 k1⟩⟩
  | _ => exact nomatch h
def cutD (l : List D) (lo hi : Option Int) : List D := (l.drop (HT.sIx l.length 0 lo)).take (HT.sIx l.length l.length hi - HT.sIx l.length 0 lo)
def slO (d : D) (lo hi : Option Int) : Option D := match d with
  | .tup l => some (.tup (cutD l lo hi))
  | .lst l => some (.lst (cutD l lo hi))
  | .str z => if z.length ≤ 16777216 then some (.str (cutS z lo hi)) else none
  | _ => none
def eSl {S : Type} (f : Env → MS S D) (l h : Env → MS S (Option Int)) : Env → MS S D := fun ρ => bnd (f ρ) fun d => bnd (l ρ) fun lo => bnd (h ρ) fun hi => lft (slO d lo hi)
theorem Rps.cut {F : Hp} {vs : List V} {ds : List D} (r : Rps F vs ds) (lo hi : Option Int) : Rps F (cutV vs lo hi) (cutD ds lo hi) := by
  unfold cutV cutD
  rw [r.length]
  exact (r.drop _).take _
theorem cutD_whole (l : List D) (lo hi : Option Int) (h : HT.sIx l.length 0 lo = 0 ∧ HT.sIx l.length l.length hi = l.length) : cutD l lo hi = l := by
  unfold cutD
  rw [h.1, h.2]
  simp
def rSlAll (K : PySem.W.Frag) : V → Option Int → Option Int → Hp → VK → Prop := fun x lo hi H Q => (rSlL K x lo hi H Q ∨ rSlA K x lo hi H Q) ∨ rSlS x lo hi H Q
theorem f_sl {l u : Env → MS G.S (Option Int)} {lo hi : Option Expr} {p2 : Pos} (ha : PE X a (tF G κ f)) (hl : PO X lo (tO G κ l)) (hh : PO X hi (tO G κ u)) : PE X (.Subscript a (.Slice lo hi none p2) pos) (tF G κ (eSl f l u)) :=
  PE.imp (pe_slice ((sl_list.or sl_tupA).or sl_str) ha hl hh) fun σ H Q ⟨i, F0, H0, F, ρ, s, d, s', A, h, q⟩ => by
    have hz := sizeLine_eq
    obtain ⟨d0, s1, h1, h⟩ := bnd_inv h
    obtain ⟨lo, s2, h2, h⟩ := bnd_inv h
    obtain ⟨hi, s3, h3, h⟩ := bnd_inv h
    obtain ⟨h4, rfl⟩ := lft_inv h
    refine ⟨i, F0, H0, F, ρ, s, d0, s1, A, h1, fun v F1 H1 t1 k1 r1 => ⟨i, F0, H0, F1, ρ, s1, lo, s2, A.step t1 k1, h2, fun F2 H2 t2 k2 => ⟨i, F0, H0, F2, ρ, s2, hi, s', (A.step t1 k1).step t2 k2, h3, fun F3 H3 t3 k3 => ?_⟩⟩⟩
    have r3 := (r1.mono t2.ff).mono t3.ff
    have q' : ∀ v F' H', St0 F3 H3 F' H' → Rp F' v d → Q v H' := fun v F' H' t r => q v F' H' (((t1.trans t2).trans t3).trans t.any) (t.ok k3) r
    cases r3 with
    | lst hp r =>
      cases h4
      exact .inl (.inl ⟨_, _, rfl, SqL.of (t3.fh _ _ hp), lay_lst t3.fh (r.cut lo hi) q'⟩)
    | tup hp r =>
      cases h4
      refine .inl (.inr ⟨_, _, rfl, SqT.of (t3.fh _ _ hp), fun hw => ?_, fun _ => lay_tup t3.fh (r.cut lo hi) q'⟩)
      rw [r.length] at hw
      rw [cutD_whole _ _ _ hw] at q'
      exact q' _ F3 H3 (Stp.refl t3.fh) (.tup hp r)
    | str z =>
      simp only [slO] at h4
      split at h4
      · cases h4
        exact .inr ⟨z, rfl, by omega, q' _ F3 H3 (Stp.refl t3.fh) (.str _)⟩
      · cases h4
    | _ => cases h4
/-! ### d.get(k), d.get(k, x) -/
def get1O (d e : D) : Option D := (getO d e).map fun o => o.getD .non
def eGet2 {S : Type} (f g h : Env → MS S D) : Env → MS S D := fun ρ => bnd (f ρ) fun d => bnd (g ρ) fun e => bnd (h ρ) fun x => lft ((getO d e).map fun o => o.getD x)
theorem getO_isD {F H : Hp} {x : V} {d e : D} {o : Option D} (ex : Ex F H) (rx : Rp F x d) (h : getO d e = some o) : ∃ a, x = .ref a ∧ IsD H a := by
  cases rx with
  | dk hp hk r he => exact ⟨_, rfl, .inl ⟨_, Ex.rd ex hp⟩⟩
  | dt hp hk r he => exact ⟨_, rfl, .inr ⟨_, Ex.rd ex hp⟩⟩
  | _ => cases h
theorem f_get1 {apos cpos : Pos} (hu : X.A.units + 1 < cLine) (ha : PE X a (tF G κ f)) (hb : PE X b (tF G κ g)) (m : M1 X a "get" apos b cpos) : PE X (.Call (.Attribute a "get" apos) [b] [] cpos) (tF G κ (eOp get1O f g)) :=
  PE.imp (pe_dget1 hu ha hb m) fun σ H Q ⟨i, F0, H0, F, ρ, s, d, s', A, h, q⟩ => by
    obtain ⟨a, s1, h1, h⟩ := bnd_inv h
    obtain ⟨b, s2, h2, h⟩ := bnd_inv h
    obtain ⟨h3, rfl⟩ := lft_inv h
    obtain ⟨o, h4, rfl⟩ := Option.map_eq_some_iff.mp (show (getO a b).map _ = some d from h3)
    refine ⟨i, F0, H0, F, ρ, s, a, s1, A, h1, fun v F1 H1 t1 k1 r1 => ?_⟩
    obtain ⟨p, rfl, hd⟩ := getO_isD t1.fh r1 h4
    refine ⟨p, rfl, hd, i, F0, H0, F1, ρ, s1, b, s', A.step t1 k1, h2, fun w F2 H2 t2 k2 r2 => ?_⟩
    obtain ⟨p', z, e1, g1, _, h6⟩ := getO_rp t2.fh (r1.mono t2.ff) r2 h4
    cases e1
    refine ⟨z, g1, ?_⟩
    rcases h6 with ⟨rfl, rfl⟩ | ⟨v, u, rfl, rfl, ru⟩
    · exact q _ F2 H2 (t1.trans t2) k2 .non
    · exact q _ F2 H2 (t1.trans t2) k2 ru
theorem f_get2 {apos cpos : Pos} (hu : X.A.units + 1 < cLine) (ha : PE X a (tF G κ f)) (hb : PE X b (tF G κ g)) (hc : PE X c (tF G κ h)) (m : M2 X a "get" apos b c cpos) : PE X (.Call (.Attribute a "get" apos) [b, c] [] cpos) (tF G κ (eGet2 f g h)) :=
  PE.imp (pe_dget2 hu ha hb hc m) fun σ H Q ⟨i, F0, H0, F, ρ, s, d, s', A, h, q⟩ => by
    obtain ⟨a, s1, h1, h⟩ := bnd_inv h
    obtain ⟨b, s2, h2, h⟩ := bnd_inv h
    obtain ⟨c, s3, h5, h⟩ := bnd_inv h
    obtain ⟨h3, rfl⟩ := lft_inv h
    obtain ⟨o, h4, rfl⟩ := Option.map_eq_some_iff.mp (show (getO a b).map _ = some d from h3)
    refine ⟨i, F0, H0, F, ρ, s, a, s1, A, h1, fun v F1 H1 t1 k1 r1 => ?_⟩
    obtain ⟨p, rfl, hd⟩ := getO_isD t1.fh r1 h4
    refine ⟨p, rfl, hd, i, F0, H0, F1, ρ, s1, b, s2, A.step t1 k1, h2, fun w F2 H2 t2 k2 r2 => ⟨i, F0, H0, F2, ρ, s2, c, s', (A.step t1 k1).step t2 k2, h5, fun y F3 H3 t3 k3 r3 => ?_⟩⟩
    obtain ⟨p', z, e1, g1, _, h6⟩ := getO_rp t3.fh ((r1.mono t2.ff).mono t3.ff) (r2.mono t3.ff) h4
    cases e1
    refine ⟨z, g1, ?_⟩
    rcases h6 with ⟨rfl, rfl⟩ | ⟨v, u, rfl, rfl, ru⟩
    · exact q _ F3 H3 ((t1.trans t2).trans t3) k3 r3
    · exact q _ F3 H3 ((t1.trans t2).trans t3) k3 ru
end

/-! ## reading what a body owns: where a scalar comes of it -/
def Kd.thaw : Kd → Kd
  | .bag k => .bag k
  | _ => .val
def thaw (κ : List Kd) : List Kd := κ.map Kd.thaw
theorem kd_thaw (κ : List Kd) (j : Nat) : kdAt (thaw κ) j = (kdAt κ j).thaw := by
  unfold kdAt thaw
  rw [List.getD_eq_getElem?_getD, List.getD_eq_getElem?_getD, List.getElem?_map]
  cases κ[j]? <;> rfl
def scalD : D → Bool
  | .non => true
  | .bl _ => true
  | .int _ => true
  | .str _ => true
  | _ => false
theorem Rp.scal {F F' : Hp} {v : V} {d : D} (r : Rp F v d) (h : scalD d = true) : Rp F' v d := by
  cases r with
  | non => exact .non
  | bl b => exact .bl b
  | int i => exact .int i
  | str x => exact .str x
  | _ => cases h
open Classical in
/-- F, and what the slots own -/
noncomputable def warm (κ : List Kd) (ρ : Env) (σ : L2.St) (F H : Hp) : Hp := fun a => if ∃ j d, ρ[j]? = some (some d) ∧ (kdAt κ j).isOwn = true ∧ σ[j]? = some (some (V.ref a)) then H a else F a
section
variable {G : Bags} {i : G.I} {κ : List Kd} {F0 H0 F H : Hp} {ρ : Env} {s : G.S} {σ : L2.St}
theorem As.warm (A : As G i κ F0 H0 ρ s σ F H) : Ex F (warm κ ρ σ F H) ∧ As G i (thaw κ) (warm κ ρ σ F H) H ρ s σ (warm κ ρ σ F H) H := by
  have ex : Ex F (Fx.warm κ ρ σ F H) := fun a o h => by
    unfold Fx.warm
    split
    · exact A.fh a o h
    · exact h
  refine ⟨ex, ?_⟩
  refine { fh := fun a o h => ?_, nd := fun a hd => ?_, ok := A.ok, len := A.len, val := fun j d h hv => ?_, own := fun j d h hv => ?_, apart := fun j k a d e hn h1 => ?_, bagv := fun j k v h1 h2 => ?_, base := Ex.refl _, keep := fun a o h _ => h, kept := fun a h => h, new := fun a o h => .inl h }
  · unfold Fx.warm at h
    split at h
    · exact h
    · exact A.fh a o h
  · unfold Fx.warm
    split
    · rename_i hx
      obtain ⟨j, d, h1, h2, h3⟩ := hx
      obtain ⟨b, h4, h5, h6, h7⟩ := A.own j d h1 h2
      rw [h3] at h4
      cases h4
      exact absurd hd h7
    · exact A.nd a hd
  · rw [kd_thaw] at hv
    cases hk : kdAt κ j with
    | val =>
      obtain ⟨v, h1, h2⟩ := A.val j d h hk
      exact ⟨v, h1, h2.mono ex⟩
    | bag k => rw [hk] at hv; cases hv
    | oL =>
      obtain ⟨b, h4, h5, h6, h7⟩ := A.own j d h (by rw [hk]; rfl)
      have e : Fx.warm κ ρ σ F H b = H b := if_pos ⟨j, d, h, by rw [hk]; rfl, h4⟩
      rw [hk] at h5
      cases h5 with
      | oL hf hh r => exact ⟨_, h4, .lst (by rw [e]; exact hh) (r.mono ex)⟩
    | oK =>
      obtain ⟨b, h4, h5, h6, h7⟩ := A.own j d h (by rw [hk]; rfl)
      have e : Fx.warm κ ρ σ F H b = H b := if_pos ⟨j, d, h, by rw [hk]; rfl, h4⟩
      rw [hk] at h5
      cases h5 with
      | oK hf hh q r => exact ⟨_, h4, .dk (.inl (by rw [e]; exact hh)) q (r.mono ex) rfl⟩
    | oT =>
      obtain ⟨b, h4, h5, h6, h7⟩ := A.own j d h (by rw [hk]; rfl)
      have e : Fx.warm κ ρ σ F H b = H b := if_pos ⟨j, d, h, by rw [hk]; rfl, h4⟩
      rw [hk] at h5
      cases h5 with
      | oT hf hh q r => exact ⟨_, h4, .dt (.inl (by rw [e]; exact hh)) q (r.mono ex) rfl⟩
  · rw [kd_thaw] at hv
    cases hk : kdAt κ j <;> (rw [hk] at hv; cases hv)
  · rw [kd_thaw] at h1
    cases hk : kdAt κ j <;> (rw [hk] at h1; cases h1)
  · rw [kd_thaw] at h1
    cases hk : kdAt κ j with
    | bag m =>
      rw [hk] at h1
      cases h1
      exact A.bagv j k v hk h2
    | _ => rw [hk] at h1; cases h1
/-- a step of the warm one, seen from the cold one: nothing new is kept -/
theorem Stp.cold {dom : Addr → Prop} {W F' H' : Hp} (e : Ex F W) (t : Stp dom W H F' H') : Stp dom F H F H' :=
  ⟨Ex.refl F, (e.trans t.ff).trans t.fh, t.kp, t.dm, fun _ _ h => .inl h⟩
end
def eScal {S : Type} (f : Env → MS S D) : Env → MS S D := fun ρ => bnd (f ρ) fun d => lft (if scalD d then some d else none)
section
variable {X : Cx} {G : Bags} {κ : List Kd} {f : DE G} {c : DT G} {e : Expr}
theorem f_scal (h : PE X e (tF G (thaw κ) f)) : PE X e (tF G κ (eScal f)) := PE.imp h fun σ H Q ⟨i, F0, H0, F, ρ, s, d, s', A, h, q⟩ => by
  obtain ⟨d0, s1, h1, h⟩ := bnd_inv h
  obtain ⟨h2, rfl⟩ := lft_inv h
  split at h2
  · rename_i hs
    cases h2
    obtain ⟨ex, W⟩ := A.warm
    exact ⟨i, _, H, _, ρ, s, d, s', W, h1, fun v F' H' t k r => q v F H' (Stp.cold ex t) k (r.scal hs)⟩
  · cases h2
theorem t_scal (h : PT X e (tT G (thaw κ) c)) : PT X e (tT G κ c) := PT.imp h fun σ H Q ⟨i, F0, H0, F, ρ, s, d, s', A, h, q⟩ => by
  obtain ⟨ex, W⟩ := A.warm
  exact ⟨i, _, H, _, ρ, s, d, s', W, h, fun F' H' t k => q F H' (Stp.cold ex t) k⟩
end

/-! ## defs: what they promise, and their calls -/
/-- a def whose first arguments are the bag's, n others behind; sem: what it gives -/
def spF (G : Bags) (n : Nat) (sem : List D → MS G.S D) : Sp := fun vs H Q _ => ∃ (i : G.I) (F : Hp) (s : G.S) (ws : List V) (ds : List D) (d : D) (s' : G.S), vs = G.vs i ++ ws ∧ ds.length = n ∧ Ex F H ∧ (∀ a, G.dom i a → F a = none) ∧ G.Ok i s H ∧
  Rps F ws ds ∧ sem ds s = some (d, s') ∧ ∀ v F' H', Stp (G.dom i) F H F' H' → G.Ok i s' H' → Rp F' v d → Q v H'
theorem spF_len {G : Bags} {n : Nat} {sem : List D → MS G.S D} {vs : List V} {H : Hp} {Q : VK} {E : XK} (h : spF G n sem vs H Q E) : vs.length = G.nv + n := by
  obtain ⟨i, F, s, ws, ds, d, s', rfl, hn, _, _, _, r, _⟩ := h
  rw [List.length_append, G.hv, r.length, hn]
def pureSem (sem : List D → Option D) : List D → MS Unit D := fun ds => lft (sem ds)
/-- a def that has no bag -/
abbrev spP (n : Nat) (sem : List D → Option D) : Sp := spF G0 n (pureSem sem)
def eCallB {S : Type} (sem : List D → MS S D) (fs : Env → MS S (List D)) : Env → MS S D := fun ρ => bnd (fs ρ) sem
def pick {α : Type} (perm : List Nat) (l : List α) : List α := perm.filterMap fun j => l[j]?
theorem Rps.pick {F : Hp} {vs : List V} {ds : List D} (r : Rps F vs ds) : ∀ perm : List Nat, Rps F (pick perm vs) (pick perm ds)
  | [] => .nil
  | j :: perm => by
    have ih := r.pick perm
    unfold Fx.pick at ih ⊢
    rw [List.filterMap_cons, List.filterMap_cons]
    cases h : vs[j]? with
    | none =>
      have : ds[j]? = none := by
        rw [List.getElem?_eq_none_iff] at h ⊢
        rw [← r.length]; exact h
      rw [this]
      exact ih
    | some v =>
      obtain ⟨d, h1, h2⟩ := r.get h
      rw [h1]
      exact .cons h2 ih
theorem Vals.pick {vs : List V} {us : List Value} (r : Vals vs us) : ∀ perm : List Nat, Vals (pick perm vs) (pick perm us)
  | [] => .nil
  | j :: perm => by
    have ih := Vals.pick r perm
    unfold Fx.pick at ih ⊢
    rw [List.filterMap_cons, List.filterMap_cons]
    cases h : vs[j]? with
    | none =>
      rw [r.none_of h]
      exact ih
    | some v =>
      obtain ⟨d, h1, h2⟩ := r.get h
      rw [h1]
      exact .cons h2 ih
section
variable {X : Cx} {G : Bags} {κ : List Kd} {fs : DA G} {k : Nat} {f : Addr} {fd : FuncData} {ps : List Str} {x : Str} {p pos : Pos} {e : Expr} {es : List Expr} {n : Nat}
/-- f(a, ..) of a def without a bag -/
theorem tF_call {sem : List D → Option D} (σ : L2.St) (H : Hp) (Q : VK) (E : XK) : tF G κ (eFn (fun ds => if ds.length = n then sem ds else none) fs) σ H Q → tCall (spP n sem) [] E (tAs G κ fs) σ H Q := fun ⟨i, F0, H0, F, ρ, s, d, s', A, h, q⟩ => by
  obtain ⟨l, s1, h1, h⟩ := bnd_inv h
  obtain ⟨h2, rfl⟩ := lft_inv h
  have h2 : (if l.length = n then sem l else none) = some d := h2
  split at h2
  · rename_i hn
    refine ⟨i, F0, H0, F, ρ, s, l, s', A, h1, fun vs F1 H1 t1 k1 r1 => ?_⟩
    refine ⟨(), F1, (), vs, l, d, (), by rw [List.append_nil]; rfl, hn, t1.fh, fun _ z => z.elim, trivial, r1, ?_, fun v F' H' t _ r => ?_⟩
    · unfold pureSem
      rw [h2]
      rfl
    · exact q v F' H' (t1.trans (St0.any t)) (St0.ok t k1) r
  · cases h2
theorem f_call {sem : List D → Option D} (Fn : FnOk X.prog X.w X.K X.mg X.base CX0 k f fd ps (spP n sem)) (hr : Room k X.A) (hg : Gl X x) (hm : X.mg x = some (.ref f)) (hk : PySem.W.keepIn X.K (.ref f) = true) (hb : Binds X.K fd ps [])
    (ha : PA X (e :: es) (tAs G κ fs)) (hdb : (x == ("__debug__" : Str)) = false := by decide) (he : starEach (e :: es) X.env = (false, eval e X.env) :: starEach es X.env := by rfl) (hpl : (backTo pos (starEach es X.env)).any (·.1) = false := by rfl) :
    PE X (.Call (.Name x p) (e :: es) [] pos) (tF G κ (eFn (fun ds => if ds.length = n then sem ds else none) fs)) := PE.imp (pe_call Fn hr hg hm hk hb .nil pass0 ha hdb he hpl) fun σ H Q => tF_call σ H Q E0
/-- the bag's arguments, then others -/
def tBag (G : Bags) (κ : List Kd) (fs : DA G) : TA := fun σ H Q => ∃ (i : G.I) (F0 H0 F : Hp) (ρ : Env) (s : G.S) (ds : List D) (s' : G.S), As G i κ F0 H0 ρ s σ F H ∧ fs ρ s = some (ds, s') ∧
  ∀ vs F' H', Stp (G.dom i) F H F' H' → G.Ok i s' H' → Rps F' vs ds → Q (G.vs i ++ vs) H'
theorem a_bag1 {j : Nat} {y : Str} {p' : Pos} (h1 : G.nv = 1) (hN : X.N[j]? = some y := by rfl) (hk : kdAt κ j = .bag 0 := by rfl) (hv : Vis X.env.scope y := by first | exact Or.inl rfl | exact Or.inr (Or.inl rfl) | exact Or.inr (Or.inr rfl))
    (ha : PA X es (tAs G κ fs)) (hd : (y == ("__debug__" : Str)) = false := by decide) (hcd : (y == ("__classdict__" : Str)) = false := by decide) (hs : starEach (.Name y p' :: es) X.env = (false, eval (.Name y p') X.env) :: starEach es X.env := by rfl) :
    PA X (.Name y p' :: es) (tBag G κ fs) := PA.imp (pa_cons (pe_var hN hv hd hcd) ha hs) fun σ H Q ⟨i, F0, H0, F, ρ, s, ds, s', A, h, q⟩ => by
  have hl := G.hv i
  rw [h1] at hl
  obtain ⟨v, ev⟩ : ∃ v, G.vs i = [v] := List.length_eq_one_iff.mp hl
  refine ⟨v, A.bagv j 0 v hk (by rw [ev]; rfl), i, F0, H0, F, ρ, s, ds, s', A, h, fun vs F1 H1 t1 k1 r1 => ?_⟩
  have := q vs F1 H1 t1 k1 r1
  rw [ev] at this
  exact this
theorem a_bag2 {j j' : Nat} {y z : Str} {p' p'' : Pos} (h1 : G.nv = 2) (hN : X.N[j]? = some y := by rfl) (hk : kdAt κ j = .bag 0 := by rfl) (hv : Vis X.env.scope y := by first | exact Or.inl rfl | exact Or.inr (Or.inl rfl) | exact Or.inr (Or.inr rfl))
    (hN' : X.N[j']? = some z := by rfl) (hk' : kdAt κ j' = .bag 1 := by rfl) (hv' : Vis X.env.scope z := by first | exact Or.inl rfl | exact Or.inr (Or.inl rfl) | exact Or.inr (Or.inr rfl))
    (ha : PA X es (tAs G κ fs)) (hd : (y == ("__debug__" : Str)) = false := by decide) (hcd : (y == ("__classdict__" : Str)) = false := by decide) (hd' : (z == ("__debug__" : Str)) = false := by decide) (hcd' : (z == ("__classdict__" : Str)) = false := by decide)
    (hs : starEach (.Name y p' :: .Name z p'' :: es) X.env = (false, eval (.Name y p') X.env) :: starEach (.Name z p'' :: es) X.env := by rfl) (hs' : starEach (.Name z p'' :: es) X.env = (false, eval (.Name z p'') X.env) :: starEach es X.env := by rfl) :
    PA X (.Name y p' :: .Name z p'' :: es) (tBag G κ fs) := PA.imp (pa_cons (pe_var hN hv hd hcd) (pa_cons (pe_var hN' hv' hd' hcd') ha hs') hs) fun σ H Q ⟨i, F0, H0, F, ρ, s, ds, s', A, h, q⟩ => by
  have hl := G.hv i
  rw [h1] at hl
  obtain ⟨v, w, ev⟩ : ∃ v w, G.vs i = [v, w] := by
    match hv : G.vs i, hl with
    | [v, w], _ => exact ⟨v, w, rfl⟩
  refine ⟨v, A.bagv j 0 v hk (by rw [ev]; rfl), w, A.bagv j' 1 w hk' (by rw [ev]; rfl), i, F0, H0, F, ρ, s, ds, s', A, h, fun vs F1 H1 t1 k1 r1 => ?_⟩
  have := q vs F1 H1 t1 k1 r1
  rw [ev] at this
  exact this
theorem f_callB {sem : List D → MS G.S D} (Fn : FnOk X.prog X.w X.K X.mg X.base CX0 k f fd ps (spF G n sem)) (hr : Room k X.A) (hg : Gl X x) (hm : X.mg x = some (.ref f)) (hk : PySem.W.keepIn X.K (.ref f) = true) (hb : Binds X.K fd ps [])
    (ha : PA X (e :: es) (tBag G κ fs)) (hdb : (x == ("__debug__" : Str)) = false := by decide) (he : starEach (e :: es) X.env = (false, eval e X.env) :: starEach es X.env := by rfl) (hpl : (backTo pos (starEach es X.env)).any (·.1) = false := by rfl) :
    PE X (.Call (.Name x p) (e :: es) [] pos) (tF G κ (eCallB (fun ds => if ds.length = n then sem ds else fun _ => none) fs)) := PE.imp (pe_call Fn hr hg hm hk hb .nil pass0 ha hdb he hpl) fun σ H Q ⟨i, F0, H0, F, ρ, s, d, s', A, h, q⟩ => by
  obtain ⟨l, s1, h1, h⟩ := bnd_inv h
  by_cases hn : l.length = n
  · have h2 : sem l s1 = some (d, s') := by
      have h' : (if l.length = n then sem l else fun _ => none) s1 = some (d, s') := h
      rw [if_pos hn] at h'
      exact h'
    refine ⟨i, F0, H0, F, ρ, s, l, s1, A, h1, fun vs F1 H1 t1 k1 r1 => ?_⟩
    exact ⟨i, F1, s1, vs, l, d, s', by rw [List.append_nil], hn, t1.fh, fun a ha => (A.step t1 k1).nd a ha, k1, r1, h2, fun v F' H' t k r => q v F' H' (t1.trans t) k r⟩
  · have h' : (if l.length = n then sem l else fun _ => none) s1 = some (d, s') := h
    rw [if_neg hn] at h'
    cases h'
/-- the same where nothing is given but the bag -/
theorem a_bag1_ {j : Nat} {y : Str} {p' : Pos} (h1 : G.nv = 1) (hN : X.N[j]? = some y := by rfl) (hk : kdAt κ j = .bag 0 := by rfl) (hv : Vis X.env.scope y := by first | exact Or.inl rfl | exact Or.inr (Or.inl rfl) | exact Or.inr (Or.inr rfl))
    (hd : (y == ("__debug__" : Str)) = false := by decide) (hcd : (y == ("__classdict__" : Str)) = false := by decide) (hs : starEach (.Name y p' :: []) X.env = (false, eval (.Name y p') X.env) :: starEach [] X.env := by rfl) :
    PA X [.Name y p'] (tBag G κ aNil) := a_bag1 h1 hN hk hv a_nil hd hcd hs
/-! ### f(k = a, ..) -/
def kAs (G : Bags) (κ : List Kd) (f : DA G) : TA := tAs G κ f
theorem PK.imp {kws : List Keyword} {t t' : TA} (h : PK X kws t) (k : ∀ σ H Q, t' σ H Q → t σ H Q) : PK X kws t' := ⟨fun p pins s σ H Q I q => h.run p pins s σ H Q I (k σ H Q q)⟩
theorem k_nil : PK X [] (tAs G κ aNil) := PK.imp pk_nil fun σ H Q ⟨i, F0, H0, F, ρ, s, ds, s', A, h, q⟩ => by
  obtain ⟨rfl, rfl⟩ := ret_inv h
  exact q [] F H (Stp.refl A.fh) A.ok .nil
theorem k_cons {g : DE G} {kws : List Keyword} {nm : Option Str} {kpos : Pos} (ha : PE X e (tF G κ g)) (hr : PK X kws (tAs G κ fs)) : PK X (⟨nm, e, kpos⟩ :: kws) (tAs G κ (aCons g fs)) :=
  PK.imp (pk_cons ha hr) fun σ H Q ⟨i, F0, H0, F, ρ, s, ds, s', A, h, q⟩ => by
    obtain ⟨a, s1, h1, h⟩ := bnd_inv h
    obtain ⟨l, s2, h2, h⟩ := bnd_inv h
    obtain ⟨rfl, rfl⟩ := ret_inv h
    exact ⟨i, F0, H0, F, ρ, s, a, s1, A, h1, fun v F1 H1 t1 k1 r1 => ⟨i, F0, H0, F1, ρ, s1, l, s', A.step t1 k1, h2, fun vs F2 H2 t2 k2 r2 => q _ F2 H2 (t1.trans t2) k2 (.cons (r1.mono t2.ff) r2)⟩⟩
/-- keywords ks, all of them; perm puts them in the parameters' order -/
structure KB (K : PySem.W.Frag) (fd : FuncData) (ps ks : List Str) (perm : List Nat) : Prop where
  to : ∀ (s : Shared) (ws : List Value), ws.length = ks.length → BindsTo s fd ⟨[], ks.zip ws⟩ (ps.zip (pick perm ws))
def tCallK0 (m : Nat) (perm : List Nat) (sp : Sp) (E : XK) (tk : TA) : TE := fun σ H Q => tk σ H fun zs H2 => zs.length = m ∧ sp (pick perm zs) H2 Q E
theorem pe_callK0 {CX : CXT} {sp : Sp} {E : XK} {ks : List Str} {perm : List Nat} {kws : List Keyword} {tk : TA} (F : FnOk X.prog X.w X.K X.mg X.base CX k f fd ps sp) (hr : Room k X.A) (hg : Gl X x) (hm : X.mg x = some (.ref f)) (hk : PySem.W.keepIn X.K (.ref f) = true)
    (hb : KB X.K fd ps ks perm) (hx : Passes CX X E) (hkw : PK X kws tk) (hall : (backToKw pos (keywordEach kws X.env)).all (·.1.isSome) = true := by rfl) (hks : (backToKw pos (keywordEach kws X.env)).filterMap (·.1) = ks := by rfl)
    (hdb : (x == ("__debug__" : Str)) = false := by decide) (hpl : ((backTo pos (starEach [] X.env)).any (·.1) || (backToKw pos (keywordEach kws X.env)).any (·.1.isNone)) = false := by rfl) :
    PE X (.Call (.Name x p) [] kws pos) (tCallK0 ks.length perm sp E tk) := by
  refine ⟨fun pins s σ H Q I h => ?_⟩
  refine PySem.wpAny_Call_Name_kw (ld_glob I hg hm ?_ hdb)
  refine PySem.W.callWith_KW0 (h₀ := X.base) I.ok.mod.kin hk hall (thn (hkw.run pos pins s σ H _ I h) fun ws s2 ⟨zs, H2, I2, rz, l2, q2⟩ => ⟨I2.kIn, ?_⟩) hpl
  rw [hks]
  refine wpAny_call (codeAny_mono (F.run X.A X.stack s2 H2 ⟨[], ks.zip ws⟩ (pick perm ws) (pick perm zs) Q E hr I2.env0 (hb.to s2 ws (rz.length.symm.trans l2)) (Vals.pick rz perm) q2) fun r s' hq => ?_)
  cases r with
  | error e => exact hx pins σ H2 s2 e s' I2 hq
  | ok fl =>
    cases fl with
    | ret u => exact I2.after hq
    | next => exact False.elim hq
    | brk => exact False.elim hq
    | cont => exact False.elim hq
theorem f_callK {sem : List D → Option D} {ks : List Str} {perm : List Nat} {kws : List Keyword} (Fn : FnOk X.prog X.w X.K X.mg X.base CX0 k f fd ps (spP n sem)) (hr : Room k X.A) (hg : Gl X x) (hm : X.mg x = some (.ref f)) (hk : PySem.W.keepIn X.K (.ref f) = true)
    (hb : KB X.K fd ps ks perm) (hkw : PK X kws (tAs G κ fs)) (hall : (backToKw pos (keywordEach kws X.env)).all (·.1.isSome) = true := by rfl) (hks : (backToKw pos (keywordEach kws X.env)).filterMap (·.1) = ks := by rfl)
    (hdb : (x == ("__debug__" : Str)) = false := by decide) (hpl : ((backTo pos (starEach [] X.env)).any (·.1) || (backToKw pos (keywordEach kws X.env)).any (·.1.isNone)) = false := by rfl) :
    PE X (.Call (.Name x p) [] kws pos) (tF G κ (eFn (fun ds => if ds.length = ks.length ∧ (pick perm ds).length = n then sem (pick perm ds) else none) fs)) :=
  PE.imp (pe_callK0 Fn hr hg hm hk hb pass0 hkw hall hks hdb hpl) fun σ H Q ⟨i, F0, H0, F, ρ, s, d, s', A, h, q⟩ => by
    obtain ⟨l, s1, h1, h⟩ := bnd_inv h
    obtain ⟨h2, rfl⟩ := lft_inv h
    have h2 : (if l.length = ks.length ∧ (pick perm l).length = n then sem (pick perm l) else none) = some d := h2
    split at h2
    · rename_i hn
      refine ⟨i, F0, H0, F, ρ, s, l, s', A, h1, fun vs F1 H1 t1 k1 r1 => ⟨by rw [r1.length]; exact hn.1, ?_⟩⟩
      refine ⟨(), F1, (), _, _, d, (), rfl, hn.2, t1.fh, fun _ z => z.elim, trivial, r1.pick perm, ?_, fun v F' H' t _ r => ?_⟩
      · unfold pureSem
        rw [h2]
        rfl
      · exact q v F' H' (t1.trans (St0.any t)) (St0.ok t k1) r
    · cases h2
end
end Fx
namespace Fx
open PySem PySem.Spec L2

/-! ## statements -/
inductive Out where
  | nx (ρ : Env) | rt (d : D) | bk (ρ : Env) | ct (ρ : Env)
abbrev DS (G : Bags) := Env → MS G.S Out
structure Fin (G : Bags) (i : G.I) (F0 H0 : Hp) (s : G.S) (F H : Hp) : Prop where
  fh : Ex F H
  base : Ex F0 F
  ok : G.Ok i s H
  keep : ∀ a o, H0 a = some o → ¬ G.dom i a → H a = some o
  kept : ∀ a, H0 a ≠ none → H a ≠ none
  new : ∀ a o, F a = some o → F0 a = some o ∨ H0 a = none ∨ ∃ xs, o = .tup xs
theorem As.fin {G : Bags} {i : G.I} {κ : List Kd} {F0 H0 F H : Hp} {ρ : Env} {s : G.S} {σ : L2.St} (A : As G i κ F0 H0 ρ s σ F H) : Fin G i F0 H0 s F H := ⟨A.fh, A.base, A.ok, A.keep, A.kept, A.new⟩
def Post (G : Bags) (i : G.I) (κ' κL : List Kd) (F0 H0 : Hp) (D : Ends) (s : G.S) : Out → Prop
  | .nx ρ => ∀ σ F H, As G i κ' F0 H0 ρ s σ F H → D.nx σ H
  | .rt d => ∀ v F H, Fin G i F0 H0 s F H → Rp F v d → D.rt v H
  | .bk ρ => ∀ σ F H, As G i κL F0 H0 ρ s σ F H → D.bk σ H
  | .ct ρ => ∀ σ F H, As G i κL F0 H0 ρ s σ F H → D.ct σ H
def tS (G : Bags) (κ κ' κL : List Kd) (f : DS G) : TS := fun D σ H => ∃ (i : G.I) (F0 H0 F : Hp) (ρ : Env) (s : G.S) (o : Out) (s' : G.S), As G i κ F0 H0 ρ s σ F H ∧ f ρ s = some (o, s') ∧ Post G i κ' κL F0 H0 D s' o
section
variable {S : Type}
def sNil : Env → MS S Out := fun ρ => ret (.nx ρ)
def seqK (g : Env → MS S Out) : Out → MS S Out
  | .nx ρ => g ρ
  | o => ret o
def sSeq (f g : Env → MS S Out) : Env → MS S Out := fun ρ => bnd (f ρ) (seqK g)
def sRet (f : Env → MS S D) : Env → MS S Out := fun ρ => bnd (f ρ) fun d => ret (.rt d)
def sRetN : Env → MS S Out := fun _ => ret (.rt .non)
def sDrop (f : Env → MS S D) : Env → MS S Out := fun ρ => bnd (f ρ) fun _ => ret (.nx ρ)
def sAsg (j : Nat) (f : Env → MS S D) : Env → MS S Out := fun ρ => bnd (f ρ) fun d => ret (.nx (ρ.set j (some d)))
def sIf (c : Env → MS S Bool) (f g : Env → MS S Out) : Env → MS S Out := fun ρ => bnd (c ρ) fun b => if b then f ρ else g ρ
def sBrk : Env → MS S Out := fun ρ => ret (.bk ρ)
def sCtn : Env → MS S Out := fun ρ => ret (.ct ρ)
def clr (js : List Nat) (ρ : Env) : Env := js.foldl (fun r j => r.set j none) ρ
def sForget (js : List Nat) (g : Env → MS S Out) : Env → MS S Out := fun ρ => g (clr js ρ)
end
/-- the slots whose kinds may change are those that are forgotten -/
def kdsOk (js : List Nat) (κ κ1 : List Kd) : Bool := (List.range (max κ.length κ1.length)).all fun j => decide (kdAt κ j = kdAt κ1 j) || (js.contains j && (match kdAt κ j, kdAt κ1 j with
  | .bag _, _ => false
  | _, .bag _ => false
  | _, _ => true))
theorem kdAt_big {κ : List Kd} {j : Nat} (h : κ.length ≤ j) : kdAt κ j = .val := by
  unfold kdAt
  rw [List.getD_eq_getElem?_getD, List.getElem?_eq_none_iff.mpr h]
  rfl
theorem kdsOk_at {js : List Nat} {κ κ1 : List Kd} (h : kdsOk js κ κ1 = true) (j : Nat) : kdAt κ j = kdAt κ1 j ∨ (j ∈ js ∧ (∀ k, kdAt κ j ≠ .bag k) ∧ ∀ k, kdAt κ1 j ≠ .bag k) := by
  by_cases hj : j < max κ.length κ1.length
  · have := List.all_eq_true.mp h j (List.mem_range.mpr hj)
    rw [Bool.or_eq_true, Bool.and_eq_true, decide_eq_true_eq] at this
    rcases this with e | ⟨e1, e2⟩
    · exact .inl e
    · refine .inr ⟨by simpa using e1, fun k e => ?_, fun k e => ?_⟩
      · rw [e] at e2; cases e2
      · rw [e] at e2
        cases h3 : kdAt κ j <;> (rw [h3] at e2; cases e2)
  · exact .inl (by rw [kdAt_big (by omega), kdAt_big (by omega)])
theorem clr_length : ∀ (js : List Nat) (ρ : Env), (clr js ρ).length = ρ.length
  | [], _ => rfl
  | j :: js, ρ => by
    show (clr js (ρ.set j none)).length = _
    rw [clr_length js, List.length_set]
theorem clr_some : ∀ (js : List Nat) {ρ : Env} {i : Nat} {d : D}, (clr js ρ)[i]? = some (some d) → i ∉ js ∧ ρ[i]? = some (some d)
  | [], _, _, _, h => ⟨by simp, h⟩
  | j :: js, ρ, i, d, h => by
    obtain ⟨h1, h2⟩ := clr_some js (show (clr js (ρ.set j none))[i]? = _ from h)
    by_cases e : j = i
    · subst e
      by_cases hl : j < ρ.length
      · rw [List.getElem?_set_self hl] at h2; cases h2
      · rw [List.getElem?_eq_none (by rw [List.length_set]; omega)] at h2; cases h2
    · rw [List.getElem?_set_ne e] at h2
      exact ⟨by simp only [List.mem_cons, not_or]; exact ⟨fun z => e z.symm, h1⟩, h2⟩
section
variable {G : Bags} {i : G.I} {κ κ1 : List Kd} {F0 H0 F H F' H' : Hp} {ρ ρ' : Env} {s s' : G.S} {σ σ' : L2.St}
/-- other kinds for slots that hold nothing -/
theorem As.kinds (A : As G i κ F0 H0 ρ s σ F H) (h : ∀ (j : Nat) (d : D), ρ[j]? = some (some d) → kdAt κ j = kdAt κ1 j) (hb : ∀ j k, kdAt κ1 j = .bag k → kdAt κ j = .bag k) : As G i κ1 F0 H0 ρ s σ F H where
  fh := A.fh
  nd := A.nd
  ok := A.ok
  len := A.len
  val := fun j d q hv => A.val j d q ((h j d q).trans hv)
  own := fun j d q hv => by
    rw [← h j d q] at hv ⊢
    exact A.own j d q hv
  apart := fun j k a d e hn h1 h2 h3 h4 => A.apart j k a d e hn (by rw [h j d h3]; exact h1) (by rw [h k e h4]; exact h2) h3 h4
  bagv := fun j k v h1 h2 => A.bagv j k v (hb j k h1) h2
  base := A.base
  keep := A.keep
  kept := A.kept
  new := A.new
theorem As.forget {js : List Nat} (A : As G i κ F0 H0 ρ s σ F H) (h : kdsOk js κ κ1 = true) : As G i κ1 F0 H0 (clr js ρ) s σ F H := by
  refine (A.slots (ρ' := clr js ρ) (σ' := σ) (by rw [clr_length]; exact A.len) (fun j d q => ⟨(clr_some js q).2, rfl⟩) fun _ _ _ => rfl).kinds (fun j d q => ?_) fun j k q => ?_
  · rcases kdsOk_at h j with e | ⟨e, _⟩
    · exact e
    · exact absurd e (clr_some js q).1
  · rcases kdsOk_at h j with e | ⟨_, _, e⟩
    · exact e.trans q
    · exact absurd q (e k)
theorem kd_set {κ : List Kd} {j : Nat} {k : Kd} {m : Nat} (hj : j < κ.length) : kdAt (κ.set j k) m = if m = j then k else kdAt κ m := by
  unfold kdAt
  rw [List.getD_eq_getElem?_getD, List.getD_eq_getElem?_getD]
  by_cases e : m = j
  · subst e
    rw [if_pos rfl, List.getElem?_set_self hj]
    rfl
  · rw [if_neg e, List.getElem?_set_ne (fun z => e z.symm)]
/-- nothing is known of slot j any more; its kind may change -/
theorem As.drop1 {j : Nat} {k : Kd} (A : As G i κ F0 H0 ρ s σ F H) (hj : j < κ.length) (hb : ∀ b, k ≠ .bag b) : As G i (κ.set j k) F0 H0 (ρ.set j none) s σ F H := by
  refine (A.slots (ρ' := ρ.set j none) (σ' := σ) (by rw [List.length_set]; exact A.len) (fun m d q => ?_) fun _ _ _ => rfl).kinds (fun m d q => ?_) fun m b q => ?_
  · exact ⟨(clr_some [j] (show (clr [j] ρ)[m]? = _ from q)).2, rfl⟩
  · have := (clr_some [j] (show (clr [j] ρ)[m]? = _ from q)).1
    rw [kd_set hj, if_neg (by simpa using this)]
  · rw [kd_set hj] at q
    split at q
    · exact absurd q (hb b)
    · exact q
theorem set_set' (ρ : Env) (j : Nat) (d : Option D) : (ρ.set j none).set j d = ρ.set j d := by simp
/-- slot j = frozen data -/
theorem As.putV {j : Nat} {v : V} {d : D} (A : As G i κ F0 H0 ρ s σ F H) (hj : j < κ.length) (h : Rp F v d) : As G i (κ.set j .val) F0 H0 (ρ.set j (some d)) s (σ.set j (some v)) F H := by
  have := (A.drop1 (k := .val) hj (fun _ z => by cases z)).setV (j := j) (v := v) (d := d) (by rw [kd_set hj, if_pos rfl]) h
  rw [set_set'] at this
  exact this
/-- slot j = a thing of its own -/
theorem As.putO {j : Nat} {a : Addr} {k : Kd} {d : D} (A : As G i κ F0 H0 ρ s σ F H) (hj : j < κ.length) (hk : k.isOwn = true) (h : Ow F H a k d) (hn : H0 a = none) (hd : ¬ G.dom i a)
    (hf : ∀ m e, m ≠ j → ρ[m]? = some (some e) → (kdAt κ m).isOwn = true → σ[m]? ≠ some (some (.ref a))) : As G i (κ.set j k) F0 H0 (ρ.set j (some d)) s (σ.set j (some (.ref a))) F H := by
  have kb : ∀ b, k ≠ .bag b := fun b z => by subst z; cases hk
  have A' := A.drop1 (k := k) hj kb
  refine { fh := A.fh, nd := A.nd, ok := A.ok, len := by rw [List.length_set, List.length_set]; exact A.len, val := fun m e q hv => ?_, own := fun m e q hv => ?_, apart := fun m l b e f hn h1 h2 h3 h4 h5 => ?_, bagv := fun m b w h1 h2 => ?_, base := A.base, keep := A.keep, kept := A.kept, new := A.new }
  · by_cases z : m = j
    · subst z
      rw [kd_set hj, if_pos rfl] at hv
      subst hv
      cases hk
    · rw [List.getElem?_set_ne (fun y => z y.symm)] at q ⊢
      rw [kd_set hj, if_neg z] at hv
      exact A.val m e q hv
  · by_cases z : m = j
    · subst z
      have hlt : m < ρ.length := by
        have := (List.getElem?_eq_some_iff.mp q).1
        rw [List.length_set] at this; exact this
      rw [List.getElem?_set_self hlt] at q
      cases q
      rw [kd_set hj, if_pos rfl]
      exact ⟨a, List.getElem?_set_self (by rw [← A.len]; exact hlt), h, hn, hd⟩
    · rw [List.getElem?_set_ne (fun y => z y.symm)] at q ⊢
      rw [kd_set hj, if_neg z] at hv ⊢
      exact A.own m e q hv
  · by_cases z1 : m = j
    · subst z1
      have z2 : ¬ l = m := fun y => hn y.symm
      rw [List.getElem?_set_ne (fun y => z2 y.symm)] at h4 ⊢
      rw [kd_set hj, if_neg z2] at h2
      have hlt : m < σ.length := by
        have := (List.getElem?_eq_some_iff.mp h5).1
        rw [List.length_set] at this; exact this
      rw [List.getElem?_set_self hlt] at h5
      cases h5
      exact hf l f z2 h4 h2
    · rw [List.getElem?_set_ne (fun y => z1 y.symm)] at h3 h5
      rw [kd_set hj, if_neg z1] at h1
      by_cases z2 : l = j
      · subst z2
        intro h6
        have hlt : l < σ.length := by
          have := (List.getElem?_eq_some_iff.mp h6).1
          rw [List.length_set] at this; exact this
        rw [List.getElem?_set_self hlt] at h6
        cases h6
        exact hf m e z1 h3 h1 h5
      · rw [List.getElem?_set_ne (fun y => z2 y.symm)] at h4 ⊢
        rw [kd_set hj, if_neg z2] at h2
        exact A.apart m l b e f hn h1 h2 h3 h4 h5
  · rw [kd_set hj] at h1
    by_cases z : m = j
    · rw [if_pos z] at h1
      exact absurd h1 (kb b)
    · rw [if_neg z] at h1
      rw [List.getElem?_set_ne (fun y => z y.symm)]
      exact A.bagv m b w h1 h2
/-- an owned thing is changed -/
theorem As.chg {j : Nat} {a : Addr} {o : HO} {d d' : D} (A : As G i κ F0 H0 ρ s σ F H) (hk : (kdAt κ j).isOwn = true) (hd : ρ[j]? = some (some d)) (hs : σ[j]? = some (some (.ref a))) (h : Ow F (upd H a o) a (kdAt κ j) d') :
    As G i κ F0 H0 (ρ.set j (some d')) s σ F (upd H a o) := by
  obtain ⟨a', e, ow, hn, hdm⟩ := A.own j d hd hk
  rw [hs] at e
  cases e
  refine { fh := fun b u q => ?_, nd := A.nd, ok := G.frame A.ok fun b hb => upd_ne fun (z : b = a) => hdm (by rw [← z]; exact hb), len := by rw [List.length_set]; exact A.len, val := fun m e q hv => ?_, own := fun m e q hv => ?_, apart := fun m l b e f hn h1 h2 h3 h4 h5 => ?_, bagv := A.bagv, base := A.base, keep := fun b u q hb => ?_, kept := fun b q => ?_, new := A.new }
  · rw [upd_ne (ne_of_none q ow.free)]; exact A.fh b u q
  · have z : j ≠ m := fun z => by subst z; rw [hv] at hk; cases hk
    rw [List.getElem?_set_ne z] at q
    exact A.val m e q hv
  · by_cases z : j = m
    · subst z
      have hlt : j < ρ.length := (List.getElem?_eq_some_iff.mp hd).1
      rw [List.getElem?_set_self hlt] at q
      cases q
      exact ⟨a, hs, h, hn, hdm⟩
    · rw [List.getElem?_set_ne z] at q
      obtain ⟨b, h1, h2, h3, h4⟩ := A.own m e q hv
      refine ⟨b, h1, h2.mono (Ex.refl F) h2.free fun u y => ?_, h3, h4⟩
      have : b ≠ a := fun y => by subst y; exact A.apart j m b d e z hk hv hd q hs h1
      rw [upd_ne this]; exact y
  · have get : ∀ {m : Nat} {e : D}, (ρ.set j (some d'))[m]? = some (some e) → ∃ e', ρ[m]? = some (some e') := fun {m e} q => by
      by_cases z : j = m
      · subst z; exact ⟨d, hd⟩
      · rw [List.getElem?_set_ne z] at q; exact ⟨e, q⟩
    obtain ⟨e', g1⟩ := get h3
    obtain ⟨f', g2⟩ := get h4
    exact A.apart m l b e' f' hn h1 h2 g1 g2 h5
  · rw [upd_ne (ne_of_none q hn)]; exact A.keep b u q hb
  · by_cases z : b = a
    · subst z; rw [upd_same]; exact fun y => by cases y
    · rw [upd_ne z]; exact A.kept b q
/-- an owned thing is frozen -/
theorem As.frz {j : Nat} (A : As G i κ F0 H0 ρ s σ F H) (hj : j < κ.length) (hk : (kdAt κ j).isOwn = true) : ∃ F1, As G i (κ.set j .val) F0 H0 ρ s σ F1 H := by
  cases hd : ρ.getD j none with
  | none =>
    have no : ∀ d, ρ[j]? ≠ some (some d) := fun d e => by
      rw [List.getD_eq_getElem?_getD, e] at hd; cases hd
    refine ⟨F, A.kinds (fun m d q => ?_) fun m b q => ?_⟩
    · rw [kd_set hj, if_neg (fun z => by subst z; exact no d q)]
    · rw [kd_set hj] at q
      split at q
      · cases q
      · exact q
  | some d =>
    have hd' := getD_some hd
    obtain ⟨a, h1, h2, h3, h4⟩ := A.own j d hd' hk
    obtain ⟨o, h5, h6⟩ := h2.freeze
    have ex : Ex F (upd F a o) := fun b u q => by rw [upd_ne (ne_of_none q h2.free)]; exact q
    refine ⟨upd F a o, { fh := fun b u q => ?_, nd := fun b hb => ?_, ok := A.ok, len := A.len, val := fun m e q hv => ?_, own := fun m e q hv => ?_, apart := fun m l b e f hn k1 k2 => ?_, bagv := fun m b w q1 q2 => ?_, base := A.base.trans ex, keep := A.keep, kept := A.kept, new := fun b u q => ?_ }⟩
    · by_cases z : b = a
      · subst z; rw [upd_same] at q; cases q; exact h5
      · rw [upd_ne z] at q; exact A.fh b u q
    · rw [upd_ne (fun (z : b = a) => h4 (by rw [← z]; exact hb))]; exact A.nd b hb
    · rw [kd_set hj] at hv
      by_cases z : m = j
      · subst z
        rw [hd'] at q
        cases q
        exact ⟨_, h1, h6⟩
      · rw [if_neg z] at hv
        obtain ⟨v, g1, g2⟩ := A.val m e q hv
        exact ⟨v, g1, g2.mono ex⟩
    · rw [kd_set hj] at hv ⊢
      by_cases z : m = j
      · rw [if_pos z] at hv; cases hv
      · rw [if_neg z] at hv ⊢
        obtain ⟨b, g1, g2, g3, g4⟩ := A.own m e q hv
        have nb : b ≠ a := fun y => by subst y; exact A.apart j m b d e (fun y => z y.symm) hk hv hd' q h1 g1
        exact ⟨b, g1, g2.mono ex (by rw [upd_ne nb]; exact g2.free) fun _ y => y, g3, g4⟩
    · rw [kd_set hj] at k1 k2
      by_cases z1 : m = j
      · rw [if_pos z1] at k1; cases k1
      · by_cases z2 : l = j
        · rw [if_pos z2] at k2; cases k2
        · rw [if_neg z1] at k1
          rw [if_neg z2] at k2
          exact A.apart m l b e f hn k1 k2
    · rw [kd_set hj] at q1
      split at q1
      · cases q1
      · exact A.bagv m b w q1 q2
    · by_cases z : b = a
      · subst z; exact .inr (.inl h3)
      · rw [upd_ne z] at q; exact A.new b u q
end
section
variable {X : Cx} {G : Bags} {κ κ1 κ' κL : List Kd} {f g : DS G} {st : Stmt} {rest : List Stmt} {pos : Pos}
theorem s_nil : PSs X [] (tS G κ κ κL sNil) := PSs.imp pss_nil fun D σ H ⟨i, F0, H0, F, ρ, s, o, s', A, h, q⟩ => by
  obtain ⟨rfl, rfl⟩ := ret_inv h
  exact q σ F H A
theorem s_cons (h1 : PS X st (tS G κ κ1 κL f)) (h2 : PSs X rest (tS G κ1 κ' κL g)) : PSs X (st :: rest) (tS G κ κ' κL (sSeq f g)) := PSs.imp (pss_cons h1 h2) fun D σ H ⟨i, F0, H0, F, ρ, s, o, s', A, h, q⟩ => by
  obtain ⟨o1, s1, e1, e2⟩ := bnd_inv h
  refine ⟨i, F0, H0, F, ρ, s, o1, s1, A, e1, ?_⟩
  cases o1 with
  | nx ρ1 => exact fun σ1 F1 H1 A1 => ⟨i, F0, H0, F1, ρ1, s1, o, s', A1, e2, q⟩
  | rt d =>
    obtain ⟨rfl, rfl⟩ := ret_inv (show ret (Out.rt d) s1 = _ from e2)
    exact q
  | bk ρ1 =>
    obtain ⟨rfl, rfl⟩ := ret_inv (show ret (Out.bk ρ1) s1 = _ from e2)
    exact q
  | ct ρ1 =>
    obtain ⟨rfl, rfl⟩ := ret_inv (show ret (Out.ct ρ1) s1 = _ from e2)
    exact q
theorem s_one (h1 : PS X st (tS G κ κ' κL f)) : PSs X [st] (tS G κ κ' κL f) := pss_one h1
/-- nothing happens: slots are forgotten, kinds change -/
theorem s_forget (js : List Nat) (κ1 : List Kd) (h : PSs X rest (tS G κ1 κ' κL g)) (hk : kdsOk js κ κ1 = true := by rfl) : PSs X rest (tS G κ κ' κL (sForget js g)) := PSs.imp h fun D σ H ⟨i, F0, H0, F, ρ, s, o, s', A, h, q⟩ =>
  ⟨i, F0, H0, F, clr js ρ, s, o, s', A.forget hk, h, q⟩
/-- nothing happens: what slot j owned is frozen -/
theorem s_frz (j : Nat) (h : PSs X rest (tS G (κ.set j .val) κ' κL g)) (hj : j < κ.length := by decide) (hk : (kdAt κ j).isOwn = true := by rfl) : PSs X rest (tS G κ κ' κL g) := PSs.imp h fun D σ H ⟨i, F0, H0, F, ρ, s, o, s', A, h, q⟩ => by
  obtain ⟨F1, A1⟩ := A.frz hj hk
  exact ⟨i, F0, H0, F1, ρ, s, o, s', A1, h, q⟩
theorem s_pass : PS X (.Pass pos) (tS G κ κ κL sNil) := PS.imp ps_pass fun D σ H ⟨i, F0, H0, F, ρ, s, o, s', A, h, q⟩ => by
  obtain ⟨rfl, rfl⟩ := ret_inv h
  exact q σ F H A
theorem s_brk : PS X (.Break pos) (tS G κ κ' κ sBrk) := PS.imp ps_break fun D σ H ⟨i, F0, H0, F, ρ, s, o, s', A, h, q⟩ => by
  obtain ⟨rfl, rfl⟩ := ret_inv h
  exact q σ F H A
theorem s_ctn : PS X (.Continue pos) (tS G κ κ' κ sCtn) := PS.imp ps_continue fun D σ H ⟨i, F0, H0, F, ρ, s, o, s', A, h, q⟩ => by
  obtain ⟨rfl, rfl⟩ := ret_inv h
  exact q σ F H A
variable {e : Expr} {fe : DE G} {c : DT G} {fs : DA G} {a b : List Stmt}
theorem s_ret (he : PE X e (tF G κ fe)) : PS X (.Return (some e) pos) (tS G κ κ' κL (sRet fe)) := PS.imp (ps_ret he) fun D σ H ⟨i, F0, H0, F, ρ, s, o, s', A, h, q⟩ => by
  obtain ⟨d, s1, h1, h⟩ := bnd_inv h
  obtain ⟨rfl, rfl⟩ := ret_inv h
  exact ⟨i, F0, H0, F, ρ, s, d, s', A, h1, fun v F' H' t k r => q v F' H' (A.step t k).fin r⟩
theorem s_retN : PS X (.Return none pos) (tS G κ κ' κL sRetN) := PS.imp ps_retN fun D σ H ⟨i, F0, H0, F, ρ, s, o, s', A, h, q⟩ => by
  obtain ⟨rfl, rfl⟩ := ret_inv h
  exact q _ F H A.fin .non
theorem s_expr (he : PE X e (tF G κ fe)) (hs : swapsWith e none pos.line X.env = pure false := by rfl) : PS X (.Expr e pos) (tS G κ κ κL (sDrop fe)) := PS.imp (ps_expr he hs) fun D σ H ⟨i, F0, H0, F, ρ, s, o, s', A, h, q⟩ => by
  obtain ⟨d, s1, h1, h⟩ := bnd_inv h
  obtain ⟨rfl, rfl⟩ := ret_inv h
  exact ⟨i, F0, H0, F, ρ, s, d, s', A, h1, fun v F' H' t k r => q σ F' H' (A.step t k)⟩
theorem s_if (hc : PT X e (tT G κ c)) (ha : PSs X a (tS G κ κ' κL f)) (hb : PSs X b (tS G κ κ' κL g)) : PS X (.If e a b pos) (tS G κ κ' κL (sIf c f g)) := PS.imp (ps_if hc ha hb) fun D σ H ⟨i, F0, H0, F, ρ, s, o, s', A, h, q⟩ => by
  obtain ⟨b, s1, h1, h⟩ := bnd_inv h
  refine ⟨i, F0, H0, F, ρ, s, b, s1, A, h1, fun F1 H1 t1 k1 => ?_⟩
  cases b with
  | true => exact iteT ⟨i, F0, H0, F1, ρ, s1, o, s', A.step t1 k1, h, q⟩
  | false => exact iteF ⟨i, F0, H0, F1, ρ, s1, o, s', A.step t1 k1, h, q⟩
/-- x = e -/
theorem s_asg {j : Nat} {x : Str} {pos' : Pos} (hN : X.N.Nodup) (he : PE X e (tF G κ fe)) (hi : X.N[j]? = some x := by rfl) (hj : j < κ.length := by decide) (hx : Loc X.env.scope x := by first | exact Or.inl rfl | exact Or.inr rfl)
    (hs : swapsWith e (some (.Name x pos')) pos.line X.env = pure false := by rfl) (hf : X.fn x = true ∨ X.env.scope.names.lookup x = some .local := by first | exact .inl rfl | exact .inr rfl) :
    PS X (.Assign [.Name x pos'] e pos) (tS G κ (κ.set j .val) κL (sAsg j fe)) := PS.imp (ps_set hN hi hx he hs hf) fun D σ H ⟨i, F0, H0, F, ρ, s, o, s', A, h, q⟩ => by
  obtain ⟨d, s1, h1, h⟩ := bnd_inv h
  obtain ⟨rfl, rfl⟩ := ret_inv h
  exact ⟨i, F0, H0, F, ρ, s, d, s', A, h1, fun v F' H' t k r => q _ F' H' ((A.step t k).putV hj r)⟩
theorem As.putN {i : G.I} {F0 H0 F H F' H' : Hp} {ρ : Env} {s s' : G.S} {σ : L2.St} {j : Nat} {a : Addr} {k : Kd} {d : D} (A : As G i κ F0 H0 ρ s σ F H) (t : Stp (G.dom i) F H F' H') (hok : G.Ok i s' H') (hj : j < κ.length) (hk : k.isOwn = true) (ow : Ow F' H' a k d) (hn : H a = none) :
    As G i (κ.set j k) F0 H0 (ρ.set j (some d)) s' (σ.set j (some (.ref a))) F' H' := by
  refine (A.step t hok).putO hj hk ow ?_ (fun z => G.alloc A.ok z hn) fun m e _ h1 h2 h3 => ?_
  · cases z : H0 a with
    | none => rfl
    | some u => exact absurd hn (A.kept a (by rw [z]; exact fun y => by cases y))
  · obtain ⟨b, g1, g2, _, _⟩ := A.own m e h1 h2
    rw [h3] at g1
    cases g1
    obtain ⟨u, g3⟩ := g2.there
    rw [hn] at g3; cases g3
/-- x = e, something new that x owns -/
theorem s_own {j : Nat} {k : Kd} {x : Str} {pos' : Pos} (hN : X.N.Nodup) (he : PE X e (tFN G κ k fe)) (hi : X.N[j]? = some x := by rfl) (hk : k.isOwn = true := by rfl) (hj : j < κ.length := by decide) (hx : Loc X.env.scope x := by first | exact Or.inl rfl | exact Or.inr rfl)
    (hs : swapsWith e (some (.Name x pos')) pos.line X.env = pure false := by rfl) (hf : X.fn x = true ∨ X.env.scope.names.lookup x = some .local := by first | exact .inl rfl | exact .inr rfl) :
    PS X (.Assign [.Name x pos'] e pos) (tS G κ (κ.set j k) κL (sAsg j fe)) := PS.imp (ps_set hN hi hx he hs hf) fun D σ H ⟨i, F0, H0, F, ρ, s, o, s', A, h, q⟩ => by
  obtain ⟨d, s1, h1, h⟩ := bnd_inv h
  obtain ⟨rfl, rfl⟩ := ret_inv h
  exact ⟨i, F0, H0, F, ρ, s, d, s', A, h1, fun a F' H' t kk ow hn => q _ F' H' (A.putN t kk hj hk ow hn)⟩

/-! ### a, b = .. -/
def sPar {S : Type} (j k : Nat) (fs : Env → MS S (List D)) : Env → MS S Out := fun ρ => bnd (fs ρ) fun l => match l with
  | [a, b] => ret (.nx ((ρ.set j (some a)).set k (some b)))
  | _ => fun _ => none
theorem s_par {j k : Nat} {x y : Str} {a b : Expr} {px py pt : Pos} {kt k2 pt2} (hc : X.calm = true) (hN : X.N.Nodup) (ha : PA X [a, b] (tAs G κ fs)) (hi : X.N[j]? = some x := by rfl) (hj : X.N[k]? = some y := by rfl) (hij : j ≠ k := by decide) (hl : j < κ.length := by decide) (hl' : k < κ.length := by decide)
    (hx : X.env.scope.names.lookup x = some .local := by rfl) (hy : X.env.scope.names.lookup y = some .local := by rfl)
    (hw : swappedStores [.Tuple [.Name x px, .Name y py] kt pt] (.Tuple [a, b] k2 pt2) X.env = pure (some [x, y]) := by rfl)
    (hs : swapsWithSole [.Tuple [.Name x px, .Name y py] kt pt] (.Tuple [a, b] k2 pt2) pos.line X.env = pure false := by rfl) :
    PS X (.Assign [.Tuple [.Name x px, .Name y py] kt pt] (.Tuple [a, b] k2 pt2) pos) (tS G κ ((κ.set j .val).set k .val) κL (sPar j k fs)) := PS.imp (ps_par hc hN hi hj hij hx hy ha hw hs) fun D σ H ⟨i, F0, H0, F, ρ, s, o, s', A, h, q⟩ => by
  obtain ⟨l, s1, h1, h⟩ := bnd_inv h
  refine ⟨i, F0, H0, F, ρ, s, l, s1, A, h1, fun vs F' H' t kk r => ?_⟩
  match l, h with
  | [d, e], h =>
    obtain ⟨rfl, rfl⟩ := ret_inv (show ret (Out.nx ((ρ.set j (some d)).set k (some e))) s1 = _ from h)
    obtain ⟨v, w, rfl, r1, r2⟩ := r.inv2
    exact ⟨v, w, rfl, q _ F' H' (((A.step t kk).putV hl r1).putV (by rw [List.length_set]; exact hl') r2)⟩
/-! ### targets -/
inductive Tg where
  | nm (j : Nat) | tp (l : List Tg)
mutual
def tgT (K : PySem.W.Frag) : Tg → TG
  | .nm j => gName j
  | .tp l => gTup K l.length (tgTs K l)
def tgTs (K : PySem.W.Frag) : List Tg → TGs
  | [] => gNil
  | t :: l => gCons (tgT K t) (tgTs K l)
end
mutual
def asgT : Tg → D → Env → Option Env
  | .nm j, d, ρ => some (ρ.set j (some d))
  | .tp l, .tup ds, ρ => asgTs l ds ρ
  | .tp _, _, _ => none
def asgTs : List Tg → List D → Env → Option Env
  | [], [], ρ => some ρ
  | t :: l, d :: ds, ρ => (asgT t d ρ).bind (asgTs l ds)
  | _, _, _ => none
end
mutual
def Tg.nms : Tg → List Nat
  | .nm j => [j]
  | .tp l => nmsL l
def nmsL : List Tg → List Nat
  | [] => []
  | t :: l => t.nms ++ nmsL l
end
theorem wipe_at (σ : L2.St) (m : Nat) : ∀ js : List Nat, (wipe σ js)[m]? = if m ∈ js then (σ[m]?).map (fun _ => none) else σ[m]?
  | [] => by simp [wipe]
  | j :: js => by
    have ih := wipe_at σ m js
    unfold wipe
    by_cases e : j = m
    · subst e
      rw [if_pos List.mem_cons_self]
      by_cases hl : j < σ.length
      · rw [List.getElem?_set_self (by rw [wipe_length]; exact hl), List.getElem?_eq_getElem hl]
        rfl
      · rw [List.getElem?_eq_none (by rw [List.length_set, wipe_length]; omega), List.getElem?_eq_none (by omega)]
        rfl
    · rw [List.getElem?_set_ne e, ih]
      by_cases h : m ∈ js
      · rw [if_pos h, if_pos (List.mem_cons_of_mem _ h)]
      · rw [if_neg h, if_neg (by simp only [List.mem_cons, not_or]; exact ⟨fun z => e z.symm, h⟩)]
theorem wipe_set {σ : L2.St} {j : Nat} {x : Option V} {js : List Nat} (h : j ∈ js) : wipe (σ.set j x) js = wipe σ js := by
  refine List.ext_getElem? fun m => ?_
  rw [wipe_at, wipe_at]
  by_cases e : j = m
  · subst e
    rw [if_pos h, if_pos h]
    by_cases hl : j < σ.length
    · rw [List.getElem?_set_self hl, List.getElem?_eq_getElem hl]; rfl
    · rw [List.getElem?_eq_none (by rw [List.length_set]; omega), List.getElem?_eq_none (by omega)]
  · rw [List.getElem?_set_ne e]
theorem asgTs_len : ∀ (l : List Tg) {ds : List D} {ρ ρ' : Env}, asgTs l ds ρ = some ρ' → ds.length = l.length
  | [], [], _, _, _ => rfl
  | [], _ :: _, _, _, h => by rw [asgTs] at h <;> first | cases h | (intro z; cases z) | (intros; rename_i z; cases z)
  | _ :: _, [], _, _, h => by rw [asgTs] at h <;> first | cases h | (intro z; cases z) | (intros; rename_i z; cases z)
  | t :: l, d :: ds, ρ, ρ', h => by
    rw [asgTs] at h
    obtain ⟨ρ1, h1, h2⟩ := Option.bind_eq_some_iff.mp h
    rw [List.length_cons, List.length_cons, asgTs_len l h2]
mutual
theorem tg_ok {K : PySem.W.Frag} {i : G.I} {F0 H0 F H : Hp} {s : G.S} {js : List Nat} : ∀ (t : Tg) {ρ ρ' : Env} {σ : L2.St} {v : V} {d : D} {Q : L2.St → Hp → Prop}, (∀ j ∈ t.nms, j ∈ js ∧ kdAt κ j = .val) → As G i κ F0 H0 ρ s σ F H → Rp F v d → asgT t d ρ = some ρ' →
    (∀ σ', As G i κ F0 H0 ρ' s σ' F H → wipe σ' js = wipe σ js → Q σ' H) → tgT K t v σ H Q
  | .nm j, ρ, ρ', σ, v, d, Q, hj, A, r, h, q => by
    rw [asgT] at h
    cases h
    obtain ⟨h1, h2⟩ := hj j (by rw [Tg.nms]; exact List.mem_singleton_self j)
    rw [tgT]
    exact q _ (A.setV h2 r) (wipe_set h1)
  | .tp l, ρ, ρ', σ, v, d, Q, hj, A, r, h, q => by
    cases d with
    | tup ds =>
      rw [asgT] at h
      cases r with
      | tup hp r =>
        rw [tgT]
        rw [Tg.nms] at hj
        obtain ⟨hl, k⟩ := tgs_ok l hj A r h q
        exact ⟨_, _, rfl, SqT.of (A.fh _ _ hp), hl, k⟩
    | _ => rw [asgT] at h <;> first | cases h | (intro _ z; cases z)
theorem tgs_ok {K : PySem.W.Frag} {i : G.I} {F0 H0 F H : Hp} {s : G.S} {js : List Nat} : ∀ (l : List Tg) {ρ ρ' : Env} {σ : L2.St} {vs : List V} {ds : List D} {Q : L2.St → Hp → Prop}, (∀ j ∈ nmsL l, j ∈ js ∧ kdAt κ j = .val) → As G i κ F0 H0 ρ s σ F H → Rps F vs ds → asgTs l ds ρ = some ρ' →
    (∀ σ', As G i κ F0 H0 ρ' s σ' F H → wipe σ' js = wipe σ js → Q σ' H) → vs.length = l.length ∧ tgTs K l vs σ H Q
  | [], ρ, ρ', σ, vs, ds, Q, hj, A, r, h, q => by
    cases r with
    | nil =>
      rw [asgTs] at h
      cases h
      rw [tgTs]
      exact ⟨rfl, rfl, q σ A rfl⟩
    | cons => rw [asgTs] at h <;> first | cases h | (intro z; cases z) | (intros; rename_i z; cases z)
  | t :: l, ρ, ρ', σ, vs, ds, Q, hj, A, r, h, q => by
    cases r with
    | nil => rw [asgTs] at h <;> first | cases h | (intro z; cases z) | (intros; rename_i z; cases z)
    | cons a r =>
      rw [asgTs] at h
      obtain ⟨ρ1, h1, h2⟩ := Option.bind_eq_some_iff.mp h
      rw [nmsL] at hj
      rw [tgTs]
      refine ⟨by rw [List.length_cons, List.length_cons, r.length, asgTs_len l h2], _, _, rfl, tg_ok t (fun j z => hj j (List.mem_append_left _ z)) A a h1 fun σ' A' w' => ?_⟩
      exact (tgs_ok l (fun j z => hj j (List.mem_append_right _ z)) A' r h2 fun σ2 A2 w2 => q σ2 A2 (w2.trans w')).2
end
end
end Fx
namespace Fx
open PySem PySem.Spec L2

/-! ## what is walked -/
/-- at turn j the j-th of ds comes -/
def Yl (J : It) (F : Hp) (ds : List D) : Prop := ∀ (j : Nat) (F' H' : Hp), Ex F F' → Ex F' H' →
  (∀ d, ds[j]? = some d → J.go j H' ∧ ∀ x H2, J.yld j H' x H2 → ∃ F2, St0 F' H' F2 H2 ∧ Rp F2 x d) ∧ (ds.length ≤ j → J.stop j H')
theorem Yl.mono {J : It} {F F' : Hp} {ds : List D} (e : Ex F F') (y : Yl J F ds) : Yl J F' ds := fun j F1 H1 a b => y j F1 H1 (e.trans a) b
abbrev DI (G : Bags) := Env → MS G.S (List D)
def tI (G : Bags) (κ : List Kd) (f : DI G) : TI := fun σ H R => ∃ (i : G.I) (F0 H0 F : Hp) (ρ : Env) (s : G.S) (ds : List D) (s' : G.S), As G i κ F0 H0 ρ s σ F H ∧ f ρ s = some (ds, s') ∧
  ∀ J F' H', Stp (G.dom i) F H F' H' → G.Ok i s' H' → Yl J F' ds → R J H'
theorem PI.imp {X : Cx} {tg e : Expr} {t t' : TI} (h : PI X tg e t) (k : ∀ σ H R, t' σ H R → t σ H R) : PI X tg e t' := ⟨fun pins s σ H R I q => h.run pins s σ H R I (k σ H R q)⟩
def iSeq {S : Type} (f : Env → MS S D) : Env → MS S (List D) := fun ρ => bnd (f ρ) fun d => lft (seqO d)
def rngD (lo : Int) (n : Nat) : List D := (List.range n).map fun (k : Nat) => .int (lo + (k : Int))
def in62 (i : Int) : Bool := decide (-(2 ^ 62) ≤ i) && decide (i < 2 ^ 62)
def rng1O : List D → Option (List D)
  | [.int n] => if in62 n then some (rngD 0 n.toNat) else none
  | _ => none
def rng2O : List D → Option (List D)
  | [.int lo, .int hi] => if in62 lo && in62 hi then some (rngD lo (hi - lo).toNat) else none
  | _ => none
def iFn {S : Type} (o : List D → Option (List D)) (fs : Env → MS S (List D)) : Env → MS S (List D) := fun ρ => bnd (fs ρ) fun l => lft (o l)
theorem rngD_length (lo : Int) (n : Nat) : (rngD lo n).length = n := by simp [rngD]
theorem rngD_get (lo : Int) (n j : Nat) : (rngD lo n)[j]? = if j < n then some (.int (lo + (j : Int))) else none := by
  unfold rngD
  rw [List.getElem?_map]
  by_cases h : j < n
  · rw [if_pos h, List.getElem?_range h]; rfl
  · rw [if_neg h, List.getElem?_eq_none (by simpa using h)]; rfl
theorem yl_rng (lo : Int) (n : Nat) (F : Hp) : Yl (Itr lo n) F (rngD lo n) := fun j F' H' e1 e2 => by
  refine ⟨fun d h => ?_, fun h => by rw [rngD_length] at h; exact h⟩
  rw [rngD_get] at h
  split at h
  · rename_i hj
    cases h
    refine ⟨hj, fun x H2 y => ?_⟩
    obtain ⟨rfl, rfl⟩ := y
    exact ⟨F', Stp.refl e2, .int _⟩
  · cases h
section
variable {X : Cx} {G : Bags} {κ : List Kd} {fe : DE G} {fs : DA G} {tg e : Expr} {p pos : Pos}
theorem i_seq (he : PE X e (tF G κ fe)) : PI X tg e (tI G κ (iSeq fe)) := PI.imp (Fx.PI.or (pi_list he) (pi_tup he)) fun σ H R ⟨i, F0, H0, F, ρ, s, ds, s', A, h, q⟩ => by
  obtain ⟨d, s1, h1, h⟩ := bnd_inv h
  obtain ⟨h2, rfl⟩ := lft_inv h
  cases d with
  | lst l =>
    cases h2
    refine .inl ⟨i, F0, H0, F, ρ, s, _, s', A, h1, fun v F1 H1 t1 k1 r1 => ?_⟩
    cases r1 with
    | @lst a xs ds hp r =>
      refine ⟨a, rfl, ⟨xs, SqL.of (t1.fh _ _ hp)⟩, q _ F1 H1 t1 k1 fun j F' H' e1 e2 => ⟨fun d hd => ?_, fun h => ⟨xs, SqL.of (e2 _ _ (e1 _ _ hp)), by rw [r.length]; exact h⟩⟩⟩
      obtain ⟨v, g1, g2⟩ := r.get' hd
      refine ⟨⟨xs, v, SqL.of (e2 _ _ (e1 _ _ hp)), g1⟩, fun x H2 y => ?_⟩
      obtain ⟨rfl, y⟩ := y
      have := y xs (SqL.of (e2 _ _ (e1 _ _ hp)))
      rw [g1] at this
      cases this
      exact ⟨F', Stp.refl e2, g2.mono e1⟩
  | tup l =>
    cases h2
    refine .inr ⟨i, F0, H0, F, ρ, s, _, s', A, h1, fun v F1 H1 t1 k1 r1 => ?_⟩
    cases r1 with
    | @tup a xs ds hp r =>
      refine ⟨a, rfl, ⟨xs, SqT.of (t1.fh _ _ hp)⟩, q _ F1 H1 t1 k1 fun j F' H' e1 e2 => ⟨fun d hd => ?_, fun h => ⟨xs, SqT.of (e2 _ _ (e1 _ _ hp)), by rw [r.length]; exact h⟩⟩⟩
      obtain ⟨v, g1, g2⟩ := r.get' hd
      refine ⟨⟨xs, v, SqT.of (e2 _ _ (e1 _ _ hp)), g1⟩, fun x H2 y => ?_⟩
      obtain ⟨rfl, y⟩ := y
      have := y xs (SqT.of (e2 _ _ (e1 _ _ hp)))
      rw [g1] at this
      cases this
      exact ⟨F', Stp.refl e2, g2.mono e1⟩
  | _ => cases h2
theorem i_rng1 {a : Expr} (hg : Gl X "range") (hm : X.mg "range" = none) (ha : PA X [a] (tAs G κ fs)) (hs : starEach [a] X.env = [(false, eval a X.env)] := by rfl) : PI X tg (.Call (.Name "range" p) [a] [] pos) (tI G κ (iFn rng1O fs)) :=
  PI.imp (pi_range1 hg hm ha hs) fun σ H R ⟨i, F0, H0, F, ρ, s, ds, s', A, h, q⟩ => by
    obtain ⟨l, s1, h1, h⟩ := bnd_inv h
    obtain ⟨h2, rfl⟩ := lft_inv h
    refine ⟨i, F0, H0, F, ρ, s, l, s', A, h1, fun vs F1 H1 t1 k1 r1 => ?_⟩
    match l, h2 with
    | [.int n], h2 =>
      simp only [rng1O] at h2
      split at h2
      · rename_i hn
        cases h2
        obtain ⟨v, rfl, r⟩ := r1.inv1
        cases r
        simp only [in62, Bool.and_eq_true, decide_eq_true_eq] at hn
        exact ⟨n, rfl, hn.1, hn.2, q _ F1 H1 t1 k1 (yl_rng 0 n.toNat F1)⟩
      · cases h2
theorem i_rng2 {a b : Expr} (hg : Gl X "range") (hm : X.mg "range" = none) (ha : PA X [a, b] (tAs G κ fs)) (hs : starEach [a, b] X.env = [(false, eval a X.env), (false, eval b X.env)] := by rfl) (hs2 : starEach [b] X.env = [(false, eval b X.env)] := by rfl) :
    PI X tg (.Call (.Name "range" p) [a, b] [] pos) (tI G κ (iFn rng2O fs)) :=
  PI.imp (pi_range2 hg hm ha hs hs2) fun σ H R ⟨i, F0, H0, F, ρ, s, ds, s', A, h, q⟩ => by
    obtain ⟨l, s1, h1, h⟩ := bnd_inv h
    obtain ⟨h2, rfl⟩ := lft_inv h
    refine ⟨i, F0, H0, F, ρ, s, l, s', A, h1, fun vs F1 H1 t1 k1 r1 => ?_⟩
    match l, h2 with
    | [.int lo, .int hi], h2 =>
      simp only [rng2O] at h2
      split at h2
      · rename_i hn
        cases h2
        obtain ⟨v, w, rfl, r, r'⟩ := r1.inv2
        cases r
        cases r'
        simp only [in62, Bool.and_eq_true, decide_eq_true_eq] at hn
        exact ⟨lo, hi, rfl, ⟨hn.1.1, hn.1.2, hn.2.1, hn.2.2⟩, q _ F1 H1 t1 k1 (yl_rng lo _ F1)⟩
      · cases h2
end

/-! ## targets, by their places -/
section
variable {X : Cx} {x : Str} {pos : Pos}
theorem g_nm {j : Nat} (hN : X.N.Nodup) (hi : X.N[j]? = some x := by rfl) (hx : Loc X.env.scope x := by first | exact Or.inl rfl | exact Or.inr rfl) (hf : X.fn x = true ∨ X.env.scope.names.lookup x = some .local := by first | exact .inl rfl | exact .inr rfl) :
    PG X (.Name x pos) (tgT X.K (.nm j)) := by
  rw [tgT]
  exact pg_name hN hi hx hf
theorem g_nil : PGs X [] (tgTs X.K []) := by
  rw [tgTs]
  exact pgs_nil
theorem g_cons {e : Expr} {es : List Expr} {t : Tg} {l : List Tg} (h1 : PG X e (tgT X.K t)) (h2 : PGs X es (tgTs X.K l)) (hs : (assignEach (e :: es) X.env).map (·.2) = assign e X.env :: (assignEach es X.env).map (·.2) := by rfl) : PGs X (e :: es) (tgTs X.K (t :: l)) := by
  rw [tgTs]
  exact pgs_cons h1 h2 hs
theorem g_tup {es : List Expr} {k : Nat} {l : List Tg} (hc : X.calm = true) (h : PGs X es (tgTs X.K l)) (hn : (assignEach es X.env).length = l.length := by rfl) (hst : (assignEach es X.env).findIdx? (·.1) = none := by rfl) : PG X (.Tuple es k pos) (tgT X.K (.tp l)) := by
  rw [tgT]
  exact pg_tup hc h hn hst
end
/-- the target's places hold plain data -/
def tgVal (κ : List Kd) (t : Tg) : Bool := t.nms.all fun j => decide (kdAt κ j = .val)

/-! ## a, b = e -/
def sUnp {S : Type} (t : Tg) (f : Env → MS S D) : Env → MS S Out := fun ρ => bnd (f ρ) fun d => bnd (lft (asgT t d ρ)) fun ρ' => ret (.nx ρ')
section
variable {X : Cx} {G : Bags} {κ κ' κL : List Kd} {fe : DE G} {tg e : Expr} {pos : Pos} {t : Tg}
theorem s_unp (he : PE X e (tF G κ fe)) (hg : PG X tg (tgT X.K t)) (ht : tgVal κ t = true := by rfl) (hs : swapsWithSole [tg] e pos.line X.env = pure false := by rfl) (hw : swappedStores [tg] e X.env = pure none := by rfl)
    (h1 : (assignEach [tg] X.env).map (·.2) = [assign tg X.env] := by rfl) : PS X (.Assign [tg] e pos) (tS G κ κ κL (sUnp t fe)) := PS.imp (ps_asg he hg hs hw h1) fun D σ H ⟨i, F0, H0, F, ρ, s, o, s', A, h, q⟩ => by
  obtain ⟨d, s1, h1, h⟩ := bnd_inv h
  obtain ⟨ρ1, s2, h2, h4⟩ := bnd_inv h
  obtain ⟨h3, rfl⟩ := lft_inv h2
  obtain ⟨rfl, rfl⟩ := ret_inv h4
  refine ⟨i, F0, H0, F, ρ, s, d, s', A, h1, fun v F' H' tt k r => ?_⟩
  refine tg_ok t (js := t.nms) (fun j hj => ⟨hj, of_decide_eq_true (List.all_eq_true.mp ht j hj)⟩) (A.step tt k) r h3 fun σ' A' _ => q σ' F' H' A'
end

/-! ## for -/
section
variable {S : Type}
def forK (next : Env → MS S Out) : Out → MS S Out
  | .nx ρ => next ρ
  | .ct ρ => next ρ
  | .bk ρ => ret (.nx ρ)
  | .rt d => ret (.rt d)
def forL (t : Tg) (body : Env → MS S Out) : List D → Env → MS S Out
  | [], ρ => ret (.nx ρ)
  | d :: ds, ρ => bnd (lft (asgT t d ρ)) fun ρ1 => bnd (body ρ1) (forK (forL t body ds))
def sFor (it : Env → MS S (List D)) (t : Tg) (body : Env → MS S Out) : Env → MS S Out := fun ρ => bnd (it ρ) fun ds => forL t body ds ρ
def whileL (c : Env → MS S Bool) (body : Env → MS S Out) : Nat → Env → MS S Out
  | 0, _ => fun _ => none
  | n + 1, ρ => bnd (c ρ) fun b => if b then bnd (body ρ) (forK (whileL c body n)) else ret (.nx ρ)
def sWhile (φ : Env → Nat) (c : Env → MS S Bool) (body : Env → MS S Out) : Env → MS S Out := fun ρ => whileL c body (φ ρ) ρ
end
section
variable {X : Cx} {G : Bags} {κ κL : List Kd} {it : DI G} {body : DS G} {tg e : Expr} {sts : List Stmt} {pos : Pos} {t : Tg} {c : DT G}
theorem s_for (hp : PassesOwn (model X.prog X.w) X.A X.env X.xe) (hc : X.calm = true) (hi : PI X tg e (tI G κ it)) (hg : PG X tg (tgT X.K t)) (hb : PSs X sts (tS G κ κ κ body)) (ht : tgVal κ t = true := by rfl)
    (hs : ∀ x, foldedSetIterable e X.env x = pure x := by intro _; rfl) : PS X (.For tg e sts [] pos) (tS G κ κ κL (sFor it t body)) := PS.imp (ps_for hp hc hi hg hb hs) fun D σ H ⟨i, F0, H0, F, ρ, s, o, s', A, h, q⟩ => by
  obtain ⟨ds, s1, h1, h⟩ := bnd_inv h
  refine ⟨i, F0, H0, F, ρ, s, ds, s1, A, h1, fun J F1 H1 t1 k1 y => ?_⟩
  have A1 := A.step t1 k1
  refine ⟨fun n m σ' H' => m = ds.length - n ∧ n ≤ ds.length ∧ ∃ F' ρ' sn, As G i κ F0 H0 ρ' sn σ' F' H' ∧ Ex F1 F' ∧ forL t body (ds.drop n) ρ' sn = some (o, s'), ⟨ds.length, by simp, Nat.zero_le _, F1, ρ, s1, A1, Ex.refl F1, h⟩, ?_⟩
  rintro n m σ' H' ⟨rfl, hn, F', ρ', sn, A', ex, e⟩
  by_cases hlt : n < ds.length
  · have hd : ds[n]? = some ds[n] := List.getElem?_eq_getElem hlt
    obtain ⟨go, yl⟩ := (y n F' H' ex A'.fh).1 _ hd
    refine .inr ⟨go, fun σ2 H2 => ∃ F2 ρ2 s2, As G i κ F0 H0 ρ2 s2 σ2 F2 H2 ∧ Ex F1 F2 ∧ forL t body (ds.drop (n + 1)) ρ2 s2 = some (o, s'), fun σ2 H2 ⟨F2, ρ2, s2, A2, ex2, e2⟩ => ⟨ds.length - (n + 1), by omega, rfl, hlt, F2, ρ2, s2, A2, ex2, e2⟩, fun x H2 hy => ?_⟩
    obtain ⟨F2, t2, rx⟩ := yl x H2 hy
    have A2 := A'.step t2.any (t2.ok A'.ok)
    rw [List.drop_eq_getElem_cons hlt, forL] at e
    obtain ⟨ρ3, s3, e1, e5⟩ := bnd_inv e
    obtain ⟨e3, rfl⟩ := lft_inv e1
    obtain ⟨o4, s4, e4, e6⟩ := bnd_inv e5
    refine tg_ok t (js := t.nms) (fun j hj => ⟨hj, of_decide_eq_true (List.all_eq_true.mp ht j hj)⟩) A2 rx e3 fun σ3 A3 _ => ?_
    have keep : ∀ {F4 : Hp}, Ex F2 F4 → Ex F1 F4 := fun z => (ex.trans t2.ff).trans z
    -- within the turn F only grows: seen by taking F2 for the start
    have A3' : As G i κ F2 H0 ρ3 s3 σ3 F2 H2 := { A3 with base := Ex.refl F2, new := fun a u z => .inl z }
    refine ⟨i, F2, H0, F2, ρ3, s3, o4, s4, A3', e4, ?_⟩
    have back : ∀ {σ5 : L2.St} {F5 H5 : Hp} {ρ5 : Env} {s5 : G.S}, As G i κ F2 H0 ρ5 s5 σ5 F5 H5 → As G i κ F0 H0 ρ5 s5 σ5 F5 H5 := fun {σ5 F5 H5 ρ5 s5} A5 =>
      { A5 with base := A3.base.trans A5.base, new := fun a u z => (A5.new a u z).elim (A3.new a u) .inr }
    cases o4 with
    | nx ρ5 => exact fun σ5 F5 H5 A5 => ⟨F5, ρ5, s4, back A5, keep A5.base, e6⟩
    | ct ρ5 => exact fun σ5 F5 H5 A5 => ⟨F5, ρ5, s4, back A5, keep A5.base, e6⟩
    | bk ρ5 =>
      obtain ⟨rfl, rfl⟩ := ret_inv (show ret (Out.nx ρ5) s4 = _ from e6)
      exact fun σ5 F5 H5 A5 => q σ5 F5 H5 (back A5)
    | rt d =>
      obtain ⟨rfl, rfl⟩ := ret_inv (show ret (Out.rt d) s4 = _ from e6)
      exact fun v F5 H5 fin r => q v F5 H5 ⟨fin.fh, A3.base.trans fin.base, fin.ok, fin.keep, fin.kept, fun a u z => (fin.new a u z).elim (A3.new a u) .inr⟩ r
  · have en : n = ds.length := by omega
    subst en
    rw [List.drop_length, forL] at e
    obtain ⟨rfl, rfl⟩ := ret_inv e
    exact .inl ⟨(y _ F' H' ex A'.fh).2 (Nat.le_refl _), q σ' F' H' A'⟩
theorem s_while (φ : Env → Nat) (hp : PassesOwn (model X.prog X.w) X.A X.env X.xe) (hc : PT X e (tT G κ c)) (hb : PSs X sts (tS G κ κ κ body)) : PS X (.While e sts [] pos) (tS G κ κ κL (sWhile φ c body)) := PS.imp (ps_while hp hc hb) fun D σ H ⟨i, F0, H0, F, ρ, s, o, s', A, h, q⟩ => by
  refine ⟨fun m σ' H' => ∃ F' ρ' sn, As G i κ F0 H0 ρ' sn σ' F' H' ∧ whileL c body m ρ' sn = some (o, s'), ⟨φ ρ, F, ρ, s, A, h⟩, ?_⟩
  rintro m σ' H' ⟨F', ρ', sn, A', e⟩
  cases m with
  | zero => cases e
  | succ m =>
    rw [whileL] at e
    obtain ⟨b, s1, e1, e⟩ := bnd_inv e
    refine ⟨i, F0, H0, F', ρ', sn, b, s1, A', e1, fun F1 H1 t1 k1 => ?_⟩
    have A1 := A'.step t1 k1
    cases b with
    | true =>
      obtain ⟨o4, s4, e4, e⟩ := bnd_inv (show bnd (body ρ') (forK (whileL c body m)) s1 = _ from e)
      refine iteT ⟨fun σ2 H2 => ∃ F2 ρ2 s2, As G i κ F0 H0 ρ2 s2 σ2 F2 H2 ∧ whileL c body m ρ2 s2 = some (o, s'), fun σ2 H2 z => ⟨m, Nat.lt_succ_self m, z⟩, i, F0, H0, F1, ρ', s1, o4, s4, A1, e4, ?_⟩
      cases o4 with
      | nx ρ5 => exact fun σ5 F5 H5 A5 => ⟨F5, ρ5, s4, A5, e⟩
      | ct ρ5 => exact fun σ5 F5 H5 A5 => ⟨F5, ρ5, s4, A5, e⟩
      | bk ρ5 =>
        obtain ⟨rfl, rfl⟩ := ret_inv (show ret (Out.nx ρ5) s4 = _ from e)
        exact q
      | rt d =>
        obtain ⟨rfl, rfl⟩ := ret_inv (show ret (Out.rt d) s4 = _ from e)
        exact q
    | false =>
      obtain ⟨rfl, rfl⟩ := ret_inv (show ret (Out.nx ρ') s1 = _ from e)
      exact iteF (q σ' F1 H1 A1)
end
end Fx
namespace Fx
open PySem PySem.Spec L2

/-! ## list comprehensions -/
section
variable {S : Type}
def compL (t : Tg) (c : Env → MS S Bool) (f : Env → MS S D) (ρ : Env) : List D → MS S (List D)
  | [] => ret []
  | d :: ds => bnd (lft (asgT t d ρ)) fun ρ1 => bnd (c ρ1) fun b => if b then bnd (f ρ1) fun y => bnd (compL t c f ρ ds) fun l => ret (y :: l) else compL t c f ρ ds
def cYes : Env → MS S Bool := fun _ => ret true
def eLc (it : Env → MS S (List D)) (t : Tg) (vs : List Nat) (c : Env → MS S Bool) (f : Env → MS S D) : Env → MS S D := fun ρ => bnd (it ρ) fun ds => if ds.length ≤ 16777216 then bnd (compL t c f (clr vs ρ) ds) fun l => ret (.lst l) else fun _ => none
end
theorem wipe_none {σ : L2.St} {i : Nat} : ∀ {vs : List Nat}, i ∉ vs → (wipe σ vs)[i]? = σ[i]? := fun {vs} h => by rw [wipe_at, if_neg h]
theorem wipe_wipe (σ : L2.St) (vs : List Nat) : wipe (wipe σ vs) vs = wipe σ vs := List.ext_getElem? fun m => by
  rw [wipe_at (wipe σ vs), wipe_at σ]
  by_cases h : m ∈ vs
  · rw [if_pos h, if_pos h]
    cases σ[m]? <;> rfl
  · rw [if_neg h]
section
variable {G : Bags} {i : G.I} {κ : List Kd} {F0 H0 F H : Hp} {ρ : Env} {s : G.S} {σ : L2.St}
/-- the comprehension's own slots are wiped -/
theorem As.wipe {vs : List Nat} (A : As G i κ F0 H0 ρ s σ F H) (hb : ∀ j ∈ vs, ∀ k, kdAt κ j ≠ .bag k) : As G i κ F0 H0 (clr vs ρ) s (L2.wipe σ vs) F H :=
  A.slots (by rw [clr_length, wipe_length]; exact A.len) (fun j d q => by
    obtain ⟨h1, h2⟩ := clr_some vs q
    exact ⟨h2, wipe_none h1⟩) fun j k q => wipe_none fun z => hb j z k q
end
/-- the comprehension's slots: plain -/
def lcOk (κ : List Kd) (t : Tg) (vs : List Nat) : Bool := (t.nms.all fun j => decide (kdAt κ j = .val) && vs.contains j) && vs.all fun j => decide (kdAt κ j = .val)
section
variable {X : Cx} {G : Bags} {κ κ' κL : List Kd}
theorem lc_ok {K : PySem.W.Frag} {c : DT G} {fe : DE G} {t : Tg} {vs : List Nat} {i : G.I} {F0 H0 F1 H1 : Hp} {ρ : Env} {s1 s' : G.S} {σ : L2.St} {J : It} {ds l : List D} {Q : VK} (ht : lcOk κ t vs = true) (A : As G i κ F0 H0 ρ s1 σ F1 H1) (y : Yl J F1 ds) (hl : ds.length ≤ 16777216)
    (h : compL t c fe (clr vs ρ) ds s1 = some (l, s')) (q : ∀ a F' H', Stp (G.dom i) F1 H1 F' H' → G.Ok i s' H' → Ow F' H' a .oL (.lst l) → H1 a = none → Q (.ref a) H') :
    ∀ D, H1 D = none → ∃ W : Nat → Nat → Hp → Prop, (∃ m, W 0 m (upd H1 D (.lst []))) ∧ ∀ n m H, W n m H →
      (J.stop n H ∧ Q (.ref D) H) ∨ (J.go n H ∧ ∃ Nx : Hp → Prop, (∀ H', Nx H' → ∃ m', m' < m ∧ W (n + 1) m' H') ∧ ∀ x H', J.yld n H x H' → tgT K t x (L2.wipe σ vs) H' fun σ2 H2 => L2.wipe σ2 vs = L2.wipe σ vs ∧ tT G κ c σ2 H2 fun b H3 =>
        if b = true then tF G κ fe σ2 H3 fun y H4 => ∃ acc, H4 D = some (.lst acc) ∧ acc.length < sizeLine ∧ Nx (upd H4 D (.lst (acc ++ [y]))) else Nx H3) := by
  intro D hD
  have hz := sizeLine_eq
  rw [lcOk, Bool.and_eq_true, List.all_eq_true, List.all_eq_true] at ht
  obtain ⟨ht1, ht2⟩ := ht
  have nb : ∀ j ∈ vs, ∀ k, kdAt κ j ≠ .bag k := fun j hj k z => by
    have := of_decide_eq_true (ht2 j hj)
    rw [z] at this; cases this
  have tn : ∀ j ∈ t.nms, j ∈ vs ∧ kdAt κ j = .val := fun j hj => by
    have := ht1 j hj
    rw [Bool.and_eq_true, decide_eq_true_eq] at this
    exact ⟨by simpa using this.2, this.1⟩
  have nd : ¬ G.dom i D := fun z => G.alloc A.ok z hD
  -- the word: acc has been made, the rest is what compL still gives
  let W : Nat → Hp → Prop := fun n H => n ≤ ds.length ∧ ∃ F sn vacc dacc rest, Stp (G.dom i) F1 H1 F H ∧ F D = none ∧ H D = some (.lst vacc) ∧ Rps F vacc dacc ∧ dacc.length ≤ n ∧ As G i κ F0 H0 ρ sn σ F H ∧ compL t c fe (clr vs ρ) (ds.drop n) sn = some (rest, s') ∧ dacc ++ rest = l
  have fD : F1 D = none := A.fh.new hD
  have t0 : Stp (G.dom i) F1 H1 F1 (upd H1 D (.lst [])) := (St0.lay0 A.fh hD).any
  refine ⟨fun n m H => m = ds.length - n ∧ W n H, ⟨ds.length, by simp, Nat.zero_le _, F1, s1, [], [], l, t0, fD, upd_same, .nil, Nat.le_refl _, A.step t0 ((St0.lay0 A.fh hD).ok A.ok), h, rfl⟩, ?_⟩
  rintro n m H ⟨rfl, hn, F, sn, vacc, dacc, rest, t1, hF, hH, ra, hla, A1, e, el⟩
  by_cases hlt : n < ds.length
  · obtain ⟨go, yl⟩ := (y n F H t1.ff t1.fh).1 _ (List.getElem?_eq_getElem hlt)
    refine .inr ⟨go, W (n + 1), fun H' w => ⟨ds.length - (n + 1), by omega, rfl, w⟩, fun x H2 hy => ?_⟩
    obtain ⟨F2, t2, rx⟩ := yl x H2 hy
    have A2 := A1.step t2.any (t2.ok A1.ok)
    have hH2 : H2 D = some (.lst vacc) := t2.kp _ _ hH id
    have hF2 : F2 D = none := by
      cases z : F2 D with
      | none => rfl
      | some u =>
        have := t2.fh D u z
        rw [hH2] at this
        cases this
        rcases t2.nw D _ z with k | k | ⟨_, k⟩
        · rw [hF] at k; cases k
        · rw [hH] at k; cases k
        · cases k
    rw [List.drop_eq_getElem_cons hlt, compL] at e
    obtain ⟨ρ3, s3, e1, e5⟩ := bnd_inv e
    obtain ⟨e3, rfl⟩ := lft_inv e1
    obtain ⟨b, s4, e4, e6⟩ := bnd_inv e5
    refine tg_ok t tn (A2.wipe nb) rx e3 fun σ3 A3 w3 => ⟨w3.trans (wipe_wipe σ vs), ?_⟩
    refine ⟨i, F0, H0, F2, ρ3, s3, b, s4, A3, e4, fun F3 H3 t3 k3 => ?_⟩
    have t13 := (t1.trans t2.any).trans t3
    have hH3 : H3 D = some (.lst vacc) := t3.kp _ _ hH2 nd
    have free : ∀ {Fx Hx Fy Hy : Hp}, Stp (G.dom i) Fx Hx Fy Hy → Fx D = none → Hx D = some (.lst vacc) → Hy D = some (.lst vacc) → Fy D = none := fun {Fx Hx Fy Hy} tt f1 h1 h2 => by
      cases z : Fy D with
      | none => rfl
      | some u =>
        have := tt.fh D u z
        rw [h2] at this
        cases this
        rcases tt.nw D _ z with k | k | ⟨_, k⟩
        · rw [f1] at k; cases k
        · rw [h1] at k; cases k
        · cases k
    have hF3 := free t3 hF2 hH2 hH3
    cases b with
    | false =>
      refine iteF ⟨hlt, F3, s4, vacc, dacc, rest, t13, hF3, hH3, (ra.mono t2.ff).mono t3.ff, by omega, A2.step t3 k3, e6, el⟩
    | true =>
      obtain ⟨yd, s5, e7, e8⟩ := bnd_inv (show bnd (fe ρ3) _ s4 = _ from e6)
      obtain ⟨l', s6, e9, e10⟩ := bnd_inv e8
      obtain ⟨rfl, rfl⟩ := ret_inv e10
      refine iteT ⟨i, F0, H0, F3, ρ3, s4, yd, s5, A3.step t3 k3, e7, fun v F4 H4 t4 k4 r4 => ?_⟩
      have hH4 : H4 D = some (.lst vacc) := t4.kp _ _ hH3 nd
      have hF4 := free t4 hF3 hH3 hH4
      have lv := ra.length
      refine ⟨vacc, hH4, by omega, hlt, F4, s5, vacc ++ [v], dacc ++ [yd], l', ?_, hF4, upd_same, (((ra.mono t2.ff).mono t3.ff).mono t4.ff).append (.cons r4 .nil), by rw [List.length_append, List.length_singleton]; omega, ?_, e9, by rw [List.append_assoc]; exact el⟩
      · -- the step over the new list's growth
        have t14 := t13.trans t4
        refine ⟨t14.ff, fun b u z => ?_, fun b u z hd => ?_, fun b hd z => ?_, t14.nw⟩
        · rw [upd_ne (ne_of_none z hF4)]; exact t14.fh b u z
        · rw [upd_ne (ne_of_none z hD)]; exact t14.kp b u z hd
        · rw [upd_ne (fun w : b = D => nd (by rw [← w]; exact hd))]; exact t14.dm b hd z
      · have A4 := (A2.step t3 k3).step t4 k4
        -- As over the growth of D, which nobody holds
        refine { A4 with fh := fun b u z => ?_, ok := G.frame A4.ok fun b hb => upd_ne fun (w : b = D) => nd (by rw [← w]; exact hb), own := fun j d g hv => ?_, keep := fun b u z hd => ?_, kept := fun b z => ?_ }
        · rw [upd_ne (ne_of_none z hF4)]; exact A4.fh b u z
        · obtain ⟨a, g1, g2, g3, g4⟩ := A4.own j d g hv
          have na : a ≠ D := fun w => by
            obtain ⟨a', g1', g2', _, _⟩ := A.own j d g hv
            rw [g1] at g1'
            cases g1'
            obtain ⟨u, g5⟩ := g2'.there
            rw [w, hD] at g5; cases g5
          exact ⟨a, g1, g2.mono (Ex.refl F4) g2.free fun u z => by rw [upd_ne na]; exact z, g3, g4⟩
        · by_cases w : b = D
          · subst w
            exact absurd hD (A.kept b (by rw [z]; exact fun w => by cases w))
          · rw [upd_ne w]; exact A4.keep b u z hd
        · by_cases w : b = D
          · subst w; rw [upd_same]; exact fun w => by cases w
          · rw [upd_ne w]; exact A4.kept b z
  · have en : n = ds.length := by omega
    subst en
    rw [List.drop_length, compL] at e
    obtain ⟨rfl, rfl⟩ := ret_inv e
    rw [List.append_nil] at el
    subst el
    exact .inl ⟨(y _ F H t1.ff t1.fh).2 (Nat.le_refl _), q D F H t1 A1.ok (.oL hF hH ra) hD⟩
variable {it : DI G} {c : DT G} {fe : DE G} {elt tg iter : Expr} {ifs : List Expr} {scope : Scope} {own : List (Str × Nat)} {pos : Pos} {t : Tg}
theorem tFN_lc (ht : lcOk κ t (own.map (·.2)) = true) (σ : L2.St) (H : Hp) (Q : VK) : tFN G κ .oL (eLc it t (own.map (·.2)) c fe) σ H Q → tLc (tI G κ it) (tgT X.K t) (tT G κ c) (tF G κ fe) (own.map (·.2)) σ H Q := fun ⟨i, F0, H0, F, ρ, s, d, s', A, h, q⟩ => by
  obtain ⟨ds, s1, h1, h⟩ := bnd_inv h
  split at h
  · rename_i hl
    obtain ⟨l, s2, h2, h3⟩ := bnd_inv h
    obtain ⟨rfl, rfl⟩ := ret_inv h3
    exact ⟨i, F0, H0, F, ρ, s, ds, s1, A, h1, fun J F1 H1 t1 k1 y => lc_ok ht (A.step t1 k1) y hl h2 fun a F' H' tt kk ow hn => q a F' H' (t1.trans tt) kk ow (t1.back hn)⟩
  · cases h
/-- [elt for target in iter if ..] -/
theorem n_lc (hc : X.calm = true) (hN : X.N.Nodup) (hi : PI X tg iter (tI G κ it)) (ok : BlkOk X.N X.env.scope scope own)
    (hg : ∀ (s : Shared) (H : Hp) (C : Addr) (cl : List (Str × Addr)) (fp : List Addr), PG (X.blk s H scope (compEnvC scope cl C X.env) fp) tg (tgT X.K t))
    (hcs : ∀ (s : Shared) (H : Hp) (C : Addr) (cl : List (Str × Addr)) (fp : List Addr), PTs (X.blk s H scope (compEnvC scope cl C X.env) fp) ifs (tT G κ c))
    (he : ∀ (s : Shared) (H : Hp) (C : Addr) (cl : List (Str × Addr)) (fp : List Addr), PE (X.blk s H scope (compEnvC scope cl C X.env) fp) elt (tF G κ fe))
    (ht : lcOk κ t (own.map (·.2)) = true := by rfl) (hs : ∀ x, foldedSetIterable iter X.env x = pure x := by intro _; rfl) :
    PE X (.ListComp elt [⟨tg, iter, ifs, 0⟩] scope pos) (tFN G κ .oL (eLc it t (own.map (·.2)) c fe)) := PE.imp (pe_lc hc hN hi ok hg hcs he hs) (tFN_lc ht)
theorem f_lc (hc : X.calm = true) (hN : X.N.Nodup) (hi : PI X tg iter (tI G κ it)) (ok : BlkOk X.N X.env.scope scope own)
    (hg : ∀ (s : Shared) (H : Hp) (C : Addr) (cl : List (Str × Addr)) (fp : List Addr), PG (X.blk s H scope (compEnvC scope cl C X.env) fp) tg (tgT X.K t))
    (hcs : ∀ (s : Shared) (H : Hp) (C : Addr) (cl : List (Str × Addr)) (fp : List Addr), PTs (X.blk s H scope (compEnvC scope cl C X.env) fp) ifs (tT G κ c))
    (he : ∀ (s : Shared) (H : Hp) (C : Addr) (cl : List (Str × Addr)) (fp : List Addr), PE (X.blk s H scope (compEnvC scope cl C X.env) fp) elt (tF G κ fe))
    (ht : lcOk κ t (own.map (·.2)) = true := by rfl) (hs : ∀ x, foldedSetIterable iter X.env x = pure x := by intro _; rfl) :
    PE X (.ListComp elt [⟨tg, iter, ifs, 0⟩] scope pos) (tF G κ (eLc it t (own.map (·.2)) c fe)) := f_frz (n_lc hc hN hi ok hg hcs he ht hs)
theorem c_yes {X : Cx} : PTs X [] (tT G κ cYes) := ⟨fun pins s σ H Q I ⟨i, F0, H0, F, ρ, s1, b, s', A, h, q⟩ => by
  obtain ⟨rfl, rfl⟩ := ret_inv h
  exact pts_nil.run pins s σ H Q I (q F H (Stp.refl A.fh) A.ok)⟩
theorem c_one {X : Cx} {e : Expr} (h : PT X e (tT G κ c)) : PTs X [e] (tT G κ c) := pts_one h
/-- y = [..], y kept as its own list, or frozen at once -/
theorem s_ownLc {j : Nat} {y : Str} {py spos : Pos} (hc : X.calm = true) (hN : X.N.Nodup) (hsw : swapsWith (.ListComp elt [⟨tg, iter, ifs, 0⟩] scope pos) (some (.Name y py)) spos.line X.env = pure true) (hi : PI X tg iter (tI G κ it)) (ok : BlkOk X.N X.env.scope scope own)
    (hg : ∀ (s : Shared) (H : Hp) (C : Addr) (cl : List (Str × Addr)) (fp : List Addr), PG (X.blk s H scope (compEnvC scope cl C X.env) fp) tg (tgT X.K t))
    (hcs : ∀ (s : Shared) (H : Hp) (C : Addr) (cl : List (Str × Addr)) (fp : List Addr), PTs (X.blk s H scope (compEnvC scope cl C X.env) fp) ifs (tT G κ c))
    (he : ∀ (s : Shared) (H : Hp) (C : Addr) (cl : List (Str × Addr)) (fp : List Addr), PE (X.blk s H scope (compEnvC scope cl C X.env) fp) elt (tF G κ fe))
    (ht : lcOk κ t (own.map (·.2)) = true := by rfl) (hy : X.N[j]? = some y := by rfl) (hyl : X.env.scope.names.lookup y = some .local := by rfl) (hj : j < κ.length := by decide) (hs : ∀ x, foldedSetIterable iter X.env x = pure x := by intro _; rfl) :
    PS X (.Assign [.Name y py] (.ListComp elt [⟨tg, iter, ifs, 0⟩] scope pos) spos) (tS G κ (κ.set j .oL) κL (sAsg j (eLc it t (own.map (·.2)) c fe))) :=
  PS.imp (ps_setLc hc hN hy hyl hsw hi ok hg hcs he hs) fun D σ H ⟨i, F0, H0, F, ρ, s, o, s', A, h, q⟩ => by
    obtain ⟨d, s1, h1, h⟩ := bnd_inv h
    obtain ⟨rfl, rfl⟩ := ret_inv h
    exact tFN_lc ht σ H _ ⟨i, F0, H0, F, ρ, s, d, s', A, h1, fun a F' H' tt kk ow hn => q _ F' H' (A.putN tt kk hj rfl ow hn)⟩
theorem s_asgLc {j : Nat} {y : Str} {py spos : Pos} (hc : X.calm = true) (hN : X.N.Nodup) (hsw : swapsWith (.ListComp elt [⟨tg, iter, ifs, 0⟩] scope pos) (some (.Name y py)) spos.line X.env = pure true) (hi : PI X tg iter (tI G κ it)) (ok : BlkOk X.N X.env.scope scope own)
    (hg : ∀ (s : Shared) (H : Hp) (C : Addr) (cl : List (Str × Addr)) (fp : List Addr), PG (X.blk s H scope (compEnvC scope cl C X.env) fp) tg (tgT X.K t))
    (hcs : ∀ (s : Shared) (H : Hp) (C : Addr) (cl : List (Str × Addr)) (fp : List Addr), PTs (X.blk s H scope (compEnvC scope cl C X.env) fp) ifs (tT G κ c))
    (he : ∀ (s : Shared) (H : Hp) (C : Addr) (cl : List (Str × Addr)) (fp : List Addr), PE (X.blk s H scope (compEnvC scope cl C X.env) fp) elt (tF G κ fe))
    (ht : lcOk κ t (own.map (·.2)) = true := by rfl) (hy : X.N[j]? = some y := by rfl) (hyl : X.env.scope.names.lookup y = some .local := by rfl) (hj : j < κ.length := by decide) (hs : ∀ x, foldedSetIterable iter X.env x = pure x := by intro _; rfl) :
    PS X (.Assign [.Name y py] (.ListComp elt [⟨tg, iter, ifs, 0⟩] scope pos) spos) (tS G κ (κ.set j .val) κL (sAsg j (eLc it t (own.map (·.2)) c fe))) :=
  PS.imp (ps_setLc hc hN hy hyl hsw hi ok hg hcs he hs) fun D σ H ⟨i, F0, H0, F, ρ, s, o, s', A, h, q⟩ => by
    obtain ⟨d, s1, h1, h⟩ := bnd_inv h
    obtain ⟨rfl, rfl⟩ := ret_inv h
    refine tFN_lc ht σ H _ ⟨i, F0, H0, F, ρ, s, d, s', A, h1, fun a F' H' tt kk ow hn => ?_⟩
    obtain ⟨u, e1, e2⟩ := ow.freeze
    exact q _ (upd F' a u) H' ((A.step (tt.freeze ow.free e1 hn) kk).putV hj e2)

/-! ## what a body owns is changed -/
def mthL {S : Type} (j : Nat) (o : List D → List D → Option (List D)) (fs : Env → MS S (List D)) : Env → MS S Out := fun ρ => bnd (fs ρ) fun es => match ρ.getD j none with
  | some (.lst ds) => bnd (lft (o ds es)) fun ds' => ret (.nx (ρ.set j (some (.lst ds'))))
  | _ => fun _ => none
/-- the method of a list, by values -/
def MthS (r : V → List V → Hp → VK → Prop) (o : List D → List D → Option (List D)) : Prop := ∀ (l : Addr) (xs vs : List V) (ds es ds' : List D) (F H : Hp) (Q : VK), Ex F H → H l = some (.lst xs) → Rps F xs ds → Rps F vs es → o ds es = some ds' →
  (∀ v xs', Rps F xs' ds' → Q v (upd H l (.lst xs'))) → r (.ref l) vs H Q
def appO : List D → List D → Option (List D)
  | ds, [d] => if ds.length < 16777216 then some (ds ++ [d]) else none
  | _, _ => none
def insO : List D → List D → Option (List D)
  | ds, [.int i, d] => if ds.length < 16777216 ∧ 0 ≤ i ∧ i < 2 ^ 63 then some (ds.take i.toNat ++ [d] ++ ds.drop i.toNat) else none
  | _, _ => none
def extO : List D → List D → Option (List D)
  | ds, [.lst es] => if ds.length + es.length ≤ 16777216 then some (ds ++ es) else none
  | _, _ => none
theorem appS : MthS rAppend appO := fun l xs vs ds es ds' F H Q e hl r rv ho q => by
  have hz := sizeLine_eq
  match es, ho with
  | [d], ho =>
    simp only [appO] at ho
    split at ho
    · cases ho
      obtain ⟨v, rfl, r1⟩ := rv.inv1
      exact ⟨l, xs, v, rfl, rfl, hl, by rw [r.length]; omega, q _ _ (r.append (.cons r1 .nil))⟩
    · cases ho
theorem insS : MthS (fun x vs H Q => ∃ (l : Addr) (xs : List V) (i : Int) (y : V), x = .ref l ∧ vs = [.int i, y] ∧ H l = some (.lst xs) ∧ xs.length < sizeLine ∧ 0 ≤ i ∧ i < 2 ^ 63 ∧
    Q .non (upd H l (.lst (xs.take i.toNat ++ [y] ++ xs.drop i.toNat)))) insO := fun l xs vs ds es ds' F H Q e hl r rv ho q => by
  have hz := sizeLine_eq
  match es, ho with
  | [.int i, d], ho =>
    simp only [insO] at ho
    split at ho
    · rename_i hc
      cases ho
      obtain ⟨v, w, rfl, r1, r2⟩ := rv.inv2
      cases r1
      exact ⟨l, xs, i, w, rfl, rfl, hl, by rw [r.length]; omega, hc.2.1, hc.2.2, q _ _ (((r.take _).append (.cons r2 .nil)).append (r.drop _))⟩
    · cases ho
theorem extS : MthS rExtend extO := fun l xs vs ds es ds' F H Q e hl r rv ho q => by
  have hz := sizeLine_eq
  match es, ho with
  | [.lst es], ho =>
    simp only [extO] at ho
    split at ho
    · cases ho
      obtain ⟨v, rfl, r1⟩ := rv.inv1
      cases r1 with
      | @lst b zs _ hb r2 => exact ⟨l, b, xs, zs, rfl, rfl, hl, e _ _ hb, by rw [r.length, r2.length]; omega, q _ _ (r.append r2)⟩
    · cases ho
variable {fs : DA G}
/-- x.m(a, ..), x a list that the body owns -/
theorem s_mth {r : V → List V → Hp → VK → Prop} {o : List D → List D → Option (List D)} {j : Nat} {x : Str} {name : Str} {id : String} {p apos cpos : Pos} {e : Expr} {es : List Expr} (slot : Slot "list" name id) (hty : typeOf (.builtin id) = pure (.type "method_descriptor")) (hm : MtR X id r) (hs : MthS r o)
    (ha : PA X (e :: es) (tAs G κ fs)) (hN : X.N[j]? = some x := by rfl) (hk : kdAt κ j = .oL := by rfl) (hv : Vis X.env.scope x := by first | exact Or.inl rfl | exact Or.inr (Or.inl rfl) | exact Or.inr (Or.inr rfl))
    (hd : (x == ("__debug__" : Str)) = false := by decide) (hcd : (x == ("__classdict__" : Str)) = false := by decide)
    (hbase : attributeBase (.Name x p) name X.env (eval (.Name x p) X.env) = eval (.Name x p) X.env := by rfl)
    (hfew : ((backTo cpos (starEach (e :: es) X.env)).all (fun x => !x.1) && (backToKw cpos (keywordEach [] X.env)).all (fun x => x.1.isSome)
      && decide ((e :: es).length + ([] : List Keyword).length + (if ([] : List Keyword).isEmpty then 0 else 1) < 30)) = true := by rfl)
    (hline : (apos.endLine == cpos.line) = true := by rfl) (hst : starEach (e :: es) X.env = (false, eval e X.env) :: starEach es X.env := by rfl) (hplain : (backTo cpos (starEach es X.env)).any (·.1) = false := by rfl)
    (hsw : swapsWith (.Call (.Attribute (.Name x p) name apos) (e :: es) [] cpos) none pos.line X.env = pure false := by rfl) :
    PS X (.Expr (.Call (.Attribute (.Name x p) name apos) (e :: es) [] cpos) pos) (tS G κ κ κL (mthL j o fs)) :=
  PS.imp (ps_expr (pe_bm PySem.F.plainAttrs_list slot hty hm (pe_var hN hv hd hcd) ha hbase hfew hline hst hplain) hsw) fun D σ H ⟨i, F0, H0, F, ρ, s, oo, s', A, h, q⟩ => by
    obtain ⟨l, s1, h1, h⟩ := bnd_inv h
    cases hg : ρ.getD j none with
    | none => rw [hg] at h; cases h
    | some d =>
      cases d with
      | lst ds =>
        rw [hg] at h
        obtain ⟨ds', s2, h2, h3⟩ := bnd_inv (show bnd (lft (o ds l)) _ s1 = _ from h)
        obtain ⟨h4, rfl⟩ := lft_inv h2
        obtain ⟨rfl, rfl⟩ := ret_inv h3
        obtain ⟨a, g1, g2, g3, g4⟩ := A.own j _ (getD_some hg) (by rw [hk]; rfl)
        have g2' := g2
        rw [hk] at g2'
        cases g2' with
        | @oL xs _ hf hh r =>
          refine ⟨.ref a, g1, .inl ⟨rfl, xs, SqL.of hh⟩, i, F0, H0, F, ρ, s, l, s', A, h1, fun vs F1 H1 t1 k1 r1 => ?_⟩
          have A1 := A.step t1 k1
          have hh1 : H1 a = some (.lst xs) := t1.kp a _ hh g4
          refine hs a xs vs ds l ds' F1 H1 _ t1.fh hh1 (r.mono t1.ff) r1 h4 fun v xs' r2 => q σ F1 _ ?_
          obtain ⟨a', g1', g2', _, _⟩ := A1.own j _ (getD_some hg) (by rw [hk]; rfl)
          rw [g1] at g1'
          cases g1'
          exact A1.chg (by rw [hk]; rfl) (getD_some hg) g1 (by rw [hk]; exact .oL g2'.free upd_same r2)
      | _ => rw [hg] at h; cases h
/-- x[k] = e, x a list that the body owns -/
def sSetL {S : Type} (j : Nat) (fi fe : Env → MS S D) : Env → MS S Out := fun ρ => bnd (fe ρ) fun v => bnd (fi ρ) fun k => match ρ.getD j none, k with
  | some (.lst ds), .int n => bnd (lft (ixN ds.length n)) fun m => ret (.nx (ρ.set j (some (.lst (ds.set m v)))))
  | _, _ => fun _ => none
theorem s_setL {j : Nat} {x : Str} {p p' pos' : Pos} {e k : Expr} {fi : DE G} (he : PE X e (tF G κ fe)) (hi : PE X k (tF G κ fi)) (hN : X.N[j]? = some x := by rfl) (hk : kdAt κ j = .oL := by rfl) (hv : Vis X.env.scope x := by first | exact Or.inl rfl | exact Or.inr (Or.inl rfl) | exact Or.inr (Or.inr rfl))
    (hg : PG X (.Subscript (.Name x p) k p') (gSub (tVar j) (tF G κ fi) rSetL)) (hs : swapsWithSole [.Subscript (.Name x p) k p'] e pos.line X.env = pure false := by rfl) (hw : swappedStores [.Subscript (.Name x p) k p'] e X.env = pure none := by rfl)
    (h1 : (assignEach [.Subscript (.Name x p) k p'] X.env).map (·.2) = [assign (.Subscript (.Name x p) k p') X.env] := by rfl) :
    PS X (.Assign [.Subscript (.Name x p) k p'] e pos) (tS G κ κ κL (sSetL j fi fe)) := PS.imp (ps_asg he hg hs hw h1) fun D σ H ⟨i, F0, H0, F, ρ, s, oo, s', A, h, q⟩ => by
  obtain ⟨v, s1, h1, h⟩ := bnd_inv h
  obtain ⟨kd, s2, h2, h⟩ := bnd_inv h
  cases hg : ρ.getD j none with
  | none => rw [hg] at h; cases h
  | some d =>
    rw [hg] at h
    cases d with
    | lst ds =>
      cases kd with
      | int n =>
        obtain ⟨m, s3, h3, h4⟩ := bnd_inv (show bnd (lft (ixN ds.length n)) _ s2 = _ from h)
        obtain ⟨h5, rfl⟩ := lft_inv h3
        obtain ⟨rfl, rfl⟩ := ret_inv h4
        refine ⟨i, F0, H0, F, ρ, s, v, s1, A, h1, fun x F1 H1 t1 k1 r1 => ?_⟩
        have A1 := A.step t1 k1
        obtain ⟨a, g1, g2, g3, g4⟩ := A1.own j _ (getD_some hg) (by rw [hk]; rfl)
        refine ⟨.ref a, g1, i, F0, H0, F1, ρ, s1, _, s', A1, h2, fun y F2 H2 t2 k2 r2 => ?_⟩
        cases r2
        have A2 := A1.step t2 k2
        obtain ⟨a', g1', g2', _, _⟩ := A2.own j _ (getD_some hg) (by rw [hk]; rfl)
        rw [g1] at g1'
        cases g1'
        have g2'' := g2'
        rw [hk] at g2''
        cases g2'' with
        | @oL xs _ hf hh r =>
          exact ⟨a, xs, n, m, rfl, rfl, hh, by rw [r.length]; exact h5, q σ F2 _ (A2.chg (by rw [hk]; rfl) (getD_some hg) g1 (by rw [hk]; exact .oL hf upd_same (Rps.set (r1.mono t2.ff) m r)))⟩
      | _ => cases h
    | _ => cases h
/-- d[k] = e, d a dict that the body owns -/
def sPutD {S : Type} (j : Nat) (fi fe : Env → MS S D) : Env → MS S Out := fun ρ => bnd (fe ρ) fun v => bnd (fi ρ) fun k => match ρ.getD j none with
  | some (.dk l) => bnd (lft (asKey k)) fun kk => if l.length < 16777216 then ret (.nx (ρ.set j (some (.dk (putD l kk v))))) else fun _ => none
  | some (.dt l) => bnd (lft (asKeys k)) fun kk => if l.length < 16777216 then ret (.nx (ρ.set j (some (.dt (putD l kk v))))) else fun _ => none
  | _ => fun _ => none
theorem s_putD {j : Nat} {x : Str} {p p' : Pos} {e k : Expr} {fi : DE G} (hu : X.A.units + 1 < cLine) (he : PE X e (tF G κ fe)) (hi : PE X k (tF G κ fi)) (hN : X.N[j]? = some x := by rfl) (hk : (kdAt κ j).isOwn = true := by rfl) (hv : Vis X.env.scope x := by first | exact Or.inl rfl | exact Or.inr (Or.inl rfl) | exact Or.inr (Or.inr rfl))
    (hd : (x == ("__debug__" : Str)) = false := by decide) (hcd : (x == ("__classdict__" : Str)) = false := by decide) (hs : swapsWith e (some (.Subscript (.Name x p) k p')) pos.line X.env = pure false := by rfl) :
    PS X (.Assign [.Subscript (.Name x p) k p'] e pos) (tS G κ κ κL (sPutD j fi fe)) := PS.imp (ps_dput hu (pe_var hN hv hd hcd) hi he hs) fun D σ H ⟨i, F0, H0, F, ρ, s, oo, s', A, h, q⟩ => by
  have hz := sizeLine_eq
  obtain ⟨v, s1, h1, h⟩ := bnd_inv h
  obtain ⟨kd, s2, h2, h⟩ := bnd_inv h
  refine ⟨i, F0, H0, F, ρ, s, v, s1, A, h1, fun x F1 H1 t1 k1 r1 => ?_⟩
  have A1 := A.step t1 k1
  cases hg : ρ.getD j none with
  | none => rw [hg] at h; cases h
  | some d =>
    obtain ⟨a, g1, g2, g3, g4⟩ := A1.own j _ (getD_some hg) hk
    refine ⟨.ref a, g1, i, F0, H0, F1, ρ, s1, kd, s2, A1, h2, fun y F2 H2 t2 k2 r2 => ?_⟩
    have A2 := A1.step t2 k2
    obtain ⟨a', g1', g2', _, _⟩ := A2.own j _ (getD_some hg) hk
    rw [g1] at g1'
    cases g1'
    rw [hg] at h
    cases hkk : kdAt κ j with
    | oK =>
      have g5 := g2'
      rw [hkk] at g5
      cases g5 with
      | @oK kvs l hf hh hq r =>
        obtain ⟨kk, s3, h3, h4⟩ := bnd_inv (show bnd (lft (asKey kd)) _ s2 = _ from h)
        obtain ⟨h5, rfl⟩ := lft_inv h3
        split at h4
        · rename_i hlen
          obtain ⟨rfl, rfl⟩ := ret_inv h4
          have := asKey_rp r2 h5
          subst this
          obtain ⟨p1, p2⟩ := kv_put (k := kk) (r1.mono t2.ff) hq r
          refine ⟨a, _, rfl, .inl ⟨kvs, kk, hh, rfl, by rw [Rp.kvlen hq]; omega, rfl⟩, q σ F2 _ (A2.chg hk (getD_some hg) g1 (by rw [hkk]; exact .oK hf upd_same p1 p2))⟩
        · cases h4
    | oT =>
      have g5 := g2'
      rw [hkk] at g5
      cases g5 with
      | @oT kvs l hf hh hq r =>
        obtain ⟨kk, s3, h3, h4⟩ := bnd_inv (show bnd (lft (asKeys kd)) _ s2 = _ from h)
        obtain ⟨h5, rfl⟩ := lft_inv h3
        split at h4
        · rename_i hlen
          obtain ⟨rfl, rfl⟩ := ret_inv h4
          obtain ⟨b, rfl, hb⟩ := asKeys_rp r2 h5
          obtain ⟨p1, p2⟩ := kv_put (k := kk) (r1.mono t2.ff) hq r
          refine ⟨a, _, rfl, .inr ⟨kvs, kk, b, hh, rfl, t2.fh _ _ hb, by rw [Rp.kvlen hq]; omega, rfl⟩, q σ F2 _ (A2.chg hk (getD_some hg) g1 (by rw [hkk]; exact .oT hf upd_same p1 p2))⟩
        · cases h4
    | oL =>
      have g5 := g2'
      rw [hkk] at g5
      cases g5
      cases h
    | val => rw [hkk] at hk; cases hk
    | bag k => rw [hkk] at hk; cases hk
/-- {} -/
theorem n_dK {pos : Pos} : PE X (.Dict [] [] pos) (tFN G κ .oK (eC (.dk []))) := PE.imp pe_dnewK fun σ H Q ⟨i, F0, H0, F, ρ, s, d, s', A, h, q⟩ => by
  obtain ⟨rfl, rfl⟩ := ret_inv h
  exact fun p hp => q p F _ (St0.lay0 A.fh hp).any ((St0.lay0 A.fh hp).ok A.ok) (.oK (A.fh.new hp) upd_same rfl .nil) hp
theorem n_dT {pos : Pos} : PE X (.Dict [] [] pos) (tFN G κ .oT (eC (.dt []))) := PE.imp pe_dnewT fun σ H Q ⟨i, F0, H0, F, ρ, s, d, s', A, h, q⟩ => by
  obtain ⟨rfl, rfl⟩ := ret_inv h
  exact fun p hp => q p F _ (St0.lay0 A.fh hp).any ((St0.lay0 A.fh hp).ok A.ok) (.oT (A.fh.new hp) upd_same rfl .nil) hp
end
end Fx
namespace Fx
open PySem PySem.Spec L2

/-! ## a def -/
def env0 (nv len : Nat) (ds : List D) : Env := List.replicate nv none ++ (ds.map some ++ List.replicate (len - nv - ds.length) none)
def endK {S : Type} : Out → MS S D
  | .rt d => ret d
  | .nx _ => ret .non
  | _ => fun _ => none
def semB {S : Type} (nv len : Nat) (den : Env → MS S Out) (ds : List D) : MS S D := bnd (den (env0 nv len ds)) endK
/-- of a def without a bag -/
def semP (len : Nat) (den : Env → MS Unit Out) (ds : List D) : Option D := (semB 0 len den ds ()).map (·.1)
theorem semP_eq (len : Nat) (den : Env → MS Unit Out) : pureSem (semP len den) = semB 0 len den := by
  funext ds s
  unfold pureSem semP lft
  cases h : semB 0 len den ds () with
  | none => rfl
  | some p => rfl
/-- the bag's slots first, nothing owned -/
def kd0 (nv : Nat) (κ : List Kd) : Bool := (List.range κ.length).all fun j => match kdAt κ j with
  | .val => decide (nv ≤ j)
  | .bag k => decide (k = j) && decide (j < nv)
  | _ => false
theorem kd0_at {nv : Nat} {κ : List Kd} (h : kd0 nv κ = true) (hn : nv ≤ κ.length) (j : Nat) : (kdAt κ j = .val ∧ nv ≤ j) ∨ (kdAt κ j = .bag j ∧ j < nv) := by
  by_cases hj : j < κ.length
  · have := List.all_eq_true.mp h j (List.mem_range.mpr hj)
    cases hk : kdAt κ j with
    | val => rw [hk] at this; exact .inl ⟨rfl, of_decide_eq_true this⟩
    | bag k =>
      rw [hk, Bool.and_eq_true, decide_eq_true_eq, decide_eq_true_eq] at this
      exact .inr ⟨by rw [this.1], this.2⟩
    | _ => rw [hk] at this; cases this
  · exact .inl ⟨kdAt_big (by omega), by omega⟩
theorem env0_get {nv len : Nat} {ds : List D} {j : Nat} {d : D} (h : (env0 nv len ds)[j]? = some (some d)) : nv ≤ j ∧ ds[j - nv]? = some d := by
  unfold env0 at h
  by_cases h1 : j < nv
  · rw [List.getElem?_append_left (by simpa using h1), List.getElem?_replicate, if_pos h1] at h
    cases h
  · rw [List.getElem?_append_right (by simpa using h1), List.length_replicate] at h
    refine ⟨by omega, ?_⟩
    by_cases h2 : j - nv < ds.length
    · rw [List.getElem?_append_left (by simpa using h2), List.getElem?_map] at h
      cases e : ds[j - nv]? with
      | none => rw [e] at h; cases h
      | some x => rw [e] at h; cases h; rfl
    · rw [List.getElem?_append_right (by simpa using h2), List.getElem?_replicate] at h
      split at h <;> cases h
theorem As.start {G : Bags} {i : G.I} {κ : List Kd} {F H : Hp} {s : G.S} {ws : List V} {ds : List D} {N : List Str} (hk : kd0 G.nv κ = true) (hn : G.nv ≤ κ.length) (hN : G.nv + ds.length ≤ N.length) (e : Ex F H) (nd : ∀ a, G.dom i a → F a = none) (ok : G.Ok i s H) (r : Rps F ws ds) :
    As G i κ F H (env0 G.nv N.length ds) s (start N (G.vs i ++ ws)) F H := by
  have hl := r.length
  have hv := G.hv i
  have own : ∀ j, (kdAt κ j).isOwn = false := fun j => by
    rcases kd0_at hk hn j with ⟨h, _⟩ | ⟨h, _⟩ <;> (rw [h]; rfl)
  refine { fh := e, nd := nd, ok := ok, len := ?_, val := fun j d h hv' => ?_, own := fun j d h ho => ?_, apart := fun j k a d e hn h1 => ?_, bagv := fun j k v h1 h2 => ?_, base := Ex.refl F, keep := fun a o h _ => h, kept := fun a h => h, new := fun a o h => .inl h }
  · unfold env0 L2.start
    simp only [List.length_append, List.length_replicate, List.length_map]
    omega
  · obtain ⟨h1, h2⟩ := env0_get h
    obtain ⟨v, h3, h4⟩ := r.get' h2
    refine ⟨v, ?_, h4⟩
    unfold L2.start
    have hw := (List.getElem?_eq_some_iff.mp h3).1
    rw [List.getElem?_append_left (by rw [List.length_map, List.length_append]; omega), List.getElem?_map, List.getElem?_append_right (by omega), hv, h3]
    rfl
  · rw [own j] at ho; cases ho
  · rw [own j] at h1; cases h1
  · rcases kd0_at hk hn j with ⟨h, _⟩ | ⟨h, hj⟩
    · rw [h] at h1; cases h1
    · rw [h] at h1
      cases h1
      unfold L2.start
      rw [List.getElem?_append_left (by rw [List.length_map, List.length_append]; omega), List.getElem?_map, List.getElem?_append_left (by omega), h2]
      rfl

abbrev FnP (K : PySem.W.Frag) (x : Str) (st : Stmt) (f : Addr) (fd : FuncData) : Prop := FunD K x x (defArgs st) (defBody st) (defScope st) [] [] f fd
/-- a def that is there, bound to its name, and keeps its promise -/
structure Def (P : Program) (w : World) (K : PySem.W.Frag) (mg : Str → Option Value) (base : Heap) (k : Nat) (x : Str) (st : Stmt) (ps : List Str) (sp : Sp) : Prop where
  ex : ∃ f fd, FnP K x st f fd ∧ mg x = some (.ref f) ∧ Binds K fd ps [] ∧ FnOk P w K mg base CX0 k f fd ps sp
/-- its arguments, by place -/
def BindP (x : Str) (st : Stmt) (ps : List Str) : Prop := ∀ (kV doc pm : Value) (an : Option Addr) (cdv ct : Value) (us : List Value), us.length = ps.length → bindArgs (PySem.W.fnOf x x (defArgs st) (defBody st) (defScope st) .none kV doc pm an cdv ct) ⟨us, []⟩ = pure (ps.zip us)
/-- by keywords ks -/
def BindK (x : Str) (st : Stmt) (ps ks : List Str) (perm : List Nat) : Prop := ∀ (kV doc pm : Value) (an : Option Addr) (cdv ct : Value) (ws : List Value), ws.length = ks.length → bindArgs (PySem.W.fnOf x x (defArgs st) (defBody st) (defScope st) .none kV doc pm an cdv ct) ⟨[], ks.zip ws⟩ = pure (ps.zip (pick perm ws))
section
variable {P : Program} {w : World} {K : PySem.W.Frag} {mg : Str → Option Value} {base : Heap} {k n : Nat} {x : Str} {st : Stmt} {N ps ks : List Str} {G : Bags} {κ κ' κL : List Kd} {f : Addr} {fd : FuncData} {den : DS G}
theorem fn_ok (F : FnP K x st f fd) (S : FnScope N ps (defScope st)) (hn : ps.length = G.nv + n) (hk : kd0 G.nv κ = true) (hkl : G.nv ≤ κ.length) (hN : ps.length ≤ N.length)
    (body : ∀ (cdv : Value) (A : Around) (outer : List PySem.Env) (s : Shared) (H : Hp) (E : XK), Room k (A.deeper (PyProof.Rows.envOfC x (defScope st) s.heap.objs.size f cdv)) → PSs (cxOf CX0 P w K mg base N x (defScope st) f cdv A outer s H E).nox (defBody st) (tS G κ κ' κL den)) :
    FnOk P w K mg base CX0 (k + 1) f fd ps (spF G n (semB G.nv N.length den)) := by
  refine F.ok S (fun vs H Q E h => (spF_len h).trans hn.symm) (fun cdv A outer s H vs Q E hr h => ⟨_, PSs.nox (body cdv A outer s H E hr), ?_⟩)
  obtain ⟨i, F, s1, ws, ds, d, s', rfl, hl, ex, nd, ok, r, h, q⟩ := h
  obtain ⟨o, s2, h1, h2⟩ := bnd_inv h
  refine ⟨i, F, H, F, _, s1, o, s2, As.start hk hkl (by omega) ex nd ok r, h1, ?_⟩
  cases o with
  | rt d' =>
    obtain ⟨rfl, rfl⟩ := ret_inv (show ret d' s2 = _ from h2)
    exact fun v F' H' fin rv => q v F' H' ⟨fin.base, fin.fh, fin.keep, fun a _ => fin.kept a, fin.new⟩ fin.ok rv
  | nx ρ' =>
    obtain ⟨rfl, rfl⟩ := ret_inv (show ret D.non s2 = _ from h2)
    exact fun σ' F' H' A' => q _ F' H' ⟨A'.base, A'.fh, A'.keep, fun a _ => A'.kept a, A'.new⟩ A'.ok .non
  | bk ρ' => cases h2
  | ct ρ' => cases h2
theorem Def.mk' (F : FnP K x st f fd) (hm : mg x = some (.ref f)) (hb : BindP x st ps) (S : FnScope N ps (defScope st)) (hn : ps.length = G.nv + n) (hk : kd0 G.nv κ = true) (hkl : G.nv ≤ κ.length) (hN : ps.length ≤ N.length)
    (body : ∀ (cdv : Value) (A : Around) (outer : List PySem.Env) (s : Shared) (H : Hp) (E : XK), Room k (A.deeper (PyProof.Rows.envOfC x (defScope st) s.heap.objs.size f cdv)) → PSs (cxOf CX0 P w K mg base N x (defScope st) f cdv A outer s H E).nox (defBody st) (tS G κ κ' κL den)) :
    Def P w K mg base (k + 1) x st ps (spF G n (semB G.nv N.length den)) := ⟨f, fd, F, hm, F.bindsN hb, fn_ok F S hn hk hkl hN body⟩
theorem Def.mkP {den : DS G0} (F : FnP K x st f fd) (hm : mg x = some (.ref f)) (hb : BindP x st ps) (S : FnScope N ps (defScope st)) (hn : ps.length = n) (hk : kd0 0 κ = true) (hN : ps.length ≤ N.length)
    (body : ∀ (cdv : Value) (A : Around) (outer : List PySem.Env) (s : Shared) (H : Hp) (E : XK), Room k (A.deeper (PyProof.Rows.envOfC x (defScope st) s.heap.objs.size f cdv)) → PSs (cxOf CX0 P w K mg base N x (defScope st) f cdv A outer s H E).nox (defBody st) (tS G0 κ κ' κL den)) :
    Def P w K mg base (k + 1) x st ps (spP n (semP N.length den)) := by
  have := Def.mk' (G := G0) (n := n) F hm hb S (by rw [hn]; exact (Nat.zero_add n).symm) hk (Nat.zero_le _) hN body
  exact Eq.mp (congrArg (fun z : List D → MS G0.S D => Def P w K mg base (k + 1) x st ps (spF G0 n z)) (semP_eq N.length den).symm) this
theorem FunD.kb {perm : List Nat} (F : FnP K x st f fd) (h : BindK x st ps ks perm) : KB K fd ps ks perm := by
  obtain ⟨oc, od, dV, kV, doc, pm, an, cdv, ct, osl, rfl, lk, hcd, hD, hK⟩ := F.ex
  rcases hD with ⟨_, rfl⟩ | ⟨e, _⟩
  · exact ⟨fun s ws hl => .of_eq (h kV doc pm an cdv ct ws hl)⟩
  · exact absurd rfl e
theorem Def.mono {sp : Sp} {j : Nat} (d : Def P w K mg base j x st ps sp) (h : j ≤ k) : Def P w K mg base k x st ps sp := by
  obtain ⟨f, fd, F, hm, hb, ok⟩ := d.ex
  exact ⟨f, fd, F, hm, hb, ok.mono h⟩
end
section
variable {X : Cx} {G : Bags} {κ : List Kd} {fs : DA G} {k n : Nat} {x : Str} {st : Stmt} {ps ks : List Str} {p pos : Pos} {e : Expr} {es : List Expr}
theorem d_call {sem : List D → Option D} (d : Def X.prog X.w X.K X.mg X.base k x st ps (spP n sem)) (hr : Room k X.A) (hg : Gl X x) (ha : PA X (e :: es) (tAs G κ fs)) (hdb : (x == ("__debug__" : Str)) = false := by decide)
    (he : starEach (e :: es) X.env = (false, eval e X.env) :: starEach es X.env := by rfl) (hpl : (backTo pos (starEach es X.env)).any (·.1) = false := by rfl) :
    PE X (.Call (.Name x p) (e :: es) [] pos) (tF G κ (eFn (fun ds => if ds.length = n then sem ds else none) fs)) := by
  obtain ⟨f, fd, F, hm, hb, ok⟩ := d.ex
  exact f_call ok hr hg hm F.kp hb ha hdb he hpl
theorem d_callB {sem : List D → MS G.S D} (d : Def X.prog X.w X.K X.mg X.base k x st ps (spF G n sem)) (hr : Room k X.A) (hg : Gl X x) (ha : PA X (e :: es) (tBag G κ fs)) (hdb : (x == ("__debug__" : Str)) = false := by decide)
    (he : starEach (e :: es) X.env = (false, eval e X.env) :: starEach es X.env := by rfl) (hpl : (backTo pos (starEach es X.env)).any (·.1) = false := by rfl) :
    PE X (.Call (.Name x p) (e :: es) [] pos) (tF G κ (eCallB (fun ds => if ds.length = n then sem ds else fun _ => none) fs)) := by
  obtain ⟨f, fd, F, hm, hb, ok⟩ := d.ex
  exact f_callB ok hr hg hm F.kp hb ha hdb he hpl
theorem d_callK {sem : List D → Option D} {perm : List Nat} {kws : List Keyword} (d : Def X.prog X.w X.K X.mg X.base k x st ps (spP n sem)) (hr : Room k X.A) (hg : Gl X x) (hb : BindK x st ps ks perm) (hkw : PK X kws (tAs G κ fs))
    (hall : (backToKw pos (keywordEach kws X.env)).all (·.1.isSome) = true := by rfl) (hks : (backToKw pos (keywordEach kws X.env)).filterMap (·.1) = ks := by rfl) (hdb : (x == ("__debug__" : Str)) = false := by decide)
    (hpl : ((backTo pos (starEach [] X.env)).any (·.1) || (backToKw pos (keywordEach kws X.env)).any (·.1.isNone)) = false := by rfl) :
    PE X (.Call (.Name x p) [] kws pos) (tF G κ (eFn (fun ds => if ds.length = ks.length ∧ (pick perm ds).length = n then sem (pick perm ds) else none) fs)) := by
  obtain ⟨f, fd, F, hm, _, ok⟩ := d.ex
  exact f_callK ok hr hg hm F.kp (FunD.kb F hb) hkw hall hks hdb hpl
end
end Fx
namespace Fx
open PySem PySem.Spec L2

/-! ## sorted: lists and dicts of tuples of ints and texts, any number of them -/
def keyI : Key → Int ⊕ List Nat
  | .inl i => .inl i
  | .inr x => .inr x.cps.toList
def ltK (a b : List Key) : Bool := PyProof.Rows.lexLt PyProof.Rows.itemOrd (a.map keyI) (b.map keyI)
def shGo (shape : Nat → Bool) : Nat → List Key → Bool
  | _, [] => true
  | i, .inl _ :: r => !shape i && shGo shape (i + 1) r
  | i, .inr _ :: r => shape i && shGo shape (i + 1) r
def shOk (shape : Nat → Bool) (ks : List Key) : Bool := !ks.isEmpty && shGo shape 0 ks
section
open PyProof.Rows PyProof.Rows.G
theorem items_of {shape : Nat → Bool} : ∀ {ks : List Key} {us : List Value} {i : Nat}, shGo shape i ks = true → Vals (ks.map kV) us → tupItems shape i us = some (ks.map keyI)
  | [], _, _, _, r => by cases r; rfl
  | .inl n :: ks, _, i, h, r => by
    rw [List.map_cons] at r
    cases r with
    | cons a t =>
      obtain ⟨tk, rfl⟩ := a
      rw [shGo, Bool.and_eq_true] at h
      have hs : shape i = false := by
        have := h.1
        cases hb : shape i with
        | false => rfl
        | true => rw [hb] at this; cases this
      show (if shape i = true then none else (tupItems shape (i + 1) _).map (Sum.inl n :: ·)) = _
      rw [hs, if_neg Bool.false_ne_true, items_of h.2 t]
      rfl
  | .inr x :: ks, _, i, h, r => by
    rw [List.map_cons] at r
    cases r with
    | cons a t =>
      obtain ⟨tk, rfl⟩ := a
      rw [shGo, Bool.and_eq_true] at h
      show (if shape i = true then (tupItems shape (i + 1) _).map (Sum.inr x.cps.toList :: ·) else none) = _
      rw [h.1, if_pos rfl, items_of h.2 t]
      rfl
def ltvT (h0 : Heap) (shape : Nat → Bool) : Value → Value → Bool := fun v u => PyProof.Rows.lexLt itemOrd ((tupKeyC h0 shape v).getD []) ((tupKeyC h0 shape u).getD [])
theorem swo_T (h0 : Heap) (shape : Nat → Bool) : SrtO.Swo (ltvT h0 shape) := by
  refine ⟨fun x y h => ?_, fun x y z h1 h2 => ?_⟩
  · cases e : ltvT h0 shape y x with
    | false => rfl
    | true =>
      have := PyProof.Rows.lex_trans (O := itemOrd) _ _ _ (show PyProof.Rows.lexLt itemOrd _ _ = true from h) (show PyProof.Rows.lexLt itemOrd _ _ = true from e)
      rw [PyProof.Rows.lex_irrefl] at this
      cases this
  · cases e : ltvT h0 shape z x with
    | false => rfl
    | true =>
      rcases PyProof.Rows.lex_negTrans (O := itemOrd) _ ((tupKeyC h0 shape y).getD []) _ (show PyProof.Rows.lexLt itemOrd _ _ = true from e) with k | k
      · rw [show PyProof.Rows.lexLt itemOrd ((tupKeyC h0 shape z).getD []) ((tupKeyC h0 shape y).getD []) = false from h2] at k; cases k
      · rw [show PyProof.Rows.lexLt itemOrd ((tupKeyC h0 shape y).getD []) ((tupKeyC h0 shape x).getD []) = false from h1] at k; cases k
theorem tups_sortable {prog : Program} {w : World} {A : Around} {s : Shared} {h0 : Heap} {shape : Nat → Bool} {a : Addr} {vs fs : List Value} (ht : TupsOf h0 shape vs fs) (hk : ∀ v ∈ vs, ∃ l, tupKeyC h0 shape v = some l)
    (kp : ∀ h' : Heap, (∀ b o, b ≠ a → s.heap.get? b = some o → h'.get? b = some o) → KeepsTups h0 h') (h2 : 2 ≤ vs.length) : SrtO.SortableO prog w A s a vs (ltvT h0 shape) := fun h' hh => by
  refine ⟨tuples' true, fun Q E hq => tup_kind (s := { s with heap := h' }) (by rw [TupsOf.length ht]; omega) (TupsOf.keep (kp h' hh) ht) hq, fun p q hp hq => ?_⟩
  obtain ⟨l1, e1⟩ := hk _ hp
  obtain ⟨l2, e2⟩ := hk _ hq
  refine tupC_ltAt (s := { s with heap := h' }) true (kp h' hh) A _ p.1 q.1 l1 l2 e1 e2 ⟨rfl, ?_⟩
  unfold SrtO.lt2 ltvT
  rw [e1, e2]
  rfl
/-- values that are tuples of keys -/
theorem tups_of {shape : Nat → Bool} {P : Program} {w : World} {H : Hp} {h : Heap} (ok : HOk P w H h) : ∀ {xs : List V} {us : List Value} (kf : V → List Key), Vals xs us → (∀ x ∈ xs, ∃ t, x = .ref t ∧ H t = some (.tup ((kf x).map kV))) → (∀ x ∈ xs, shOk shape (kf x) = true) →
    ∃ fs, TupsOf h shape us fs ∧ (∀ v ∈ us, ∃ l, tupKeyC h shape v = some l) ∧ ∀ (x : V) (v : Value), x ∈ xs → RelV x v → tupKeyC h shape v = some ((kf x).map keyI)
  | [], _, _, .nil, _, _ => ⟨[], .nil, fun v hv => (by cases hv), fun x _ hx => (by cases hx)⟩
  | x :: xs, u :: us, kf, .cons r rs, ht, hs => by
    obtain ⟨fs, g1, g2, g3⟩ := tups_of ok kf rs (fun y hy => ht y (List.mem_cons_of_mem _ hy)) fun y hy => hs y (List.mem_cons_of_mem _ hy)
    obtain ⟨t, rfl, hT⟩ := ht x List.mem_cons_self
    have hsh := hs _ List.mem_cons_self
    rw [shOk, Bool.and_eq_true] at hsh
    cases r
    obtain ⟨_, its, rv, o, ho, hc, n, hd⟩ := (show ObjOk P w H h t (.tup _) from ok _ _ hT)
    have key : tupKeyC h shape (.ref t) = some ((kf (.ref t)).map keyI) := tupKeyC_of ho hc hd (items_of hsh.2 (by simpa using rv))
    have first : ∃ f, TupOf h shape (.ref t) f := by
      cases hk : kf (.ref t) with
      | nil => rw [hk] at hsh; exact absurd hsh.1 (by decide)
      | cons k ks =>
        rw [hk, List.map_cons] at rv
        rw [hk] at hsh
        cases rv with
        | @cons _ f _ r' a b =>
          refine ⟨f, t, o, _, n, rfl, ho, hc, hd, by simp, fun e => ?_, fun e => ?_⟩
          · cases k with
            | inl i => obtain ⟨tk, rfl⟩ := a; exact ⟨i, tk, rfl⟩
            | inr x =>
              have := hsh.2
              rw [shGo, e] at this
              cases this
          · cases k with
            | inl i =>
              have := hsh.2
              rw [shGo, e] at this
              cases this
            | inr x => obtain ⟨tk, rfl⟩ := a; exact ⟨x, tk, rfl⟩
    obtain ⟨f, hf⟩ := first
    refine ⟨f :: fs, .cons hf g1, fun v hv => ?_, fun y v hy rv => ?_⟩
    · rcases List.mem_cons.mp hv with rfl | hv
      · exact ⟨_, key⟩
      · exact g2 v hv
    · rcases List.mem_cons.mp hy with rfl | hy
      · cases rv; exact key
      · exact g3 y v hy rv
/-- a permutation of values that stand for things -/
theorem vals_perm : ∀ {us out : List Value}, out.Perm us → ∀ {xs : List V}, Vals xs us → ∃ zs, zs.Perm xs ∧ Vals zs out := by
  intro us out p
  induction p with
  | nil => intro xs r; cases r; exact ⟨[], .nil, .nil⟩
  | cons a _ ih =>
    intro xs r
    cases r with
    | cons r rs =>
      obtain ⟨zs, h1, h2⟩ := ih rs
      exact ⟨_ :: zs, .cons _ h1, .cons r h2⟩
  | swap a b l =>
    intro xs r
    cases r with
    | cons r1 rs =>
      cases rs with
      | cons r2 rs => exact ⟨_, .swap _ _ _, .cons r2 (.cons r1 rs)⟩
  | trans _ _ ih1 ih2 =>
    intro xs r
    obtain ⟨zs, h1, h2⟩ := ih2 r
    obtain ⟨ys, h3, h4⟩ := ih1 h2
    exact ⟨ys, h3.trans h1, h4⟩
theorem srtd_vals {ltv : Value → Value → Bool} {R : V → V → Prop} : ∀ {zs : List V} {out : List Value}, Vals zs out → SrtO.Srtd ltv out → (∀ x y u v, x ∈ zs → y ∈ zs → RelV x u → RelV y v → ltv v u = false → R x y) → zs.Pairwise R
  | [], _, .nil, _, _ => .nil
  | z :: zs, o :: out, .cons r rs, h, k => by
    obtain ⟨h1, h2⟩ := List.pairwise_cons.mp h
    refine List.pairwise_cons.mpr ⟨fun y hy => ?_, srtd_vals rs h2 fun x y u v hx hy => k x y u v (List.mem_cons_of_mem _ hx) (List.mem_cons_of_mem _ hy)⟩
    obtain ⟨j, hj⟩ := List.getElem?_of_mem hy
    obtain ⟨v, g1, g2⟩ := Vals.get rs hj
    exact k z y o v List.mem_cons_self (List.mem_cons_of_mem _ hy) r g2 (h1 v (List.mem_of_getElem? g1))
variable {X : Cx}
def rSortedT (K : PySem.W.Frag) : List V → Hp → VK → Prop := fun vs H Q => ∃ (a : Addr) (xs : List V) (kf : V → List Key) (shape : Nat → Bool), vs = [.ref a] ∧ SqL K H a xs ∧ (∀ x ∈ xs, ∃ t, x = .ref t ∧ H t = some (.tup ((kf x).map kV))) ∧ (∀ x ∈ xs, shOk shape (kf x) = true) ∧
  ∀ zs p, zs.Perm xs → zs.Pairwise (fun x y => ltK (kf y) (kf x) = false) → H p = none → Q (.ref p) (upd H p (.lst zs))
theorem cr_sortedT : CallR X (.builtin "sorted") (rSortedT X.K) := by
  intro pins s σ H vs us Q I r h
  obtain ⟨a, xs, kf, shape, rfl, hs, ht, hsh, q⟩ := h
  obtain ⟨its, rv, hl, hz⟩ := I.list hs
  rw [Vals.ref1 r]
  obtain ⟨fs, g1, g2, g3⟩ := tups_of I.hok kf rv ht hsh
  refine SrtO.sorted_ord (swo_T s.heap shape) hl.isList (by rw [← rv.length]; exact hz) (fun h2 h₁ a' _ keep => tups_sortable g1 g2 (fun h' hh b o e _ => hh b o (keep b o e).1 (keep b o e).2) h2) fun out h1 h2 => ?_
  obtain ⟨zs, p1, p2⟩ := vals_perm h2.perm rv
  obtain ⟨ep, he'⟩ := PyProof.Rows.sortedAll_at s.heap its out.toArray
  have hlen : zs.length ≤ sizeLine := by rw [p1.length_eq]; exact hz
  refine ⟨.ref _, upd H (s.heap.objs.size + 1) (.lst zs), I.laid (t' := s.toks) (fun _ _ => PyProof.Rows.sortedAll_old) (Nat.le_succ _) ⟨hlen, out, ep, p2, he'⟩, rfl, q _ _ p1 (srtd_vals p2 h1 fun x y u v hx hy ru rv' e => ?_) (I.hok.fresh (Nat.le_succ _))⟩
  unfold ltvT at e
  rw [g3 x u (p1.mem_iff.mp hx) ru, g3 y v (p1.mem_iff.mp hy) rv'] at e
  exact e
def unI : V → Int
  | .int i => i
  | _ => 0
theorem unI_map : ∀ l : List Int, (l.map V.int).map unI = l
  | [] => rfl
  | i :: l => by rw [List.map_cons, List.map_cons, unI_map l]; rfl
def unA : V → Addr
  | .ref i => i
  | _ => 0
theorem unA_map : ∀ l : List Addr, (l.map V.ref).map unA = l
  | [] => rfl
  | i :: l => by rw [List.map_cons, List.map_cons, unA_map l]; rfl
/-- behind the collecting of sorted(d) -/
theorem sorted_acc {acc : List Value} {xs : List V} {ltv : Value → Value → Bool} {pins : List (Addr × Obj)} {s : Shared} {σ : L2.St} {H : Hp} {Q : VK} {h' : Heap} {tk : Nat} {E : Value → Shared → Prop} (I : Inv X pins σ H { s with heap := h', toks := tk }) (O : SrtO.Swo ltv) (rv : Vals xs acc) (hz : xs.length ≤ sizeLine)
    (hS : 2 ≤ acc.length → ∀ (h₁ : Heap) (a : Addr), (∀ b o, h'.get? b = some o → b ≠ a ∧ h₁.get? b = some o) → SrtO.SortableO X.prog X.w X.A.in1.in1 { s with heap := h₁, toks := tk } a acc ltv)
    (q : ∀ zs p out, zs.Perm xs → Vals zs out → SrtO.Srtd ltv out → H p = none → Q (.ref p) (upd H p (.lst zs))) :
    wpAny (model X.prog X.w) X.A.in1 (do let l ← newList acc; let _ ← holding [l] (call (.builtin "list.sort") [l] []); PySem.ret l) (fun fin s' => ∃ v, fin = .done (.ret v) ∧ EP X pins σ Q v s') E { s with heap := h', toks := tk } := by
  have hl : acc.length ≤ sizeLine := by rw [← rv.length]; exact hz
  refine wpAny_bind (wpAny_newList ?_ hl)
  have hoL : (h'.push (seqObj "list" acc.toArray 0)).get? h'.objs.size = some (seqObj "list" acc.toArray 0) := Heap.get?_push_size _ rfl
  show wpAny _ _ _ _ _ { s with heap := h'.push (seqObj "list" acc.toArray 0), toks := tk }
  refine wpAny_bind (wpAny_holding (wpAny_call_entry PyProof.Rows.slot_list_sort ⟨_, hoL, rfl⟩ PyProof.Rows.entry_list_sort
    (SrtO.list_sort_ord (s := { s with heap := h'.push (seqObj "list" acc.toArray 0), toks := tk }) O hoL hl (fun h2 => hS h2 _ _ fun b o e => ⟨Nat.ne_of_lt (Heap.lt_size e), Heap.get?_push_of_some _ e⟩) fun out h1 h2 => ⟨_, rfl, ?_⟩)
    (PyProof.Rows.args_list_sort _)))
  obtain ⟨zs, p1, p2⟩ := vals_perm h2.perm rv
  obtain ⟨e', he'⟩ := PyProof.Rows.sortedHeap_at (vs := acc) (out := out.toArray) hoL
  have hlen : zs.length ≤ sizeLine := by rw [p1.length_eq]; exact hz
  refine wpAny_pure ⟨_, rfl, .ref h'.objs.size, upd H h'.objs.size (.lst zs), I.laid (t' := tk) (fun b u e => ?_) (Nat.le_refl _)
    (show ObjOk X.prog X.w _ _ _ (.lst zs) from ⟨hlen, out, e', p2, he'⟩), rfl, q zs _ out p1 p2 h1 (I.hok.fresh (Nat.le_refl _))⟩
  have hb : b < h'.objs.size := Heap.lt_size e
  rw [PyProof.Rows.sortedHeap_old (Nat.ne_of_lt hb) (by rw [size_push']; exact Nat.lt_succ_of_lt hb)]
  exact Heap.get?_push_of_some _ e
/-- sorted(d), int keys, any number of them -/
def rSortedDI : List V → Hp → VK → Prop := fun xs H Q => ∃ (a : Addr) (kvs : List (Key × V)) (ks : List Int), xs = [.ref a] ∧ Rd H a (.dK kvs) ∧ kvs.map (·.1) = ks.map Sum.inl ∧
    ∀ (ys : List Int) (p : Addr), ys.Perm ks → ys.Pairwise (· ≤ ·) → H p = none → Q (.ref p) (upd H p (.lst (ys.map V.int)))
theorem cr_sortedDI (hcalm : X.calm = true) : CallR X (.builtin "sorted") rSortedDI := by
  intro pins s σ H xs us Q I r q
  obtain ⟨a, kvs, ks, ex, hd, hks, q⟩ := q
  subst ex
  obtain ⟨u, eu, rx⟩ := vals1 r
  subst eu
  cases rx
  obtain ⟨z, lo, vs, rel, dd⟩ := dk_rd I.hok hd
  obtain ⟨ep, hat⟩ := dd.dictAt
  have hkeys : vs.map (·.1) = ks.map Sum.inl := rel.keys.symm.trans hks
  have hl : vs.length = ks.length := by
    have e := congrArg List.length hkeys
    rw [List.length_map, List.length_map] at e
    exact e
  have h16 : vs.length ≤ sizeLine := by rw [← rel.length]; exact z
  refine Calls.call_function_entry PyProof.Rows.kind_sorted PyProof.Rows.plain_sorted PyProof.Rows.entry_sorted (PyProof.Rows.args_sorted1 _) ?_
  unfold Builtin.«sorted»
  refine wpAny_bind (m := checkCount "sorted" 1 1 _) (wpAny_pure ?_)
  refine wpAny_bind (PySem.W.kdu_collect (A := X.A.in1) (PySem.W.kdl_dict (knd := mixKind X.prog X.w) (kvs := vs) (ep := ep) lo) (I.ok.hd hcalm) hat h16 fun h' tk acc hk hacc => ?_)
  have hal : acc.toList.length = ks.length := by rw [Array.length_toList, hacc.1, hl]
  have hS : IntsAre acc.toList ks := ints_each hal fun j v e => by
    obtain ⟨k, x, e1, e2⟩ := hacc.2 j v (by rw [← Array.getElem?_toList]; exact e)
    have e3 : (vs.map (·.1))[j]? = some k := by rw [List.getElem?_map, e1]; rfl
    rw [hkeys, List.getElem?_map] at e3
    cases e4 : ks[j]? with
    | none => rw [e4] at e3; cases e3
    | some y =>
      rw [e4] at e3
      have e5 : Sum.inl y = k := Option.some.inj e3
      subst e5
      rcases keyIs_shape (show keyIs (Sum.inl y) v = true from e2) with ⟨i, t, ek, ev⟩ | ⟨z, t, ek, ev⟩
      · cases ek
        exact ⟨y, t, rfl, ev⟩
      · cases ek
  have I1 : Inv X pins σ H { s with heap := h', toks := tk } := I.kept hk
  refine sorted_acc (xs := ks.map V.int) I1 SrtO.swo_int (vals_of_ints hS) (by rw [List.length_map, ← hl]; exact h16) (fun h2 h₁ b _ => SrtO.ints_sortable hS h2) fun zs p out p1 p2 p3 hp => ?_
  have e1 : ∃ ys : List Int, zs = ys.map V.int ∧ ys.Perm ks := by
    have hz : ∀ x ∈ zs, ∃ i, x = V.int i := fun x hx => by
      obtain ⟨i, _, rfl⟩ := List.mem_map.mp (p1.mem_iff.mp hx)
      exact ⟨i, rfl⟩
    have inv : ∀ l : List V, (∀ x ∈ l, ∃ i, x = V.int i) → ∃ ys : List Int, l = ys.map V.int := fun l => by
      induction l with
      | nil => exact fun _ => ⟨[], rfl⟩
      | cons x l ih =>
        intro h
        obtain ⟨i, rfl⟩ := h _ List.mem_cons_self
        obtain ⟨ys, rfl⟩ := ih fun y hy => h y (List.mem_cons_of_mem _ hy)
        exact ⟨i :: ys, rfl⟩
    obtain ⟨ys, rfl⟩ := inv zs hz
    refine ⟨ys, rfl, ?_⟩
    have := p1.map unI
    rw [unI_map, unI_map] at this
    exact this
  obtain ⟨ys, rfl, pm⟩ := e1
  refine q ys p pm ?_ hp
  have := srtd_vals (R := fun x y => ∀ i j, x = V.int i → y = V.int j → i ≤ j) p2 p3 fun x y u v hx hy ru rv' e i j ei ej => by
    subst ei ej
    obtain ⟨t1, rfl⟩ := ru
    obtain ⟨t2, rfl⟩ := rv'
    exact Int.not_lt.mp (of_decide_eq_false (p := j < i) e)
  exact (List.pairwise_map.mp this).imp fun {i j} h => h i j rfl rfl
/-- sorted(d), tuples as keys -/
def rSortedDT : List V → Hp → VK → Prop := fun vs H Q => ∃ (a : Addr) (kvs : List (List Key × V)) (shape : Nat → Bool), vs = [.ref a] ∧ Rd H a (.dT kvs) ∧ (∀ p ∈ kvs, shOk shape p.1 = true) ∧
  ∀ (bs zs : List Addr) (kf : V → List Key) p, IsKeys H kvs bs → (∀ x ∈ bs, H x = some (.tup ((kf (.ref x)).map kV))) → zs.Perm bs → zs.Pairwise (fun x y => ltK (kf (.ref y)) (kf (.ref x)) = false) → H p = none → Q (.ref p) (upd H p (.lst (zs.map V.ref)))
theorem vk_of {ks : List Key} : ks.map (fun k => match kV k with | .int i => (Sum.inl i : Key) | .str x => .inr x | _ => .inl 0) = ks := by
  induction ks with
  | nil => rfl
  | cons k ks ih =>
    rw [List.map_cons, ih]
    cases k <;> rfl
def unV : V → Key
  | .int i => .inl i
  | .str x => .inr x
  | _ => .inl 0
theorem unV_kV : ∀ ks : List Key, (ks.map kV).map unV = ks
  | [] => rfl
  | .inl i :: ks => by rw [List.map_cons, List.map_cons, unV_kV ks]; rfl
  | .inr x :: ks => by rw [List.map_cons, List.map_cons, unV_kV ks]; rfl
def kfH (H : Hp) : V → List Key
  | .ref t => match H t with
    | some (.tup xs) => xs.map unV
    | _ => []
  | _ => []
theorem kfH_at {H : Hp} {t : Addr} {ks : List Key} (h : H t = some (.tup (ks.map kV))) : kfH H (.ref t) = ks := by
  show (match H t with | some (.tup xs) => xs.map unV | _ => []) = ks
  rw [h]
  exact unV_kV ks
theorem isKeys_mem {H : Hp} : ∀ {kvs : List (List Key × V)} {bs : List Addr}, IsKeys H kvs bs → ∀ x ∈ bs, ∃ p ∈ kvs, H x = some (.tup (p.1.map kV))
  | _, _, .nil, _, h => nomatch h
  | _, _, .cons h t, x, hx => by
    rcases List.mem_cons.mp hx with rfl | hx
    · exact ⟨_, List.mem_cons_self, h⟩
    · obtain ⟨p, h1, h2⟩ := isKeys_mem t x hx
      exact ⟨p, List.mem_cons_of_mem _ h1, h2⟩
theorem cr_sortedDT (hcalm : X.calm = true) : CallR X (.builtin "sorted") rSortedDT := by
  intro pins s σ H vs us Q I r q
  obtain ⟨d, kvs, shape, rfl, hd, hsh, q⟩ := q
  obtain ⟨u, rfl, rx⟩ := r.one
  cases rx
  obtain ⟨z, hs, ks, pr, o, es, ep, ho, hx, hdt, he, hn⟩ := (show ObjOk X.prog X.w H s.heap d (.dT kvs) from hd.ok I.hok)
  have l1 : es.size = ks.length := size_of_entries he
  have l2 : kvs.length = ks.length := Paired.length pr
  refine Calls.call_function_entry PyProof.Rows.kind_sorted PyProof.Rows.plain_sorted PyProof.Rows.entry_sorted (PyProof.Rows.args_sorted1 _) ?_
  unfold Builtin.«sorted»
  refine wpAny_bind (m := checkCount "sorted" 1 1 _) (wpAny_pure ?_)
  refine wpAny_bind (PySem.W.kdu_collect (A := X.A.in1) (kdl_raw hs hx hdt) (I.ok.hd hcalm) ho (by omega) fun h' tk acc kp it => ?_)
  have ea : acc.toList = ks.map fun x => Value.ref x.2.1 := by
    have hl : acc.toList.length = ks.length := by rw [Array.length_toList, it.1]; exact l1
    apply List.ext_getElem?
    intro j
    rw [List.getElem?_map]
    cases hj : acc.toList[j]? with
    | none =>
      have h1 := List.getElem?_eq_none_iff.mp hj
      rw [List.getElem?_eq_none (by omega)]
      all_goals rfl
    | some v =>
      obtain ⟨en, hen, hv⟩ := it.2 j v (by rw [← Array.getElem?_toList]; exact hj)
      have qe := entry_at he j
      rw [hen] at qe
      cases hb : ks[j]? with
      | none =>
        rw [hb] at qe
        exact nomatch (show some en = none from qe)
      | some b =>
        rw [hb] at qe
        have e2 : en = entryOfKey (tupleKind (mixKind X.prog X.w)) b := Option.some.inj qe
        rw [hv, e2]
        all_goals rfl
  have eb : acc.toList = (ks.map fun x => x.2.1).map Value.ref := by rw [ea, List.map_map]; all_goals rfl
  have rv : Vals ((ks.map fun x => x.2.1).map V.ref) acc.toList := by rw [eb]; exact vals_refs _
  have I1 : Inv X pins σ H { s with heap := h', toks := tk } := I.kept kp
  have hk := isKeys_of pr
  have ht : ∀ x ∈ (ks.map fun x => x.2.1).map V.ref, ∃ t, x = .ref t ∧ H t = some (.tup ((kfH H x).map kV)) := fun x hx => by
    obtain ⟨t, h1, rfl⟩ := List.mem_map.mp hx
    obtain ⟨p, _, h2⟩ := isKeys_mem hk t h1
    exact ⟨t, rfl, by rw [kfH_at h2]; exact h2⟩
  have hsh' : ∀ x ∈ (ks.map fun x => x.2.1).map V.ref, shOk shape (kfH H x) = true := fun x hx => by
    obtain ⟨t, h1, rfl⟩ := List.mem_map.mp hx
    obtain ⟨p, h3, h2⟩ := isKeys_mem hk t h1
    rw [kfH_at h2]
    exact hsh p h3
  obtain ⟨fs, g1, g2, g3⟩ := tups_of I1.hok (kfH H) rv ht hsh'
  refine sorted_acc I1 (swo_T h' shape) rv (by rw [List.length_map, List.length_map]; omega) (fun h2 h₁ b keep => tups_sortable g1 g2 (fun h2' hh c oc e _ => hh c oc (keep c oc e).1 (keep c oc e).2) h2) fun zs p out p1 p2 p3 hp => ?_
  have inv : ∀ l : List V, (∀ x ∈ l, ∃ i, x = V.ref i) → ∃ ys : List Addr, l = ys.map V.ref := fun l => by
    induction l with
    | nil => exact fun _ => ⟨[], rfl⟩
    | cons x l ih =>
      intro h
      obtain ⟨i, rfl⟩ := h _ List.mem_cons_self
      obtain ⟨ys, rfl⟩ := ih fun y hy => h y (List.mem_cons_of_mem _ hy)
      exact ⟨i :: ys, rfl⟩
  obtain ⟨ys, rfl⟩ := inv zs fun x hx => by
    obtain ⟨t, h1, _⟩ := ht x (p1.mem_iff.mp hx)
    exact ⟨t, h1⟩
  refine q _ ys (kfH H) p hk (fun x hx => ?_) ?_ ?_ hp
  · obtain ⟨t, h1, h2⟩ := ht (.ref x) (List.mem_map.mpr ⟨x, hx, rfl⟩)
    cases h1
    exact h2
  · have := p1.map unA
    rw [unA_map, unA_map] at this
    exact this
  · refine List.pairwise_map.mp (srtd_vals (R := fun x y => ltK (kfH H y) (kfH H x) = false) p2 p3 fun x y u v hx hy ru rv' e => ?_)
    unfold ltvT at e
    rw [g3 x u (p1.mem_iff.mp hx) ru, g3 y v (p1.mem_iff.mp hy) rv'] at e
    exact e
end
end Fx
namespace Fx
open PySem PySem.Spec L2

/-! ## sorted, by its data -/
def asInt : D → Option Int
  | .int i => some i
  | _ => none
def intsOf : List D → Option (List Int)
  | [] => some []
  | d :: l => match asInt d, intsOf l with
    | some i, some is => some (i :: is)
    | _, _ => none
def keysD (ks : List Key) : D := .tup (ks.map keyD)
def tupKs : List D → Option (List (List Key))
  | [] => some []
  | d :: l => match asKeys d, tupKs l with
    | some i, some is => some (i :: is)
    | _, _ => none
def shapeOf (ks : List Key) (i : Nat) : Bool := match ks[i]? with
  | some (.inr _) => true
  | _ => false
def shAll (l : List (List Key)) : Bool := l.all (shOk (shapeOf (l.headD [])))
def sortI (l : List Int) : List Int := l.mergeSort fun a b => decide (a ≤ b)
def leK (a b : List Key) : Bool := !ltK b a
def sortK (l : List (List Key)) : List (List Key) := l.mergeSort leK
def sortO : D → Option D
  | .lst l => match intsOf l with
    | some ns => some (.lst ((sortI ns).map .int))
    | none => match tupKs l with
      | some ks => if shAll ks then some (.lst ((sortK ks).map keysD)) else none
      | none => none
  | .dk l => (intsOf (l.map fun kv => keyD kv.1)).map fun ns => .lst ((sortI ns).map .int)
  | .dt l => if shAll (l.map (·.1)) then some (.lst ((sortK (l.map (·.1))).map keysD)) else none
  | _ => none
theorem sortI_perm (l : List Int) : (sortI l).Perm l := List.mergeSort_perm l _
theorem sortI_pw (l : List Int) : (sortI l).Pairwise (· ≤ ·) := (List.pairwise_mergeSort (le := fun a b : Int => decide (a ≤ b)) (fun a b c h1 h2 => by
  simp only [decide_eq_true_eq] at h1 h2 ⊢
  omega) (fun a b => by
  simp only [Bool.or_eq_true, decide_eq_true_eq]
  omega) l).imp fun h => of_decide_eq_true h
theorem sortI_uniq {l m : List Int} (p : m.Perm l) (h : m.Pairwise (· ≤ ·)) : m = sortI l := List.Perm.eq_of_pairwise (le := (· ≤ ·)) (fun a b _ _ h1 h2 => Int.le_antisymm h1 h2) h (sortI_pw l) (p.trans (sortI_perm l).symm)
theorem keyI_inj {a b : Key} (h : keyI a = keyI b) : a = b := by
  cases a with
  | inl i =>
    cases b with
    | inl j => cases h; rfl
    | inr y => cases h
  | inr x =>
    cases b with
    | inl j => cases h
    | inr y =>
      obtain ⟨x⟩ := x
      obtain ⟨y⟩ := y
      have e : x.toList = y.toList := Sum.inr.inj h
      rw [Array.toList_inj] at e
      rw [e]
theorem keyI_inj_map {a b : List Key} (h : a.map keyI = b.map keyI) : a = b := by
  induction a generalizing b with
  | nil => cases b with
    | nil => rfl
    | cons => cases h
  | cons x a ih => cases b with
    | nil => cases h
    | cons y b =>
      rw [List.map_cons, List.map_cons] at h
      injection h with h1 h2
      rw [keyI_inj h1, ih h2]
theorem leK_trans (a b c : List Key) (h1 : leK a b = true) (h2 : leK b c = true) : leK a c = true := by
  unfold leK at *
  rw [Bool.not_eq_true'] at *
  unfold ltK at *
  cases e : PyProof.Rows.lexLt PyProof.Rows.itemOrd (c.map keyI) (a.map keyI) with
  | false => rfl
  | true =>
    rcases PyProof.Rows.lex_negTrans (O := PyProof.Rows.itemOrd) _ (b.map keyI) _ e with k | k
    · rw [h2] at k; cases k
    · rw [h1] at k; cases k
theorem leK_total (a b : List Key) : (leK a b || leK b a) = true := by
  unfold leK
  cases e : ltK b a with
  | false => rfl
  | true =>
    cases e' : ltK a b with
    | false => rfl
    | true =>
      have := PyProof.Rows.lex_trans (O := PyProof.Rows.itemOrd) _ _ _ e e'
      rw [PyProof.Rows.lex_irrefl] at this
      cases this
theorem leK_anti {a b : List Key} (h1 : leK a b = true) (h2 : leK b a = true) : a = b := by
  unfold leK at *
  rw [Bool.not_eq_true'] at *
  exact keyI_inj_map (PyProof.Rows.lex_total (O := PyProof.Rows.itemOrd) _ _ h2 h1)
theorem sortK_perm (l : List (List Key)) : (sortK l).Perm l := List.mergeSort_perm l _
theorem sortK_pw (l : List (List Key)) : (sortK l).Pairwise fun a b => leK a b = true := List.pairwise_mergeSort leK_trans leK_total l
theorem sortK_uniq {l m : List (List Key)} (p : m.Perm l) (h : m.Pairwise fun a b => leK a b = true) : m = sortK l := List.Perm.eq_of_pairwise (le := fun a b => leK a b = true) (fun a b _ _ h1 h2 => leK_anti h1 h2) h (sortK_pw l) (p.trans (sortK_perm l).symm)
/-! ### what the data is -/
theorem intsOf_rp {F : Hp} : ∀ {vs : List V} {ds : List D} {ns : List Int}, Rps F vs ds → intsOf ds = some ns → vs = ns.map V.int
  | _, _, _, .nil, h => by cases h; rfl
  | _, _, _, .cons (d := d) (ds := ds) a r, h => by
    rw [intsOf] at h
    cases h1 : asInt d with
    | none => rw [h1] at h; cases h
    | some i =>
      cases h2 : intsOf ds with
      | none => rw [h1, h2] at h; cases h
      | some is =>
        rw [h1, h2] at h
        cases h
        rw [intsOf_rp r h2]
        cases a <;> first | (cases h1; done) | skip
        cases h1
        rfl
theorem rps_ints {F : Hp} : ∀ ns : List Int, Rps F (ns.map V.int) (ns.map D.int)
  | [] => .nil
  | i :: ns => .cons (.int i) (rps_ints ns)
theorem keysOf_inv : ∀ {ds : List D} {ks : List Key}, keysOf ds = some ks → ds = ks.map keyD
  | [], _, h => by cases h; rfl
  | d :: ds, _, h => by
    rw [keysOf] at h
    cases h1 : asKey d with
    | none => rw [h1] at h; cases h
    | some k =>
      cases h2 : keysOf ds with
      | none => rw [h1, h2] at h; cases h
      | some ks =>
        rw [h1, h2] at h
        cases h
        rw [List.map_cons, keysOf_inv h2]
        cases d <;> first | (cases h1; done) | skip
        all_goals cases h1; rfl
theorem asKeys_inv {d : D} {ks : List Key} (h : asKeys d = some ks) : d = keysD ks := by
  cases d with
  | tup l => rw [keysOf_inv (show keysOf l = some ks from h)]; rfl
  | _ => cases h
theorem tupKs_rp {F : Hp} : ∀ {vs : List V} {ds : List D} {kss : List (List Key)}, Rps F vs ds → tupKs ds = some kss → (∀ x ∈ vs, ∃ t, x = .ref t ∧ F t = some (.tup ((kfH F x).map kV)) ∧ Rp F x (keysD (kfH F x))) ∧ vs.map (kfH F) = kss
  | _, _, _, .nil, h => by cases h; exact ⟨fun x hx => (by cases hx), rfl⟩
  | _, _, _, .cons (d := d) (ds := ds) a r, h => by
    rw [tupKs] at h
    cases h1 : asKeys d with
    | none => rw [h1] at h; cases h
    | some i =>
      cases h2 : tupKs ds with
      | none => rw [h1, h2] at h; cases h
      | some is =>
        rw [h1, h2] at h
        cases h
        obtain ⟨g1, g2⟩ := tupKs_rp r h2
        obtain ⟨b, rfl, hb⟩ := asKeys_rp a h1
        have e := kfH_at hb
        have hd := asKeys_inv h1
        subst hd
        refine ⟨fun x hx => ?_, ?_⟩
        · rcases List.mem_cons.mp hx with rfl | hx
          · exact ⟨b, rfl, by rw [e]; exact hb, by rw [e]; exact a⟩
          · exact g1 x hx
        · rw [List.map_cons, e, g2]
theorem rps_map {F : Hp} {f : V → D} : ∀ {zs : List V}, (∀ x ∈ zs, Rp F x (f x)) → Rps F zs (zs.map f)
  | [], _ => .nil
  | z :: zs, h => .cons (h z List.mem_cons_self) (rps_map fun x hx => h x (List.mem_cons_of_mem _ hx))
theorem shAll_mem {l : List (List Key)} (h : shAll l = true) : ∀ ks ∈ l, shOk (shapeOf (l.headD [])) ks = true := List.all_eq_true.mp h
def rSortAll (K : PySem.W.Frag) : List V → Hp → VK → Prop := fun vs H Q => ((rSortedI K vs H Q ∨ rSortedT K vs H Q) ∨ rSortedDI vs H Q) ∨ rSortedDT vs H Q
theorem cr_sortAll {X : Cx} (hc : X.calm = true) : CallR X (.builtin "sorted") (rSortAll X.K) := ((cr_sortedI.or cr_sortedT).or (cr_sortedDI hc)).or (cr_sortedDT hc)
theorem intsOf_keys : ∀ {l : List (Key × D)} {ns : List Int}, intsOf (l.map fun kv => keyD kv.1) = some ns → l.map (·.1) = ns.map Sum.inl
  | [], _, h => by cases h; rfl
  | p :: l, _, h => by
    rw [List.map_cons, intsOf] at h
    cases h1 : asInt (keyD p.1) with
    | none => rw [h1] at h; cases h
    | some i =>
      cases h2 : intsOf (l.map fun kv => keyD kv.1) with
      | none => rw [h1, h2] at h; cases h
      | some is =>
        rw [h1, h2] at h
        cases h
        obtain ⟨k, v⟩ := p
        cases k with
        | inl j => cases h1; rw [List.map_cons, intsOf_keys h2]; rfl
        | inr x => cases h1
open Classical in
theorem sortS {K : PySem.W.Frag} : CbN .oL (rSortAll K) (fn1 sortO) := fun F H vs ds d Q e r ho q => by
  obtain ⟨a, rfl, h⟩ := fn1_inv ho
  obtain ⟨v, rfl, r1⟩ := r.inv1
  cases r1 with
  | @lst p xs l hp r3 =>
    simp only [sortO] at h
    split at h
    · rename_i ns hn
      cases h
      have := intsOf_rp r3 hn
      subst this
      refine .inl (.inl (.inl ⟨p, ns, rfl, SqL.of (e _ _ hp), fun ns' b pm pw hb => ?_⟩))
      rw [← sortI_uniq pm pw] at q
      exact q b F _ (St0.lay0 e hb) (.oL (e.new hb) upd_same (rps_ints _)) hb
    · split at h
      · rename_i kss hk
        split at h
        · rename_i hs
          cases h
          obtain ⟨g1, g2⟩ := tupKs_rp r3 hk
          refine .inl (.inl (.inr ⟨p, xs, kfH F, shapeOf (kss.headD []), rfl, SqL.of (e _ _ hp), fun x hx => ?_, fun x hx => ?_, fun zs b pm pw hb => ?_⟩))
          · obtain ⟨t, h1, h2, _⟩ := g1 x hx
            exact ⟨t, h1, e _ _ h2⟩
          · exact shAll_mem hs _ (by rw [← g2]; exact List.mem_map.mpr ⟨x, hx, rfl⟩)
          · have : zs.map (kfH F) = sortK kss := sortK_uniq (by rw [← g2]; exact pm.map _) (List.pairwise_map.mpr (pw.imp fun h => by unfold leK; rw [h]; rfl))
            rw [← this, List.map_map] at q
            refine q b F _ (St0.lay0 e hb) (.oL (e.new hb) upd_same (rps_map fun x hx => ?_)) hb
            obtain ⟨_, _, _, h3⟩ := g1 x (pm.mem_iff.mp hx)
            exact h3
        · cases h
      · cases h
  | @dk p kvs ds l hp hk r he =>
    obtain ⟨ns, h1, rfl⟩ := Option.map_eq_some_iff.mp (show (intsOf _).map _ = some d from h)
    refine .inl (.inr ⟨p, kvs, ns, rfl, Ex.rd e hp, hk.trans (intsOf_keys h1), fun ys b pm pw hb => ?_⟩)
    rw [← sortI_uniq pm pw] at q
    exact q b F _ (St0.lay0 e hb) (.oL (e.new hb) upd_same (rps_ints _)) hb
  | @dt p kvs ds l hp hk r he =>
    simp only [sortO] at h
    split at h
    · rename_i hs
      cases h
      refine .inr ⟨p, kvs, shapeOf ((l.map (·.1)).headD []), rfl, Ex.rd e hp, fun x hx => ?_, fun bs zs kf b ik ht pm pw hb => ?_⟩
      · exact shAll_mem hs _ (by rw [← hk]; exact List.mem_map.mpr ⟨x, hx, rfl⟩)
      · -- the key tuples are taken up
        let F' : Hp := fun a => if a ∈ bs then H a else F a
        have inF : ∀ a, a ∈ bs → F' a = H a := fun a ha => if_pos ha
        have e1 : Ex F F' := fun a o z => by
          by_cases ha : a ∈ bs
          · rw [inF a ha]; exact e a o z
          · show (if a ∈ bs then H a else F a) = _
            rw [if_neg ha]; exact z
        have e2 : Ex F' H := fun a o z => by
          by_cases ha : a ∈ bs
          · rw [inF a ha] at z; exact z
          · have : F' a = F a := if_neg ha
            rw [this] at z; exact e a o z
        have st : St0 F H F' H := ⟨e1, e2, fun a o z _ => z, fun a z => z.elim, fun a o z => by
          by_cases ha : a ∈ bs
          · rw [inF a ha, ht a ha] at z
            cases z
            exact .inr (.inr ⟨_, rfl⟩)
          · have : F' a = F a := if_neg ha
            rw [this] at z; exact .inl z⟩
        have em : bs.map (fun x => kf (.ref x)) = l.map (·.1) := by
          rw [← hk]
          have go : ∀ {kvs : List (List Key × V)} {bs : List Addr}, IsKeys H kvs bs → (∀ x ∈ bs, H x = some (.tup ((kf (.ref x)).map kV))) → bs.map (fun x => kf (.ref x)) = kvs.map (·.1) := fun {kvs bs} ik => by
            unfold IsKeys at ik
            induction ik with
            | nil => intro _; rfl
            | cons h t ih =>
              intro hh
              rw [List.map_cons, List.map_cons, ih fun x hx => hh x (List.mem_cons_of_mem _ hx)]
              have h1 := hh _ List.mem_cons_self
              rw [h] at h1
              injection h1 with h1
              injection h1 with h1
              rw [← unV_kV (kf _), ← h1, unV_kV]
          exact go ik ht
        have ez : zs.map (fun x => kf (.ref x)) = sortK (l.map (·.1)) := sortK_uniq (by rw [← em]; exact pm.map _) (List.pairwise_map.mpr (pw.imp fun h => by unfold leK; rw [h]; rfl))
        rw [← ez, List.map_map] at q
        refine q b F' _ (st.trans (St0.lay0 e2 hb)) (.oL (e2.new hb) upd_same ?_) hb
        have := rps_map (F := F') (f := fun v => keysD (kf v)) (zs := zs.map V.ref) fun x hx => by
          obtain ⟨t, ht', rfl⟩ := List.mem_map.mp hx
          have hm := pm.mem_iff.mp ht'
          have hh := ht t hm
          refine .tup (by rw [inF t hm]; exact hh) ?_
          have go : ∀ ks : List Key, Rps F' (ks.map kV) (ks.map keyD) := fun ks => by
            induction ks with
            | nil => exact .nil
            | cons k ks ih =>
              refine .cons ?_ ih
              cases k with
              | inl i => exact .int i
              | inr x => exact .str x
          exact go _
        rw [List.map_map] at this
        exact this
    · cases h
  | _ => cases h
section
variable {X : Cx} {G : Bags} {κ : List Kd} {fs : DA G} {p pos : Pos} {e : Expr} {es : List Expr}
theorem n_sorted (hc : X.calm = true) (hg : Gl X "sorted") (hm : X.mg "sorted" = none) (ha : PA X (e :: es) (tAs G κ fs)) (he : starEach (e :: es) X.env = (false, eval e X.env) :: starEach es X.env := by rfl) (hpl : (backTo pos (starEach es X.env)).any (·.1) = false := by rfl) :
    PE X (.Call (.Name "sorted" p) (e :: es) [] pos) (tFN G κ .oL (eFn (fn1 sortO) fs)) := n_cb (cr_sortAll hc) sortS hg hm (by decide +kernel) ha (by decide) (by decide) he hpl
theorem f_sorted (hc : X.calm = true) (hg : Gl X "sorted") (hm : X.mg "sorted" = none) (ha : PA X (e :: es) (tAs G κ fs)) (he : starEach (e :: es) X.env = (false, eval e X.env) :: starEach es X.env := by rfl) (hpl : (backTo pos (starEach es X.env)).any (·.1) = false := by rfl) :
    PE X (.Call (.Name "sorted" p) (e :: es) [] pos) (tF G κ (eFn (fn1 sortO) fs)) := f_frz (n_sorted hc hg hm ha he hpl)
end
end Fx
namespace Fx
open PySem PySem.Spec L2

/-! ## a dict of F that is locked -/
def lkH (d : Addr) (o : HO) (H : Hp) : Hp := fun b => if b = d then (match H d with
  | none => none
  | some _ => some o) else H b
theorem lkH_ne {d b : Addr} {o : HO} {H : Hp} (h : b ≠ d) : lkH d o H b = H b := if_neg h
theorem lkH_some {d : Addr} {o u : HO} {H : Hp} (h : H d = some u) : lkH d o H d = some o := by
  unfold lkH
  rw [if_pos rfl, h]
theorem lkH_none {d : Addr} {o : HO} {H : Hp} (h : H d = none) : lkH d o H = H := by
  funext b
  unfold lkH
  by_cases e : b = d
  · subst e; rw [if_pos rfl, h]
  · rw [if_neg e]
theorem lkH_upd {d : Addr} {o u : HO} {H : Hp} (h : H d = some u) : lkH d o H = upd H d o := by
  funext b
  by_cases e : b = d
  · subst e; rw [lkH_some h, upd_same]
  · rw [lkH_ne e, upd_ne e]
theorem lkH_iff {d b : Addr} {o : HO} {H : Hp} : lkH d o H b = none ↔ H b = none := by
  by_cases e : b = d
  · subst e
    cases h : H b with
    | none => rw [lkH_none h]; simp [h]
    | some u => rw [lkH_some h]; simp
  · rw [lkH_ne e]
theorem Ex.lk {F H : Hp} (e : Ex F H) (d : Addr) (o : HO) : Ex (lkH d o F) (lkH d o H) := fun b u h => by
  by_cases z : b = d
  · subst z
    cases hf : F b with
    | none => rw [lkH_none hf, hf] at h; cases h
    | some x =>
      rw [lkH_some hf] at h
      cases h
      exact lkH_some (e b x hf)
  · rw [lkH_ne z] at h ⊢; exact e b u h
/-- things that are locked: dicts -/
def isDo : HO → Prop
  | .dK _ => True
  | .dT _ => True
  | _ => False
theorem isDo.mut {u : HO} (h : isDo u) : Mut (some u) := by
  cases u <;> first | exact trivial | exact h.elim
theorem Fle.lk {F : Hp} {d : Addr} {od : Obj} {u : HO} (h : F d = some u) (hu : isDo u) : Fle F (lkH d (.frz od u) F) where
  tup := fun a xs e => by
    rw [lkH_ne (fun z => by subst z; rw [h] at e; cases e; exact hu)]; exact e
  lst := fun a xs e => by
    rw [lkH_ne (fun z => by subst z; rw [h] at e; cases e; exact hu)]; exact e
  dk := fun a kvs e => by
    by_cases z : a = d
    · subst z
      rcases e with e | ⟨o, e⟩
      · rw [h] at e; cases e; exact .inr ⟨od, lkH_some h⟩
      · rw [h] at e; cases e; exact hu.elim
    · exact e.elim (fun e => .inl (by rw [lkH_ne z]; exact e)) fun ⟨o, e⟩ => .inr ⟨o, by rw [lkH_ne z]; exact e⟩
  dt := fun a kvs e => by
    by_cases z : a = d
    · subst z
      rcases e with e | ⟨o, e⟩
      · rw [h] at e; cases e; exact .inr ⟨od, lkH_some h⟩
      · rw [h] at e; cases e; exact hu.elim
    · exact e.elim (fun e => .inl (by rw [lkH_ne z]; exact e)) fun ⟨o, e⟩ => .inr ⟨o, by rw [lkH_ne z]; exact e⟩
/-- and unlocked -/
theorem Fle.unlk {F : Hp} {d : Addr} {od : Obj} {u : HO} (h : F d = some (.frz od u)) : Fle F (upd F d u) where
  tup := fun a xs e => by
    rw [upd_ne (fun z => by subst z; rw [h] at e; cases e)]; exact e
  lst := fun a xs e => by
    rw [upd_ne (fun z => by subst z; rw [h] at e; cases e)]; exact e
  dk := fun a kvs e => by
    by_cases z : a = d
    · subst z
      rcases e with e | ⟨o, e⟩
      · rw [h] at e; cases e
      · rw [h] at e; cases e; exact .inl upd_same
    · exact e.elim (fun e => .inl (by rw [upd_ne z]; exact e)) fun ⟨o, e⟩ => .inr ⟨o, by rw [upd_ne z]; exact e⟩
  dt := fun a kvs e => by
    by_cases z : a = d
    · subst z
      rcases e with e | ⟨o, e⟩
      · rw [h] at e; cases e
      · rw [h] at e; cases e; exact .inl upd_same
    · exact e.elim (fun e => .inl (by rw [upd_ne z]; exact e)) fun ⟨o, e⟩ => .inr ⟨o, by rw [upd_ne z]; exact e⟩
theorem Ow.le {F H F' H' : Hp} {a : Addr} {k : Kd} {d : D} (e : Fle F F') (hf : F' a = none) (hh : ∀ o, H a = some o → H' a = some o) : Ow F H a k d → Ow F' H' a k d
  | .oL _ h r => .oL hf (hh _ h) (r.le e)
  | .oK _ h q r => .oK hf (hh _ h) q (r.le e)
  | .oT _ h q r => .oT hf (hh _ h) q (r.le e)
section
variable {G : Bags} {i : G.I} {κ : List Kd} {F0 H0 F H : Hp} {ρ : Env} {s : G.S} {σ : L2.St}
theorem As.lock {d : Addr} {u : HO} (A : As G i κ F0 H0 ρ s σ F H) (hF : F d = some u) (hu : isDo u) (od : Obj) : As G i κ (lkH d (.frz od u) F0) (lkH d (.frz od u) H0) ρ s σ (lkH d (.frz od u) F) (lkH d (.frz od u) H) := by
  have nd : ∀ a, G.dom i a → a ≠ d := fun a ha z => by
    have := A.nd a ha
    rw [z, hF] at this; cases this
  refine { fh := A.fh.lk d _, nd := fun a ha => by rw [lkH_ne (nd a ha)]; exact A.nd a ha, ok := G.frame A.ok fun a ha => lkH_ne (nd a ha), len := A.len, val := fun j e q hv => ?_, own := fun j e q hv => ?_, apart := A.apart, bagv := A.bagv, base := A.base.lk d _, keep := fun a o h hd => ?_, kept := fun a h => fun z => h (lkH_iff.mpr ?_), new := fun a o h => ?_ }
  · obtain ⟨v, h1, h2⟩ := A.val j e q hv
    exact ⟨v, h1, h2.le (Fle.lk hF hu)⟩
  · obtain ⟨a, h1, h2, h3, h4⟩ := A.own j e q hv
    have na : a ≠ d := fun z => by
      have := h2.free
      rw [z, hF] at this; cases this
    exact ⟨a, h1, h2.le (Fle.lk hF hu) (by rw [lkH_ne na]; exact h2.free) fun o z => by rw [lkH_ne na]; exact z, by rw [lkH_ne na]; exact h3, h4⟩
  · by_cases z : a = d
    · subst z
      cases h0 : H0 a with
      | none => rw [lkH_none h0, h0] at h; cases h
      | some x =>
        rw [lkH_some h0] at h
        cases h
        exact lkH_some (A.keep a x h0 hd)
    · rw [lkH_ne z] at h ⊢; exact A.keep a o h hd
  · by_cases y : H0 a = none
    · exact y
    · exact absurd (lkH_iff.mp z) (A.kept a y)
  · by_cases z : a = d
    · subst z
      rw [lkH_some hF] at h
      cases h
      rcases A.new a u hF with k | k | ⟨xs, k⟩
      · exact .inl (lkH_some k)
      · exact .inr (.inl (lkH_iff.mpr k))
      · subst k; exact hu.elim
    · rw [lkH_ne z] at h
      rcases A.new a o h with k | k | k
      · exact .inl (by rw [lkH_ne z]; exact k)
      · exact .inr (.inl (lkH_iff.mpr k))
      · exact .inr (.inr k)
/-- a step over the lock -/
theorem Stp.unlock {dom : Addr → Prop} {F2 H2 : Hp} {d : Addr} {u : HO} {od : Obj} (e : Ex F H) (hF : F d = some u) (hu : isDo u) (hnd : ¬ dom d) (t : Stp dom (lkH d (.frz od u) F) (lkH d (.frz od u) H) F2 H2) : Stp dom F H (upd F2 d u) (upd H2 d u) where
  ff := fun a o h => by
    by_cases z : a = d
    · subst z; rw [hF] at h; cases h; exact upd_same
    · rw [upd_ne z]; exact t.ff a o (by rw [lkH_ne z]; exact h)
  fh := fun a o h => by
    by_cases z : a = d
    · subst z; rw [upd_same] at h ⊢; exact h
    · rw [upd_ne z] at h ⊢; exact t.fh a o h
  kp := fun a o h hd => by
    by_cases z : a = d
    · subst z; rw [e a u hF] at h; cases h; exact upd_same
    · rw [upd_ne z]; exact t.kp a o (by rw [lkH_ne z]; exact h) hd
  dm := fun a hd h => by
    by_cases z : a = d
    · subst z; exact absurd hd hnd
    · rw [upd_ne z]; exact t.dm a hd (by rw [lkH_ne z]; exact h)
  nw := fun a o h => by
    by_cases z : a = d
    · subst z; rw [upd_same] at h; cases h; exact .inl hF
    · rw [upd_ne z] at h
      rcases t.nw a o h with k | k | k
      · rw [lkH_ne z] at k; exact .inl k
      · exact .inr (.inl (lkH_iff.mp k))
      · exact .inr (.inr k)
end

/-! ## its keys, its items -/
def keyVs (l : List (Key × D)) : List D := l.map fun kv => keyD kv.1
def keyTs (l : List (List Key × D)) : List D := l.map fun kv => keysD kv.1
def itemVs (l : List (Key × D)) : List D := l.map fun kv => .tup [keyD kv.1, kv.2]
theorem rp_key {F : Hp} (k : Key) : Rp F (kV k) (keyD k) := by
  cases k with
  | inl i => exact .int i
  | inr x => exact .str x
theorem rps_keys {F : Hp} : ∀ ks : List Key, Rps F (ks.map kV) (ks.map keyD)
  | [] => .nil
  | k :: ks => .cons (rp_key k) (rps_keys ks)
theorem map_at {α β : Type} {kvs : List (α × V)} {l : List (α × D)} (hk : kvs.map (·.1) = l.map (·.1)) {j : Nat} {p : α × D} (h : l[j]? = some p) : ∃ v, kvs[j]? = some (p.1, v) := by
  have e : (kvs.map (·.1))[j]? = some p.1 := by rw [hk, List.getElem?_map, h]; rfl
  rw [List.getElem?_map] at e
  cases q : kvs[j]? with
  | none => rw [q] at e; cases e
  | some r =>
    rw [q] at e
    obtain ⟨k, v⟩ := r
    have e' : k = p.1 := Option.some.inj e
    subst e'
    exact ⟨v, rfl⟩
theorem yl_keys {F : Hp} {d : Addr} {o : Obj} {kvs : List (Key × V)} {l : List (Key × D)} (h : F d = some (.frz o (.dK kvs))) (hk : kvs.map (·.1) = l.map (·.1)) : Yl (Itk d o kvs) F (keyVs l) := fun j F' H' e1 e2 => by
  have hd : H' d = some (.frz o (.dK kvs)) := e2 _ _ (e1 _ _ h)
  have hl := Rp.kvlen hk
  refine ⟨fun x hx => ?_, fun hle => ⟨hd, by rw [hl]; simpa [keyVs] using hle⟩⟩
  unfold keyVs at hx
  rw [List.getElem?_map] at hx
  cases q : l[j]? with
  | none => rw [q] at hx; cases hx
  | some p =>
    rw [q] at hx
    cases hx
    obtain ⟨v, hv⟩ := map_at (β := V) hk q
    refine ⟨⟨hd, (List.getElem?_eq_some_iff.mp hv).1⟩, fun x H2 y => ?_⟩
    obtain ⟨rfl, k', v', g1, rfl⟩ := y
    rw [hv] at g1
    cases g1
    exact ⟨F', Stp.refl e2, rp_key _⟩
theorem yl_items {F : Hp} {d : Addr} {o : Obj} {kvs : List (Key × V)} {l : List (Key × D)} (h : F d = some (.frz o (.dK kvs))) (hk : kvs.map (·.1) = l.map (·.1)) (r : Rps F (kvs.map (·.2)) (l.map (·.2))) : Yl (Iti d o kvs) F (itemVs l) := fun j F' H' e1 e2 => by
  have hd : H' d = some (.frz o (.dK kvs)) := e2 _ _ (e1 _ _ h)
  have hl := Rp.kvlen hk
  refine ⟨fun x hx => ?_, fun hle => ⟨hd, by rw [hl]; simpa [itemVs] using hle⟩⟩
  unfold itemVs at hx
  rw [List.getElem?_map] at hx
  cases q : l[j]? with
  | none => rw [q] at hx; cases hx
  | some p =>
    rw [q] at hx
    cases hx
    obtain ⟨v, hv⟩ := map_at (β := V) hk q
    have rv : Rp F v p.2 := by
      obtain ⟨d', g1, g2⟩ := r.get (i := j) (v := v) (by rw [List.getElem?_map, hv]; rfl)
      rw [List.getElem?_map, q] at g1
      cases g1
      exact g2
    refine ⟨⟨hd, (List.getElem?_eq_some_iff.mp hv).1⟩, fun x H2 y => ?_⟩
    obtain ⟨T, k', v', g1, rfl, hT, rfl⟩ := y
    rw [hv] at g1
    cases g1
    exact ⟨upd F' T _, Stp.lay e2 hT, .tup upd_same (.cons (rp_key _) (.cons ((rv.mono e1).mono (ex_upd e2 hT)) .nil))⟩
/-- the key's own tuple is taken up -/
theorem up_tup {F H : Hp} {q : Addr} {xs : List V} (e : Ex F H) (h : H q = some (.tup xs)) : St0 F H (upd F q (.tup xs)) H := by
  refine ⟨fun a o z => ?_, fun a o z => ?_, fun a o z _ => z, fun a z => z.elim, fun a o z => ?_⟩
  · by_cases y : a = q
    · subst y; rw [upd_same]; have := e a o z; rw [h] at this; exact this
    · rw [upd_ne y]; exact z
  · by_cases y : a = q
    · subst y; rw [upd_same] at z; rw [h]; exact z
    · rw [upd_ne y] at z; exact e a o z
  · by_cases y : a = q
    · subst y; rw [upd_same] at z; cases z; exact .inr (.inr ⟨xs, rfl⟩)
    · rw [upd_ne y] at z; exact .inl z
theorem yl_keysT {F : Hp} {d : Addr} {o : Obj} {kvs : List (List Key × V)} {l : List (List Key × D)} (h : F d = some (.frz o (.dT kvs))) (hk : kvs.map (·.1) = l.map (·.1)) : Yl (Itkt d o kvs) F (keyTs l) := fun j F' H' e1 e2 => by
  have hd : H' d = some (.frz o (.dT kvs)) := e2 _ _ (e1 _ _ h)
  have hl := Rp.kvlen hk
  refine ⟨fun x hx => ?_, fun hle => ⟨hd, by rw [hl]; simpa [keyTs] using hle⟩⟩
  unfold keyTs at hx
  rw [List.getElem?_map] at hx
  cases q : l[j]? with
  | none => rw [q] at hx; cases hx
  | some p =>
    rw [q] at hx
    cases hx
    obtain ⟨v, hv⟩ := map_at (β := V) hk q
    refine ⟨⟨hd, (List.getElem?_eq_some_iff.mp hv).1⟩, fun x H2 y => ?_⟩
    obtain ⟨rfl, k', v', b, g1, rfl, hb⟩ := y
    rw [hv] at g1
    cases g1
    exact ⟨_, up_tup e2 hb, .tup upd_same (rps_keys _)⟩
def iKeysD : D → Option (List D)
  | .dk l => some (keyVs l)
  | .dt l => some (keyTs l)
  | _ => none
def iItemsD : D → Option (List D)
  | .dk l => some (itemVs l)
  | _ => none
def iVar {S : Type} (o : D → Option (List D)) (j : Nat) : Env → MS S (List D) := fun ρ => bnd (eVar j ρ) fun d => lft (o d)
/-- what is walked over the dict in slot j, once it is locked -/
def WalkD (o : D → Option (List D)) (w : TE → TI) : Prop := ∀ (F : Hp) (v : V) (d : D) (ds : List D), Rp F v d → o d = some ds →
  ∃ a u, v = .ref a ∧ isDo u ∧ (F a = some u ∨ ∃ od, F a = some (.frz od u)) ∧ ∀ (F' H' : Hp) (od : Obj) (td : TE) (σ : L2.St) (H0 : Hp) (R : It → Hp → Prop), Fle F F' → F' a = some (.frz od u) → Ex F' H' → (∀ Q, Q (.ref a) H' → td σ H0 Q) → (∀ J, Yl J F' ds → R J H') → w td σ H0 R
theorem walk_keys : WalkD iKeysD iKeys := fun F v d ds r h => by
  cases r with
  | dk hp hk r he =>
    cases h
    refine ⟨_, .dK _, rfl, trivial, hp, fun F' H' od td σ H0 R le hF e k q => k _ ⟨_, od, rfl, .inl ⟨_, e _ _ hF, q _ (yl_keys hF hk)⟩⟩⟩
  | dt hp hk r he =>
    cases h
    refine ⟨_, .dT _, rfl, trivial, hp, fun F' H' od td σ H0 R le hF e k q => k _ ⟨_, od, rfl, .inr ⟨_, e _ _ hF, q _ (yl_keysT hF hk)⟩⟩⟩
  | _ => cases h
theorem walk_items : WalkD iItemsD iItems := fun F v d ds r h => by
  cases r with
  | dk hp hk r he =>
    cases h
    subst he
    refine ⟨_, .dK _, rfl, trivial, hp, fun F' H' od td σ H0 R le hF e k q => k _ ⟨_, od, _, rfl, e _ _ hF, q _ (yl_items hF hk (r.le le))⟩⟩
  | _ => cases h
def iKeysMD : D → Option (List D)
  | .dk l => some (keyVs l)
  | _ => none
theorem walk_keysM : WalkD iKeysMD iKeysM := fun F v d ds r h => by
  cases r with
  | dk hp hk r he =>
    cases h
    refine ⟨_, .dK _, rfl, trivial, hp, fun F' H' od td σ H0 R le hF e k q => k _ ⟨_, od, _, rfl, e _ _ hF, q _ (yl_keys hF hk)⟩⟩
  | _ => cases h
section
variable {X : Cx} {G : Bags} {κ κ' κL : List Kd} {it : DI G} {c : DT G} {fe : DE G} {elt tg iter : Expr} {ifs : List Expr} {scope : Scope} {own : List (Str × Nat)} {pos : Pos} {t : Tg}
theorem tFN_lcD {o : D → Option (List D)} {w : TE → TI} {j : Nat} (hw : WalkD o w) (ht : lcOk κ t (own.map (·.2)) = true) (hk : kdAt κ j = .val) (σ : L2.St) (H : Hp) (Q : VK) : tFN G κ .oL (eLc (iVar o j) t (own.map (·.2)) c fe) σ H Q →
    tLockE (tLc (w (tVar j)) (tgT X.K t) (tT G κ c) (tF G κ fe) (own.map (·.2))) σ H Q ∨ tLc (w (tVar j)) (tgT X.K t) (tT G κ c) (tF G κ fe) (own.map (·.2)) σ H Q := fun ⟨i, F0, H0, F, ρ, s, d, s', A, h, q⟩ => by
  obtain ⟨ds, s1, h1, h8⟩ := bnd_inv h
  obtain ⟨dd, s2, h4, h5⟩ := bnd_inv h1
  obtain ⟨h6, rfl⟩ := lft_inv h4
  obtain ⟨h7, rfl⟩ := lft_inv h5
  split at h8
  · rename_i hl
    obtain ⟨l, s2, h2, h3⟩ := bnd_inv h8
    obtain ⟨rfl, rfl⟩ := ret_inv h3
    obtain ⟨v, g1, g2⟩ := A.val j dd (getD_some h6) hk
    obtain ⟨a, u, rfl, hu, hh, go⟩ := hw F v dd ds g2 h7
    rcases hh with hF | ⟨od, hF⟩
    · refine .inl ⟨a, u, A.fh _ _ hF, hu.mut, fun od => ?_⟩
      rw [← lkH_upd (A.fh _ _ hF)]
      refine go (lkH a (.frz od u) F) _ od (tVar j) σ _ _ (Fle.lk hF hu) (lkH_some hF) (A.fh.lk a _) (fun Q k => ⟨_, g1, k⟩) fun J y => ?_
      refine lc_ok (Q := fun v H' => H' a = some (.frz od u) ∧ Q v (upd H' a u)) ht (A.lock hF hu od) y hl h2 fun b F2 H2 tt kk ow hn => ⟨tt.fh _ _ (tt.ff _ _ (lkH_some hF)), ?_⟩
      have nd : ¬ G.dom i a := fun z => by
        have := A.nd a z
        rw [hF] at this; cases this
      have hn' : H b = none := lkH_iff.mp hn
      have nb : b ≠ a := fun z => by rw [z, A.fh _ _ hF] at hn'; cases hn'
      exact q b _ _ (tt.unlock A.fh hF hu nd) (G.frame kk fun x hx => upd_ne fun z => nd (by rw [← z]; exact hx)) (ow.le (Fle.unlk (tt.ff _ _ (lkH_some hF))) (by rw [upd_ne nb]; exact ow.free) fun o z => by rw [upd_ne nb]; exact z) hn'
    · refine .inr (go F H od (tVar j) σ _ _ ⟨fun _ _ z => z, fun _ _ z => z, fun _ _ z => z, fun _ _ z => z⟩ hF A.fh (fun Q k => ⟨_, g1, k⟩) fun J y => ?_)
      exact lc_ok ht A y hl h2 q
  · cases h8
/-- [elt for target in d if ..], d a dict in slot j -/
theorem n_lcD {o : D → Option (List D)} {w : TE → TI} {j : Nat} (hw : WalkD o w) (hc : X.calm = true) (hN : X.N.Nodup) (hi : PI X tg iter (w (tVar j))) (ok : BlkOk X.N X.env.scope scope own)
    (hg : ∀ (s : Shared) (H : Hp) (C : Addr) (cl : List (Str × Addr)) (fp : List Addr), PG (X.blk s H scope (compEnvC scope cl C X.env) fp) tg (tgT X.K t))
    (hcs : ∀ (s : Shared) (H : Hp) (C : Addr) (cl : List (Str × Addr)) (fp : List Addr), PTs (X.blk s H scope (compEnvC scope cl C X.env) fp) ifs (tT G κ c))
    (he : ∀ (s : Shared) (H : Hp) (C : Addr) (cl : List (Str × Addr)) (fp : List Addr), PE (X.blk s H scope (compEnvC scope cl C X.env) fp) elt (tF G κ fe))
    (hk : kdAt κ j = .val := by rfl) (ht : lcOk κ t (own.map (·.2)) = true := by rfl) (hs : ∀ x, foldedSetIterable iter X.env x = pure x := by intro _; rfl) :
    PE X (.ListComp elt [⟨tg, iter, ifs, 0⟩] scope pos) (tFN G κ .oL (eLc (iVar o j) t (own.map (·.2)) c fe)) := PE.imp (Fx.PE.or (pe_lock (pe_lc hc hN hi ok hg hcs he hs)) (pe_lc hc hN hi ok hg hcs he hs)) (tFN_lcD hw ht hk)
theorem f_lcD {o : D → Option (List D)} {w : TE → TI} {j : Nat} (hw : WalkD o w) (hc : X.calm = true) (hN : X.N.Nodup) (hi : PI X tg iter (w (tVar j))) (ok : BlkOk X.N X.env.scope scope own)
    (hg : ∀ (s : Shared) (H : Hp) (C : Addr) (cl : List (Str × Addr)) (fp : List Addr), PG (X.blk s H scope (compEnvC scope cl C X.env) fp) tg (tgT X.K t))
    (hcs : ∀ (s : Shared) (H : Hp) (C : Addr) (cl : List (Str × Addr)) (fp : List Addr), PTs (X.blk s H scope (compEnvC scope cl C X.env) fp) ifs (tT G κ c))
    (he : ∀ (s : Shared) (H : Hp) (C : Addr) (cl : List (Str × Addr)) (fp : List Addr), PE (X.blk s H scope (compEnvC scope cl C X.env) fp) elt (tF G κ fe))
    (hk : kdAt κ j = .val := by rfl) (ht : lcOk κ t (own.map (·.2)) = true := by rfl) (hs : ∀ x, foldedSetIterable iter X.env x = pure x := by intro _; rfl) :
    PE X (.ListComp elt [⟨tg, iter, ifs, 0⟩] scope pos) (tF G κ (eLc (iVar o j) t (own.map (·.2)) c fe)) := f_frz (n_lcD hw hc hN hi ok hg hcs he hk ht hs)
end

/-! ## {k: v} -/
def eDisp1 {S : Type} (fk fv : Env → MS S D) : Env → MS S D := fun ρ => bnd (fk ρ) fun k => bnd (fv ρ) fun v => lft ((asKey k).map fun kk => .dk [(kk, v)])
section
variable {X : Cx} {G : Bags} {κ : List Kd} {fk fv : DE G} {k v : Expr} {pos : Pos}
/-- a step with one more thing D in the heap, that nothing refers to -/
theorem Stp.over {dom : Addr → Prop} {F H F' H' : Hp} {p : Addr} {o : HO} (e : Ex F H) (hp : H p = none) (hd : ¬ dom p) (ho : ∀ xs, o ≠ .tup xs) (t : Stp dom F (upd H p o) F' H') : H' p = some o ∧ F' p = none := by
  have h1 : H' p = some o := t.kp p o upd_same hd
  refine ⟨h1, ?_⟩
  cases z : F' p with
  | none => rfl
  | some u =>
    have h2 := t.fh p u z
    rw [h1] at h2
    cases h2
    rcases t.nw p o z with y | y | ⟨xs, y⟩
    · rw [e.new hp] at y; cases y
    · rw [upd_same] at y; cases y
    · exact absurd y (ho xs)
theorem n_disp1 (hk : PE X k (tF G κ fk)) (hv : PE X v (tF G κ fv)) : PE X (.Dict [some k] [v] pos) (tFN G κ .oK (eDisp1 fk fv)) :=
  PE.imp (pe_disp (pps_cons hk hv pps_nil) rfl rfl (by simp) (by simp)) fun σ H Q ⟨i, F0, H0, F, ρ, s, d, s', A, h, q⟩ => by
    obtain ⟨kd, s1, h1, h⟩ := bnd_inv h
    obtain ⟨vd, s2, h2, h⟩ := bnd_inv h
    obtain ⟨h3, rfl⟩ := lft_inv h
    obtain ⟨kk, h4, rfl⟩ := Option.map_eq_some_iff.mp h3
    intro p hp
    have hnd : ¬ G.dom i p := fun z => G.alloc A.ok z hp
    have t0 : Stp (G.dom i) F H F (upd H p (.dK [])) := (St0.lay0 A.fh hp).any
    have A0 := A.step t0 ((St0.lay0 A.fh hp).ok A.ok)
    refine ⟨i, F0, H0, F, ρ, s, kd, s1, A0, h1, fun x F1 H1 t1 k1 r1 => ⟨i, F0, H0, F1, ρ, s1, vd, s', A0.step t1 k1, h2, fun y F2 H2 t2 k2 r2 => ?_⟩⟩
    obtain ⟨g1, g2⟩ := (t1.trans t2).over A.fh hp hnd (fun _ z => by cases z)
    refine ⟨g1, [(kk, y)], ?_, by simp, ?_⟩
    · rw [asKey_rp r1 h4]; rfl
    · have tt := t0.trans (t1.trans t2)
      refine q p F2 _ ⟨tt.ff, fun b u z => ?_, fun b u z hd => ?_, fun b hd z => ?_, tt.nw⟩ (G.frame k2 fun b hb => upd_ne fun z => hnd (by rw [← z]; exact hb)) (.oK g2 upd_same rfl (.cons r2 .nil)) hp
      · rw [upd_ne (ne_of_none z g2)]; exact tt.fh b u z
      · rw [upd_ne (ne_of_none z hp)]; exact tt.kp b u z hd
      · rw [upd_ne (fun w : b = p => hnd (by rw [← w]; exact hd))]; exact tt.dm b hd z
end

/-! ## dict([(k, v), ..]) -/
def mergeD (l m : List (Key × D)) : List (Key × D) := m.foldl (fun acc kv => putD acc kv.1 kv.2) l
def pairD : D → Option (Key × D)
  | .tup [k, v] => (asKey k).map fun kk => (kk, v)
  | _ => none
def pairsD : List D → Option (List (Key × D))
  | [] => some []
  | d :: l => match pairD d, pairsD l with
    | some p, some ps => some (p :: ps)
    | _, _ => none
def dictO : D → Option D
  | .lst l => (pairsD l).map fun ps => .dk (mergeD [] ps)
  | _ => none
theorem kv_merge {F : Hp} : ∀ {more : List (Key × V)} {m : List (Key × D)} {kvs : List (Key × V)} {l : List (Key × D)}, more.map (·.1) = m.map (·.1) → Rps F (more.map (·.2)) (m.map (·.2)) → kvs.map (·.1) = l.map (·.1) → Rps F (kvs.map (·.2)) (l.map (·.2)) →
    (mergeK kvs more).map (·.1) = (mergeD l m).map (·.1) ∧ Rps F ((mergeK kvs more).map (·.2)) ((mergeD l m).map (·.2))
  | [], [], _, _, _, _, h, r => ⟨h, r⟩
  | [], _ :: _, _, _, h, _, _, _ => by cases h
  | _ :: _, [], _, _, h, _, _, _ => by cases h
  | p :: more, q :: m, kvs, l, h, r, h2, r2 => by
    rw [List.map_cons, List.map_cons] at h r
    injection h with h3 h4
    cases r with
    | cons ra rt =>
      obtain ⟨e1, e2⟩ := kv_put (k := p.1) ra h2 r2
      have := kv_merge h4 rt e1 e2
      rw [show mergeK kvs (p :: more) = mergeK (putK kvs p.1 p.2) more from rfl, show mergeD l (q :: m) = mergeD (putD l q.1 q.2) m from rfl, ← h3]
      exact this
theorem pairs_rp {K : PySem.W.Frag} {F H : Hp} (e : Ex F H) : ∀ {vs : List V} {ds : List D} {m : List (Key × D)}, Rps F vs ds → pairsD ds = some m → ∃ (ps : List Addr) (kvs : List (Key × V)), vs = ps.map V.ref ∧ Paired (fun p kv => SqT K H p [kV kv.1, kv.2]) ps kvs ∧ kvs.map (·.1) = m.map (·.1) ∧ Rps F (kvs.map (·.2)) (m.map (·.2))
  | _, _, _, .nil, h => by cases h; exact ⟨[], [], rfl, .nil, rfl, .nil⟩
  | _, _, _, .cons (d := d) (ds := ds) a r, h => by
    rw [pairsD] at h
    cases h1 : pairD d with
    | none => rw [h1] at h; cases h
    | some p =>
      cases h2 : pairsD ds with
      | none => rw [h1, h2] at h; cases h
      | some ps =>
        rw [h1, h2] at h
        cases h
        obtain ⟨as, kvs, rfl, g2, g3, g4⟩ := pairs_rp (K := K) e r h2
        cases a with
        | @tup b xs l hp ra =>
          match l, h1, ra with
          | [k, v], h1, ra =>
            obtain ⟨x, y, rfl, rx, ry⟩ := ra.inv2
            obtain ⟨kk, h5, rfl⟩ := Option.map_eq_some_iff.mp (show (asKey k).map _ = some p from h1)
            have := asKey_rp rx h5
            subst this
            exact ⟨b :: as, (kk, y) :: kvs, rfl, .cons (SqT.of (e _ _ hp)) g2, by rw [List.map_cons, List.map_cons, g3], .cons ry g4⟩
        | _ => cases h1
theorem dictS {K : PySem.W.Frag} : CbN .oK (fun xs H Q => ∃ (a : Addr) (ps : List Addr) (kvs : List (Key × V)), xs = [V.ref a] ∧ SqL K H a (ps.map V.ref) ∧ Paired (fun p kv => SqT K H p [kV kv.1, kv.2]) ps kvs ∧ ∀ p, H p = none → Q (.ref p) (upd H p (.dK (mergeK [] kvs)))) (fn1 dictO) := fun F H vs ds d Q e r ho q => by
  obtain ⟨a, rfl, h⟩ := fn1_inv ho
  obtain ⟨v, rfl, r1⟩ := r.inv1
  cases r1 with
  | @lst b xs l hp r3 =>
    obtain ⟨m, h1, rfl⟩ := Option.map_eq_some_iff.mp (show (pairsD l).map _ = some d from h)
    obtain ⟨ps, kvs, rfl, g2, g3, g4⟩ := pairs_rp (K := K) e r3 h1
    obtain ⟨e1, e2⟩ := kv_merge g3 g4 (kvs := []) (l := []) rfl .nil
    exact ⟨b, ps, kvs, rfl, SqL.of (e _ _ hp), g2, fun p hp' => q p F _ (St0.lay0 e hp') (.oK (e.new hp') upd_same e1 e2) hp'⟩
  | _ => cases h
section
variable {X : Cx} {G : Bags} {κ : List Kd} {fs : DA G} {p pos : Pos} {e : Expr} {es : List Expr}
theorem n_dict (hc : X.calm = true) (hg : Gl X "dict") (hm : X.mg "dict" = none) (ha : PA X (e :: es) (tAs G κ fs)) (he : starEach (e :: es) X.env = (false, eval e X.env) :: starEach es X.env := by rfl) (hpl : (backTo pos (starEach es X.env)).any (·.1) = false := by rfl) :
    PE X (.Call (.Name "dict" p) (e :: es) [] pos) (tFN G κ .oK (eFn (fn1 dictO) fs)) := n_ct (call_dictP hc) dictS hg hm (by decide +kernel) ha (by decide) (by decide) he hpl
theorem f_dict (hc : X.calm = true) (hg : Gl X "dict") (hm : X.mg "dict" = none) (ha : PA X (e :: es) (tAs G κ fs)) (he : starEach (e :: es) X.env = (false, eval e X.env) :: starEach es X.env := by rfl) (hpl : (backTo pos (starEach es X.env)).any (·.1) = false := by rfl) :
    PE X (.Call (.Name "dict" p) (e :: es) [] pos) (tF G κ (eFn (fn1 dictO) fs)) := f_frz (n_dict hc hg hm ha he hpl)

/-! ## list(range(a, b)) -/
def lrgO (o : List D → Option (List D)) (l : List D) : Option D := match o l with
  | some ds => if ds.length ≤ 16777216 then some (.lst ds) else none
  | none => none
theorem rgV_rp {F : Hp} (a b : Int) : Rps F (rgV a b) (rngD a (b - a).toNat) := by
  unfold rgV rngD
  generalize (b - a).toNat = n
  have go : ∀ l : List Nat, Rps F (l.map fun i => V.int (a + (i : Nat))) (l.map fun (k : Nat) => D.int (a + (k : Int))) := fun l => by
    induction l with
    | nil => exact .nil
    | cons x l ih => exact .cons (.int _) ih
  exact go _
theorem n_lrg2 {p' pos' : Pos} {a b : Expr} (hc : X.calm = true) (hg : Gl X "list") (hm : X.mg "list" = none) (hg' : Gl X "range") (hm' : X.mg "range" = none) (ha : PE X a (tF G κ f)) (hb : PE X b (tF G κ g)) (na : starEach [a, b] X.env = (false, eval a X.env) :: starEach [b] X.env := by rfl)
    (nb : starEach [b] X.env = (false, eval b X.env) :: starEach [] X.env := by rfl) (hp : (backTo pos' (starEach [b] X.env)).any (·.1) = false := by rfl) (nc : starEach [.Call (.Name "range" p') [a, b] [] pos'] X.env = (false, eval (.Call (.Name "range" p') [a, b] [] pos') X.env) :: starEach [] X.env := by rfl) :
    PE X (.Call (.Name "list" p) [.Call (.Name "range" p') [a, b] [] pos'] [] pos) (tFN G κ .oL (eFn (lrgO rng2O) (aCons f (aCons g aNil)))) :=
  PE.imp (pe_listRg hc hg hm (prg_2 hg' hm' ha hb na nb hp) nc) fun σ H Q ⟨i, F0, H0, F, ρ, s, d, s', A, h, q⟩ => by
    obtain ⟨l, s1, h1, h⟩ := bnd_inv h
    obtain ⟨h2, rfl⟩ := lft_inv h
    obtain ⟨x, s2, h3, h4⟩ := bnd_inv h1
    obtain ⟨l2, s3, h5, h6⟩ := bnd_inv h4
    obtain ⟨y, s4, h7, h8⟩ := bnd_inv h5
    obtain ⟨l3, s5, h9, h10⟩ := bnd_inv h8
    obtain ⟨rfl, rfl⟩ := ret_inv h9
    obtain ⟨rfl, rfl⟩ := ret_inv h10
    obtain ⟨rfl, rfl⟩ := ret_inv h6
    refine ⟨i, F0, H0, F, ρ, s, x, s2, A, h3, fun v F1 H1 t1 k1 r1 => ⟨i, F0, H0, F1, ρ, s2, y, s', A.step t1 k1, h7, fun w F2 H2 t2 k2 r2 => ?_⟩⟩
    cases x with
    | int lo =>
      cases y with
      | int hi =>
        simp only [lrgO, rng2O] at h2
        split at h2
        · rename_i ds hds
          split at hds
          · rename_i h62
            cases hds
            split at h2
            · rename_i hlen
              cases h2
              cases r1
              cases r2
              rw [rngD_length] at hlen
              simp only [in62, Bool.and_eq_true, decide_eq_true_eq] at h62
              refine ⟨lo, hi, rfl, rfl, ⟨h62.1.1, h62.1.2, h62.2.1, h62.2.2, by omega⟩, fun p' hp' => ?_⟩
              have t3 := St0.lay0 (o := .lst (rgV lo hi)) t2.fh hp'
              exact q p' F2 _ ((t1.trans t2).trans t3.any) (t3.ok k2) (.oL (t2.fh.new hp') upd_same (rgV_rp lo hi)) ((t1.trans t2).back hp')
            · cases h2
          · cases hds
        · cases h2
      | _ => cases h2
    | _ => cases h2
theorem n_lrg1 {p' pos' : Pos} {a : Expr} (hc : X.calm = true) (hg : Gl X "list") (hm : X.mg "list" = none) (hg' : Gl X "range") (hm' : X.mg "range" = none) (ha : PE X a (tF G κ f)) (na : starEach [a] X.env = (false, eval a X.env) :: starEach [] X.env := by rfl)
    (nc : starEach [.Call (.Name "range" p') [a] [] pos'] X.env = (false, eval (.Call (.Name "range" p') [a] [] pos') X.env) :: starEach [] X.env := by rfl) :
    PE X (.Call (.Name "list" p) [.Call (.Name "range" p') [a] [] pos'] [] pos) (tFN G κ .oL (eFn (lrgO rng1O) (aCons f aNil))) :=
  PE.imp (pe_listRg hc hg hm (prg_1 hg' hm' ha na) nc) fun σ H Q ⟨i, F0, H0, F, ρ, s, d, s', A, h, q⟩ => by
    obtain ⟨l, s1, h1, h⟩ := bnd_inv h
    obtain ⟨h2, rfl⟩ := lft_inv h
    obtain ⟨x, s2, h3, h4⟩ := bnd_inv h1
    obtain ⟨l3, s5, h9, h10⟩ := bnd_inv h4
    obtain ⟨rfl, rfl⟩ := ret_inv h9
    obtain ⟨rfl, rfl⟩ := ret_inv h10
    refine ⟨i, F0, H0, F, ρ, s, x, s', A, h3, fun v F1 H1 t1 k1 r1 => ?_⟩
    cases x with
    | int hi =>
      simp only [lrgO, rng1O] at h2
      split at h2
      · rename_i ds hds
        split at hds
        · rename_i h62
          cases hds
          split at h2
          · rename_i hlen
            cases h2
            cases r1
            rw [rngD_length] at hlen
            simp only [in62, Bool.and_eq_true, decide_eq_true_eq] at h62
            refine ⟨hi, rfl, ⟨by decide, by decide, h62.1, h62.2, by omega⟩, fun p' hp' => ?_⟩
            have t3 := St0.lay0 (o := .lst (rgV 0 hi)) t1.fh hp'
            have e := rgV_rp (F := F1) 0 hi
            rw [Int.sub_zero] at e
            exact q p' F1 _ (t1.trans t3.any) (t3.ok k1) (.oL (t1.fh.new hp') upd_same e) (t1.back hp')
          · cases h2
        · cases hds
      · cases h2
    | _ => cases h2
end
end Fx
namespace Fx
open PySem PySem.Spec L2

def cl (n : Nat) (sem : List D → Option D) : List D → Option D := fun ds => if ds.length = n then sem ds else none
def clB {S : Type} (n : Nat) (sem : List D → MS S D) : List D → MS S D := fun ds => if ds.length = n then sem ds else fun _ => none
def clK (m : Nat) (perm : List Nat) (n : Nat) (sem : List D → Option D) : List D → Option D := fun ds => if ds.length = m ∧ (pick perm ds).length = n then sem (pick perm ds) else none
theorem un1 {k : Nat} {A : Around} (r : Room k A) : A.units + 1 < cLine := by have := r.un; omega
theorem un65 {k : Nat} {A : Around} (r : Room k A) : A.units + 65 < cLine := by have := r.un; omega
section
variable {P : Program} {w : World} {K : PySem.W.Frag} {mg : Str → Option Value} {base : Heap} {k n : Nat} {x : Str} {st : Stmt} {ps : List Str} {f : Addr} {fd : FuncData}
/-- a def that promises nothing -/
theorem Def.none (F : FnP K x st f fd) (hm : mg x = some (.ref f)) (hb : BindP x st ps) : Def P w K mg base k x st ps (spP n fun _ => Option.none) := by
  have no : ∀ vs H Q E, ¬ spP n (fun _ => Option.none) vs H Q E := fun vs H Q E ⟨_, _, s, _, ds, d, s', _, _, _, _, _, _, e, _⟩ => by
    obtain ⟨e1, _⟩ := lft_inv (show lft (Option.none : Option D) s = some (d, s') from e)
    cases e1
  exact ⟨f, fd, F, hm, F.bindsN hb, ⟨fun vs H Q E h => (no _ _ _ _ h).elim, fun _ _ _ _ _ _ vs Q E _ _ _ _ h => (no _ _ _ _ h).elim⟩⟩
end

/-! ## the bag that numbers are drawn from: [cells, int, int, int] -/
abbrev DrS : Type := List Int × Int × Int × Int
def drV (q : Addr) (s : DrS) : List V := [.ref q, .int s.2.1, .int s.2.2.1, .int s.2.2.2]
structure DrOk (i : Addr × Addr) (s : DrS) (H : Hp) : Prop where
  ne : i.1 ≠ i.2
  top : H i.1 = some (.lst (drV i.2 s))
  cells : H i.2 = some (.lst (s.1.map V.int))
  big : s.1.length ≤ 16777216
abbrev GD : Bags where
  S := DrS
  I := Addr × Addr
  nv := 1
  vs i := [.ref i.1]
  hv _ := rfl
  dom i a := a = i.1 ∨ a = i.2
  Ok := DrOk
  frame h k := ⟨h.ne, (k _ (.inl rfl)).trans h.top, (k _ (.inr rfl)).trans h.cells, h.big⟩
  alloc h d := by
    rcases d with rfl | rfl
    · rw [h.top]; exact fun z => by cases z
    · rw [h.cells]; exact fun z => by cases z
  notup h d xs := by
    rcases d with rfl | rfl
    · rw [h.top]; exact fun z => by cases z
    · rw [h.cells]; exact fun z => by cases z
def eBag (sel : DrS → Int) : Env → MS DrS D := fun _ s => some (.int (sel s), s)
def ePop : Env → MS DrS D := fun _ s => match s.1 with
  | [] => none
  | c :: cs => some (.int c, (cs, s.2))
def putB (put : DrS → Int → DrS) : D → MS DrS Unit
  | .int n => fun s => some ((), put s n)
  | _ => fun _ => none
def sBag (put : DrS → Int → DrS) (f : Env → MS DrS D) : Env → MS DrS Out := fun ρ => bnd (f ρ) fun v => bnd (putB put v) fun _ => ret (.nx ρ)
theorem drop_at {α : Type} {l : List α} {m : Nat} {v : α} (h : l[m]? = some v) : atI l (m : Int) = some v := by
  have hl := (List.getElem?_eq_some_iff.mp h).1
  unfold atI ixN
  rw [if_pos (Int.natCast_nonneg m), if_pos (by omega)]
  simpa using h
/-- the bag's own objects are written -/
theorem GD_step {i : GD.I} {F H : Hp} {p : Addr} {o : HO} (e : Ex F H) (nd : ∀ a, GD.dom i a → F a = none) (hp : GD.dom i p) : Stp (GD.dom i) F H F (upd H p o) := by
  refine ⟨Ex.refl F, fun a u z => ?_, fun a u z hd => ?_, fun a hd z => ?_, fun a u z => .inl z⟩
  · rw [upd_ne (ne_of_none z (nd p hp))]; exact e a u z
  · rw [upd_ne (fun w => hd (by rw [w]; exact hp))]; exact z
  · by_cases w : a = p
    · subst w; rw [upd_same]; exact fun y => by cases y
    · rw [upd_ne w]; exact z
section
variable {X : Cx} {κ κL : List Kd} {j : Nat} {x : Str} {p1 p2 p3 : Pos} {c1 : Nat} {fe : DE GD} {e : Expr}
theorem tF_bag (m : Nat) (sel : DrS → Int) (hs : ∀ q s, (drV q s)[m]? = some (.int (sel s))) (hk : kdAt κ j = .bag 0) (σ : L2.St) (H : Hp) (Q : VK) : tF GD κ (eBag sel) σ H Q → tOp (rIxL X.K) (tVar j) (tC (.int (m : Int))) σ H Q := fun ⟨i, F0, H0, F, ρ, s, d, s', A, h, q⟩ => by
  cases h
  exact ⟨_, A.bagv j 0 _ hk rfl, i.1, _, (m : Int), .int (sel s), rfl, rfl, SqL.of A.ok.top, drop_at (hs _ _), q _ F H (Stp.refl A.fh) A.ok (.int _)⟩
theorem b_get1 (hN : X.N[j]? = some x := by rfl) (hk : kdAt κ j = .bag 0 := by rfl) (hv : Vis X.env.scope x := by first | exact Or.inl rfl | exact Or.inr (Or.inl rfl) | exact Or.inr (Or.inr rfl))
    (hd : (x == ("__debug__" : Str)) = false := by decide) (hcd : (x == ("__classdict__" : Str)) = false := by decide) : PE X (.Subscript (.Name x p1) (.Constant (.int 1) c1 p2) p3) (tF GD κ (eBag fun s => s.2.1)) :=
  PE.imp (pe_ix ix_list (pe_var hN hv hd hcd) pe_int (fun _ _ => rfl)) (tF_bag 1 _ (fun _ _ => rfl) hk)
theorem b_get2 (hN : X.N[j]? = some x := by rfl) (hk : kdAt κ j = .bag 0 := by rfl) (hv : Vis X.env.scope x := by first | exact Or.inl rfl | exact Or.inr (Or.inl rfl) | exact Or.inr (Or.inr rfl))
    (hd : (x == ("__debug__" : Str)) = false := by decide) (hcd : (x == ("__classdict__" : Str)) = false := by decide) : PE X (.Subscript (.Name x p1) (.Constant (.int 2) c1 p2) p3) (tF GD κ (eBag fun s => s.2.2.1)) :=
  PE.imp (pe_ix ix_list (pe_var hN hv hd hcd) pe_int (fun _ _ => rfl)) (tF_bag 2 _ (fun _ _ => rfl) hk)
theorem b_get3 (hN : X.N[j]? = some x := by rfl) (hk : kdAt κ j = .bag 0 := by rfl) (hv : Vis X.env.scope x := by first | exact Or.inl rfl | exact Or.inr (Or.inl rfl) | exact Or.inr (Or.inr rfl))
    (hd : (x == ("__debug__" : Str)) = false := by decide) (hcd : (x == ("__classdict__" : Str)) = false := by decide) : PE X (.Subscript (.Name x p1) (.Constant (.int 3) c1 p2) p3) (tF GD κ (eBag fun s => s.2.2.2)) :=
  PE.imp (pe_ix ix_list (pe_var hN hv hd hcd) pe_int (fun _ _ => rfl)) (tF_bag 3 _ (fun _ _ => rfl) hk)
/-- len(src[0]) -/
theorem b_len {pl pos : Pos} (hg : Gl X "len") (hm : X.mg "len" = none) (hN : X.N[j]? = some x := by rfl) (hk : kdAt κ j = .bag 0 := by rfl) (hv : Vis X.env.scope x := by first | exact Or.inl rfl | exact Or.inr (Or.inl rfl) | exact Or.inr (Or.inr rfl))
    (hd : (x == ("__debug__" : Str)) = false := by decide) (hcd : (x == ("__classdict__" : Str)) = false := by decide) (he : starEach [.Subscript (.Name x p1) (.Constant (.int 0) c1 p2) p3] X.env = (false, eval (.Subscript (.Name x p1) (.Constant (.int 0) c1 p2) p3) X.env) :: starEach [] X.env := by rfl) :
    PE X (.Call (.Name "len" pl) [.Subscript (.Name x p1) (.Constant (.int 0) c1 p2) p3] [] pos) (tF GD κ (eBag fun s => (s.1.length : Int))) :=
  PE.imp (pe_callB call_len_seq hg hm PySem.boot_len (pa_cons (pe_ix ix_list (pe_var hN hv hd hcd) pe_int (fun _ _ => rfl)) pa_nil he) (by decide) (by decide) he) fun σ H Q ⟨i, F0, H0, F, ρ, s, d, s', A, h, q⟩ => by
    cases h
    refine ⟨_, A.bagv j 0 _ hk rfl, i.1, _, ((0 : Nat) : Int), .ref i.2, rfl, rfl, SqL.of A.ok.top, drop_at (l := drV i.2 s) (m := 0) rfl, i.2, _, rfl, .inl (SqL.of A.ok.cells), ?_⟩
    rw [List.length_map]
    exact q _ F H (Stp.refl A.fh) A.ok (.int _)
/-- src[0].pop(0) -/
theorem b_pop {apos cpos p4 : Pos} {c2 : Nat} (hN : X.N[j]? = some x := by rfl) (hk : kdAt κ j = .bag 0 := by rfl) (hv : Vis X.env.scope x := by first | exact Or.inl rfl | exact Or.inr (Or.inl rfl) | exact Or.inr (Or.inr rfl))
    (hd : (x == ("__debug__" : Str)) = false := by decide) (hcd : (x == ("__classdict__" : Str)) = false := by decide)
    (hbase : attributeBase (.Subscript (.Name x p1) (.Constant (.int 0) c1 p2) p3) "pop" X.env (eval (.Subscript (.Name x p1) (.Constant (.int 0) c1 p2) p3) X.env) = eval (.Subscript (.Name x p1) (.Constant (.int 0) c1 p2) p3) X.env := by rfl)
    (hfew : ((backTo cpos (starEach [.Constant (.int 0) c2 p4] X.env)).all (fun x => !x.1) && (backToKw cpos (keywordEach [] X.env)).all (fun x => x.1.isSome)
      && decide (([.Constant (.int 0) c2 p4] : List Expr).length + ([] : List Keyword).length + (if ([] : List Keyword).isEmpty then 0 else 1) < 30)) = true := by rfl)
    (hline : (apos.endLine == cpos.line) = true := by rfl) (hst : starEach [.Constant (.int 0) c2 p4] X.env = (false, eval (.Constant (.int 0) c2 p4) X.env) :: starEach [] X.env := by rfl) (hplain : (backTo cpos (starEach [] X.env)).any (·.1) = false := by rfl) :
    PE X (.Call (.Attribute (.Subscript (.Name x p1) (.Constant (.int 0) c1 p2) p3) "pop" apos) [.Constant (.int 0) c2 p4] [] cpos) (tF GD κ ePop) :=
  PE.imp (pe_bm PySem.F.plainAttrs_list PySem.F.slot_list_pop PySem.F.type_list_pop mt_popAt (pe_ix ix_list (pe_var hN hv hd hcd) pe_int (fun _ _ => rfl)) (pa_cons pe_int pa_nil hst) hbase hfew hline hst hplain) fun σ H Q ⟨i, F0, H0, F, ρ, s, d, s', A, h, q⟩ => by
    obtain ⟨cells, r⟩ := s
    cases cells with
    | nil => cases h
    | cons c cs =>
      cases h
      refine ⟨_, A.bagv j 0 _ hk rfl, i.1, _, ((0 : Nat) : Int), .ref i.2, rfl, rfl, SqL.of A.ok.top, drop_at (l := drV i.2 (c :: cs, r)) (m := 0) rfl, .inl ⟨rfl, _, SqL.of A.ok.cells⟩, i.2, _, 0, 0, .int c, rfl, rfl, A.ok.cells, by decide, by decide, ?_, rfl, ?_⟩
      · unfold seqIndex?
        simp
      · have hd : GD.dom i i.2 := .inr rfl
        refine q _ F _ (GD_step A.fh A.nd hd) ⟨A.ok.ne, ?_, upd_same, ?_⟩ (.int _)
        · rw [upd_ne A.ok.ne]; exact A.ok.top
        · have := A.ok.big
          simp only [List.length_cons] at this
          show cs.length ≤ _
          omega
/-- src[k] = e -/
theorem tS_bag {st : Stmt} {t : TS} (m : Nat) (put : DrS → Int → DrS) (hs : ∀ q s n, (drV q s).set m (.int n) = drV q (put s n) ∧ (put s n).1 = s.1) (hm : m < 4) (hk : kdAt κ j = .bag 0) (h : PS X st t)
    (ht : ∀ D σ H, tF GD κ fe σ H (fun v H1 => ∃ o, σ[j]? = some (some o) ∧ rSetL o (.int (m : Int)) v H1 fun H2 => D.nx σ H2) → t D σ H) : PS X st (tS GD κ κ κL (sBag put fe)) := PS.imp h fun D σ H ⟨i, F0, H0, F, ρ, s, oo, s', A, h, q⟩ => by
  obtain ⟨v, s1, h1, h⟩ := bnd_inv h
  obtain ⟨u, s2, h2, h3⟩ := bnd_inv h
  obtain ⟨rfl, rfl⟩ := ret_inv h3
  cases v with
  | int n =>
    cases h2
    refine ht D σ H ⟨i, F0, H0, F, ρ, s, .int n, s1, A, h1, fun v F1 H1 t1 k1 r1 => ?_⟩
    cases r1
    have A1 := A.step t1 k1
    refine ⟨_, A1.bagv j 0 _ hk rfl, i.1, drV i.2 s1, (m : Int), m, rfl, rfl, k1.top, ?_, ?_⟩
    · show ixN 4 (m : Int) = some m
      unfold ixN
      rw [if_pos (Int.natCast_nonneg m), if_pos (by omega)]
      simp
    · have hd : GD.dom i i.1 := .inl rfl
      refine q σ F1 _ (A1.step (GD_step A1.fh A1.nd hd) ⟨k1.ne, ?_, ?_, ?_⟩)
      · rw [(hs i.2 s1 n).1]; exact upd_same
      · rw [upd_ne (Ne.symm k1.ne), (hs i.2 s1 n).2]; exact k1.cells
      · rw [(hs i.2 s1 n).2]; exact k1.big
  | _ => cases h2
theorem b_set {c1 : Nat} {pos p' : Pos} (m : Nat) (put : DrS → Int → DrS) (hs : ∀ q s n, (drV q s).set m (.int n) = drV q (put s n) ∧ (put s n).1 = s.1) (hm : m < 4) (he : PE X e (tF GD κ fe)) (hg : PG X (.Subscript (.Name x p1) (.Constant (.int (m : Int)) c1 p2) p') (gSub (tVar j) (tC (.int (m : Int))) rSetL))
    (hk : kdAt κ j = .bag 0 := by rfl) (hsw : swapsWithSole [.Subscript (.Name x p1) (.Constant (.int (m : Int)) c1 p2) p'] e pos.line X.env = pure false := by rfl) (hw : swappedStores [.Subscript (.Name x p1) (.Constant (.int (m : Int)) c1 p2) p'] e X.env = pure none := by rfl)
    (h1 : (assignEach [.Subscript (.Name x p1) (.Constant (.int (m : Int)) c1 p2) p'] X.env).map (·.2) = [assign (.Subscript (.Name x p1) (.Constant (.int (m : Int)) c1 p2) p') X.env] := by rfl) :
    PS X (.Assign [.Subscript (.Name x p1) (.Constant (.int (m : Int)) c1 p2) p'] e pos) (tS GD κ κ κL (sBag put fe)) :=
  tS_bag m put hs hm hk (ps_asg he hg hsw hw h1) fun D σ H ⟨i, F0, H0, F, ρ, s, d, s', A, h, q⟩ => ⟨i, F0, H0, F, ρ, s, d, s', A, h, fun v F' H' t k r => q v F' H' t k r⟩
abbrev put1 : DrS → Int → DrS := fun s n => (s.1, n, s.2.2.1, s.2.2.2)
abbrev put2 : DrS → Int → DrS := fun s n => (s.1, s.2.1, n, s.2.2.2)
abbrev put3 : DrS → Int → DrS := fun s n => (s.1, s.2.1, s.2.2.1, n)
theorem b_set1 {c1 : Nat} {pos p' : Pos} (he : PE X e (tF GD κ fe)) (hg : PG X (.Subscript (.Name x p1) (.Constant (.int 1) c1 p2) p') (gSub (tVar j) (tC (.int 1)) rSetL))
    (hk : kdAt κ j = .bag 0 := by rfl) (hsw : swapsWithSole [.Subscript (.Name x p1) (.Constant (.int 1) c1 p2) p'] e pos.line X.env = pure false := by rfl) (hw : swappedStores [.Subscript (.Name x p1) (.Constant (.int 1) c1 p2) p'] e X.env = pure none := by rfl)
    (h1 : (assignEach [.Subscript (.Name x p1) (.Constant (.int 1) c1 p2) p'] X.env).map (·.2) = [assign (.Subscript (.Name x p1) (.Constant (.int 1) c1 p2) p') X.env] := by rfl) :
    PS X (.Assign [.Subscript (.Name x p1) (.Constant (.int 1) c1 p2) p'] e pos) (tS GD κ κ κL (sBag put1 fe)) := b_set 1 put1 (fun _ _ _ => ⟨rfl, rfl⟩) (by decide) he hg hk hsw hw h1
theorem b_set2 {c1 : Nat} {pos p' : Pos} (he : PE X e (tF GD κ fe)) (hg : PG X (.Subscript (.Name x p1) (.Constant (.int 2) c1 p2) p') (gSub (tVar j) (tC (.int 2)) rSetL))
    (hk : kdAt κ j = .bag 0 := by rfl) (hsw : swapsWithSole [.Subscript (.Name x p1) (.Constant (.int 2) c1 p2) p'] e pos.line X.env = pure false := by rfl) (hw : swappedStores [.Subscript (.Name x p1) (.Constant (.int 2) c1 p2) p'] e X.env = pure none := by rfl)
    (h1 : (assignEach [.Subscript (.Name x p1) (.Constant (.int 2) c1 p2) p'] X.env).map (·.2) = [assign (.Subscript (.Name x p1) (.Constant (.int 2) c1 p2) p') X.env] := by rfl) :
    PS X (.Assign [.Subscript (.Name x p1) (.Constant (.int 2) c1 p2) p'] e pos) (tS GD κ κ κL (sBag put2 fe)) := b_set 2 put2 (fun _ _ _ => ⟨rfl, rfl⟩) (by decide) he hg hk hsw hw h1
theorem b_set3 {c1 : Nat} {pos p' : Pos} (he : PE X e (tF GD κ fe)) (hg : PG X (.Subscript (.Name x p1) (.Constant (.int 3) c1 p2) p') (gSub (tVar j) (tC (.int 3)) rSetL))
    (hk : kdAt κ j = .bag 0 := by rfl) (hsw : swapsWithSole [.Subscript (.Name x p1) (.Constant (.int 3) c1 p2) p'] e pos.line X.env = pure false := by rfl) (hw : swappedStores [.Subscript (.Name x p1) (.Constant (.int 3) c1 p2) p'] e X.env = pure none := by rfl)
    (h1 : (assignEach [.Subscript (.Name x p1) (.Constant (.int 3) c1 p2) p'] X.env).map (·.2) = [assign (.Subscript (.Name x p1) (.Constant (.int 3) c1 p2) p') X.env] := by rfl) :
    PS X (.Assign [.Subscript (.Name x p1) (.Constant (.int 3) c1 p2) p'] e pos) (tS GD κ κ κL (sBag put3 fe)) := b_set 3 put3 (fun _ _ _ => ⟨rfl, rfl⟩) (by decide) he hg hk hsw hw h1
end
end Fx
namespace Fx
open PySem PySem.Spec L2

/-! ## law(script): src = [list(script), 0, 0, 1 + len(script)], then a body with the bag -/
def spLaw (K : PySem.W.Frag) : Sp := fun vs H Q _ => ∃ (a : Addr) (ns : List Int), vs = [.ref a] ∧ SqL K H a (ns.map V.int) ∧ ns.length ≤ 16777216 ∧ ∀ H', Q (.bl true) H'
def tSt (K : PySem.W.Frag) (j : Nat) : TS := fun D σ H => ∃ (a : Addr) (ns : List Int), σ[0]? = some (some (.ref a)) ∧ SqL K H a (ns.map V.int) ∧
  ∀ p q, p ≠ q → H p = none → H q = none → D.nx (σ.set j (some (.ref p))) (upd (upd H q (.lst (ns.map V.int))) p (.lst (drV q (ns, 0, 0, 1 + (ns.length : Int)))))
theorem sqL_upd {K : PySem.W.Frag} {H : Hp} {a q : Addr} {xs : List V} {o : HO} (h : SqL K H a xs) (hq : H q = none) : SqL K (upd H q o) a xs := h.elim (fun h => .inl (Ex.rd (F := H) (fun b u z => by rw [upd_ne (ne_of_none z hq)]; exact z) h)) .inr
section
variable {X : Cx}
theorem s_start {j : Nat} {y : Str} {p1 p2 p3 p4 p5 p6 p7 p8 p9 p10 p11 p12 : Pos} {c1 c2 c3 : Nat} (hN : X.N.Nodup) (hi0 : X.N[0]? = some ("script" : Str)) (hi : X.N[j]? = some y) (hv : Vis X.env.scope "script") (gl : Gl X "list") (ml : X.mg "list" = none) (gn : Gl X "len") (mn : X.mg "len" = none) (hx : Loc X.env.scope y)
    (hf : X.fn y = true ∨ X.env.scope.names.lookup y = some .local)
    (hs : swapsWith (.List [.Call (.Name "list" p1) [.Name "script" p2] [] p3, .Constant (.int 0) c1 p4, .Constant (.int 0) c2 p5, .BinOp (.Constant (.int 1) c3 p6) .Add (.Call (.Name "len" p7) [.Name "script" p8] [] p9) p10] p11) (some (.Name y p12)) pos.line X.env = pure false := by rfl) :
    PS X (.Assign [.Name y p12] (.List [.Call (.Name "list" p1) [.Name "script" p2] [] p3, .Constant (.int 0) c1 p4, .Constant (.int 0) c2 p5, .BinOp (.Constant (.int 1) c3 p6) .Add (.Call (.Name "len" p7) [.Name "script" p8] [] p9) p10] p11) pos) (tSt X.K j) :=
  PS.imp (ps_set hN hi hx (pe_lst (pa_cons (pe_callTy call_list_of gl ml (by decide +kernel) (pa_cons (pe_var hi0 hv) pa_nil)) (pa_cons pe_int (pa_cons pe_int (pa_cons (pe_op op_add pe_int (pe_callB call_len_seq gn mn PySem.boot_len (pa_cons (pe_var hi0 hv) pa_nil))) pa_nil))))) hs hf) fun D σ H ⟨a, ns, h0, hS, q⟩ => by
    refine ⟨_, h0, a, _, rfl, .inl hS, fun l hl => ?_⟩
    refine ⟨_, h0, a, _, rfl, .inl (sqL_upd hS hl), _, _, rfl, rfl, ?_⟩
    refine ⟨by show 4 ≤ sizeLine; decide, fun p hp => ?_⟩
    have ne : p ≠ l := fun z => by subst z; rw [upd_same] at hp; cases hp
    have hp' : H p = none := by rw [upd_ne ne] at hp; exact hp
    have := q p l ne hp' hl
    rw [← List.length_map (f := V.int)] at this
    exact this
end
section
variable {P : Program} {w : World} {K : PySem.W.Frag} {mg : Str → Option Value} {base : Heap} {k : Nat} {x : Str} {st s0 : Stmt} {rest : List Stmt} {N : List Str} {κ κ' κL : List Kd} {f : Addr} {fd : FuncData} {den : DS GD} {j : Nat}
/-- only slot j is the bag -/
def kdL (j : Nat) (κ : List Kd) : Bool := (List.range κ.length).all fun m => if m = j then decide (kdAt κ m = .bag 0) else decide (kdAt κ m = .val)
theorem kdL_at {j : Nat} {κ : List Kd} (h : kdL j κ = true) (m : Nat) : (m = j ∧ kdAt κ m = .bag 0) ∨ kdAt κ m = .val := by
  by_cases hm : m < κ.length
  · have := List.all_eq_true.mp h m (List.mem_range.mpr hm)
    by_cases e : m = j
    · rw [if_pos e] at this; exact .inl ⟨e, of_decide_eq_true this⟩
    · rw [if_neg e] at this; exact .inr (of_decide_eq_true this)
  · exact .inr (kdAt_big (by omega))
theorem law_fn (F : FnP K x st f fd) (S : FnScope N ["script"] (defScope st)) (hk : kdL j κ = true) (hj : j < N.length) (hj0 : j ≠ 0) (hb : defBody st = s0 :: rest)
    (h0 : ∀ (cdv : Value) (A : Around) (outer : List PySem.Env) (s : Shared) (H : Hp) (E : XK), Room k (A.deeper (PyProof.Rows.envOfC x (defScope st) s.heap.objs.size f cdv)) → PS (cxOf CX0 P w K mg base N x (defScope st) f cdv A outer s H E).nox s0 (tSt K j))
    (h1 : ∀ (cdv : Value) (A : Around) (outer : List PySem.Env) (s : Shared) (H : Hp) (E : XK), Room k (A.deeper (PyProof.Rows.envOfC x (defScope st) s.heap.objs.size f cdv)) → PSs (cxOf CX0 P w K mg base N x (defScope st) f cdv A outer s H E).nox rest (tS GD κ κ' κL den))
    (ht : ∀ s : DrS, s.1.length ≤ 16777216 → ∃ s', den (List.replicate N.length none) s = some (.rt (.bl true), s')) : FnOk P w K mg base CX0 (k + 1) f fd ["script"] (spLaw K) := by
  refine F.ok S (fun vs H Q E h => ?_) (fun cdv A outer s H vs Q E hr h => ⟨tSeq (tSt K j) (tS GD κ κ' κL den), PSs.nox ?_, ?_⟩)
  · obtain ⟨a, ns, rfl, _⟩ := h
    rfl
  · rw [hb]
    exact pss_cons (h0 cdv A outer s H E hr) (h1 cdv A outer s H E hr)
  · obtain ⟨a, ns, rfl, hS, hl, hQ⟩ := h
    have hp : N.take 1 = [("script" : Str)] := S.pre
    have hN : ∃ N', N = ("script" : Str) :: N' := by
      match N, hp with
      | y :: N', hp => exact ⟨N', by simpa using hp⟩
    obtain ⟨N', rfl⟩ := hN
    have hst : L2.start (("script" : Str) :: N') [V.ref a] = some (.ref a) :: List.replicate N'.length none := by
      unfold L2.start; simp
    refine ⟨a, ns, by rw [hst]; rfl, hS, fun p q hne hp hq => ?_⟩
    obtain ⟨s', e⟩ := ht (ns, 0, 0, 1 + (ns.length : Int)) hl
    have noD : ∀ (m : Nat) (d : D), (List.replicate (("script" : Str) :: N').length none : Fx.Env)[m]? ≠ some (some d) := fun m d z => by
      rw [List.getElem?_replicate] at z
      split at z <;> cases z
    refine ⟨(p, q), fun _ => none, fun _ => none, fun _ => none, List.replicate (("script" : Str) :: N').length none, (ns, 0, 0, 1 + (ns.length : Int)), _, s', ?_, e, fun v F' H' fin r => ?_⟩
    · refine { fh := fun _ _ z => (by cases z), nd := fun _ _ => rfl, ok := ⟨hne, upd_same, ?_, hl⟩, len := ?_, val := fun m d z => absurd z (noD m d), own := fun m d z => absurd z (noD m d), apart := fun m l b d e' _ _ _ z => absurd z (noD m d), bagv := fun m l v z1 z2 => ?_, base := Ex.refl _, keep := fun _ _ z => (by cases z), kept := fun _ z => absurd rfl z, new := fun _ _ z => (by cases z) }
      · show upd (upd H q _) p _ q = _
        rw [upd_ne (Ne.symm hne), upd_same]
      · rw [hst]; simp
      · rcases kdL_at hk m with ⟨rfl, h2⟩ | h2
        · rw [h2] at z1
          cases z1
          cases z2
          rw [List.getElem?_set_self (by rw [hst]; simpa using hj)]
        · rw [h2] at z1; cases z1
    · cases r
      exact hQ H'
end
end Fx
namespace Fx
open PySem PySem.Spec L2
/-! ## a new dict is walked: it is locked for good -/
def tLockN (t : TE) : TE := fun σ H Q => t σ H fun x H1 => ∃ d u, x = .ref d ∧ H1 d = some u ∧ Mut (some u) ∧ ∀ od, Q x (upd H1 d (.frz od u))
section
variable {X : Cx} {G : Bags} {κ : List Kd} {f : DE G} {e tg : Expr}
theorem pe_lockN {t : TE} (h : PE X e t) : PE X e (tLockN t) := by
  refine ⟨fun pins s σ H Q I hw => ?_⟩
  refine thn (h.run pins s σ H _ I hw) fun v s1 ⟨x, H1, I1, r, d, u, ex, hd, mu, q⟩ => ?_
  obtain ⟨od, I2⟩ := I1.lock hd mu
  exact ⟨x, _, I2, r, q od⟩
def iNew {S : Type} (f : Env → MS S D) : Env → MS S (List D) := fun ρ => bnd (f ρ) fun d => lft (iKeysD d)
theorem i_newK (he : PE X e (tFN G κ .oK f)) : PI X tg e (tI G κ (iNew f)) := PI.imp (pi_keys (pe_lockN he)) fun σ H R ⟨i, F0, H0, F, ρ, s, ds, s', A, h, q⟩ => by
  obtain ⟨d, s1, h1, h2⟩ := bnd_inv h
  obtain ⟨h3, rfl⟩ := lft_inv h2
  refine ⟨i, F0, H0, F, ρ, s, d, s', A, h1, fun a F' H' t k ow hn => ?_⟩
  cases ow with
  | @oK kvs l hf hh hq r =>
    cases h3
    have nd : ¬ G.dom i a := fun z => G.alloc A.ok z hn
    have fa : F a = none := A.fh.new hn
    refine ⟨a, .dK kvs, rfl, hh, trivial, fun od => ⟨a, od, rfl, .inl ⟨kvs, upd_same, q (Itk a od kvs) (upd F' a (.frz od (.dK kvs))) _ ⟨fun b u z => ?_, fun b u z => ?_, fun b u z hd => ?_, fun b hd z => ?_, fun b u z => ?_⟩ (G.frame k fun b hb => upd_ne fun z => nd (by rw [← z]; exact hb)) (yl_keys upd_same hq)⟩⟩⟩
    · rw [upd_ne (ne_of_none z fa)]; exact t.ff b u z
    · by_cases y : b = a
      · subst y; rw [upd_same] at z ⊢; exact z
      · rw [upd_ne y] at z ⊢; exact t.fh b u z
    · rw [upd_ne (ne_of_none z hn)]; exact t.kp b u z hd
    · by_cases y : b = a
      · subst y; rw [upd_same]; exact fun z => by cases z
      · rw [upd_ne y]; exact t.dm b hd z
    · by_cases y : b = a
      · subst y; exact .inr (.inl hn)
      · rw [upd_ne y] at z; exact t.nw b u z
end
@[simp] theorem m_inew {S : Type} (f : Env → MS S D) (ρ : Env) : iNew f ρ = bnd (f ρ) fun d => lft (iKeysD d) := (rfl)
end Fx
namespace Fx
open PySem PySem.Spec L2

/-! ## reckoning with the plain functions -/
section
variable {S α β γ : Type} {ρ : Env}
@[simp] theorem m_bnd_ret (a : α) (k : α → MS S β) : bnd (ret a) k = k a := (rfl)
@[simp] theorem m_lft_some (a : α) : (lft (some a) : MS S α) = ret a := (rfl)
@[simp] theorem m_bnd_bnd (x : MS S α) (k : α → MS S β) (l : β → MS S γ) : bnd (bnd x k) l = bnd x fun a => bnd (k a) l := by
  funext s
  unfold bnd
  cases x s <;> rfl
@[simp] theorem m_bnd_if (c : Prop) [Decidable c] (x y : MS S α) (k : α → MS S β) : bnd (if c then x else y) k = if c then bnd x k else bnd y k := by
  split <;> rfl
@[simp] theorem m_var (j : Nat) : (eVar j : Env → MS S D) ρ = lft (ρ.getD j none) := (rfl)
@[simp] theorem m_c (d : D) : (eC d : Env → MS S D) ρ = ret d := (rfl)
@[simp] theorem m_op (o : D → D → Option D) (f g : Env → MS S D) : eOp o f g ρ = bnd (f ρ) fun a => bnd (g ρ) fun b => lft (o a b) := (rfl)
@[simp] theorem m_un (o : D → Option D) (f : Env → MS S D) : eUn o f ρ = bnd (f ρ) fun a => lft (o a) := (rfl)
@[simp] theorem m_cmp (o : D → D → Option Bool) (f g : Env → MS S D) : eCmp o f g ρ = bnd (f ρ) fun a => bnd (g ρ) fun b => lft ((o a b).map D.bl) := (rfl)
@[simp] theorem m_ccmp (o : D → D → Option Bool) (f g : Env → MS S D) : cCmp o f g ρ = bnd (f ρ) fun a => bnd (g ρ) fun b => lft (o a b) := (rfl)
@[simp] theorem m_chain (o o' : D → D → Option Bool) (f g h : Env → MS S D) : cChain o o' f g h ρ = bnd (f ρ) fun a => bnd (g ρ) fun b => bnd (lft (o a b)) fun k => if k then bnd (h ρ) fun c => lft (o' b c) else ret false := (rfl)
@[simp] theorem m_and (f g : Env → MS S Bool) : cAnd f g ρ = bnd (f ρ) fun b => if b then g ρ else ret false := (rfl)
@[simp] theorem m_or (f g : Env → MS S Bool) : cOr f g ρ = bnd (f ρ) fun b => if b then ret true else g ρ := (rfl)
@[simp] theorem m_not (f : Env → MS S Bool) : cNot f ρ = bnd (f ρ) fun b => ret (!b) := (rfl)
@[simp] theorem m_tru (f : Env → MS S D) : cTru f ρ = bnd (f ρ) fun a => lft (truD a) := (rfl)
@[simp] theorem m_eand (f g : Env → MS S D) : eAnd f g ρ = bnd (f ρ) fun a => bnd (lft (boolD a)) fun b => if b then g ρ else ret (.bl false) := (rfl)
@[simp] theorem m_eor (f g : Env → MS S D) : eOr f g ρ = bnd (f ρ) fun a => bnd (lft (boolD a)) fun b => if b then ret (.bl true) else g ρ := (rfl)
@[simp] theorem m_if (c : Env → MS S Bool) (f g : Env → MS S D) : eIf c f g ρ = bnd (c ρ) fun b => if b then f ρ else g ρ := (rfl)
@[simp] theorem m_anil : (aNil : Env → MS S (List D)) ρ = ret [] := (rfl)
@[simp] theorem m_acons (f : Env → MS S D) (g : Env → MS S (List D)) : aCons f g ρ = bnd (f ρ) fun a => bnd (g ρ) fun l => ret (a :: l) := (rfl)
@[simp] theorem m_tup (f : Env → MS S (List D)) : eTup f ρ = bnd (f ρ) fun l => lft (if l.length ≤ 16777216 then some (.tup l) else none) := (rfl)
@[simp] theorem m_lst (f : Env → MS S (List D)) : eLst f ρ = bnd (f ρ) fun l => lft (if l.length ≤ 16777216 then some (.lst l) else none) := (rfl)
@[simp] theorem m_fn (o : List D → Option D) (f : Env → MS S (List D)) : eFn o f ρ = bnd (f ρ) fun l => lft (o l) := (rfl)
@[simp] theorem m_fn1 (o : D → Option D) (d : D) : fn1 o [d] = o d := (rfl)
@[simp] theorem m_fn2 (o : D → D → Option D) (d e : D) : fn2 o [d, e] = o d e := (rfl)
@[simp] theorem m_callB (sem : List D → MS S D) (f : Env → MS S (List D)) : eCallB sem f ρ = bnd (f ρ) sem := (rfl)
@[simp] theorem m_scal (f : Env → MS S D) : eScal f ρ = bnd (f ρ) fun d => lft (if scalD d then some d else none) := (rfl)
@[simp] theorem m_get2 (f g h : Env → MS S D) : eGet2 f g h ρ = bnd (f ρ) fun d => bnd (g ρ) fun e => bnd (h ρ) fun x => lft ((getO d e).map fun o => o.getD x) := (rfl)
@[simp] theorem m_onone : (oNone : Env → MS S (Option Int)) ρ = ret none := (rfl)
@[simp] theorem m_osome (f : Env → MS S D) : oSome f ρ = bnd (f ρ) fun d => (match d with
  | .int i => ret (some i)
  | _ => fun _ => none) := (rfl)
@[simp] theorem m_sl (f : Env → MS S D) (l h : Env → MS S (Option Int)) : eSl f l h ρ = bnd (f ρ) fun d => bnd (l ρ) fun lo => bnd (h ρ) fun hi => lft (slO d lo hi) := (rfl)
@[simp] theorem m_disp1 (f g : Env → MS S D) : eDisp1 f g ρ = bnd (f ρ) fun k => bnd (g ρ) fun v => lft ((asKey k).map fun kk => .dk [(kk, v)]) := (rfl)
@[simp] theorem m_snil : (sNil : Env → MS S Out) ρ = ret (.nx ρ) := (rfl)
@[simp] theorem m_seq (f g : Env → MS S Out) : sSeq f g ρ = bnd (f ρ) (seqK g) := (rfl)
@[simp] theorem m_k1 (g : Env → MS S Out) : seqK g (.nx ρ) = g ρ := (rfl)
@[simp] theorem m_k2 (g : Env → MS S Out) (d : D) : seqK g (.rt d) = ret (.rt d) := (rfl)
@[simp] theorem m_k3 (g : Env → MS S Out) : seqK g (.bk ρ) = ret (.bk ρ) := (rfl)
@[simp] theorem m_k4 (g : Env → MS S Out) : seqK g (.ct ρ) = ret (.ct ρ) := (rfl)
@[simp] theorem m_f1 (g : Env → MS S Out) : forK g (.nx ρ) = g ρ := (rfl)
@[simp] theorem m_f2 (g : Env → MS S Out) (d : D) : forK g (.rt d) = ret (.rt d) := (rfl)
@[simp] theorem m_f3 (g : Env → MS S Out) : forK g (.bk ρ) = ret (.nx ρ) := (rfl)
@[simp] theorem m_f4 (g : Env → MS S Out) : forK g (.ct ρ) = g ρ := (rfl)
@[simp] theorem m_e1 (d : D) : (endK (.rt d) : MS S D) = ret d := (rfl)
@[simp] theorem m_e2 : (endK (.nx ρ) : MS S D) = ret .non := (rfl)
@[simp] theorem m_sret (f : Env → MS S D) : sRet f ρ = bnd (f ρ) fun d => ret (.rt d) := (rfl)
@[simp] theorem m_sdrop (f : Env → MS S D) : sDrop f ρ = bnd (f ρ) fun _ => ret (.nx ρ) := (rfl)
@[simp] theorem m_asg (j : Nat) (f : Env → MS S D) : sAsg j f ρ = bnd (f ρ) fun d => ret (.nx (ρ.set j (some d))) := (rfl)
@[simp] theorem m_sif (c : Env → MS S Bool) (f g : Env → MS S Out) : sIf c f g ρ = bnd (c ρ) fun b => if b then f ρ else g ρ := (rfl)
@[simp] theorem m_brk : (sBrk : Env → MS S Out) ρ = ret (.bk ρ) := (rfl)
@[simp] theorem m_ctn : (sCtn : Env → MS S Out) ρ = ret (.ct ρ) := (rfl)
@[simp] theorem m_clr0 : clr [] ρ = ρ := (rfl)
@[simp] theorem m_clr1 (j : Nat) (js : List Nat) : clr (j :: js) ρ = clr js (ρ.set j none) := (rfl)
@[simp] theorem m_forget (js : List Nat) (g : Env → MS S Out) : sForget js g ρ = g (clr js ρ) := (rfl)
@[simp] theorem m_unp (t : Tg) (f : Env → MS S D) : sUnp t f ρ = bnd (f ρ) fun d => bnd (lft (asgT t d ρ)) fun ρ' => ret (.nx ρ') := (rfl)
@[simp] theorem m_par (j k : Nat) (f : Env → MS S (List D)) : sPar j k f ρ = bnd (f ρ) fun l => (match l with
  | [a, b] => ret (.nx ((ρ.set j (some a)).set k (some b)))
  | _ => fun _ => none) := (rfl)
@[simp] theorem m_for (it : Env → MS S (List D)) (t : Tg) (body : Env → MS S Out) : sFor it t body ρ = bnd (it ρ) fun ds => forL t body ds ρ := (rfl)
@[simp] theorem m_forL0 (t : Tg) (body : Env → MS S Out) : forL t body [] ρ = ret (.nx ρ) := (rfl)
theorem m_forL1 (t : Tg) (body : Env → MS S Out) (d : D) (ds : List D) : forL t body (d :: ds) ρ = bnd (lft (asgT t d ρ)) fun ρ1 => bnd (body ρ1) (forK (forL t body ds)) := (rfl)
@[simp] theorem m_iseq (f : Env → MS S D) : iSeq f ρ = bnd (f ρ) fun d => lft (seqO d) := (rfl)
@[simp] theorem m_ifn (o : List D → Option (List D)) (f : Env → MS S (List D)) : iFn o f ρ = bnd (f ρ) fun l => lft (o l) := (rfl)
@[simp] theorem m_ivar (o : D → Option (List D)) (j : Nat) : (iVar o j : Env → MS S (List D)) ρ = bnd (eVar j ρ) fun d => lft (o d) := (rfl)
@[simp] theorem m_lc (it : Env → MS S (List D)) (t : Tg) (vs : List Nat) (c : Env → MS S Bool) (f : Env → MS S D) : eLc it t vs c f ρ = bnd (it ρ) fun ds => if ds.length ≤ 16777216 then bnd (compL t c f (clr vs ρ) ds) fun l => ret (.lst l) else fun _ => none := (rfl)
@[simp] theorem m_yes : (cYes : Env → MS S Bool) ρ = ret true := (rfl)
@[simp] theorem m_mth (j : Nat) (o : List D → List D → Option (List D)) (f : Env → MS S (List D)) : mthL j o f ρ = bnd (f ρ) fun es => (match ρ.getD j none with
  | some (.lst ds) => bnd (lft (o ds es)) fun ds' => ret (.nx (ρ.set j (some (.lst ds'))))
  | _ => fun _ => none) := (rfl)
@[simp] theorem m_putD (j : Nat) (fi fe : Env → MS S D) : sPutD j fi fe ρ = bnd (fe ρ) fun v => bnd (fi ρ) fun k => (match ρ.getD j none with
  | some (.dk l) => bnd (lft (asKey k)) fun kk => if l.length < 16777216 then ret (.nx (ρ.set j (some (.dk (putD l kk v))))) else fun _ => none
  | some (.dt l) => bnd (lft (asKeys k)) fun kk => if l.length < 16777216 then ret (.nx (ρ.set j (some (.dt (putD l kk v))))) else fun _ => none
  | _ => fun _ => none) := (rfl)
@[simp] theorem m_semB (nv len : Nat) (den : Env → MS S Out) (ds : List D) : semB nv len den ds = bnd (den (env0 nv len ds)) endK := (rfl)
/-! ### targets -/
@[simp] theorem t_nm (j : Nat) (d : D) : asgT (.nm j) d ρ = some (ρ.set j (some d)) := by rw [asgT]
@[simp] theorem t_tp (l : List Tg) (ds : List D) : asgT (.tp l) (.tup ds) ρ = asgTs l ds ρ := by rw [asgT]
@[simp] theorem t_tn : asgTs [] [] ρ = some ρ := by rw [asgTs]
@[simp] theorem t_tc (t : Tg) (l : List Tg) (d : D) (ds : List D) : asgTs (t :: l) (d :: ds) ρ = (asgT t d ρ).bind (asgTs l ds) := by rw [asgTs]
/-! ### values -/
@[simp] theorem v_add (a b : Int) : addD (.int a) (.int b) = some (.int (a + b)) := (rfl)
@[simp] theorem v_sub (a b : Int) : subD (.int a) (.int b) = some (.int (a - b)) := (rfl)
@[simp] theorem v_neg (a : Int) : negD (.int a) = some (.int (-a)) := (rfl)
@[simp] theorem v_mod (a b : Int) : modD (.int a) (.int b) = if b ≠ 0 then some (.int (Int.fmod a b)) else none := by
  unfold modD i2; simp
@[simp] theorem v_lt (a b : Int) : ltO (.int a) (.int b) = some (decide (a < b)) := (rfl)
@[simp] theorem v_le (a b : Int) : leO (.int a) (.int b) = some (decide (a ≤ b)) := (rfl)
@[simp] theorem v_gt (a b : Int) : gtO (.int a) (.int b) = some (decide (b < a)) := (rfl)
@[simp] theorem v_ge (a b : Int) : geO (.int a) (.int b) = some (decide (b ≤ a)) := (rfl)
@[simp] theorem ok_int (a : Int) : okD (.int a) = true := (rfl)
@[simp] theorem ok_bl (a : Bool) : okD (.bl a) = true := (rfl)
@[simp] theorem ok_non : okD .non = true := (rfl)
theorem eqB_int (a b : Int) : eqB (.int a) (.int b) = decide (a = b) := by
  unfold eqB toPy PyData.eqv
  exact Bool.eq_iff_iff.mpr (by simp)
theorem eqB_str (a b : Str) : eqB (.str a) (.str b) = decide (a = b) := by
  unfold eqB toPy PyData.eqv
  exact Bool.eq_iff_iff.mpr (by simp)
@[simp] theorem v_eq (a b : Int) : eqO (.int a) (.int b) = some (decide (a = b)) := by
  unfold eqO; rw [eqB_int]; rfl
@[simp] theorem v_ne (a b : Int) : neO (.int a) (.int b) = some (!decide (a = b)) := by
  unfold neO; rw [eqB_int]; rfl
theorem v_eqs {a b : Str} (ha : okD (.str a) = true) (hb : okD (.str b) = true) : eqO (.str a) (.str b) = some (decide (a = b)) := by
  unfold eqO; rw [eqB_str, ha, hb]; rfl
theorem v_nes {a b : Str} (ha : okD (.str a) = true) (hb : okD (.str b) = true) : neO (.str a) (.str b) = some (!decide (a = b)) := by
  unfold neO; rw [eqB_str, ha, hb]; rfl
@[simp] theorem v_max (a b : Int) : maxO (.int a) (.int b) = some (.int (max a b)) := by
  show some (D.int (if b > a then b else a)) = _
  have : (if b > a then b else a) = max a b := by split <;> omega
  rw [this]
@[simp] theorem v_min (a b : Int) : minO (.int a) (.int b) = some (.int (min a b)) := by
  show some (D.int (if b < a then b else a)) = _
  have : (if b < a then b else a) = min a b := by split <;> omega
  rw [this]
@[simp] theorem v_lenl (l : List D) : lenO (.lst l) = some (.int l.length) := (rfl)
@[simp] theorem v_lent (l : List D) : lenO (.tup l) = some (.int l.length) := (rfl)
@[simp] theorem v_lend (l : List (Key × D)) : lenO (.dk l) = some (.int l.length) := (rfl)
@[simp] theorem v_lendt (l : List (List Key × D)) : lenO (.dt l) = some (.int l.length) := (rfl)
@[simp] theorem v_int (i : Int) : intO (.int i) = some (.int i) := (rfl)
@[simp] theorem v_tub (b : Bool) : truD (.bl b) = some b := (rfl)
@[simp] theorem v_tul (l : List D) : truD (.lst l) = some (!l.isEmpty) := (rfl)
@[simp] theorem v_tut (l : List D) : truD (.tup l) = some (!l.isEmpty) := (rfl)
@[simp] theorem v_bool (b : Bool) : boolD (.bl b) = some b := (rfl)
@[simp] theorem v_seql (l : List D) : seqO (.lst l) = some l := (rfl)
@[simp] theorem v_seqt (l : List D) : seqO (.tup l) = some l := (rfl)
@[simp] theorem v_addl (a b : List D) : addD (.lst a) (.lst b) = if a.length + b.length ≤ 16777216 then some (.lst (a ++ b)) else none := (rfl)
@[simp] theorem v_not (b : Bool) : notD (.bl b) = some (.bl (!b)) := (rfl)
theorem ix_tup (l : List D) (i : Int) : ixAll (.tup l) (.int i) = atI l i := (rfl)
theorem ix_lst (l : List D) (i : Int) : ixAll (.lst l) (.int i) = atI l i := (rfl)
theorem atI_nat {α : Type} (l : List α) (n : Nat) : atI l (n : Int) = l[n]? := by
  unfold atI ixN
  rw [if_pos (Int.natCast_nonneg n)]
  by_cases h : n < l.length
  · rw [if_pos (by omega)]; simp
  · rw [if_neg (by omega)]; simp; omega
@[simp] theorem ix0 (l : List D) (a : D) : ixAll (.tup (a :: l)) (.int 0) = some a := by
  rw [ix_tup]; exact atI_nat (a :: l) 0
@[simp] theorem ix1 (l : List D) (a b : D) : ixAll (.tup (a :: b :: l)) (.int 1) = some b := by
  rw [ix_tup]; exact atI_nat (a :: b :: l) 1
@[simp] theorem ix2 (l : List D) (a b c : D) : ixAll (.tup (a :: b :: c :: l)) (.int 2) = some c := by
  rw [ix_tup]; exact atI_nat (a :: b :: c :: l) 2

/-! ### what comes of it -/
def Tr (m : MS S α) (s : S) (Q : α → S → Prop) : Prop := ∃ a s', m s = some (a, s') ∧ Q a s'
@[simp] theorem tr_ret (a : α) (s : S) (Q : α → S → Prop) : Tr (ret a) s Q ↔ Q a s := ⟨fun ⟨_, _, h, q⟩ => by cases h; exact q, fun q => ⟨a, s, rfl, q⟩⟩
theorem tr_bnd {x : MS S α} {k : α → MS S β} {s : S} {Q : β → S → Prop} : Tr (bnd x k) s Q ↔ Tr x s fun a s1 => Tr (k a) s1 Q := by
  constructor
  · rintro ⟨b, s2, h, q⟩
    obtain ⟨a, s1, h1, h2⟩ := bnd_inv h
    exact ⟨a, s1, h1, b, s2, h2, q⟩
  · rintro ⟨a, s1, h1, b, s2, h2, q⟩
    exact ⟨b, s2, by rw [bnd_ok h1]; exact h2, q⟩
theorem Tr.mono {x : MS S α} {s : S} {Q R : α → S → Prop} (h : Tr x s Q) (k : ∀ a s', Q a s' → R a s') : Tr x s R := let ⟨a, s', e, q⟩ := h; ⟨a, s', e, k a s' q⟩
theorem Tr.bnd {x : MS S α} {k : α → MS S β} {s : S} {P : α → S → Prop} {Q : β → S → Prop} (h : Tr x s P) (g : ∀ a s', P a s' → Tr (k a) s' Q) : Tr (bnd x k) s Q := tr_bnd.mpr (h.mono g)
/-- a loop by its invariant: what is left, the slots, the state -/
theorem tr_for {t : Tg} {body : Env → MS S Out} {R : Out → S → Prop} (I : List D → Env → S → Prop) (hI : ∀ d ds ρ s, I (d :: ds) ρ s → ∃ ρ1, asgT t d ρ = some ρ1 ∧ Tr (body ρ1) s fun o s' => match o with
      | .nx ρ' => I ds ρ' s'
      | .ct ρ' => I ds ρ' s'
      | .bk ρ' => R (.nx ρ') s'
      | .rt d => R (.rt d) s') (h0 : ∀ ρ s, I [] ρ s → R (.nx ρ) s) : ∀ (l : List D) (ρ : Env) (s : S), I l ρ s → Tr (forL t body l ρ) s R
  | [], ρ, s, h => (tr_ret _ _ _).mpr (h0 ρ s h)
  | d :: ds, ρ, s, h => by
    obtain ⟨ρ1, e, tr⟩ := hI d ds ρ s h
    rw [m_forL1, e, m_lft_some, m_bnd_ret]
    refine Tr.bnd tr fun o s' q => ?_
    cases o with
    | nx ρ' => exact tr_for I hI h0 ds ρ' s' q
    | ct ρ' => exact tr_for I hI h0 ds ρ' s' q
    | bk ρ' => exact (tr_ret _ _ _).mpr q
    | rt d => exact (tr_ret _ _ _).mpr q
/-- a comprehension that draws nothing -/
theorem comp_enc {t : Tg} {c : Env → MS S Bool} {f : Env → MS S D} (enc : α → D) (b : α → Bool) (g : α → D) : ∀ {xs : List α}, (∀ x ∈ xs, ∃ ρ1, asgT t (enc x) ρ = some ρ1 ∧ c ρ1 = ret (b x) ∧ (b x = true → f ρ1 = ret (g x))) →
    compL t c f ρ (xs.map enc) = ret ((xs.filter b).map g)
  | [], _ => rfl
  | x :: xs, h => by
    obtain ⟨ρ1, e1, e2, e3⟩ := h x List.mem_cons_self
    have ih := comp_enc (xs := xs) enc b g fun y hy => h y (List.mem_cons_of_mem _ hy)
    rw [List.map_cons]
    show bnd (lft (asgT t (enc x) ρ)) _ = _
    rw [e1]
    show bnd (c ρ1) _ = _
    rw [e2]
    show (if b x = true then _ else _) = _
    cases hb : b x with
    | true =>
      rw [if_pos rfl, e3 hb, ih, List.filter_cons, if_pos hb]
      rfl
    | false =>
      rw [if_neg Bool.false_ne_true, ih, List.filter_cons, if_neg (by rw [hb]; exact Bool.false_ne_true)]
end
theorem sem_of {len : Nat} {den : Env → MS Unit Out} {ds : List D} {d : D} (h : den (env0 0 len ds) = ret (.rt d)) : semP len den ds = some d := by
  unfold semP semB
  rw [h]
  rfl
theorem sem_tr {len : Nat} {den : Env → MS Unit Out} {ds : List D} {d : D} (h : Tr (den (env0 0 len ds)) () fun o _ => o = .rt d) : semP len den ds = some d := by
  obtain ⟨o, s', e, rfl⟩ := h
  unfold semP semB
  rw [bnd_ok e]
  rfl
end Fx
namespace Fx
open PySem PySem.Spec L2
section
variable {ρ : Env}
@[simp] theorem tr_bag (sel : DrS → Int) (s : DrS) (Q : D → DrS → Prop) : Tr (eBag sel ρ) s Q ↔ Q (.int (sel s)) s := ⟨fun ⟨_, _, h, q⟩ => by cases h; exact q, fun q => ⟨_, _, rfl, q⟩⟩
@[simp] theorem tr_pop (c : Int) (cs : List Int) (r : Int × Int × Int) (Q : D → DrS → Prop) : Tr (ePop ρ) (c :: cs, r) Q ↔ Q (.int c) (cs, r) := ⟨fun ⟨_, _, h, q⟩ => by cases h; exact q, fun q => ⟨_, _, rfl, q⟩⟩
@[simp] theorem m_sbag (put : DrS → Int → DrS) (f : Env → MS DrS D) : sBag put f ρ = bnd (f ρ) fun v => bnd (putB put v) fun _ => ret (.nx ρ) := (rfl)
@[simp] theorem tr_putB (put : DrS → Int → DrS) (n : Int) (s : DrS) (Q : Unit → DrS → Prop) : Tr (putB put (.int n)) s Q ↔ Q () (put s n) := ⟨fun ⟨_, _, h, q⟩ => by cases h; exact q, fun q => ⟨_, _, rfl, q⟩⟩
@[simp] theorem v_mulr (a b : Int) : mulD (.int a) (.int b) = if (decide (-(2 ^ 64) < a) && decide (a < 2 ^ 64)) || (decide (-(2 ^ 64) < b) && decide (b < 2 ^ 64)) then some (.int (a * b)) else none := (rfl)
theorem v_mulc (a b : Int) (h : -(2 ^ 64) < b ∧ b < 2 ^ 64) : mulD (.int a) (.int b) = some (.int (a * b)) := by
  unfold mulD i2
  simp only [decide_eq_true h.1, decide_eq_true h.2]
  simp
theorem v_fdiv (a b : Int) (h : b ≠ 0 ∧ b.natAbs < 1073741824) : fdivD (.int a) (.int b) = some (.int (Int.fdiv a b)) := by
  unfold fdivD i2
  simp only [decide_eq_true h.1, decide_eq_true h.2]
  simp
@[simp] theorem v_abs (a : Int) : absO (.int a) = some (.int (if a < 0 then -a else a)) := (rfl)
@[simp] theorem m_cl (n : Nat) (sem : List D → Option D) (l : List D) : cl n sem l = if l.length = n then sem l else none := (rfl)
@[simp] theorem m_clB {S : Type} (n : Nat) (sem : List D → MS S D) (l : List D) : clB n sem l = if l.length = n then sem l else fun _ => none := (rfl)
theorem fmod_rng (a : Int) {m : Int} (h : 0 < m) : 0 ≤ Int.fmod a m ∧ Int.fmod a m < m := ⟨Int.fmod_nonneg_of_pos a h, Int.fmod_lt_of_pos a h⟩
theorem tr_if {S α : Type} {c : Prop} [Decidable c] {x y : MS S α} {s : S} {Q : α → S → Prop} (h1 : c → Tr x s Q) (h2 : ¬ c → Tr y s Q) : Tr (if c then x else y) s Q := by
  by_cases h : c
  · rw [if_pos h]; exact h1 h
  · rw [if_neg h]; exact h2 h
end
theorem insO_ok (l : List D) (i : Int) (d : D) (h : l.length < 16777216) (h0 : 0 ≤ i) (h1 : i < 2 ^ 63) : insO l [.int i, d] = some (l.take i.toNat ++ [d] ++ l.drop i.toNat) := by
  show (if l.length < 16777216 ∧ 0 ≤ i ∧ i < 2 ^ 63 then some (l.take i.toNat ++ [d] ++ l.drop i.toNat) else none) = _
  rw [if_pos ⟨h, h0, h1⟩]
theorem ins_perm (l : List D) (n : Nat) (d : D) : (l.take n ++ [d] ++ l.drop n).Perm (l ++ [d]) := by
  have h1 : (l.take n ++ [d] ++ l.drop n).Perm (d :: (l.take n ++ l.drop n)) := by
    rw [List.append_assoc]
    exact List.perm_middle
  rw [List.take_append_drop] at h1
  exact h1.trans (List.perm_append_singleton d l).symm
@[simp] theorem isi_tuple_bool (b : Bool) : isiO' "tuple" (.bl b) = some (.bl false) := by
  show (kitB "bool" "tuple").map D.bl = _
  rw [show kitB "bool" "tuple" = some false from by decide +kernel]
  rfl
@[simp] theorem isi_tuple_int (i : Int) : isiO' "tuple" (.int i) = some (.bl false) := by
  show (kitB "int" "tuple").map D.bl = _
  rw [show kitB "int" "tuple" = some false from by decide +kernel]
  rfl
@[simp] theorem isi_tuple_str (x : Str) : isiO' "tuple" (.str x) = some (.bl false) := by
  show (kitB "str" "tuple").map D.bl = _
  rw [show kitB "str" "tuple" = some false from by decide +kernel]
  rfl
@[simp] theorem isi_tuple_tuple (l : List D) : isiO' "tuple" (.tup l) = some (.bl true) := by
  show (kitB "tuple" "tuple").map D.bl = _
  rw [show kitB "tuple" "tuple" = some true from by decide +kernel]
  rfl
@[simp] theorem isi_tuple_list (l : List D) : isiO' "tuple" (.lst l) = some (.bl false) := by
  show (kitB "list" "tuple").map D.bl = _
  rw [show kitB "list" "tuple" = some false from by decide +kernel]
  rfl
@[simp] theorem isi_tuple_NoneType  : isiO' "tuple" (.non) = some (.bl false) := by
  show (kitB "NoneType" "tuple").map D.bl = _
  rw [show kitB "NoneType" "tuple" = some false from by decide +kernel]
  rfl
@[simp] theorem isi_bool_bool (b : Bool) : isiO' "bool" (.bl b) = some (.bl true) := by
  show (kitB "bool" "bool").map D.bl = _
  rw [show kitB "bool" "bool" = some true from by decide +kernel]
  rfl
@[simp] theorem isi_bool_int (i : Int) : isiO' "bool" (.int i) = some (.bl false) := by
  show (kitB "int" "bool").map D.bl = _
  rw [show kitB "int" "bool" = some false from by decide +kernel]
  rfl
@[simp] theorem isi_bool_str (x : Str) : isiO' "bool" (.str x) = some (.bl false) := by
  show (kitB "str" "bool").map D.bl = _
  rw [show kitB "str" "bool" = some false from by decide +kernel]
  rfl
@[simp] theorem isi_bool_tuple (l : List D) : isiO' "bool" (.tup l) = some (.bl false) := by
  show (kitB "tuple" "bool").map D.bl = _
  rw [show kitB "tuple" "bool" = some false from by decide +kernel]
  rfl
@[simp] theorem isi_bool_list (l : List D) : isiO' "bool" (.lst l) = some (.bl false) := by
  show (kitB "list" "bool").map D.bl = _
  rw [show kitB "list" "bool" = some false from by decide +kernel]
  rfl
@[simp] theorem isi_bool_NoneType  : isiO' "bool" (.non) = some (.bl false) := by
  show (kitB "NoneType" "bool").map D.bl = _
  rw [show kitB "NoneType" "bool" = some false from by decide +kernel]
  rfl
@[simp] theorem isi_int_bool (b : Bool) : isiO' "int" (.bl b) = some (.bl true) := by
  show (kitB "bool" "int").map D.bl = _
  rw [show kitB "bool" "int" = some true from by decide +kernel]
  rfl
@[simp] theorem isi_int_int (i : Int) : isiO' "int" (.int i) = some (.bl true) := by
  show (kitB "int" "int").map D.bl = _
  rw [show kitB "int" "int" = some true from by decide +kernel]
  rfl
@[simp] theorem isi_int_str (x : Str) : isiO' "int" (.str x) = some (.bl false) := by
  show (kitB "str" "int").map D.bl = _
  rw [show kitB "str" "int" = some false from by decide +kernel]
  rfl
@[simp] theorem isi_int_tuple (l : List D) : isiO' "int" (.tup l) = some (.bl false) := by
  show (kitB "tuple" "int").map D.bl = _
  rw [show kitB "tuple" "int" = some false from by decide +kernel]
  rfl
@[simp] theorem isi_int_list (l : List D) : isiO' "int" (.lst l) = some (.bl false) := by
  show (kitB "list" "int").map D.bl = _
  rw [show kitB "list" "int" = some false from by decide +kernel]
  rfl
@[simp] theorem isi_int_NoneType  : isiO' "int" (.non) = some (.bl false) := by
  show (kitB "NoneType" "int").map D.bl = _
  rw [show kitB "NoneType" "int" = some false from by decide +kernel]
  rfl
@[simp] theorem isi_str_bool (b : Bool) : isiO' "str" (.bl b) = some (.bl false) := by
  show (kitB "bool" "str").map D.bl = _
  rw [show kitB "bool" "str" = some false from by decide +kernel]
  rfl
@[simp] theorem isi_str_int (i : Int) : isiO' "str" (.int i) = some (.bl false) := by
  show (kitB "int" "str").map D.bl = _
  rw [show kitB "int" "str" = some false from by decide +kernel]
  rfl
@[simp] theorem isi_str_str (x : Str) : isiO' "str" (.str x) = some (.bl true) := by
  show (kitB "str" "str").map D.bl = _
  rw [show kitB "str" "str" = some true from by decide +kernel]
  rfl
@[simp] theorem isi_str_tuple (l : List D) : isiO' "str" (.tup l) = some (.bl false) := by
  show (kitB "tuple" "str").map D.bl = _
  rw [show kitB "tuple" "str" = some false from by decide +kernel]
  rfl
@[simp] theorem isi_str_list (l : List D) : isiO' "str" (.lst l) = some (.bl false) := by
  show (kitB "list" "str").map D.bl = _
  rw [show kitB "list" "str" = some false from by decide +kernel]
  rfl
@[simp] theorem isi_str_NoneType  : isiO' "str" (.non) = some (.bl false) := by
  show (kitB "NoneType" "str").map D.bl = _
  rw [show kitB "NoneType" "str" = some false from by decide +kernel]
  rfl
@[simp] theorem isi_list_bool (b : Bool) : isiO' "list" (.bl b) = some (.bl false) := by
  show (kitB "bool" "list").map D.bl = _
  rw [show kitB "bool" "list" = some false from by decide +kernel]
  rfl
@[simp] theorem isi_list_int (i : Int) : isiO' "list" (.int i) = some (.bl false) := by
  show (kitB "int" "list").map D.bl = _
  rw [show kitB "int" "list" = some false from by decide +kernel]
  rfl
@[simp] theorem isi_list_str (x : Str) : isiO' "list" (.str x) = some (.bl false) := by
  show (kitB "str" "list").map D.bl = _
  rw [show kitB "str" "list" = some false from by decide +kernel]
  rfl
@[simp] theorem isi_list_tuple (l : List D) : isiO' "list" (.tup l) = some (.bl false) := by
  show (kitB "tuple" "list").map D.bl = _
  rw [show kitB "tuple" "list" = some false from by decide +kernel]
  rfl
@[simp] theorem isi_list_list (l : List D) : isiO' "list" (.lst l) = some (.bl true) := by
  show (kitB "list" "list").map D.bl = _
  rw [show kitB "list" "list" = some true from by decide +kernel]
  rfl
@[simp] theorem isi_list_NoneType  : isiO' "list" (.non) = some (.bl false) := by
  show (kitB "NoneType" "list").map D.bl = _
  rw [show kitB "NoneType" "list" = some false from by decide +kernel]
  rfl
theorem in62_ok {i : Int} (h1 : -1000000000 ≤ i) (h2 : i ≤ 1000000000) : in62 i = true := by
  unfold in62
  rw [Bool.and_eq_true, decide_eq_true_eq, decide_eq_true_eq]
  constructor <;> omega
theorem rng1_ok {n : Nat} (h : n ≤ 1000000000) : rng1O [.int n] = some (rngD 0 n) := by
  show (if in62 n then some (rngD 0 (n : Int).toNat) else none) = _
  rw [if_pos (in62_ok (by omega) (by omega))]
  rfl
theorem rng1_okI {n : Int} (h0 : 0 ≤ n) (h : n ≤ 1000000000) : rng1O [.int n] = some (rngD 0 n.toNat) := by
  show (if in62 n then some (rngD 0 n.toNat) else none) = _
  rw [if_pos (in62_ok (by omega) (by omega))]
theorem rng2_ok {a b : Int} (h1 : -1000000000 ≤ a) (h2 : a ≤ 1000000000) (h3 : -1000000000 ≤ b) (h4 : b ≤ 1000000000) : rng2O [.int a, .int b] = some (rngD a (b - a).toNat) := by
  show (if in62 a && in62 b then some (rngD a (b - a).toNat) else none) = _
  rw [in62_ok h1 h2, in62_ok h3 h4]
  rfl
@[simp] theorem is_non (d : D) : isO d .non = some (isNonD d) := (rfl)
@[simp] theorem isn_non (d : D) : isnO d .non = some (!isNonD d) := (rfl)
end Fx
namespace Fx
open PySem PySem.Spec L2
/-- a loop that always goes on, draws nothing -/
theorem forL_fold {S α σ : Type} {t : Tg} {body : Env → MS S Out} (enc : α → D) (E : σ → Env → Prop) (step : σ → α → σ) : ∀ (xs : List α) (x : σ) (ρ : Env), (∀ a ∈ xs, ∀ x ρ, E x ρ → ∃ ρ1, asgT t (enc a) ρ = some ρ1 ∧ ∃ ρ2, body ρ1 = ret (.nx ρ2) ∧ E (step x a) ρ2) → E x ρ →
    ∃ ρ', forL t body (xs.map enc) ρ = ret (.nx ρ') ∧ E (xs.foldl step x) ρ'
  | [], x, ρ, _, h => ⟨ρ, rfl, h⟩
  | a :: xs, x, ρ, hb, h => by
    obtain ⟨ρ1, e1, ρ2, e2, h2⟩ := hb a List.mem_cons_self x ρ h
    obtain ⟨ρ', e3, h3⟩ := forL_fold enc E step xs (step x a) ρ2 (fun b hb' => hb b (List.mem_cons_of_mem _ hb')) h2
    refine ⟨ρ', ?_, h3⟩
    rw [List.map_cons, m_forL1, e1, m_lft_some, m_bnd_ret, e2, m_bnd_ret, m_f1, e3]
/-! ### a list of ints -/
abbrev encI : Int → D := .int
theorem py_ints : ∀ l : List Int, PyData.canLayAll0 (toPys (l.map D.int)) = true
  | [] => rfl
  | i :: l => by
    rw [List.map_cons, toPys, PyData.canLayAll0, py_ints l]
    rfl
theorem in_ints (i : Int) (l : List Int) : inS (.int i) (l.map D.int) = decide (i ∈ l) := by
  unfold inS
  rw [List.any_map]
  refine Bool.eq_iff_iff.mpr ?_
  rw [List.any_eq_true, decide_eq_true_eq]
  constructor
  · rintro ⟨j, h1, h2⟩
    have h3 : eqB (.int j) (.int i) = true := h2
    rw [eqB_int, decide_eq_true_eq] at h3
    rw [← h3]; exact h1
  · intro h
    exact ⟨i, h, by show eqB (.int i) (.int i) = true; rw [eqB_int, decide_eq_true_eq]⟩
/-! ### a dict of ints, by ints -/
def encP (p : Int × Int) : Key × D := (.inl p.1, .int p.2)
def look (l : List (Int × Int)) (k : Int) : Option Int := (l.find? fun p => decide (p.1 = k)).map (·.2)
def putP (l : List (Int × Int)) (k v : Int) : List (Int × Int) := if (l.any fun p => decide (p.1 = k)) = true then l.map (fun p => if p.1 = k then (p.1, v) else p) else l ++ [(k, v)]
theorem key_inl {a b : Int} : ((Sum.inl a : Key) = .inl b) ↔ a = b := ⟨fun h => Sum.inl.inj h, fun h => by rw [h]⟩
theorem valD_enc (k : Int) : ∀ l : List (Int × Int), valD (l.map encP) (.inl k) = (look l k).map .int
  | [] => rfl
  | p :: l => by
    have ih := valD_enc k l
    unfold valD look at ih ⊢
    rw [List.map_cons, List.find?_cons, List.find?_cons]
    by_cases h : p.1 = k
    · simp [encP, h]
    · simp only [encP, key_inl, h, decide_false] at ih ⊢
      exact ih
theorem any_enc (k : Int) : ∀ l : List (Int × Int), ((l.map encP).any fun kv => decide (kv.1 = .inl k)) = l.any fun p => decide (p.1 = k)
  | [] => rfl
  | p :: l => by
    rw [List.map_cons, List.any_cons, List.any_cons, any_enc k l]
    simp [encP, key_inl]
theorem putD_enc (l : List (Int × Int)) (k v : Int) : putD (l.map encP) (.inl k) (.int v) = (putP l k v).map encP := by
  unfold putD putP
  rw [any_enc]
  split
  · rw [List.map_map, List.map_map]
    refine List.map_congr_left fun p _ => ?_
    simp only [Function.comp, encP, key_inl]
    split <;> rfl
  · rw [List.map_append]; rfl
theorem look_put (l : List (Int × Int)) (k v j : Int) : look (putP l k v) j = if j = k then some v else look l j := by
  unfold putP
  split
  · rename_i h
    induction l with
    | nil => cases h
    | cons p l ih =>
      unfold look at ih ⊢
      rw [List.map_cons, List.find?_cons, List.find?_cons]
      by_cases hp : p.1 = k
      · by_cases hj : j = k
        · subst hj; simp [hp]
        · have hpj : ¬ p.1 = j := fun z => hj (z.symm.trans hp)
          have hkj : ¬ k = j := fun z => hj z.symm
          simp only [hp, if_true, hkj, decide_false, hj, if_false]
          -- the rest: replacing at k does not change j
          have go : ∀ m : List (Int × Int), ((m.map fun p => if p.1 = k then (p.1, v) else p).find? fun p => decide (p.1 = j)).map (·.2) = (m.find? fun p => decide (p.1 = j)).map (·.2) := fun m => by
            induction m with
            | nil => rfl
            | cons q m ih =>
              rw [List.map_cons, List.find?_cons, List.find?_cons]
              by_cases hq : q.1 = k
              · have : ¬ q.1 = j := fun z => hj (z.symm.trans hq)
                simp only [hq, if_true, hkj, decide_false]
                exact ih
              · simp only [hq, if_false]
                split
                · rfl
                · exact ih
          exact go l
      · have h' : (l.any fun p => decide (p.1 = k)) = true := by
          rw [List.any_cons, decide_eq_false hp] at h
          simpa using h
        have ih := ih h'
        simp only [hp, if_false]
        by_cases hj : j = p.1
        · have : ¬ j = k := fun z => hp (hj.symm.trans z)
          simp [hj, hp]
        · have hpj : ¬ p.1 = j := fun z => hj z.symm
          simp only [hpj, decide_false]
          exact ih
  · rename_i h
    have nk : ∀ p ∈ l, p.1 ≠ k := fun p hp z => h (List.any_eq_true.mpr ⟨p, hp, decide_eq_true z⟩)
    unfold look
    rw [List.find?_append]
    by_cases hj : j = k
    · subst hj
      have : l.find? (fun p => decide (p.1 = j)) = none := List.find?_eq_none.mpr fun p hp => by simpa using nk p hp
      simp [this]
    · have hkj : ¬ k = j := fun z => hj z.symm
      simp [hj, hkj]
theorem keys_put (l : List (Int × Int)) (k v : Int) : (putP l k v).map (·.1) = if k ∈ l.map (·.1) then l.map (·.1) else l.map (·.1) ++ [k] := by
  unfold putP
  have e : (l.any fun p => decide (p.1 = k)) = true ↔ k ∈ l.map (·.1) := by
    rw [List.any_eq_true, List.mem_map]
    constructor
    · rintro ⟨p, h1, h2⟩; exact ⟨p, h1, of_decide_eq_true h2⟩
    · rintro ⟨p, h1, h2⟩; exact ⟨p, h1, decide_eq_true h2⟩
  by_cases h : (l.any fun p => decide (p.1 = k)) = true
  · rw [if_pos h, if_pos (e.mp h), List.map_map]
    refine List.map_congr_left fun p _ => ?_
    show (if p.1 = k then (p.1, v) else p).1 = p.1
    split <;> rfl
  · rw [if_neg h, if_neg (fun z => h (e.mpr z)), List.map_append]; rfl
theorem look_mem {l : List (Int × Int)} {k : Int} : look l k ≠ none ↔ k ∈ l.map (·.1) := by
  unfold look
  rw [List.mem_map]
  constructor
  · intro h
    cases e : l.find? fun p => decide (p.1 = k) with
    | none => rw [e] at h; exact absurd rfl h
    | some p => exact ⟨p, List.mem_of_find?_eq_some e, by simpa using List.find?_some e⟩
  · rintro ⟨p, h1, h2⟩ h
    cases e : l.find? fun p => decide (p.1 = k) with
    | none =>
      have := List.find?_eq_none.mp e p h1
      simp [h2] at this
    | some p => rw [e] at h; cases h
end Fx
namespace Fx
open PySem PySem.Spec L2
theorem nodup_len {α : Type} [DecidableEq α] : ∀ {l m : List α}, l.Nodup → (∀ x ∈ l, x ∈ m) → l.length ≤ m.length
  | [], m, _, _ => Nat.zero_le _
  | a :: l, m, h, k => by
    obtain ⟨h1, h2⟩ := List.nodup_cons.mp h
    have ha := k a List.mem_cons_self
    have := nodup_len (l := l) (m := m.erase a) h2 fun x hx => (List.mem_erase_of_ne (fun z => h1 (by rw [← z]; exact hx))).mpr (k x (List.mem_cons_of_mem _ hx))
    rw [List.length_erase_of_mem ha] at this
    have := List.length_pos_of_mem ha
    rw [List.length_cons]
    omega
theorem perm_of {α : Type} [DecidableEq α] : ∀ {l m : List α}, l.Nodup → m.Nodup → (∀ x, x ∈ l ↔ x ∈ m) → l.Perm m
  | [], m, _, _, k => by
    have : m = [] := List.eq_nil_iff_forall_not_mem.mpr fun x hx => by simpa using (k x).mpr hx
    rw [this]
  | a :: l, m, h, hm, k => by
    obtain ⟨h1, h2⟩ := List.nodup_cons.mp h
    have ha := (k a).mp List.mem_cons_self
    have := perm_of (l := l) (m := m.erase a) h2 (hm.erase a) fun x => by
      rw [hm.mem_erase_iff]
      constructor
      · intro hx; exact ⟨fun z => h1 (by rw [← z]; exact hx), (k x).mp (List.mem_cons_of_mem _ hx)⟩
      · rintro ⟨h3, h4⟩
        rcases List.mem_cons.mp ((k x).mpr h4) with z | z
        · exact absurd z h3
        · exact z
    exact (this.cons a).trans (List.perm_cons_erase ha).symm
theorem in_dk (g : Int) (l : List (Int × Int)) : inAll (.int g) (.dk (l.map encP)) = some (look l g).isSome := by
  show inDO (.int g) (.dk (l.map encP)) = _
  unfold inDO getO asKey
  simp only [Option.map_some]
  rw [valD_enc]
  cases look l g <;> rfl
theorem ix_dk (g : Int) (l : List (Int × Int)) : ixAll (.dk (l.map encP)) (.int g) = (look l g).map .int := by
  show ixDO (.dk (l.map encP)) (.int g) = _
  unfold ixDO getO asKey
  simp only [Option.map_some, Option.bind_some]
  rw [valD_enc]
  cases look l g <;> rfl
theorem get_dk (g : Int) (l : List (Int × Int)) : getO (.dk (l.map encP)) (.int g) = some ((look l g).map .int) := by
  unfold getO asKey
  simp only [Option.map_some]
  rw [valD_enc]
theorem merge_enc : ∀ (m l : List (Int × Int)), mergeD (l.map encP) (m.map encP) = (m.foldl (fun l p => putP l p.1 p.2) l).map encP
  | [], l => rfl
  | p :: m, l => by
    rw [List.map_cons, List.foldl_cons, ← merge_enc m, ← putD_enc]
    rfl
theorem ints_enc : ∀ l : List (Int × Int), intsOf ((l.map encP).map fun kv => keyD kv.1) = some (l.map (·.1))
  | [] => rfl
  | p :: l => by
    rw [List.map_cons, List.map_cons, intsOf, ints_enc l]
    rfl
theorem ints_ints : ∀ l : List Int, intsOf (l.map D.int) = some l
  | [] => rfl
  | p :: l => by
    rw [List.map_cons, intsOf, ints_ints l]
    rfl
theorem pairs_one : ∀ l : List Int, pairsD (l.map fun a => .tup [.int a, .int 1]) = some (l.map fun a => encP (a, 1))
  | [] => rfl
  | p :: l => by
    rw [List.map_cons, pairsD, pairs_one l]
    rfl
theorem mem_merge (k : Int) : ∀ (m l : List (Int × Int)), k ∈ (m.foldl (fun l p => putP l p.1 p.2) l).map (·.1) ↔ k ∈ l.map (·.1) ∨ k ∈ m.map (·.1)
  | [], l => by simp
  | p :: m, l => by
    rw [List.foldl_cons, mem_merge k m, keys_put, List.map_cons, List.mem_cons]
    split
    · rename_i h
      constructor
      · rintro (z | z)
        · exact .inl z
        · exact .inr (.inr z)
      · rintro (z | z | z)
        · exact .inl z
        · rw [z]; exact .inl h
        · exact .inr z
    · rw [List.mem_append, List.mem_singleton]
      constructor
      · rintro ((z | z) | z)
        · exact .inl z
        · exact .inr (.inl z)
        · exact .inr (.inr z)
      · rintro (z | z | z)
        · exact .inl (.inl z)
        · exact .inl (.inr z)
        · exact .inr z
@[simp] theorem v_tuple (l : List D) : tupleO (.lst l) = some (.tup l) := rfl
@[simp] theorem v_tuple' (l : List D) : tupleO (.tup l) = some (.tup l) := rfl
@[simp] theorem v_list (l : List D) : listO (.lst l) = some (.lst l) := rfl
@[simp] theorem v_list' (l : List D) : listO (.tup l) = some (.lst l) := rfl
theorem sort_ints (l : List Int) : sortO (.lst (l.map D.int)) = some (.lst ((sortI l).map .int)) := by
  have e : sortO (.lst (l.map D.int)) = match intsOf (l.map D.int) with
    | some ns => some (.lst ((sortI ns).map .int))
    | none => match tupKs (l.map D.int) with
      | some ks => if shAll ks then some (.lst ((sortK ks).map keysD)) else none
      | none => none := rfl
  rw [e, ints_ints]
theorem sort_dk (l : List (Int × Int)) : sortO (.dk (l.map encP)) = some (.lst ((sortI (l.map (·.1))).map .int)) := by
  show (intsOf _).map _ = _
  rw [ints_enc]
  rfl
theorem depth_ints : ∀ l : List Int, PyData.depthAll (toPys (l.map D.int)) ≤ 1
  | [] => by decide
  | i :: l => by
    have := depth_ints l
    rw [List.map_cons, toPys, PyData.depthAll]
    simp [toPy, PyData.depth]
    omega
theorem ok_lints (l : List Int) : okD (.lst (l.map D.int)) = true := by
  unfold okD SeqAt.shaped
  rw [toPy, PyData.canLay0, py_ints, Bool.true_and, decide_eq_true_eq, PyData.depth]
  have := depth_ints l
  omega
theorem in_list (i : Int) (l : List Int) : inAll (.int i) (.lst (l.map D.int)) = some (decide (i ∈ l)) := by
  have e : inO (.int i) (.lst (l.map D.int)) = if okD (.int i) && okD (.lst (l.map D.int)) then some (inS (.int i) (l.map D.int)) else none := rfl
  unfold inAll
  rw [e, ok_int, ok_lints, in_ints]
  rfl
theorem nin_list (i : Int) (l : List Int) : ninAll (.int i) (.lst (l.map D.int)) = some (!decide (i ∈ l)) := by
  unfold ninAll
  rw [in_list]
  rfl
end Fx
namespace Fx
open PySem PySem.Spec L2
def cutA {α : Type} (l : List α) (lo hi : Option Int) : List α := (l.drop (HT.sIx l.length 0 lo)).take (HT.sIx l.length l.length hi - HT.sIx l.length 0 lo)
theorem cut_map {α : Type} (enc : α → D) (l : List α) (lo hi : Option Int) : cutD (l.map enc) lo hi = (cutA l lo hi).map enc := by
  unfold cutD cutA
  rw [List.length_map, List.map_take, List.map_drop]
theorem cut_mem {α : Type} {l : List α} {lo hi : Option Int} {x : α} (h : x ∈ cutA l lo hi) : x ∈ l := List.mem_of_mem_drop (List.mem_of_mem_take h)
theorem cut_len {α : Type} (l : List α) (lo hi : Option Int) : (cutA l lo hi).length ≤ l.length := by
  unfold cutA
  rw [List.length_take, List.length_drop]
  omega
theorem cut_tup {α : Type} (enc : α → D) (l : List α) (lo hi : Option Int) : slO (.tup (l.map enc)) lo hi = some (.tup ((cutA l lo hi).map enc)) := by
  show some (D.tup (cutD (l.map enc) lo hi)) = _
  rw [cut_map]
theorem cut_lst {α : Type} (enc : α → D) (l : List α) (lo hi : Option Int) : slO (.lst (l.map enc)) lo hi = some (.lst ((cutA l lo hi).map enc)) := by
  show some (D.lst (cutD (l.map enc) lo hi)) = _
  rw [cut_map]
/-- a shuffled list of things is a list of the same things -/
theorem perm_enc {α : Type} (enc : α → D) {l : List α} {m : List D} (h : m.Perm (l.map enc)) : ∃ l' : List α, m = l'.map enc ∧ l'.Perm l := by
  have : ∀ {a b : List D}, a.Perm b → ∀ l : List α, b = l.map enc → ∃ l' : List α, a = l'.map enc ∧ l'.Perm l := by
    intro a b p
    induction p with
    | nil => intro l e; exact ⟨[], rfl, by cases l <;> first | exact .nil | cases e⟩
    | @cons x a b _ ih =>
      intro l e
      cases l with
      | nil => cases e
      | cons y l =>
        rw [List.map_cons] at e
        injection e with e1 e2
        obtain ⟨l', h1, h2⟩ := ih l e2
        exact ⟨y :: l', by rw [h1, e1]; rfl, h2.cons y⟩
    | swap x y a =>
      intro l e
      match l, e with
      | u :: v :: l, e =>
        rw [List.map_cons, List.map_cons] at e
        injection e with e1 e2
        injection e2 with e2 e3
        exact ⟨v :: u :: l, by rw [e1, e2, e3]; rfl, .swap u v l⟩
    | trans _ _ ih1 ih2 =>
      intro l e
      obtain ⟨l1, h1, h2⟩ := ih2 l e
      obtain ⟨l2, h3, h4⟩ := ih1 l1 h1
      exact ⟨l2, h3, h4.trans h2⟩
  exact this h l rfl
theorem putD_len {α : Type} [DecidableEq α] (l : List (α × D)) (k : α) (v : D) : (putD l k v).length ≤ l.length + 1 := by
  unfold putD
  split
  · rw [List.length_map]; omega
  · rw [List.length_append]; exact Nat.le_refl _
theorem putD_all {α : Type} [DecidableEq α] {P : α → D → Prop} {l : List (α × D)} {k : α} {v : D} (h : ∀ p ∈ l, P p.1 p.2) (hk : P k v) : ∀ p ∈ putD l k v, P p.1 p.2 := by
  unfold putD
  split
  · intro p hp
    obtain ⟨q, h1, rfl⟩ := List.mem_map.mp hp
    split
    · rename_i e
      rw [e]; exact hk
    · exact h q h1
  · intro p hp
    rcases List.mem_append.mp hp with hp | hp
    · exact h p hp
    · rw [List.mem_singleton] at hp
      rw [hp]; exact hk
theorem valD_mem {α : Type} [DecidableEq α] {l : List (α × D)} {p : α × D} (h : p ∈ l) : ∃ v, valD l p.1 = some v ∧ (p.1, v) ∈ l := by
  unfold valD
  cases e : l.find? fun kv => decide (kv.1 = p.1) with
  | none =>
    have := List.find?_eq_none.mp e p h
    simp at this
  | some q =>
    have h1 := List.find?_some e
    have h2 : q.1 = p.1 := of_decide_eq_true h1
    refine ⟨q.2, rfl, ?_⟩
    rw [← h2]
    exact List.mem_of_find?_eq_some e
theorem ix_dt {l : List (List Key × D)} {ks : List Key} {d e : D} (he : asKeys e = some ks) (h : valD l ks = some d) : ixAll (.dt l) e = some d := by
  show (getO (.dt l) e).bind id = _
  unfold getO
  rw [he]
  simp [h]
theorem tupKs_all {l : List D} (h : ∀ d ∈ l, ∃ ks, asKeys d = some ks) : ∃ kss, tupKs l = some kss ∧ l = kss.map keysD := by
  induction l with
  | nil => exact ⟨[], rfl, rfl⟩
  | cons d l ih =>
    obtain ⟨ks, h1⟩ := h d List.mem_cons_self
    obtain ⟨kss, h2, h3⟩ := ih fun e he => h e (List.mem_cons_of_mem _ he)
    refine ⟨ks :: kss, ?_, ?_⟩
    · rw [tupKs, h1, h2]
    · rw [List.map_cons, ← h3, asKeys_inv h1]
/-- tuples of one shape are sorted -/
theorem sort_tups {l : List (List Key)} (shape : Nat → Bool) (h : ∀ k ∈ l, shOk shape k = true) (hne : ∀ k ∈ l, k.length = (l.headD []).length) (hs : ∀ i, i < (l.headD []).length → shapeOf (l.headD []) i = shape i) : shAll l = true := by
  unfold shAll
  rw [List.all_eq_true]
  intro k hk
  have := h k hk
  have len := hne k hk
  unfold shOk at this ⊢
  rw [Bool.and_eq_true] at this ⊢
  refine ⟨this.1, ?_⟩
  have go : ∀ (ks : List Key) (i : Nat), i + ks.length ≤ (l.headD []).length → shGo shape i ks = true → shGo (shapeOf (l.headD [])) i ks = true := fun ks => by
    induction ks with
    | nil => intro i _ _; rfl
    | cons a ks ih =>
      intro i hi hg
      rw [List.length_cons] at hi
      have e := hs i (by omega)
      cases a with
      | inl z =>
        rw [shGo, Bool.and_eq_true] at hg ⊢
        rw [e]
        exact ⟨hg.1, ih (i + 1) (by omega) hg.2⟩
      | inr z =>
        rw [shGo, Bool.and_eq_true] at hg ⊢
        rw [e]
        exact ⟨hg.1, ih (i + 1) (by omega) hg.2⟩
  exact go k 0 (by omega) this.2
theorem shAll_of {l : List (List Key)} (sh : List Bool) (hsh : sh ≠ []) (h : ∀ k ∈ l, k.map (fun a => match a with | .inl _ => false | .inr _ => true) = sh) : shAll l = true := by
  have len : ∀ k ∈ l, k.length = sh.length := fun k hk => by rw [← h k hk, List.length_map]
  have at_ : ∀ k ∈ l, ∀ i, i < sh.length → shapeOf k i = sh.getD i false := fun k hk i hi => by
    have e := h k hk
    unfold shapeOf
    have hi' : i < k.length := by rw [len k hk]; exact hi
    rw [List.getElem?_eq_getElem hi', ← e, List.getD_eq_getElem?_getD, List.getElem?_map, List.getElem?_eq_getElem hi']
    cases k[i] <;> rfl
  cases l with
  | nil => rfl
  | cons k0 l =>
    have l0 := len k0 List.mem_cons_self
    refine sort_tups (fun i => sh.getD i false) (fun k hk => ?_) (fun k hk => by rw [len k hk]; exact l0.symm) fun i hi => at_ k0 List.mem_cons_self i (by rw [← l0]; exact hi)
    have e := h k hk
    unfold shOk
    rw [Bool.and_eq_true]
    constructor
    · have := len k hk
      cases k with
      | nil => exact absurd (by rw [List.length_nil] at this; exact List.length_eq_zero_iff.mp this.symm) hsh
      | cons => rfl
    · have go : ∀ (ks : List Key) (i : Nat), (∀ j, j < ks.length → (match ks[j]? with | some (.inr _) => true | _ => false) = sh.getD (i + j) false) → shGo (fun i => sh.getD i false) i ks = true := fun ks => by
        induction ks with
        | nil => intro i _; rfl
        | cons a ks ih =>
          intro i hg
          have h0 := hg 0 (by simp)
          have hr := ih (i + 1) fun j hj => by
            have := hg (j + 1) (by simpa using hj)
            rw [List.getElem?_cons_succ] at this
            rw [this]
            congr 1
            omega
          cases a with
          | inl z =>
            rw [shGo, hr, Bool.and_true]
            have h0' : false = sh.getD (i + 0) false := h0
            show (!sh.getD i false) = true
            rw [Nat.add_zero] at h0'
            rw [← h0']; rfl
          | inr z =>
            rw [shGo, hr, Bool.and_true]
            have h0' : true = sh.getD (i + 0) false := h0
            show sh.getD i false = true
            rw [Nat.add_zero] at h0'
            rw [← h0']
      refine go k 0 fun j hj => ?_
      have := at_ k hk j (by rw [← len k hk]; exact hj)
      rw [Nat.zero_add]
      exact this
end Fx
namespace K75
open PySem PySem.Spec L2 Fx
abbrev st_state_after : Stmt := PySem.Challenge.pw_onwhatterms_k75_leave_on_and_spells.main.body.getD 2 (.Pass ⟨0, 0, 0, 0⟩)
abbrev N_state_after : List Str := ["cure", "own", "first", "at", "what"]
abbrev st_leave_on : Stmt := PySem.Challenge.pw_onwhatterms_k75_leave_on_and_spells.main.body.getD 1 (.Pass ⟨0, 0, 0, 0⟩)
abbrev N_leave_on : List Str := ["grant", "deeds", "day", "who", "start", "till", "cure", "own", "at", "whose", "what"]
abbrev st_spells : Stmt := PySem.Challenge.pw_onwhatterms_k75_leave_on_and_spells.main.body.getD 3 (.Pass ⟨0, 0, 0, 0⟩)
abbrev N_spells : List Str := ["grant", "deeds", "who", "last", "rows", "day", "state"]
abbrev st_law_draw : Stmt := PySem.Challenge.pw_onwhatterms_k75_leave_on_and_spells.main.body.getD 5 (.Pass ⟨0, 0, 0, 0⟩)
abbrev N_law_draw : List Str := ["src", "many", "cell", "told"]
abbrev st_law_pick : Stmt := PySem.Challenge.pw_onwhatterms_k75_leave_on_and_spells.main.body.getD 6 (.Pass ⟨0, 0, 0, 0⟩)
abbrev N_law_pick : List Str := ["src", "some"]
abbrev st_law_so : Stmt := PySem.Challenge.pw_onwhatterms_k75_leave_on_and_spells.main.body.getD 7 (.Pass ⟨0, 0, 0, 0⟩)
abbrev N_law_so : List Str := ["told", "due", "k"]
abbrev st_law_shuffled : Stmt := PySem.Challenge.pw_onwhatterms_k75_leave_on_and_spells.main.body.getD 8 (.Pass ⟨0, 0, 0, 0⟩)
abbrev N_law_shuffled : List Str := ["src", "some", "found", "one"]
abbrev st_law_state : Stmt := PySem.Challenge.pw_onwhatterms_k75_leave_on_and_spells.main.body.getD 9 (.Pass ⟨0, 0, 0, 0⟩)
abbrev N_law_state : List Str := ["grant", "deeds", "day", "who", "first", "when", "one", "what"]
abbrev st_law_grant : Stmt := PySem.Challenge.pw_onwhatterms_k75_leave_on_and_spells.main.body.getD 10 (.Pass ⟨0, 0, 0, 0⟩)
abbrev N_law_grant : List Str := ["src", "base", "start"]
abbrev st_law_deeds : Stmt := PySem.Challenge.pw_onwhatterms_k75_leave_on_and_spells.main.body.getD 11 (.Pass ⟨0, 0, 0, 0⟩)
abbrev N_law_deeds : List Str := ["src", "base", "many", "people", "found", "k", "when", "who"]
abbrev st_law_base : Stmt := PySem.Challenge.pw_onwhatterms_k75_leave_on_and_spells.main.body.getD 12 (.Pass ⟨0, 0, 0, 0⟩)
abbrev N_law_base : List Str := ["src"]
abbrev st_law_spells : Stmt := PySem.Challenge.pw_onwhatterms_k75_leave_on_and_spells.main.body.getD 13 (.Pass ⟨0, 0, 0, 0⟩)
abbrev N_law_spells : List Str := ["grant", "deeds", "who", "last", "days", "found", "day", "state", "when", "one", "what"]
abbrev st_law_days : Stmt := PySem.Challenge.pw_onwhatterms_k75_leave_on_and_spells.main.body.getD 14 (.Pass ⟨0, 0, 0, 0⟩)
abbrev N_law_days : List Str := ["grant", "deeds", "some", "when", "who", "what", "day"]
abbrev st_law_cured : Stmt := PySem.Challenge.pw_onwhatterms_k75_leave_on_and_spells.main.body.getD 15 (.Pass ⟨0, 0, 0, 0⟩)
abbrev N_law_cured : List Str := ["src", "cure", "start", "first", "last", "found", "when"]
abbrev st_law_spells_right : Stmt := PySem.Challenge.pw_onwhatterms_k75_leave_on_and_spells.main.body.getD 16 (.Pass ⟨0, 0, 0, 0⟩)
abbrev N_law_spells_right : List Str := ["src", "grant", "deeds", "is_late", "ends", "last", "who", "due", "told", "k", "behind"]
abbrev st_law : Stmt := PySem.Challenge.pw_onwhatterms_k75_leave_on_and_spells.main.body.getD 17 (.Pass ⟨0, 0, 0, 0⟩)
abbrev N_law : List Str := ["script", "src", "turn", "base", "great", "grant", "deeds", "day", "who"]
structure Fa (K : PySem.W.Frag) (mg : Str → Option Value) : Prop where
  b_abs : mg "abs" = none
  b_bool : mg "bool" = none
  b_dict : mg "dict" = none
  b_int : mg "int" = none
  b_isinstance : mg "isinstance" = none
  b_len : mg "len" = none
  b_list : mg "list" = none
  b_max : mg "max" = none
  b_range : mg "range" = none
  b_sorted : mg "sorted" = none
  b_str : mg "str" = none
  b_tuple : mg "tuple" = none
  f_leave_on : ∃ f fd, FnP K "leave_on" st_leave_on f fd ∧ mg "leave_on" = some (.ref f)
  f_state_after : ∃ f fd, FnP K "state_after" st_state_after f fd ∧ mg "state_after" = some (.ref f)
  f_spells : ∃ f fd, FnP K "spells" st_spells f fd ∧ mg "spells" = some (.ref f)
  f_law_draw : ∃ f fd, FnP K "_law_draw" st_law_draw f fd ∧ mg "_law_draw" = some (.ref f)
  f_law_pick : ∃ f fd, FnP K "_law_pick" st_law_pick f fd ∧ mg "_law_pick" = some (.ref f)
  f_law_so : ∃ f fd, FnP K "_law_so" st_law_so f fd ∧ mg "_law_so" = some (.ref f)
  f_law_shuffled : ∃ f fd, FnP K "_law_shuffled" st_law_shuffled f fd ∧ mg "_law_shuffled" = some (.ref f)
  f_law_state : ∃ f fd, FnP K "_law_state" st_law_state f fd ∧ mg "_law_state" = some (.ref f)
  f_law_grant : ∃ f fd, FnP K "_law_grant" st_law_grant f fd ∧ mg "_law_grant" = some (.ref f)
  f_law_deeds : ∃ f fd, FnP K "_law_deeds" st_law_deeds f fd ∧ mg "_law_deeds" = some (.ref f)
  f_law_base : ∃ f fd, FnP K "_law_base" st_law_base f fd ∧ mg "_law_base" = some (.ref f)
  f_law_spells : ∃ f fd, FnP K "_law_spells" st_law_spells f fd ∧ mg "_law_spells" = some (.ref f)
  f_law_days : ∃ f fd, FnP K "_law_days" st_law_days f fd ∧ mg "_law_days" = some (.ref f)
  f_law_cured : ∃ f fd, FnP K "_law_cured" st_law_cured f fd ∧ mg "_law_cured" = some (.ref f)
  f_law_spells_right : ∃ f fd, FnP K "_law_spells_right" st_law_spells_right f fd ∧ mg "_law_spells_right" = some (.ref f)
  f_law : ∃ f fd, FnP K "law" st_law f fd ∧ mg "law" = some (.ref f)
/-! ### state_after -/
abbrev lb1_state_after : Fx.Env → MS Unit Out := (sIf (cAnd (cCmp eqO (eVar 4) (eC (.str "break"))) (cCmp eqO (eVar 2) (eUn negD (eC (.int 1))))) (sAsg 2 (eVar 3)) (sIf (cAnd (cCmp eqO (eVar 4) (eC (.str "mend"))) (cAnd (cCmp neO (eVar 2) (eUn negD (eC (.int 1)))) (cCmp neO (eVar 0) (eUn negD (eC (.int 1)))))) (sSeq (sIf (cCmp gtO (eOp subD (eVar 3) (eVar 2)) (eVar 0)) (sRet (eC (.str "gone"))) sNil) <|
    (sAsg 2 (eUn negD (eC (.int 1))))) sNil))
def den_state_after : Fx.Env → MS Unit Out := (sSeq (sAsg 2 (eUn negD (eC (.int 1)))) <|
    (sSeq (sFor (iSeq (eVar 1)) (.tp [(.nm 3), (.nm 4)]) lb1_state_after) <|
    (sSeq (sIf (cCmp eqO (eVar 2) (eUn negD (eC (.int 1)))) (sRet (eC (.str "free"))) sNil) <|
    (sRet (eC (.str "broken"))))))
def s_state_after : List D → Option D := semP 5 den_state_after
theorem bp_state_after : BindP "state_after" st_state_after ["cure", "own"] := fun _ _ _ _ _ _ us hl => match us, hl with | [_, _], _ => rfl
theorem sc_state_after : FnScope N_state_after ["cure", "own"] (defScope st_state_after) := ⟨rfl, rfl, rfl, by decide +kernel, rfl, by decide +kernel, by decide +kernel⟩
theorem ok_state_after {P : Program} {w : World} {K : PySem.W.Frag} {mg : Str → Option Value} {base : Heap} (g : Fa K mg) : Def P w K mg base 1 "state_after" st_state_after ["cure", "own"] (spP 2 s_state_after) := by
    obtain ⟨f, fd, F, hm⟩ := g.f_state_after
    refine Def.mkP (N := N_state_after) (κ := [.val, .val, .val, .val, .val]) (κ' := [.val, .val, .val, .val, .val]) (κL := [.val, .val, .val, .val, .val]) F hm bp_state_after sc_state_after rfl rfl (by decide) fun cdv A outer s H E hr => ?_
    have u64 := hr.units
    have u1 := un1 hr
    have u65 := un65 hr
    have hN := sc_state_after.nd
    exact (s_cons (κ1 := [.val, .val, .val, .val, .val]) (s_asg (j := 2) hN (f_neg f_int)) <|
    (s_cons (κ1 := [.val, .val, .val, .val, .val]) (s_for (t := (.tp [(.nm 3), (.nm 4)])) PassesOwn.never rfl (i_seq (f_var (j := 1))) (g_tup rfl (g_cons (g_nm (j := 3) hN) (g_cons (g_nm (j := 4) hN) g_nil))) (s_one (s_if (PW.pt (w_and (t_eq u64 (f_var (j := 4)) f_str) (w_one1 (t_eq u64 (f_var (j := 2)) (f_neg f_int))))) (s_one (s_asg (j := 2) hN (f_var (j := 3)))) (s_one (s_if (PW.pt (w_and (t_eq u64 (f_var (j := 4)) f_str) (w_and (t_ne u64 (f_var (j := 2)) (f_neg f_int)) (w_one1 (t_ne u64 (f_var (j := 0)) (f_neg f_int)))))) (s_cons (κ1 := [.val, .val, .val, .val, .val]) (s_if (t_gt  (f_sub (f_var (j := 3)) (f_var (j := 2))) (f_var (j := 0))) (s_one (s_ret f_str)) s_nil) <|
    (s_one (s_asg (j := 2) hN (f_neg f_int)))) s_nil))))) <|
    (s_cons (κ1 := [.val, .val, .val, .val, .val]) (s_if (t_eq u64 (f_var (j := 2)) (f_neg f_int)) (s_one (s_ret f_str)) s_nil) <|
    (s_one (s_ret f_str)))))
/-! ### leave_on -/
abbrev cc1_leave_on : Fx.Env → MS Unit Bool := (cAnd (cCmp eqO (eVar 9) (eVar 3)) (cAnd (cCmp geO (eVar 8) (eVar 4)) (cCmp leO (eVar 8) (eVar 2))))
abbrev ce1_leave_on : Fx.Env → MS Unit D := (eTup (aCons (eVar 8) (aCons (eVar 10) aNil)))
def den_leave_on : Fx.Env → MS Unit Out := (sSeq (sUnp (.tp [(.nm 4), (.nm 5), (.nm 6)]) (eVar 0)) <|
    (sSeq (sIf (cCmp ltO (eVar 2) (eVar 4)) (sRet (eC (.str "before"))) sNil) <|
    (sSeq (sIf (cAnd (cCmp neO (eVar 5) (eUn negD (eC (.int 1)))) (cCmp geO (eVar 2) (eVar 5))) (sRet (eC (.str "over"))) sNil) <|
    (sSeq (sAsg 7 (eLc (iSeq (eVar 1)) (.tp [(.nm 8), (.nm 9), (.nm 10)]) [8, 9, 10] cc1_leave_on ce1_leave_on)) <|
    (sRet (eFn (cl 2 s_state_after) (aCons (eVar 6) (aCons (eVar 7) aNil))))))))
def s_leave_on : List D → Option D := semP 11 den_leave_on
theorem bp_leave_on : BindP "leave_on" st_leave_on ["grant", "deeds", "day", "who"] := fun _ _ _ _ _ _ us hl => match us, hl with | [_, _, _, _], _ => rfl
theorem sc_leave_on : FnScope N_leave_on ["grant", "deeds", "day", "who"] (defScope st_leave_on) := ⟨rfl, rfl, rfl, by decide +kernel, rfl, by decide +kernel, by decide +kernel⟩
theorem kb_leave_on_who_day_deeds_grant : BindK "leave_on" st_leave_on ["grant", "deeds", "day", "who"] ["who", "day", "deeds", "grant"] [3, 2, 1, 0] := fun _ _ _ _ _ _ us hl => match us, hl with | [_, _, _, _], _ => rfl
theorem ok_leave_on {P : Program} {w : World} {K : PySem.W.Frag} {mg : Str → Option Value} {base : Heap} (g : Fa K mg) : Def P w K mg base 2 "leave_on" st_leave_on ["grant", "deeds", "day", "who"] (spP 4 s_leave_on) := by
    obtain ⟨f, fd, F, hm⟩ := g.f_leave_on
    have d_state_after := (ok_state_after (P := P) (w := w) (base := base) g).mono (k := 1) (by decide)
    refine Def.mkP (N := N_leave_on) (κ := [.val, .val, .val, .val, .val, .val, .val, .val, .val, .val, .val]) (κ' := [.val, .val, .val, .val, .val, .val, .val, .val, .val, .val, .val]) (κL := [.val, .val, .val, .val, .val, .val, .val, .val, .val, .val, .val]) F hm bp_leave_on sc_leave_on rfl rfl (by decide) fun cdv A outer s H E hr => ?_
    have u64 := hr.units
    have u1 := un1 hr
    have u65 := un65 hr
    have hN := sc_leave_on.nd
    exact (s_cons (κ1 := [.val, .val, .val, .val, .val, .val, .val, .val, .val, .val, .val]) (s_unp (t := (.tp [(.nm 4), (.nm 5), (.nm 6)])) (f_var (j := 0)) (g_tup rfl (g_cons (g_nm (j := 4) hN) (g_cons (g_nm (j := 5) hN) (g_cons (g_nm (j := 6) hN) g_nil))))) <|
    (s_cons (κ1 := [.val, .val, .val, .val, .val, .val, .val, .val, .val, .val, .val]) (s_if (t_lt  (f_var (j := 2)) (f_var (j := 4))) (s_one (s_ret f_str)) s_nil) <|
    (s_cons (κ1 := [.val, .val, .val, .val, .val, .val, .val, .val, .val, .val, .val]) (s_if (PW.pt (w_and (t_ne u64 (f_var (j := 5)) (f_neg f_int)) (w_one1 (t_ge  (f_var (j := 2)) (f_var (j := 5)))))) (s_one (s_ret f_str)) s_nil) <|
    (s_cons (κ1 := [.val, .val, .val, .val, .val, .val, .val, .val, .val, .val, .val]) (s_asgLc (j := 7) (own := [("at", 8), ("whose", 9), ("what", 10)]) (t := (.tp [(.nm 8), (.nm 9), (.nm 10)])) rfl hN (sw_true rfl rfl rfl (by decide +kernel)) (i_seq (f_var (j := 1))) (blkOk_by (by kernel_rfl)) (fun _ _ _ _ _ => (g_tup rfl (g_cons (g_nm (j := 8) hN) (g_cons (g_nm (j := 9) hN) (g_cons (g_nm (j := 10) hN) g_nil))))) (fun _ _ _ _ _ => (c_one (PW.pt (w_and (t_eq u64 (f_var (j := 9)) (f_var (j := 3))) (w_and (t_ge  (f_var (j := 8)) (f_var (j := 4))) (w_one1 (t_le  (f_var (j := 8)) (f_var (j := 2))))))))) (fun _ _ _ _ _ => (f_tup (a_cons (f_var (j := 8)) (a_cons (f_var (j := 10)) a_nil))))) <|
    (s_one (s_ret (d_call d_state_after hr rfl (a_cons (f_var (j := 6)) (a_cons (f_var (j := 7)) a_nil)))))))))
/-! ### spells -/
abbrev lb1_spells : Fx.Env → MS Unit Out := (sSeq (sAsg 6 (eFn (cl 4 s_leave_on) (aCons (eVar 0) (aCons (eVar 1) (aCons (eVar 5) (aCons (eVar 2) aNil)))))) <|
    (sIf (cOr (cCmp eqO (eScal (eFn (fn1 lenO) (aCons (eVar 4) aNil))) (eC (.int 0))) (cCmp neO (eScal (eOp ixAll (eOp ixAll (eVar 4) (eUn negD (eC (.int 1)))) (eC (.int 1)))) (eVar 6))) (mthL 4 appO (aCons (eTup (aCons (eVar 5) (aCons (eVar 6) aNil))) aNil)) sNil))
def den_spells : Fx.Env → MS Unit Out := (sSeq (sAsg 4 (eLst aNil)) <|
    (sSeq (sFor (iFn rng1O (aCons (eOp addD (eVar 3) (eC (.int 1))) aNil)) (.nm 5) lb1_spells) <|
    (sRet (eFn (fn1 tupleO) (aCons (eVar 4) aNil)))))
def s_spells : List D → Option D := semP 7 den_spells
theorem bp_spells : BindP "spells" st_spells ["grant", "deeds", "who", "last"] := fun _ _ _ _ _ _ us hl => match us, hl with | [_, _, _, _], _ => rfl
theorem sc_spells : FnScope N_spells ["grant", "deeds", "who", "last"] (defScope st_spells) := ⟨rfl, rfl, rfl, by decide +kernel, rfl, by decide +kernel, by decide +kernel⟩
theorem kb_spells_last_who_deeds_grant : BindK "spells" st_spells ["grant", "deeds", "who", "last"] ["last", "who", "deeds", "grant"] [3, 2, 1, 0] := fun _ _ _ _ _ _ us hl => match us, hl with | [_, _, _, _], _ => rfl
theorem ok_spells {P : Program} {w : World} {K : PySem.W.Frag} {mg : Str → Option Value} {base : Heap} (g : Fa K mg) : Def P w K mg base 3 "spells" st_spells ["grant", "deeds", "who", "last"] (spP 4 s_spells) := by
    obtain ⟨f, fd, F, hm⟩ := g.f_spells
    have d_leave_on := (ok_leave_on (P := P) (w := w) (base := base) g).mono (k := 2) (by decide)
    refine Def.mkP (N := N_spells) (κ := [.val, .val, .val, .val, .val, .val, .val]) (κ' := [.val, .val, .val, .val, .val, .val, .val]) (κL := [.val, .val, .val, .val, .val, .val, .val]) F hm bp_spells sc_spells rfl rfl (by decide) fun cdv A outer s H E hr => ?_
    have u64 := hr.units
    have u1 := un1 hr
    have u65 := un65 hr
    have hN := sc_spells.nd
    exact (s_cons (κ1 := [.val, .val, .val, .val, .oL, .val, .val]) (s_own (j := 4) (k := .oL) hN (n_lst a_nil)) <|
    (s_cons (κ1 := [.val, .val, .val, .val, .oL, .val, .val]) (s_for (t := (.nm 5)) PassesOwn.never rfl (i_rng1 rfl g.b_range (a_cons (f_add (f_var (j := 3)) f_int) a_nil)) (g_nm (j := 5) hN) (s_cons (κ1 := [.val, .val, .val, .val, .oL, .val, .val]) (s_asg (j := 6) hN (d_call d_leave_on hr rfl (a_cons (f_var (j := 0)) (a_cons (f_var (j := 1)) (a_cons (f_var (j := 5)) (a_cons (f_var (j := 2)) a_nil)))))) <|
    (s_one (s_if (PW.pt (w_or (t_eq u64 (f_scal (f_len rfl g.b_len (a_cons (f_var (j := 4)) a_nil))) f_int) (w_or1 (t_ne u64 (f_scal (f_ix u1 (f_ix u1 (f_var (j := 4)) (f_neg f_int)) f_int)) (f_var (j := 6)))))) (s_one (s_mth (j := 4) PySem.F.slot_list_append PySem.F.type_list_append mt_append appS (a_cons (f_tup (a_cons (f_var (j := 5)) (a_cons (f_var (j := 6)) a_nil))) a_nil))) s_nil)))) <|
    (s_frz 4 (s_one (s_ret (f_tuple rfl g.b_tuple (a_cons (f_var (j := 4)) a_nil)))))))
/-! ### _law_draw -/
def den_law_draw : Fx.Env → MS GD.S Out := (sSeq (sIf (cAnd (cCmp leO (eBag fun s => s.2.1) (eC (.int 1))) (cCmp gtO (eBag fun s => (s.1.length : Int)) (eC (.int 0)))) (sSeq (sAsg 2 (eFn (fn1 absO) (aCons ePop aNil))) <|
    (sSeq (sBag put3 (eOp modD (eFn (fn1 intO) (aCons (eOp addD (eOp addD (eOp mulD (eBag fun s => s.2.2.2) (eC (.int 69621))) (eVar 2)) (eC (.int 1))) aNil)) (eC (.int 2147483647)))) <|
    (sSeq (sBag put1 (eIf (cCmp eqO (eOp modD (eFn (fn1 intO) (aCons (eVar 2) aNil)) (eC (.int 2))) (eC (.int 0))) (eOp fdivD (eVar 2) (eC (.int 2))) (eC (.int 0)))) <|
    (sBag put2 (eC (.int 0)))))) sNil) <|
    (sSeq (sIf (cCmp gtO (eBag fun s => s.2.1) (eC (.int 1))) (sSeq (sAsg 3 (eOp modD (eFn (fn1 intO) (aCons (eBag fun s => s.2.1) aNil)) (eVar 1))) <|
    (sSeq (sBag put1 (eOp fdivD (eBag fun s => s.2.1) (eVar 1))) <|
    (sSeq (sBag put2 (eOp addD (eBag fun s => s.2.2.1) (eC (.int 1)))) <|
    (sSeq (sIf (cCmp geO (eBag fun s => s.2.2.1) (eC (.int 60))) (sBag put1 (eC (.int 0))) sNil) <|
    (sRet (eVar 3)))))) sNil) <|
    (sSeq (sBag put3 (eOp modD (eFn (fn1 intO) (aCons (eOp addD (eOp mulD (eBag fun s => s.2.2.2) (eC (.int 48271))) (eC (.int 12345))) aNil)) (eC (.int 2147483647)))) <|
    (sRet (eOp modD (eFn (fn1 intO) (aCons (eOp fdivD (eBag fun s => s.2.2.2) (eC (.int 64))) aNil)) (eVar 1))))))
def s_law_draw : List D → MS GD.S D := semB 1 4 den_law_draw
theorem bp_law_draw : BindP "_law_draw" st_law_draw ["src", "many"] := fun _ _ _ _ _ _ us hl => match us, hl with | [_, _], _ => rfl
theorem sc_law_draw : FnScope N_law_draw ["src", "many"] (defScope st_law_draw) := ⟨rfl, rfl, rfl, by decide +kernel, rfl, by decide +kernel, by decide +kernel⟩
theorem ok_law_draw {P : Program} {w : World} {K : PySem.W.Frag} {mg : Str → Option Value} {base : Heap} (g : Fa K mg) : Def P w K mg base 1 "_law_draw" st_law_draw ["src", "many"] (spF GD 1 s_law_draw) := by
    obtain ⟨f, fd, F, hm⟩ := g.f_law_draw
    refine Def.mk' (G := GD) (n := 1) (N := N_law_draw) (κ := [.bag 0, .val, .val, .val]) (κ' := [.bag 0, .val, .val, .val]) (κL := [.bag 0, .val, .val, .val]) F hm bp_law_draw sc_law_draw rfl rfl (by decide) (by decide) fun cdv A outer s H E hr => ?_
    have u64 := hr.units
    have u1 := un1 hr
    have u65 := un65 hr
    have hN := sc_law_draw.nd
    exact (s_cons (κ1 := [.bag 0, .val, .val, .val]) (s_if (PW.pt (w_and (t_le  (b_get1 (j := 0)) f_int) (w_one1 (t_gt  (b_len (j := 0) rfl g.b_len) f_int)))) (s_cons (κ1 := [.bag 0, .val, .val, .val]) (s_asg (j := 2) hN (f_abs rfl g.b_abs (a_cons (b_pop (j := 0)) a_nil))) <|
    (s_cons (κ1 := [.bag 0, .val, .val, .val]) (b_set3 (j := 0) (f_mod (f_intc rfl g.b_int (a_cons (f_add (f_add (f_mul (b_get3 (j := 0)) f_int) (f_var (j := 2))) f_int) a_nil)) f_int) (pg_sub (pv 0) pe_int set_list)) <|
    (s_cons (κ1 := [.bag 0, .val, .val, .val]) (b_set1 (j := 0) (f_if (t_eq u64 (f_mod (f_intc rfl g.b_int (a_cons (f_var (j := 2)) a_nil)) f_int) f_int) (f_fdiv (f_var (j := 2)) f_int) f_int) (pg_sub (pv 0) pe_int set_list)) <|
    (s_one (b_set2 (j := 0) f_int (pg_sub (pv 0) pe_int set_list)))))) s_nil) <|
    (s_cons (κ1 := [.bag 0, .val, .val, .val]) (s_if (t_gt  (b_get1 (j := 0)) f_int) (s_cons (κ1 := [.bag 0, .val, .val, .val]) (s_asg (j := 3) hN (f_mod (f_intc rfl g.b_int (a_cons (b_get1 (j := 0)) a_nil)) (f_var (j := 1)))) <|
    (s_cons (κ1 := [.bag 0, .val, .val, .val]) (b_set1 (j := 0) (f_fdiv (b_get1 (j := 0)) (f_var (j := 1))) (pg_sub (pv 0) pe_int set_list)) <|
    (s_cons (κ1 := [.bag 0, .val, .val, .val]) (b_set2 (j := 0) (f_add (b_get2 (j := 0)) f_int) (pg_sub (pv 0) pe_int set_list)) <|
    (s_cons (κ1 := [.bag 0, .val, .val, .val]) (s_if (t_ge  (b_get2 (j := 0)) f_int) (s_one (b_set1 (j := 0) f_int (pg_sub (pv 0) pe_int set_list))) s_nil) <|
    (s_one (s_ret (f_var (j := 3)))))))) s_nil) <|
    (s_cons (κ1 := [.bag 0, .val, .val, .val]) (b_set3 (j := 0) (f_mod (f_intc rfl g.b_int (a_cons (f_add (f_mul (b_get3 (j := 0)) f_int) f_int) a_nil)) f_int) (pg_sub (pv 0) pe_int set_list)) <|
    (s_one (s_ret (f_mod (f_intc rfl g.b_int (a_cons (f_fdiv (b_get3 (j := 0)) f_int) a_nil)) (f_var (j := 1))))))))
/-! ### _law_pick -/
def den_law_pick : Fx.Env → MS GD.S Out := (sRet (eOp ixAll (eVar 1) (eCallB (clB 1 s_law_draw) (aCons (eFn (fn1 lenO) (aCons (eVar 1) aNil)) aNil))))
def s_law_pick : List D → MS GD.S D := semB 1 2 den_law_pick
theorem bp_law_pick : BindP "_law_pick" st_law_pick ["src", "some"] := fun _ _ _ _ _ _ us hl => match us, hl with | [_, _], _ => rfl
theorem sc_law_pick : FnScope N_law_pick ["src", "some"] (defScope st_law_pick) := ⟨rfl, rfl, rfl, by decide +kernel, rfl, by decide +kernel, by decide +kernel⟩
theorem ok_law_pick {P : Program} {w : World} {K : PySem.W.Frag} {mg : Str → Option Value} {base : Heap} (g : Fa K mg) : Def P w K mg base 2 "_law_pick" st_law_pick ["src", "some"] (spF GD 1 s_law_pick) := by
    obtain ⟨f, fd, F, hm⟩ := g.f_law_pick
    have d_law_draw := (ok_law_draw (P := P) (w := w) (base := base) g).mono (k := 1) (by decide)
    refine Def.mk' (G := GD) (n := 1) (N := N_law_pick) (κ := [.bag 0, .val]) (κ' := [.bag 0, .val]) (κL := [.bag 0, .val]) F hm bp_law_pick sc_law_pick rfl rfl (by decide) (by decide) fun cdv A outer s H E hr => ?_
    have u64 := hr.units
    have u1 := un1 hr
    have u65 := un65 hr
    have hN := sc_law_pick.nd
    exact (s_one (s_ret (f_ix u1 (f_var (j := 1)) (d_callB d_law_draw hr rfl (a_bag1 (j := 0) rfl rfl rfl (ha := (a_cons (f_len rfl g.b_len (a_cons (f_var (j := 1)) a_nil)) a_nil)))))))
/-! ### _law_so -/
abbrev cc1_law_so (sem : List D → Option D) : Fx.Env → MS Unit Bool := (cNot (cTru (eFn (cl 2 sem) (aCons (eOp ixAll (eVar 0) (eVar 2)) (aCons (eOp ixAll (eVar 1) (eVar 2)) aNil)))))
abbrev ce1_law_so (sem : List D → Option D) : Fx.Env → MS Unit D := (eVar 2)
def den_law_so (sem : List D → Option D) : Fx.Env → MS Unit Out := (sSeq (sIf (cCmp isO (eVar 1) (eC .non)) (sRet (eCmp isO (eVar 0) (eC .non))) sNil) <|
    (sSeq (sIf (cTru (eUn (isiO' "tuple") (eVar 1))) (sSeq (sIf (cOr (cNot (cTru (eUn (isiO' "tuple") (eVar 0)))) (cCmp neO (eFn (fn1 lenO) (aCons (eVar 0) aNil)) (eFn (fn1 lenO) (aCons (eVar 1) aNil)))) (sRet (eC (.bl false))) sNil) <|
    (sRet (eCmp eqO (eFn (fn1 lenO) (aCons (eLc (iFn rng1O (aCons (eFn (fn1 lenO) (aCons (eVar 1) aNil)) aNil)) (.nm 2) [2] (cc1_law_so sem) (ce1_law_so sem)) aNil)) (eC (.int 0))))) sNil) <|
    (sSeq (sIf (cOr (cTru (eUn (isiO' "bool") (eVar 1))) (cTru (eUn (isiO' "bool") (eVar 0)))) (sRet (eAnd (eUn (isiO' "bool") (eVar 1)) (eAnd (eUn (isiO' "bool") (eVar 0)) (eCmp eqO (eVar 0) (eVar 1))))) sNil) <|
    (sSeq (sIf (cTru (eUn (isiO' "int") (eVar 1))) (sRet (eAnd (eUn (isiO' "int") (eVar 0)) (eCmp eqO (eVar 0) (eVar 1)))) sNil) <|
    (sRet (eAnd (eUn (isiO' "str") (eVar 0)) (eCmp eqO (eVar 0) (eVar 1))))))))
def s_law_so : Nat → List D → Option D
  | 0 => fun _ => none
  | n + 1 => semP 3 (den_law_so (s_law_so n))
theorem bp_law_so : BindP "_law_so" st_law_so ["told", "due"] := fun _ _ _ _ _ _ us hl => match us, hl with | [_, _], _ => rfl
theorem sc_law_so : FnScope N_law_so ["told", "due"] (defScope st_law_so) := ⟨rfl, rfl, rfl, by decide +kernel, rfl, by decide +kernel, by decide +kernel⟩
theorem ok_law_so {P : Program} {w : World} {K : PySem.W.Frag} {mg : Str → Option Value} {base : Heap} (g : Fa K mg) : ∀ n : Nat, Def P w K mg base (n + 1) "_law_so" st_law_so ["told", "due"] (spP 2 (s_law_so n))
  | 0 => by
    obtain ⟨f, fd, F, hm⟩ := g.f_law_so
    exact Def.none F hm bp_law_so
  | n + 1 => by
    obtain ⟨f, fd, F, hm⟩ := g.f_law_so
    have d_law_so := ok_law_so (P := P) (w := w) (base := base) g n
    refine Def.mkP (N := N_law_so) (κ := [.val, .val, .val]) (κ' := [.val, .val, .val]) (κL := [.val, .val, .val]) F hm bp_law_so sc_law_so rfl rfl (by decide) fun cdv A outer s H E hr => ?_
    have u64 := hr.units
    have u1 := un1 hr
    have u65 := un65 hr
    have hN := sc_law_so.nd
    exact (s_cons (κ1 := [.val, .val, .val]) (s_if (t_is  (f_var (j := 1)) f_non) (s_one (s_ret (f_is  (f_var (j := 0)) f_non))) s_nil) <|
    (s_cons (κ1 := [.val, .val, .val]) (s_if (t_tru (f_isi (T := "tuple") rfl g.b_isinstance rfl g.b_tuple (by decide +kernel) (f_var (j := 1)))) (s_cons (κ1 := [.val, .val, .val]) (s_if (PW.pt (w_or (t_not (t_tru (f_isi (T := "tuple") rfl g.b_isinstance rfl g.b_tuple (by decide +kernel) (f_var (j := 0))))) (w_or1 (t_ne u64 (f_len rfl g.b_len (a_cons (f_var (j := 0)) a_nil)) (f_len rfl g.b_len (a_cons (f_var (j := 1)) a_nil)))))) (s_one (s_ret f_bl)) s_nil) <|
    (s_one (s_ret (f_eq u64 (f_len rfl g.b_len (a_cons (f_lc (own := [("k", 2)]) (t := (.nm 2)) rfl hN (i_rng1 rfl g.b_range (a_cons (f_len rfl g.b_len (a_cons (f_var (j := 1)) a_nil)) a_nil)) (blkOk_by (by kernel_rfl)) (fun _ _ _ _ _ => (g_nm (j := 2) hN)) (fun _ _ _ _ _ => (c_one (t_not (t_tru (d_call d_law_so hr rfl (a_cons (f_ix u1 (f_var (j := 0)) (f_var (j := 2))) (a_cons (f_ix u1 (f_var (j := 1)) (f_var (j := 2))) a_nil))))))) (fun _ _ _ _ _ => (f_var (j := 2)))) a_nil)) f_int)))) s_nil) <|
    (s_cons (κ1 := [.val, .val, .val]) (s_if (PW.pt (w_or (t_tru (f_isi (T := "bool") rfl g.b_isinstance rfl g.b_bool (by decide +kernel) (f_var (j := 1)))) (w_or1 (t_tru (f_isi (T := "bool") rfl g.b_isinstance rfl g.b_bool (by decide +kernel) (f_var (j := 0))))))) (s_one (s_ret (f_and (f_isi (T := "bool") rfl g.b_isinstance rfl g.b_bool (by decide +kernel) (f_var (j := 1))) (f_and (f_isi (T := "bool") rfl g.b_isinstance rfl g.b_bool (by decide +kernel) (f_var (j := 0))) (f_one (f_eq u64 (f_var (j := 0)) (f_var (j := 1)))))))) s_nil) <|
    (s_cons (κ1 := [.val, .val, .val]) (s_if (t_tru (f_isi (T := "int") rfl g.b_isinstance rfl g.b_int (by decide +kernel) (f_var (j := 1)))) (s_one (s_ret (f_and (f_isi (T := "int") rfl g.b_isinstance rfl g.b_int (by decide +kernel) (f_var (j := 0))) (f_one (f_eq u64 (f_var (j := 0)) (f_var (j := 1))))))) s_nil) <|
    (s_one (s_ret (f_and (f_isi (T := "str") rfl g.b_isinstance rfl g.b_str (by decide +kernel) (f_var (j := 0))) (f_one (f_eq u64 (f_var (j := 0)) (f_var (j := 1)))))))))))
/-! ### _law_shuffled -/
abbrev lb1_law_shuffled : Fx.Env → MS GD.S Out := (mthL 2 insO (aCons (eCallB (clB 1 s_law_draw) (aCons (eOp addD (eScal (eFn (fn1 lenO) (aCons (eVar 2) aNil))) (eC (.int 1))) aNil)) (aCons (eVar 3) aNil)))
def den_law_shuffled : Fx.Env → MS GD.S Out := (sSeq (sAsg 2 (eLst aNil)) <|
    (sSeq (sFor (iSeq (eVar 1)) (.nm 3) lb1_law_shuffled) <|
    (sRet (eVar 2))))
def s_law_shuffled : List D → MS GD.S D := semB 1 4 den_law_shuffled
theorem bp_law_shuffled : BindP "_law_shuffled" st_law_shuffled ["src", "some"] := fun _ _ _ _ _ _ us hl => match us, hl with | [_, _], _ => rfl
theorem sc_law_shuffled : FnScope N_law_shuffled ["src", "some"] (defScope st_law_shuffled) := ⟨rfl, rfl, rfl, by decide +kernel, rfl, by decide +kernel, by decide +kernel⟩
theorem ok_law_shuffled {P : Program} {w : World} {K : PySem.W.Frag} {mg : Str → Option Value} {base : Heap} (g : Fa K mg) : Def P w K mg base 2 "_law_shuffled" st_law_shuffled ["src", "some"] (spF GD 1 s_law_shuffled) := by
    obtain ⟨f, fd, F, hm⟩ := g.f_law_shuffled
    have d_law_draw := (ok_law_draw (P := P) (w := w) (base := base) g).mono (k := 1) (by decide)
    refine Def.mk' (G := GD) (n := 1) (N := N_law_shuffled) (κ := [.bag 0, .val, .val, .val]) (κ' := [.bag 0, .val, .val, .val]) (κL := [.bag 0, .val, .val, .val]) F hm bp_law_shuffled sc_law_shuffled rfl rfl (by decide) (by decide) fun cdv A outer s H E hr => ?_
    have u64 := hr.units
    have u1 := un1 hr
    have u65 := un65 hr
    have hN := sc_law_shuffled.nd
    exact (s_cons (κ1 := [.bag 0, .val, .oL, .val]) (s_own (j := 2) (k := .oL) hN (n_lst a_nil)) <|
    (s_cons (κ1 := [.bag 0, .val, .oL, .val]) (s_for (t := (.nm 3)) PassesOwn.never rfl (i_seq (f_var (j := 1))) (g_nm (j := 3) hN) (s_one (s_mth (j := 2) PySem.F.slot_list_insert PySem.F.type_list_insert mt_insert insS (a_cons (d_callB d_law_draw hr rfl (a_bag1 (j := 0) rfl rfl rfl (ha := (a_cons (f_add (f_scal (f_len rfl g.b_len (a_cons (f_var (j := 2)) a_nil))) f_int) a_nil)))) (a_cons (f_var (j := 3)) a_nil))))) <|
    (s_frz 2 (s_one (s_ret (f_var (j := 2)))))))
/-! ### _law_state -/
abbrev lb1_law_state : Fx.Env → MS Unit Out := (sIf (cAnd (cCmp eqO (eVar 6) (eVar 3)) (cChain leO leO (eOp ixAll (eVar 0) (eC (.int 0))) (eVar 5) (eVar 2))) (sSeq (sIf (cAnd (cCmp eqO (eVar 7) (eC (.str "break"))) (cCmp ltO (eVar 4) (eC (.int 0)))) (sAsg 4 (eVar 5)) sNil) <|
    (sIf (cAnd (cCmp eqO (eVar 7) (eC (.str "mend"))) (cAnd (cCmp geO (eVar 4) (eC (.int 0))) (cCmp geO (eOp ixAll (eVar 0) (eC (.int 2))) (eC (.int 0))))) (sSeq (sIf (cCmp gtO (eOp subD (eVar 5) (eVar 4)) (eOp ixAll (eVar 0) (eC (.int 2)))) (sRet (eC (.str "gone"))) sNil) <|
    (sAsg 4 (eUn negD (eC (.int 1))))) sNil)) sNil)
def den_law_state : Fx.Env → MS Unit Out := (sSeq (sIf (cCmp ltO (eVar 2) (eOp ixAll (eVar 0) (eC (.int 0)))) (sRet (eC (.str "before"))) sNil) <|
    (sSeq (sIf (cAnd (cCmp geO (eOp ixAll (eVar 0) (eC (.int 1))) (eC (.int 0))) (cCmp geO (eVar 2) (eOp ixAll (eVar 0) (eC (.int 1))))) (sRet (eC (.str "over"))) sNil) <|
    (sSeq (sAsg 4 (eUn negD (eC (.int 1)))) <|
    (sSeq (sFor (iSeq (eVar 1)) (.tp [(.nm 5), (.nm 6), (.nm 7)]) lb1_law_state) <|
    (sRet (eIf (cCmp ltO (eVar 4) (eC (.int 0))) (eC (.str "free")) (eC (.str "broken"))))))))
def s_law_state : List D → Option D := semP 8 den_law_state
theorem bp_law_state : BindP "_law_state" st_law_state ["grant", "deeds", "day", "who"] := fun _ _ _ _ _ _ us hl => match us, hl with | [_, _, _, _], _ => rfl
theorem sc_law_state : FnScope N_law_state ["grant", "deeds", "day", "who"] (defScope st_law_state) := ⟨rfl, rfl, rfl, by decide +kernel, rfl, by decide +kernel, by decide +kernel⟩
theorem ok_law_state {P : Program} {w : World} {K : PySem.W.Frag} {mg : Str → Option Value} {base : Heap} (g : Fa K mg) : Def P w K mg base 1 "_law_state" st_law_state ["grant", "deeds", "day", "who"] (spP 4 s_law_state) := by
    obtain ⟨f, fd, F, hm⟩ := g.f_law_state
    refine Def.mkP (N := N_law_state) (κ := [.val, .val, .val, .val, .val, .val, .val, .val]) (κ' := [.val, .val, .val, .val, .val, .val, .val, .val]) (κL := [.val, .val, .val, .val, .val, .val, .val, .val]) F hm bp_law_state sc_law_state rfl rfl (by decide) fun cdv A outer s H E hr => ?_
    have u64 := hr.units
    have u1 := un1 hr
    have u65 := un65 hr
    have hN := sc_law_state.nd
    exact (s_cons (κ1 := [.val, .val, .val, .val, .val, .val, .val, .val]) (s_if (t_lt  (f_var (j := 2)) (f_ix u1 (f_var (j := 0)) f_int)) (s_one (s_ret f_str)) s_nil) <|
    (s_cons (κ1 := [.val, .val, .val, .val, .val, .val, .val, .val]) (s_if (PW.pt (w_and (t_ge  (f_ix u1 (f_var (j := 0)) f_int) f_int) (w_one1 (t_ge  (f_var (j := 2)) (f_ix u1 (f_var (j := 0)) f_int))))) (s_one (s_ret f_str)) s_nil) <|
    (s_cons (κ1 := [.val, .val, .val, .val, .val, .val, .val, .val]) (s_asg (j := 4) hN (f_neg f_int)) <|
    (s_cons (κ1 := [.val, .val, .val, .val, .val, .val, .val, .val]) (s_for (t := (.tp [(.nm 5), (.nm 6), (.nm 7)])) PassesOwn.never rfl (i_seq (f_var (j := 1))) (g_tup rfl (g_cons (g_nm (j := 5) hN) (g_cons (g_nm (j := 6) hN) (g_cons (g_nm (j := 7) hN) g_nil)))) (s_one (s_if (PW.pt (w_and (t_eq u64 (f_var (j := 6)) (f_var (j := 3))) (w_one1 (t_chain (op_le.or op_le_str) (op_le.or op_le_str) ordS ordS (f_ix u1 (f_var (j := 0)) f_int) (f_var (j := 5)) (f_var (j := 2)))))) (s_cons (κ1 := [.val, .val, .val, .val, .val, .val, .val, .val]) (s_if (PW.pt (w_and (t_eq u64 (f_var (j := 7)) f_str) (w_one1 (t_lt  (f_var (j := 4)) f_int)))) (s_one (s_asg (j := 4) hN (f_var (j := 5)))) s_nil) <|
    (s_one (s_if (PW.pt (w_and (t_eq u64 (f_var (j := 7)) f_str) (w_and (t_ge  (f_var (j := 4)) f_int) (w_one1 (t_ge  (f_ix u1 (f_var (j := 0)) f_int) f_int))))) (s_cons (κ1 := [.val, .val, .val, .val, .val, .val, .val, .val]) (s_if (t_gt  (f_sub (f_var (j := 5)) (f_var (j := 4))) (f_ix u1 (f_var (j := 0)) f_int)) (s_one (s_ret f_str)) s_nil) <|
    (s_one (s_asg (j := 4) hN (f_neg f_int)))) s_nil))) s_nil))) <|
    (s_one (s_ret (f_if (t_lt  (f_var (j := 4)) f_int) f_str f_str)))))))
/-! ### _law_grant -/
def den_law_grant : Fx.Env → MS GD.S Out := (sSeq (sAsg 2 (eOp addD (eVar 1) (eCallB (clB 1 s_law_draw) (aCons (eC (.int 8)) aNil)))) <|
    (sRet (eTup (aCons (eVar 2) (aCons (eIf (cCmp eqO (eCallB (clB 1 s_law_draw) (aCons (eC (.int 3)) aNil)) (eC (.int 0))) (eUn negD (eC (.int 1))) (eOp addD (eOp addD (eVar 2) (eC (.int 1))) (eCallB (clB 1 s_law_draw) (aCons (eC (.int 25)) aNil)))) (aCons (eCallB (clB 1 s_law_pick) (aCons (eLst (aCons (eUn negD (eC (.int 1))) (aCons (eC (.int 0)) (aCons (eC (.int 1)) (aCons (eC (.int 2)) (aCons (eC (.int 5)) (aCons (eC (.int 30)) aNil))))))) aNil)) aNil))))))
def s_law_grant : List D → MS GD.S D := semB 1 3 den_law_grant
theorem bp_law_grant : BindP "_law_grant" st_law_grant ["src", "base"] := fun _ _ _ _ _ _ us hl => match us, hl with | [_, _], _ => rfl
theorem sc_law_grant : FnScope N_law_grant ["src", "base"] (defScope st_law_grant) := ⟨rfl, rfl, rfl, by decide +kernel, rfl, by decide +kernel, by decide +kernel⟩
theorem ok_law_grant {P : Program} {w : World} {K : PySem.W.Frag} {mg : Str → Option Value} {base : Heap} (g : Fa K mg) : Def P w K mg base 3 "_law_grant" st_law_grant ["src", "base"] (spF GD 1 s_law_grant) := by
    obtain ⟨f, fd, F, hm⟩ := g.f_law_grant
    have d_law_draw := (ok_law_draw (P := P) (w := w) (base := base) g).mono (k := 2) (by decide)
    have d_law_pick := (ok_law_pick (P := P) (w := w) (base := base) g).mono (k := 2) (by decide)
    refine Def.mk' (G := GD) (n := 1) (N := N_law_grant) (κ := [.bag 0, .val, .val]) (κ' := [.bag 0, .val, .val]) (κL := [.bag 0, .val, .val]) F hm bp_law_grant sc_law_grant rfl rfl (by decide) (by decide) fun cdv A outer s H E hr => ?_
    have u64 := hr.units
    have u1 := un1 hr
    have u65 := un65 hr
    have hN := sc_law_grant.nd
    exact (s_cons (κ1 := [.bag 0, .val, .val]) (s_asg (j := 2) hN (f_add (f_var (j := 1)) (d_callB d_law_draw hr rfl (a_bag1 (j := 0) rfl rfl rfl (ha := (a_cons f_int a_nil)))))) <|
    (s_one (s_ret (f_tup (a_cons (f_var (j := 2)) (a_cons (f_if (t_eq u64 (d_callB d_law_draw hr rfl (a_bag1 (j := 0) rfl rfl rfl (ha := (a_cons f_int a_nil)))) f_int) (f_neg f_int) (f_add (f_add (f_var (j := 2)) f_int) (d_callB d_law_draw hr rfl (a_bag1 (j := 0) rfl rfl rfl (ha := (a_cons f_int a_nil)))))) (a_cons (d_callB d_law_pick hr rfl (a_bag1 (j := 0) rfl rfl rfl (ha := (a_cons (f_lst (a_cons (f_neg f_int) (a_cons f_int (a_cons f_int (a_cons f_int (a_cons f_int (a_cons f_int a_nil))))))) a_nil)))) a_nil)))))))
/-! ### _law_deeds -/
abbrev lb1_law_deeds : Fx.Env → MS GD.S Out := (sPutD 4 (eTup (aCons (eOp addD (eVar 1) (eCallB (clB 1 s_law_draw) (aCons (eC (.int 30)) aNil))) (aCons (eCallB (clB 1 s_law_draw) (aCons (eVar 3) aNil)) aNil))) (eCallB (clB 1 s_law_pick) (aCons (eLst (aCons (eC (.str "keep")) (aCons (eC (.str "break")) (aCons (eC (.str "break")) (aCons (eC (.str "mend")) (aCons (eC (.str "mend")) aNil)))))) aNil)))
abbrev ce1_law_deeds : Fx.Env → MS GD.S D := (eTup (aCons (eVar 6) (aCons (eVar 7) (aCons (eOp ixAll (eVar 4) (eTup (aCons (eVar 6) (aCons (eVar 7) aNil)))) aNil))))
def den_law_deeds : Fx.Env → MS GD.S Out := (sSeq (sAsg 4 (eC (.dt []))) <|
    (sSeq (sFor (iFn rng1O (aCons (eVar 2) aNil)) (.nm 5) lb1_law_deeds) <|
    (sRet (eFn (fn1 tupleO) (aCons (eFn (fn1 sortO) (aCons (eLc (iVar iKeysD 4) (.tp [(.nm 6), (.nm 7)]) [6, 7] cYes ce1_law_deeds) aNil)) aNil)))))
def s_law_deeds : List D → MS GD.S D := semB 1 8 den_law_deeds
theorem bp_law_deeds : BindP "_law_deeds" st_law_deeds ["src", "base", "many", "people"] := fun _ _ _ _ _ _ us hl => match us, hl with | [_, _, _, _], _ => rfl
theorem sc_law_deeds : FnScope N_law_deeds ["src", "base", "many", "people"] (defScope st_law_deeds) := ⟨rfl, rfl, rfl, by decide +kernel, rfl, by decide +kernel, by decide +kernel⟩
theorem ok_law_deeds {P : Program} {w : World} {K : PySem.W.Frag} {mg : Str → Option Value} {base : Heap} (g : Fa K mg) : Def P w K mg base 3 "_law_deeds" st_law_deeds ["src", "base", "many", "people"] (spF GD 3 s_law_deeds) := by
    obtain ⟨f, fd, F, hm⟩ := g.f_law_deeds
    have d_law_pick := (ok_law_pick (P := P) (w := w) (base := base) g).mono (k := 2) (by decide)
    have d_law_draw := (ok_law_draw (P := P) (w := w) (base := base) g).mono (k := 2) (by decide)
    refine Def.mk' (G := GD) (n := 3) (N := N_law_deeds) (κ := [.bag 0, .val, .val, .val, .val, .val, .val, .val]) (κ' := [.bag 0, .val, .val, .val, .val, .val, .val, .val]) (κL := [.bag 0, .val, .val, .val, .val, .val, .val, .val]) F hm bp_law_deeds sc_law_deeds rfl rfl (by decide) (by decide) fun cdv A outer s H E hr => ?_
    have u64 := hr.units
    have u1 := un1 hr
    have u65 := un65 hr
    have hN := sc_law_deeds.nd
    exact (s_cons (κ1 := [.bag 0, .val, .val, .val, .oT, .val, .val, .val]) (s_own (j := 4) (k := .oT) hN n_dT) <|
    (s_cons (κ1 := [.bag 0, .val, .val, .val, .oT, .val, .val, .val]) (s_for (t := (.nm 5)) PassesOwn.never rfl (i_rng1 rfl g.b_range (a_cons (f_var (j := 2)) a_nil)) (g_nm (j := 5) hN) (s_one (s_putD (j := 4) u1 (d_callB d_law_pick hr rfl (a_bag1 (j := 0) rfl rfl rfl (ha := (a_cons (f_lst (a_cons f_str (a_cons f_str (a_cons f_str (a_cons f_str (a_cons f_str a_nil)))))) a_nil)))) (f_tup (a_cons (f_add (f_var (j := 1)) (d_callB d_law_draw hr rfl (a_bag1 (j := 0) rfl rfl rfl (ha := (a_cons f_int a_nil))))) (a_cons (d_callB d_law_draw hr rfl (a_bag1 (j := 0) rfl rfl rfl (ha := (a_cons (f_var (j := 3)) a_nil)))) a_nil)))))) <|
    (s_frz 4 (s_one (s_ret (f_tuple rfl g.b_tuple (a_cons (f_frz (n_sorted rfl rfl g.b_sorted (a_cons (f_lcD (own := [("when", 6), ("who", 7)]) (t := (.tp [(.nm 6), (.nm 7)])) walk_keys rfl hN (pi_keys (pv 4)) (blkOk_by (by kernel_rfl)) (fun _ _ _ _ _ => (g_tup rfl (g_cons (g_nm (j := 6) hN) (g_cons (g_nm (j := 7) hN) g_nil)))) (fun _ _ _ _ _ => c_yes) (fun _ _ _ _ _ => (f_tup (a_cons (f_var (j := 6)) (a_cons (f_var (j := 7)) (a_cons (f_ix u1 (f_var (j := 4)) (f_tup (a_cons (f_var (j := 6)) (a_cons (f_var (j := 7)) a_nil)))) a_nil)))))) a_nil))) a_nil)))))))
/-! ### _law_base -/
def den_law_base : Fx.Env → MS GD.S Out := (sRet (eCallB (clB 1 s_law_pick) (aCons (eLst (aCons (eC (.int 0)) (aCons (eC (.int 0)) (aCons (eC (.int 0)) (aCons (eC (.int 1)) (aCons (eC (.int 400)) (aCons (eC (.int 960)) aNil))))))) aNil)))
def s_law_base : List D → MS GD.S D := semB 1 1 den_law_base
theorem bp_law_base : BindP "_law_base" st_law_base ["src"] := fun _ _ _ _ _ _ us hl => match us, hl with | [_], _ => rfl
theorem sc_law_base : FnScope N_law_base ["src"] (defScope st_law_base) := ⟨rfl, rfl, rfl, by decide +kernel, rfl, by decide +kernel, by decide +kernel⟩
theorem ok_law_base {P : Program} {w : World} {K : PySem.W.Frag} {mg : Str → Option Value} {base : Heap} (g : Fa K mg) : Def P w K mg base 3 "_law_base" st_law_base ["src"] (spF GD 0 s_law_base) := by
    obtain ⟨f, fd, F, hm⟩ := g.f_law_base
    have d_law_pick := (ok_law_pick (P := P) (w := w) (base := base) g).mono (k := 2) (by decide)
    refine Def.mk' (G := GD) (n := 0) (N := N_law_base) (κ := [.bag 0]) (κ' := [.bag 0]) (κL := [.bag 0]) F hm bp_law_base sc_law_base rfl rfl (by decide) (by decide) fun cdv A outer s H E hr => ?_
    have u64 := hr.units
    have u1 := un1 hr
    have u65 := un65 hr
    have hN := sc_law_base.nd
    exact (s_one (s_ret (d_callB d_law_pick hr rfl (a_bag1 (j := 0) rfl rfl rfl (ha := (a_cons (f_lst (a_cons f_int (a_cons f_int (a_cons f_int (a_cons f_int (a_cons f_int (a_cons f_int a_nil))))))) a_nil))))))
/-! ### _law_spells -/
abbrev cc1_law_spells : Fx.Env → MS Unit Bool := (cCmp eqO (eVar 9) (eVar 2))
abbrev ce1_law_spells : Fx.Env → MS Unit D := (eVar 8)
abbrev cc2_law_spells : Fx.Env → MS Unit Bool := (cChain leO leO (eC (.int 0)) (eVar 6) (eVar 3))
abbrev ce2_law_spells : Fx.Env → MS Unit D := (eTup (aCons (eVar 6) (aCons (eC (.int 1)) aNil)))
abbrev lb1_law_spells : Fx.Env → MS Unit Out := (sSeq (sAsg 7 (eFn (cl 4 s_law_state) (aCons (eVar 0) (aCons (eVar 1) (aCons (eVar 6) (aCons (eVar 2) aNil)))))) <|
    (sIf (cOr (cCmp eqO (eVar 5) (eLst aNil)) (cCmp neO (eScal (eOp ixAll (eOp ixAll (eVar 5) (eUn negD (eC (.int 1)))) (eC (.int 1)))) (eVar 7))) (mthL 5 appO (aCons (eTup (aCons (eVar 6) (aCons (eVar 7) aNil))) aNil)) sNil))
def den_law_spells : Fx.Env → MS Unit Out := (sSeq (sAsg 4 (eOp addD (eLst (aCons (eC (.int 0)) (aCons (eOp ixAll (eVar 0) (eC (.int 0))) (aCons (eOp ixAll (eVar 0) (eC (.int 1))) aNil)))) (eLc (iSeq (eVar 1)) (.tp [(.nm 8), (.nm 9), (.nm 10)]) [8, 9, 10] cc1_law_spells ce1_law_spells))) <|
    (sSeq (sAsg 5 (eLst aNil)) <|
    (sSeq (sFor (iSeq (eFn (fn1 sortO) (aCons (eFn (fn1 dictO) (aCons (eLc (iSeq (eVar 4)) (.nm 6) [6] cc2_law_spells ce2_law_spells) aNil)) aNil))) (.nm 6) lb1_law_spells) <|
    (sRet (eFn (fn1 tupleO) (aCons (eVar 5) aNil))))))
def s_law_spells : List D → Option D := semP 11 den_law_spells
theorem bp_law_spells : BindP "_law_spells" st_law_spells ["grant", "deeds", "who", "last"] := fun _ _ _ _ _ _ us hl => match us, hl with | [_, _, _, _], _ => rfl
theorem sc_law_spells : FnScope N_law_spells ["grant", "deeds", "who", "last"] (defScope st_law_spells) := ⟨rfl, rfl, rfl, by decide +kernel, rfl, by decide +kernel, by decide +kernel⟩
theorem ok_law_spells {P : Program} {w : World} {K : PySem.W.Frag} {mg : Str → Option Value} {base : Heap} (g : Fa K mg) : Def P w K mg base 2 "_law_spells" st_law_spells ["grant", "deeds", "who", "last"] (spP 4 s_law_spells) := by
    obtain ⟨f, fd, F, hm⟩ := g.f_law_spells
    have d_law_state := (ok_law_state (P := P) (w := w) (base := base) g).mono (k := 1) (by decide)
    refine Def.mkP (N := N_law_spells) (κ := [.val, .val, .val, .val, .val, .val, .val, .val, .val, .val, .val]) (κ' := [.val, .val, .val, .val, .val, .val, .val, .val, .val, .val, .val]) (κL := [.val, .val, .val, .val, .val, .val, .val, .val, .val, .val, .val]) F hm bp_law_spells sc_law_spells rfl rfl (by decide) fun cdv A outer s H E hr => ?_
    have u64 := hr.units
    have u1 := un1 hr
    have u65 := un65 hr
    have hN := sc_law_spells.nd
    exact (s_cons (κ1 := [.val, .val, .val, .val, .val, .val, .val, .val, .val, .val, .val]) (s_asg (j := 4) hN (f_add (f_lst (a_cons f_int (a_cons (f_ix u1 (f_var (j := 0)) f_int) (a_cons (f_ix u1 (f_var (j := 0)) f_int) a_nil)))) (f_lc (own := [("when", 8), ("one", 9), ("what", 10)]) (t := (.tp [(.nm 8), (.nm 9), (.nm 10)])) rfl hN (i_seq (f_var (j := 1))) (blkOk_by (by kernel_rfl)) (fun _ _ _ _ _ => (g_tup rfl (g_cons (g_nm (j := 8) hN) (g_cons (g_nm (j := 9) hN) (g_cons (g_nm (j := 10) hN) g_nil))))) (fun _ _ _ _ _ => (c_one (t_eq u64 (f_var (j := 9)) (f_var (j := 2))))) (fun _ _ _ _ _ => (f_var (j := 8)))))) <|
    (s_cons (κ1 := [.val, .val, .val, .val, .val, .oL, .val, .val, .val, .val, .val]) (s_own (j := 5) (k := .oL) hN (n_lst a_nil)) <|
    (s_cons (κ1 := [.val, .val, .val, .val, .val, .oL, .val, .val, .val, .val, .val]) (s_for (t := (.nm 6)) PassesOwn.never rfl (i_seq (f_frz (n_sorted rfl rfl g.b_sorted (a_cons (f_frz (n_dict rfl rfl g.b_dict (a_cons (f_lc (own := [("day", 6)]) (t := (.nm 6)) rfl hN (i_seq (f_var (j := 4))) (blkOk_by (by kernel_rfl)) (fun _ _ _ _ _ => (g_nm (j := 6) hN)) (fun _ _ _ _ _ => (c_one (t_chain (op_le.or op_le_str) (op_le.or op_le_str) ordS ordS f_int (f_var (j := 6)) (f_var (j := 3))))) (fun _ _ _ _ _ => (f_tup (a_cons (f_var (j := 6)) (a_cons f_int a_nil))))) a_nil))) a_nil)))) (g_nm (j := 6) hN) (s_cons (κ1 := [.val, .val, .val, .val, .val, .oL, .val, .val, .val, .val, .val]) (s_asg (j := 7) hN (d_call d_law_state hr rfl (a_cons (f_var (j := 0)) (a_cons (f_var (j := 1)) (a_cons (f_var (j := 6)) (a_cons (f_var (j := 2)) a_nil)))))) <|
    (s_one (s_if (PW.pt (w_or (t_scal (t_eq u64 (f_var (j := 5)) (f_lst a_nil))) (w_or1 (t_ne u64 (f_scal (f_ix u1 (f_ix u1 (f_var (j := 5)) (f_neg f_int)) f_int)) (f_var (j := 7)))))) (s_one (s_mth (j := 5) PySem.F.slot_list_append PySem.F.type_list_append mt_append appS (a_cons (f_tup (a_cons (f_var (j := 6)) (a_cons (f_var (j := 7)) a_nil))) a_nil))) s_nil)))) <|
    (s_frz 5 (s_one (s_ret (f_tuple rfl g.b_tuple (a_cons (f_var (j := 5)) a_nil))))))))
/-! ### _law_days -/
abbrev lb1_law_days : Fx.Env → MS Unit Out := (sSeq (sAsg 2 (eOp addD (eVar 2) (eLst (aCons (eOp subD (eVar 3) (eC (.int 1))) (aCons (eVar 3) (aCons (eOp addD (eVar 3) (eC (.int 1))) aNil)))))) <|
    (sIf (cCmp geO (eOp ixAll (eVar 0) (eC (.int 2))) (eC (.int 0))) (sAsg 2 (eOp addD (eVar 2) (eLst (aCons (eOp addD (eVar 3) (eOp ixAll (eVar 0) (eC (.int 2)))) (aCons (eOp addD (eOp addD (eVar 3) (eOp ixAll (eVar 0) (eC (.int 2)))) (eC (.int 1))) aNil))))) sNil))
abbrev cc1_law_days : Fx.Env → MS Unit Bool := (cChain leO leO (eC (.int 0)) (eVar 6) (eC (.int 1000)))
abbrev ce1_law_days : Fx.Env → MS Unit D := (eVar 6)
abbrev ce2_law_days : Fx.Env → MS Unit D := (eTup (aCons (eVar 6) (aCons (eC (.int 1)) aNil)))
def den_law_days : Fx.Env → MS Unit Out := (sSeq (sAsg 2 (eLst (aCons (eC (.int 0)) (aCons (eC (.int 1000)) (aCons (eOp subD (eOp ixAll (eVar 0) (eC (.int 0))) (eC (.int 1))) (aCons (eOp ixAll (eVar 0) (eC (.int 0))) (aCons (eOp addD (eOp ixAll (eVar 0) (eC (.int 0))) (eC (.int 1))) (aCons (eOp subD (eOp ixAll (eVar 0) (eC (.int 1))) (eC (.int 1))) (aCons (eOp ixAll (eVar 0) (eC (.int 1))) (aCons (eOp addD (eOp ixAll (eVar 0) (eC (.int 1))) (eC (.int 1))) aNil)))))))))) <|
    (sSeq (sFor (iSeq (eSl (eVar 1) oNone (oSome (eC (.int 12))))) (.tp [(.nm 3), (.nm 4), (.nm 5)]) lb1_law_days) <|
    (sRet (eLc (iNew (eFn (fn1 dictO) (aCons (eLc (iSeq (eVar 2)) (.nm 6) [6] cYes ce2_law_days) aNil))) (.nm 6) [6] cc1_law_days ce1_law_days))))
def s_law_days : List D → Option D := semP 7 den_law_days
theorem bp_law_days : BindP "_law_days" st_law_days ["grant", "deeds"] := fun _ _ _ _ _ _ us hl => match us, hl with | [_, _], _ => rfl
theorem sc_law_days : FnScope N_law_days ["grant", "deeds"] (defScope st_law_days) := ⟨rfl, rfl, rfl, by decide +kernel, rfl, by decide +kernel, by decide +kernel⟩
theorem ok_law_days {P : Program} {w : World} {K : PySem.W.Frag} {mg : Str → Option Value} {base : Heap} (g : Fa K mg) : Def P w K mg base 1 "_law_days" st_law_days ["grant", "deeds"] (spP 2 s_law_days) := by
    obtain ⟨f, fd, F, hm⟩ := g.f_law_days
    refine Def.mkP (N := N_law_days) (κ := [.val, .val, .val, .val, .val, .val, .val]) (κ' := [.val, .val, .val, .val, .val, .val, .val]) (κL := [.val, .val, .val, .val, .val, .val, .val]) F hm bp_law_days sc_law_days rfl rfl (by decide) fun cdv A outer s H E hr => ?_
    have u64 := hr.units
    have u1 := un1 hr
    have u65 := un65 hr
    have hN := sc_law_days.nd
    exact (s_cons (κ1 := [.val, .val, .val, .val, .val, .val, .val]) (s_asg (j := 2) hN (f_lst (a_cons f_int (a_cons f_int (a_cons (f_sub (f_ix u1 (f_var (j := 0)) f_int) f_int) (a_cons (f_ix u1 (f_var (j := 0)) f_int) (a_cons (f_add (f_ix u1 (f_var (j := 0)) f_int) f_int) (a_cons (f_sub (f_ix u1 (f_var (j := 0)) f_int) f_int) (a_cons (f_ix u1 (f_var (j := 0)) f_int) (a_cons (f_add (f_ix u1 (f_var (j := 0)) f_int) f_int) a_nil)))))))))) <|
    (s_cons (κ1 := [.val, .val, .val, .val, .val, .val, .val]) (s_for (t := (.tp [(.nm 3), (.nm 4), (.nm 5)])) PassesOwn.never rfl (i_seq (f_sl (f_var (j := 1)) o_none (o_some f_int))) (g_tup rfl (g_cons (g_nm (j := 3) hN) (g_cons (g_nm (j := 4) hN) (g_cons (g_nm (j := 5) hN) g_nil)))) (s_cons (κ1 := [.val, .val, .val, .val, .val, .val, .val]) (s_asg (j := 2) hN (f_add (f_var (j := 2)) (f_lst (a_cons (f_sub (f_var (j := 3)) f_int) (a_cons (f_var (j := 3)) (a_cons (f_add (f_var (j := 3)) f_int) a_nil)))))) <|
    (s_one (s_if (t_ge  (f_ix u1 (f_var (j := 0)) f_int) f_int) (s_one (s_asg (j := 2) hN (f_add (f_var (j := 2)) (f_lst (a_cons (f_add (f_var (j := 3)) (f_ix u1 (f_var (j := 0)) f_int)) (a_cons (f_add (f_add (f_var (j := 3)) (f_ix u1 (f_var (j := 0)) f_int)) f_int) a_nil)))))) s_nil)))) <|
    (s_one (s_ret (f_lc (own := [("day", 6)]) (t := (.nm 6)) rfl hN (i_newK (n_dict rfl rfl g.b_dict (a_cons (f_lc (own := [("day", 6)]) (t := (.nm 6)) rfl hN (i_seq (f_var (j := 2))) (blkOk_by (by kernel_rfl)) (fun _ _ _ _ _ => (g_nm (j := 6) hN)) (fun _ _ _ _ _ => c_yes) (fun _ _ _ _ _ => (f_tup (a_cons (f_var (j := 6)) (a_cons f_int a_nil))))) a_nil))) (blkOk_by (by kernel_rfl)) (fun _ _ _ _ _ => (g_nm (j := 6) hN)) (fun _ _ _ _ _ => (c_one (t_chain (op_le.or op_le_str) (op_le.or op_le_str) ordS ordS f_int (f_var (j := 6)) f_int))) (fun _ _ _ _ _ => (f_var (j := 6))))))))
/-! ### _law_cured -/
abbrev ce1_law_cured : Fx.Env → MS GD.S D := (eTup (aCons (eVar 6) (aCons (eC (.int 0)) (aCons (eOp ixAll (eVar 5) (eVar 6)) aNil))))
def den_law_cured : Fx.Env → MS GD.S Out := (sSeq (sAsg 1 (eCallB (clB 1 s_law_draw) (aCons (eC (.int 6)) aNil))) <|
    (sSeq (sPar 2 3 (aCons (eCallB (clB 1 s_law_draw) (aCons (eC (.int 4)) aNil)) (aCons (eOp addD (eC (.int 3)) (eCallB (clB 1 s_law_draw) (aCons (eC (.int 5)) aNil))) aNil))) <|
    (sSeq (sAsg 4 (eOp subD (eOp addD (eOp addD (eVar 3) (eVar 1)) (eCallB (clB 1 s_law_draw) (aCons (eC (.int 3)) aNil))) (eC (.int 1)))) <|
    (sSeq (sAsg 5 (eDisp1 (eVar 3) (eC (.str "break")))) <|
    (sSeq (sIf (cCmp eqO (eCallB (clB 1 s_law_draw) (aCons (eC (.int 2)) aNil)) (eC (.int 0))) (sPutD 5 (eOp addD (eOp addD (eVar 3) (eC (.int 1))) (eCallB (clB 1 s_law_draw) (aCons (eC (.int 3)) aNil))) (eC (.str "break"))) sNil) <|
    (sSeq (sPutD 5 (eFn (fn2 maxO) (aCons (eVar 4) (aCons (eOp addD (eVar 3) (eC (.int 1))) aNil))) (eC (.str "mend"))) <|
    (sSeq (sPutD 5 (eOp addD (eC (.int 20)) (eCallB (clB 1 s_law_draw) (aCons (eC (.int 3)) aNil))) (eCallB (clB 1 s_law_pick) (aCons (eLst (aCons (eC (.str "break")) (aCons (eC (.str "mend")) (aCons (eC (.str "keep")) aNil)))) aNil))) <|
    (sRet (eTup (aCons (eTup (aCons (eVar 2) (aCons (eCallB (clB 1 s_law_pick) (aCons (eLst (aCons (eUn negD (eC (.int 1))) (aCons (eC (.int 26)) aNil))) aNil)) (aCons (eVar 1) aNil)))) (aCons (eFn (fn1 tupleO) (aCons (eLc (iSeq (eFn (fn1 sortO) (aCons (eVar 5) aNil))) (.nm 6) [6] cYes ce1_law_cured) aNil)) aNil)))))))))))
def s_law_cured : List D → MS GD.S D := semB 1 7 den_law_cured
theorem bp_law_cured : BindP "_law_cured" st_law_cured ["src"] := fun _ _ _ _ _ _ us hl => match us, hl with | [_], _ => rfl
theorem sc_law_cured : FnScope N_law_cured ["src"] (defScope st_law_cured) := ⟨rfl, rfl, rfl, by decide +kernel, rfl, by decide +kernel, by decide +kernel⟩
theorem ok_law_cured {P : Program} {w : World} {K : PySem.W.Frag} {mg : Str → Option Value} {base : Heap} (g : Fa K mg) : Def P w K mg base 3 "_law_cured" st_law_cured ["src"] (spF GD 0 s_law_cured) := by
    obtain ⟨f, fd, F, hm⟩ := g.f_law_cured
    have d_law_draw := (ok_law_draw (P := P) (w := w) (base := base) g).mono (k := 2) (by decide)
    have d_law_pick := (ok_law_pick (P := P) (w := w) (base := base) g).mono (k := 2) (by decide)
    refine Def.mk' (G := GD) (n := 0) (N := N_law_cured) (κ := [.bag 0, .val, .val, .val, .val, .val, .val]) (κ' := [.bag 0, .val, .val, .val, .val, .val, .val]) (κL := [.bag 0, .val, .val, .val, .val, .val, .val]) F hm bp_law_cured sc_law_cured rfl rfl (by decide) (by decide) fun cdv A outer s H E hr => ?_
    have u64 := hr.units
    have u1 := un1 hr
    have u65 := un65 hr
    have hN := sc_law_cured.nd
    exact (s_cons (κ1 := [.bag 0, .val, .val, .val, .val, .val, .val]) (s_asg (j := 1) hN (d_callB d_law_draw hr rfl (a_bag1 (j := 0) rfl rfl rfl (ha := (a_cons f_int a_nil))))) <|
    (s_cons (κ1 := [.bag 0, .val, .val, .val, .val, .val, .val]) (s_par (j := 2) (k := 3) rfl hN (a_cons (d_callB d_law_draw hr rfl (a_bag1 (j := 0) rfl rfl rfl (ha := (a_cons f_int a_nil)))) (a_cons (f_add f_int (d_callB d_law_draw hr rfl (a_bag1 (j := 0) rfl rfl rfl (ha := (a_cons f_int a_nil))))) a_nil))) <|
    (s_cons (κ1 := [.bag 0, .val, .val, .val, .val, .val, .val]) (s_asg (j := 4) hN (f_sub (f_add (f_add (f_var (j := 3)) (f_var (j := 1))) (d_callB d_law_draw hr rfl (a_bag1 (j := 0) rfl rfl rfl (ha := (a_cons f_int a_nil))))) f_int)) <|
    (s_cons (κ1 := [.bag 0, .val, .val, .val, .val, .oK, .val]) (s_own (j := 5) (k := .oK) hN (n_disp1 (f_var (j := 3)) f_str)) <|
    (s_cons (κ1 := [.bag 0, .val, .val, .val, .val, .oK, .val]) (s_if (t_eq u64 (d_callB d_law_draw hr rfl (a_bag1 (j := 0) rfl rfl rfl (ha := (a_cons f_int a_nil)))) f_int) (s_one (s_putD (j := 5) u1 f_str (f_add (f_add (f_var (j := 3)) f_int) (d_callB d_law_draw hr rfl (a_bag1 (j := 0) rfl rfl rfl (ha := (a_cons f_int a_nil))))))) s_nil) <|
    (s_cons (κ1 := [.bag 0, .val, .val, .val, .val, .oK, .val]) (s_putD (j := 5) u1 f_str (f_max2 rfl rfl g.b_max (a_cons (f_var (j := 4)) (a_cons (f_add (f_var (j := 3)) f_int) a_nil)))) <|
    (s_cons (κ1 := [.bag 0, .val, .val, .val, .val, .oK, .val]) (s_putD (j := 5) u1 (d_callB d_law_pick hr rfl (a_bag1 (j := 0) rfl rfl rfl (ha := (a_cons (f_lst (a_cons f_str (a_cons f_str (a_cons f_str a_nil)))) a_nil)))) (f_add f_int (d_callB d_law_draw hr rfl (a_bag1 (j := 0) rfl rfl rfl (ha := (a_cons f_int a_nil)))))) <|
    (s_frz 5 (s_one (s_ret (f_tup (a_cons (f_tup (a_cons (f_var (j := 2)) (a_cons (d_callB d_law_pick hr rfl (a_bag1 (j := 0) rfl rfl rfl (ha := (a_cons (f_lst (a_cons (f_neg f_int) (a_cons f_int a_nil))) a_nil)))) (a_cons (f_var (j := 1)) a_nil)))) (a_cons (f_tuple rfl g.b_tuple (a_cons (f_lc (own := [("when", 6)]) (t := (.nm 6)) rfl hN (i_seq (f_frz (n_sorted rfl rfl g.b_sorted (a_cons (f_var (j := 5)) a_nil)))) (blkOk_by (by kernel_rfl)) (fun _ _ _ _ _ => (g_nm (j := 6) hN)) (fun _ _ _ _ _ => c_yes) (fun _ _ _ _ _ => (f_tup (a_cons (f_var (j := 6)) (a_cons f_int (a_cons (f_ix u1 (f_var (j := 5)) (f_var (j := 6))) a_nil)))))) a_nil)) a_nil)))))))))))))
/-! ### _law_spells_right -/
abbrev lb1_law_spells_right : Fx.Env → MS GD.S Out := (sSeq (sAsg 10 (eIf (cCmp ltO (eOp addD (eVar 9) (eC (.int 1))) (eFn (fn1 lenO) (aCons (eVar 7) aNil))) (eOp subD (eOp ixAll (eOp ixAll (eVar 7) (eOp addD (eVar 9) (eC (.int 1)))) (eC (.int 0))) (eC (.int 1))) (eVar 5))) <|
    (sIf (cOr (cNot (cTru (eFn (cl 2 (s_law_so 4)) (aCons (eFn (cl 4 s_leave_on) (aCons (eVar 1) (aCons (eVar 2) (aCons (eOp ixAll (eOp ixAll (eVar 7) (eVar 9)) (eC (.int 0))) (aCons (eVar 6) aNil))))) (aCons (eOp ixAll (eOp ixAll (eVar 7) (eVar 9)) (eC (.int 1))) aNil))))) (cNot (cTru (eFn (cl 2 (s_law_so 4)) (aCons (eFn (cl 4 s_leave_on) (aCons (eVar 1) (aCons (eVar 2) (aCons (eVar 10) (aCons (eVar 6) aNil))))) (aCons (eOp ixAll (eOp ixAll (eVar 7) (eVar 9)) (eC (.int 1))) aNil)))))) (sRet (eC (.bl false))) sNil))
abbrev lb2_law_spells_right : Fx.Env → MS GD.S Out := (sSeq (sAsg 7 (eFn (cl 4 s_law_spells) (aCons (eVar 1) (aCons (eVar 2) (aCons (eVar 6) (aCons (eVar 5) aNil)))))) <|
    (sSeq (sAsg 8 (eIf (cCmp gtO (eVar 5) (eC (.int 3))) (eFn (cl 4 s_spells) (aCons (eVar 1) (aCons (eVar 2) (aCons (eVar 6) (aCons (eVar 5) aNil))))) (eFn (clK 4 [3, 2, 1, 0] 4 s_spells) (aCons (eVar 5) (aCons (eVar 6) (aCons (eVar 2) (aCons (eVar 1) aNil))))))) <|
    (sSeq (sIf (cNot (cTru (eFn (cl 2 (s_law_so 4)) (aCons (eVar 8) (aCons (eVar 7) aNil))))) (sRet (eC (.bl false))) sNil) <|
    (sFor (iFn rng1O (aCons (eFn (fn1 lenO) (aCons (eVar 7) aNil)) aNil)) (.nm 9) lb1_law_spells_right))))
abbrev lb3_law_spells_right : Fx.Env → MS GD.S Out := (sFor (iSeq (eLst (aCons (eC (.int 0)) (aCons (eCallB (clB 1 s_law_draw) (aCons (eC (.int 10)) aNil)) aNil)))) (.nm 6) lb2_law_spells_right)
def den_law_spells_right : Fx.Env → MS GD.S Out := (sSeq (sAsg 4 (eLst (aCons (eC (.int 0)) (aCons (eIf (cTru (eVar 3)) (eC (.int 1000)) (eC (.int 60))) (aCons (eOp ixAll (eVar 1) (eC (.int 0))) (aCons (eFn (fn2 maxO) (aCons (eC (.int 0)) (aCons (eOp subD (eOp ixAll (eVar 1) (eC (.int 0))) (eC (.int 1))) aNil))) (aCons (eFn (fn2 maxO) (aCons (eC (.int 0)) (aCons (eOp ixAll (eVar 1) (eC (.int 1))) aNil))) aNil))))))) <|
    (sSeq (sIf (cCmp neO (eVar 2) (eTup aNil)) (sAsg 4 (eOp addD (eVar 4) (eLst (aCons (eOp ixAll (eCallB (clB 1 s_law_pick) (aCons (eVar 2) aNil)) (eC (.int 0))) (aCons (eFn (fn2 maxO) (aCons (eC (.int 0)) (aCons (eOp subD (eOp ixAll (eCallB (clB 1 s_law_pick) (aCons (eVar 2) aNil)) (eC (.int 0))) (eC (.int 1))) aNil))) aNil))))) sNil) <|
    (sSeq (sFor (iSeq (eSl (eCallB (clB 1 s_law_shuffled) (aCons (eVar 4) aNil)) oNone (oSome (eIf (cTru (eVar 3)) (eC (.int 1)) (eC (.int 3)))))) (.nm 5) lb3_law_spells_right) <|
    (sRet (eC (.bl true))))))
def s_law_spells_right : List D → MS GD.S D := semB 1 11 den_law_spells_right
theorem bp_law_spells_right : BindP "_law_spells_right" st_law_spells_right ["src", "grant", "deeds", "is_late"] := fun _ _ _ _ _ _ us hl => match us, hl with | [_, _, _, _], _ => rfl
theorem sc_law_spells_right : FnScope N_law_spells_right ["src", "grant", "deeds", "is_late"] (defScope st_law_spells_right) := ⟨rfl, rfl, rfl, by decide +kernel, rfl, by decide +kernel, by decide +kernel⟩
theorem ok_law_spells_right {P : Program} {w : World} {K : PySem.W.Frag} {mg : Str → Option Value} {base : Heap} (g : Fa K mg) : Def P w K mg base 6 "_law_spells_right" st_law_spells_right ["src", "grant", "deeds", "is_late"] (spF GD 3 s_law_spells_right) := by
    obtain ⟨f, fd, F, hm⟩ := g.f_law_spells_right
    have d_law_pick := (ok_law_pick (P := P) (w := w) (base := base) g).mono (k := 5) (by decide)
    have d_law_shuffled := (ok_law_shuffled (P := P) (w := w) (base := base) g).mono (k := 5) (by decide)
    have d_law_draw := (ok_law_draw (P := P) (w := w) (base := base) g).mono (k := 5) (by decide)
    have d_law_spells := (ok_law_spells (P := P) (w := w) (base := base) g).mono (k := 5) (by decide)
    have d_spells := (ok_spells (P := P) (w := w) (base := base) g).mono (k := 5) (by decide)
    have d_law_so := (ok_law_so (P := P) (w := w) (base := base) g 4).mono (k := 5) (by decide)
    have d_leave_on := (ok_leave_on (P := P) (w := w) (base := base) g).mono (k := 5) (by decide)
    refine Def.mk' (G := GD) (n := 3) (N := N_law_spells_right) (κ := [.bag 0, .val, .val, .val, .val, .val, .val, .val, .val, .val, .val]) (κ' := [.bag 0, .val, .val, .val, .val, .val, .val, .val, .val, .val, .val]) (κL := [.bag 0, .val, .val, .val, .val, .val, .val, .val, .val, .val, .val]) F hm bp_law_spells_right sc_law_spells_right rfl rfl (by decide) (by decide) fun cdv A outer s H E hr => ?_
    have u64 := hr.units
    have u1 := un1 hr
    have u65 := un65 hr
    have hN := sc_law_spells_right.nd
    exact (s_cons (κ1 := [.bag 0, .val, .val, .val, .val, .val, .val, .val, .val, .val, .val]) (s_asg (j := 4) hN (f_lst (a_cons f_int (a_cons (f_if (t_tru (f_var (j := 3))) f_int f_int) (a_cons (f_ix u1 (f_var (j := 1)) f_int) (a_cons (f_max2 rfl rfl g.b_max (a_cons f_int (a_cons (f_sub (f_ix u1 (f_var (j := 1)) f_int) f_int) a_nil))) (a_cons (f_max2 rfl rfl g.b_max (a_cons f_int (a_cons (f_ix u1 (f_var (j := 1)) f_int) a_nil))) a_nil))))))) <|
    (s_cons (κ1 := [.bag 0, .val, .val, .val, .val, .val, .val, .val, .val, .val, .val]) (s_if (t_ne u64 (f_var (j := 2)) (f_tup a_nil)) (s_one (s_asg (j := 4) hN (f_add (f_var (j := 4)) (f_lst (a_cons (f_ix u1 (d_callB d_law_pick hr rfl (a_bag1 (j := 0) rfl rfl rfl (ha := (a_cons (f_var (j := 2)) a_nil)))) f_int) (a_cons (f_max2 rfl rfl g.b_max (a_cons f_int (a_cons (f_sub (f_ix u1 (d_callB d_law_pick hr rfl (a_bag1 (j := 0) rfl rfl rfl (ha := (a_cons (f_var (j := 2)) a_nil)))) f_int) f_int) a_nil))) a_nil)))))) s_nil) <|
    (s_cons (κ1 := [.bag 0, .val, .val, .val, .val, .val, .val, .val, .val, .val, .val]) (s_for (t := (.nm 5)) PassesOwn.never rfl (i_seq (f_sl (d_callB d_law_shuffled hr rfl (a_bag1 (j := 0) rfl rfl rfl (ha := (a_cons (f_var (j := 4)) a_nil)))) o_none (o_some (f_if (t_tru (f_var (j := 3))) f_int f_int)))) (g_nm (j := 5) hN) (s_one (s_for (t := (.nm 6)) PassesOwn.never rfl (i_seq (f_lst (a_cons f_int (a_cons (d_callB d_law_draw hr rfl (a_bag1 (j := 0) rfl rfl rfl (ha := (a_cons f_int a_nil)))) a_nil)))) (g_nm (j := 6) hN) (s_cons (κ1 := [.bag 0, .val, .val, .val, .val, .val, .val, .val, .val, .val, .val]) (s_asg (j := 7) hN (d_call d_law_spells hr rfl (a_cons (f_var (j := 1)) (a_cons (f_var (j := 2)) (a_cons (f_var (j := 6)) (a_cons (f_var (j := 5)) a_nil)))))) <|
    (s_cons (κ1 := [.bag 0, .val, .val, .val, .val, .val, .val, .val, .val, .val, .val]) (s_asg (j := 8) hN (f_if (t_gt  (f_var (j := 5)) f_int) (d_call d_spells hr rfl (a_cons (f_var (j := 1)) (a_cons (f_var (j := 2)) (a_cons (f_var (j := 6)) (a_cons (f_var (j := 5)) a_nil))))) (d_callK (ks := ["last", "who", "deeds", "grant"]) (perm := [3, 2, 1, 0]) d_spells hr rfl kb_spells_last_who_deeds_grant (k_cons (f_var (j := 5)) (k_cons (f_var (j := 6)) (k_cons (f_var (j := 2)) (k_cons (f_var (j := 1)) k_nil))))))) <|
    (s_cons (κ1 := [.bag 0, .val, .val, .val, .val, .val, .val, .val, .val, .val, .val]) (s_if (t_not (t_tru (d_call d_law_so hr rfl (a_cons (f_var (j := 8)) (a_cons (f_var (j := 7)) a_nil))))) (s_one (s_ret f_bl)) s_nil) <|
    (s_one (s_for (t := (.nm 9)) PassesOwn.never rfl (i_rng1 rfl g.b_range (a_cons (f_len rfl g.b_len (a_cons (f_var (j := 7)) a_nil)) a_nil)) (g_nm (j := 9) hN) (s_cons (κ1 := [.bag 0, .val, .val, .val, .val, .val, .val, .val, .val, .val, .val]) (s_asg (j := 10) hN (f_if (t_lt  (f_add (f_var (j := 9)) f_int) (f_len rfl g.b_len (a_cons (f_var (j := 7)) a_nil))) (f_sub (f_ix u1 (f_ix u1 (f_var (j := 7)) (f_add (f_var (j := 9)) f_int)) f_int) f_int) (f_var (j := 5)))) <|
    (s_one (s_if (PW.pt (w_or (t_not (t_tru (d_call d_law_so hr rfl (a_cons (d_call d_leave_on hr rfl (a_cons (f_var (j := 1)) (a_cons (f_var (j := 2)) (a_cons (f_ix u1 (f_ix u1 (f_var (j := 7)) (f_var (j := 9))) f_int) (a_cons (f_var (j := 6)) a_nil))))) (a_cons (f_ix u1 (f_ix u1 (f_var (j := 7)) (f_var (j := 9))) f_int) a_nil))))) (w_or1 (t_not (t_tru (d_call d_law_so hr rfl (a_cons (d_call d_leave_on hr rfl (a_cons (f_var (j := 1)) (a_cons (f_var (j := 2)) (a_cons (f_var (j := 10)) (a_cons (f_var (j := 6)) a_nil))))) (a_cons (f_ix u1 (f_ix u1 (f_var (j := 7)) (f_var (j := 9))) f_int) a_nil)))))))) (s_one (s_ret f_bl)) s_nil))))))))))) <|
    (s_one (s_ret f_bl)))))
/-! ### law -/
abbrev lb1_law : Fx.Env → MS GD.S Out := (sIf (cNot (cTru (eFn (cl 2 (s_law_so 4)) (aCons (eFn (cl 4 s_leave_on) (aCons (eVar 5) (aCons (eVar 6) (aCons (eVar 7) (aCons (eVar 8) aNil))))) (aCons (eFn (cl 4 s_law_state) (aCons (eVar 5) (aCons (eVar 6) (aCons (eVar 7) (aCons (eVar 8) aNil))))) aNil))))) (sRet (eC (.bl false))) sNil)
abbrev lb2_law : Fx.Env → MS GD.S Out := (sFor (iSeq (eLst (aCons (eCallB (clB 1 s_law_draw) (aCons (eC (.int 10)) aNil)) (aCons (eC (.int 0)) (aCons (eC (.int 1)) aNil))))) (.nm 8) lb1_law)
abbrev lb3_law : Fx.Env → MS GD.S Out := (sSeq (sPar 3 4 (aCons (eIf (cCmp eqO (eVar 2) (eC (.int 0))) (eCallB (clB 0 s_law_base) aNil) (eC (.int 0))) (aCons (eAnd (eCmp eqO (eVar 2) (eC (.int 0))) (eCmp eqO (eCallB (clB 1 s_law_draw) (aCons (eC (.int 8)) aNil)) (eC (.int 0)))) aNil))) <|
    (sSeq (sAsg 5 (eCallB (clB 1 s_law_grant) (aCons (eVar 3) aNil))) <|
    (sSeq (sAsg 6 (eCallB (clB 3 s_law_deeds) (aCons (eVar 3) (aCons (eIf (cTru (eVar 4)) (eC (.int 40)) (eCallB (clB 1 s_law_draw) (aCons (eC (.int 11)) aNil))) (aCons (eIf (cTru (eVar 4)) (eC (.int 10)) (eCallB (clB 1 s_law_pick) (aCons (eLst (aCons (eC (.int 1)) (aCons (eC (.int 1)) (aCons (eC (.int 3)) aNil)))) aNil))) aNil))))) <|
    (sSeq (sIf (cCmp eqO (eVar 2) (eC (.int 2))) (sUnp (.tp [(.nm 5), (.nm 6)]) (eCallB (clB 0 s_law_cured) aNil)) sNil) <|
    (sSeq (sFor (iSeq (eSl (eCallB (clB 1 s_law_shuffled) (aCons (eFn (cl 2 s_law_days) (aCons (eVar 5) (aCons (eVar 6) aNil))) aNil)) oNone (oSome (eC (.int 12))))) (.nm 7) lb2_law) <|
    (sSeq (sAsg 7 (eCallB (clB 1 s_law_pick) (aCons (eFn (cl 2 s_law_days) (aCons (eVar 5) (aCons (eVar 6) aNil))) aNil))) <|
    (sSeq (sIf (cNot (cTru (eFn (cl 2 (s_law_so 4)) (aCons (eFn (clK 4 [3, 2, 1, 0] 4 s_leave_on) (aCons (eC (.int 1)) (aCons (eVar 7) (aCons (eVar 6) (aCons (eVar 5) aNil))))) (aCons (eFn (cl 4 s_law_state) (aCons (eVar 5) (aCons (eVar 6) (aCons (eVar 7) (aCons (eC (.int 1)) aNil))))) aNil))))) (sRet (eC (.bl false))) sNil) <|
    (sIf (cNot (cTru (eCallB (clB 3 s_law_spells_right) (aCons (eVar 5) (aCons (eVar 6) (aCons (eCmp gtO (eVar 3) (eC (.int 1))) aNil)))))) (sRet (eC (.bl false))) sNil))))))))
def den_law : Fx.Env → MS GD.S Out := (sSeq (sFor (iFn rng1O (aCons (eC (.int 3)) aNil)) (.nm 2) lb3_law) <|
    (sRet (eC (.bl true))))
theorem sc_law : FnScope N_law ["script"] (defScope st_law) := ⟨rfl, rfl, rfl, by decide +kernel, rfl, by decide +kernel, by decide +kernel⟩
theorem ok_law {P : Program} {w : World} {K : PySem.W.Frag} {mg : Str → Option Value} {base : Heap} (g : Fa K mg) {f : Addr} {fd : FuncData} (F : FnP K "law" st_law f fd) (ht : ∀ s : DrS, s.1.length ≤ 16777216 → ∃ s2, den_law (List.replicate 9 none) s = some (.rt (.bl true), s2)) : FnOk P w K mg base CX0 7 f fd ["script"] (spLaw K) := by
    have d_law_draw := (ok_law_draw (P := P) (w := w) (base := base) g).mono (k := 6) (by decide)
    have d_law_base := (ok_law_base (P := P) (w := w) (base := base) g).mono (k := 6) (by decide)
    have d_law_grant := (ok_law_grant (P := P) (w := w) (base := base) g).mono (k := 6) (by decide)
    have d_law_deeds := (ok_law_deeds (P := P) (w := w) (base := base) g).mono (k := 6) (by decide)
    have d_law_pick := (ok_law_pick (P := P) (w := w) (base := base) g).mono (k := 6) (by decide)
    have d_law_cured := (ok_law_cured (P := P) (w := w) (base := base) g).mono (k := 6) (by decide)
    have d_law_shuffled := (ok_law_shuffled (P := P) (w := w) (base := base) g).mono (k := 6) (by decide)
    have d_law_days := (ok_law_days (P := P) (w := w) (base := base) g).mono (k := 6) (by decide)
    have d_law_so := (ok_law_so (P := P) (w := w) (base := base) g 4).mono (k := 6) (by decide)
    have d_law_state := (ok_law_state (P := P) (w := w) (base := base) g).mono (k := 6) (by decide)
    have d_leave_on := (ok_leave_on (P := P) (w := w) (base := base) g).mono (k := 6) (by decide)
    have d_law_spells_right := (ok_law_spells_right (P := P) (w := w) (base := base) g).mono (k := 6) (by decide)
    refine law_fn (N := N_law) (κ := [.val, .bag 0, .val, .val, .val, .val, .val, .val, .val]) (κ' := [.val, .bag 0, .val, .val, .val, .val, .val, .val, .val]) (κL := [.val, .bag 0, .val, .val, .val, .val, .val, .val, .val]) (j := 1) (den := den_law) F sc_law rfl (by decide) (by decide) rfl (fun cdv A outer s H E hr => ?_) (fun cdv A outer s H E hr => ?_) ht
    · exact s_start sc_law.nd rfl rfl (by first | exact Or.inl rfl | exact Or.inr (Or.inl rfl)) rfl g.b_list rfl g.b_len (by first | exact Or.inl rfl | exact Or.inr rfl) (by first | exact .inl rfl | exact .inr rfl)
    · have u64 := hr.units
      have u1 := un1 hr
      have u65 := un65 hr
      have hN := sc_law.nd
      exact (s_cons (κ1 := [.val, .bag 0, .val, .val, .val, .val, .val, .val, .val]) (s_for (t := (.nm 2)) PassesOwn.never rfl (i_rng1 rfl g.b_range (a_cons f_int a_nil)) (g_nm (j := 2) hN) (s_cons (κ1 := [.val, .bag 0, .val, .val, .val, .val, .val, .val, .val]) (s_par (j := 3) (k := 4) rfl hN (a_cons (f_if (t_eq u64 (f_var (j := 2)) f_int) (d_callB d_law_base hr rfl (a_bag1 (j := 1) rfl rfl rfl (ha := a_nil))) f_int) (a_cons (f_and (f_eq u64 (f_var (j := 2)) f_int) (f_one (f_eq u64 (d_callB d_law_draw hr rfl (a_bag1 (j := 1) rfl rfl rfl (ha := (a_cons f_int a_nil)))) f_int))) a_nil))) <|
      (s_cons (κ1 := [.val, .bag 0, .val, .val, .val, .val, .val, .val, .val]) (s_asg (j := 5) hN (d_callB d_law_grant hr rfl (a_bag1 (j := 1) rfl rfl rfl (ha := (a_cons (f_var (j := 3)) a_nil))))) <|
      (s_cons (κ1 := [.val, .bag 0, .val, .val, .val, .val, .val, .val, .val]) (s_asg (j := 6) hN (d_callB d_law_deeds hr rfl (a_bag1 (j := 1) rfl rfl rfl (ha := (a_cons (f_var (j := 3)) (a_cons (f_if (t_tru (f_var (j := 4))) f_int (d_callB d_law_draw hr rfl (a_bag1 (j := 1) rfl rfl rfl (ha := (a_cons f_int a_nil))))) (a_cons (f_if (t_tru (f_var (j := 4))) f_int (d_callB d_law_pick hr rfl (a_bag1 (j := 1) rfl rfl rfl (ha := (a_cons (f_lst (a_cons f_int (a_cons f_int (a_cons f_int a_nil)))) a_nil))))) a_nil))))))) <|
      (s_cons (κ1 := [.val, .bag 0, .val, .val, .val, .val, .val, .val, .val]) (s_if (t_eq u64 (f_var (j := 2)) f_int) (s_one (s_unp (t := (.tp [(.nm 5), (.nm 6)])) (d_callB d_law_cured hr rfl (a_bag1 (j := 1) rfl rfl rfl (ha := a_nil))) (g_tup rfl (g_cons (g_nm (j := 5) hN) (g_cons (g_nm (j := 6) hN) g_nil))))) s_nil) <|
      (s_cons (κ1 := [.val, .bag 0, .val, .val, .val, .val, .val, .val, .val]) (s_for (t := (.nm 7)) PassesOwn.never rfl (i_seq (f_sl (d_callB d_law_shuffled hr rfl (a_bag1 (j := 1) rfl rfl rfl (ha := (a_cons (d_call d_law_days hr rfl (a_cons (f_var (j := 5)) (a_cons (f_var (j := 6)) a_nil))) a_nil)))) o_none (o_some f_int))) (g_nm (j := 7) hN) (s_one (s_for (t := (.nm 8)) PassesOwn.never rfl (i_seq (f_lst (a_cons (d_callB d_law_draw hr rfl (a_bag1 (j := 1) rfl rfl rfl (ha := (a_cons f_int a_nil)))) (a_cons f_int (a_cons f_int a_nil))))) (g_nm (j := 8) hN) (s_one (s_if (t_not (t_tru (d_call d_law_so hr rfl (a_cons (d_call d_leave_on hr rfl (a_cons (f_var (j := 5)) (a_cons (f_var (j := 6)) (a_cons (f_var (j := 7)) (a_cons (f_var (j := 8)) a_nil))))) (a_cons (d_call d_law_state hr rfl (a_cons (f_var (j := 5)) (a_cons (f_var (j := 6)) (a_cons (f_var (j := 7)) (a_cons (f_var (j := 8)) a_nil))))) a_nil))))) (s_one (s_ret f_bl)) s_nil))))) <|
      (s_cons (κ1 := [.val, .bag 0, .val, .val, .val, .val, .val, .val, .val]) (s_asg (j := 7) hN (d_callB d_law_pick hr rfl (a_bag1 (j := 1) rfl rfl rfl (ha := (a_cons (d_call d_law_days hr rfl (a_cons (f_var (j := 5)) (a_cons (f_var (j := 6)) a_nil))) a_nil))))) <|
      (s_cons (κ1 := [.val, .bag 0, .val, .val, .val, .val, .val, .val, .val]) (s_if (t_not (t_tru (d_call d_law_so hr rfl (a_cons (d_callK (ks := ["who", "day", "deeds", "grant"]) (perm := [3, 2, 1, 0]) d_leave_on hr rfl kb_leave_on_who_day_deeds_grant (k_cons f_int (k_cons (f_var (j := 7)) (k_cons (f_var (j := 6)) (k_cons (f_var (j := 5)) k_nil))))) (a_cons (d_call d_law_state hr rfl (a_cons (f_var (j := 5)) (a_cons (f_var (j := 6)) (a_cons (f_var (j := 7)) (a_cons f_int a_nil))))) a_nil))))) (s_one (s_ret f_bl)) s_nil) <|
      (s_one (s_if (t_not (t_tru (d_callB d_law_spells_right hr rfl (a_bag1 (j := 1) rfl rfl rfl (ha := (a_cons (f_var (j := 5)) (a_cons (f_var (j := 6)) (a_cons (f_gt  (f_var (j := 3)) f_int) a_nil)))))))) (s_one (s_ret f_bl)) s_nil)))))))))) <|
      (s_one (s_ret f_bl)))
end K75
namespace K75
open PySem PySem.Spec L2 Fx
theorem draw_tr (m : Int) (h0 : 0 < m) (h1 : m < 1073741824) (s : DrS) {Q : D → DrS → Prop} (q : ∀ t s', 0 ≤ t → t < m → Q (.int t) s') : Tr (s_law_draw [.int m]) s Q := by
  unfold s_law_draw
  rw [m_semB]
  refine Tr.bnd (P := fun o _ => ∃ t, o = .rt (.int t) ∧ 0 ≤ t ∧ t < m) ?_ fun o s' ⟨t, e, g1, g2⟩ => by
    subst e
    rw [m_e1, tr_ret]
    exact q t s' g1 g2
  rw [den_law_draw, m_seq]
  have hm : m ≠ 0 ∧ m.natAbs < 1073741824 := by omega
  refine Tr.bnd (P := fun o _ => ∃ x, o = .nx [none, some (.int m), x, none]) ?_ fun o s1 ⟨x, e⟩ => ?_
  · obtain ⟨cells, a, b, c⟩ := s
    cases cells with
    | nil =>
      simp [env0, List.replicate, tr_bnd]
      refine tr_if (fun _ => ?_) fun _ => ?_ <;> simp [tr_bnd, v_fdiv, v_mulc]
    | cons d cells =>
      simp [env0, List.replicate, tr_bnd, v_mulc, v_fdiv]
      refine tr_if (fun _ => ?_) fun _ => ?_
      · simp [v_mulc, v_fdiv, tr_bnd]
        refine tr_if (fun _ => ?_) fun _ => ?_ <;> simp [tr_bnd, v_fdiv, v_mulc]
      · simp
  · subst e
    simp [v_fdiv, hm, v_mulc, tr_bnd]
    refine tr_if (fun _ => ?_) fun _ => ?_
    · simp [v_fdiv, hm, v_mulc, tr_bnd]
      refine tr_if (fun _ => ?_) fun _ => ?_ <;> simp [tr_bnd, fmod_rng _ h0]
    · simp [v_fdiv, hm, v_mulc, tr_bnd, fmod_rng _ h0]
theorem pick_tr (l : List D) (h0 : l ≠ []) (h1 : l.length < 1073741824) (s : DrS) {Q : D → DrS → Prop} (q : ∀ d s', d ∈ l → Q d s') : Tr (s_law_pick [.lst l]) s Q := by
  unfold s_law_pick
  rw [m_semB]
  simp [den_law_pick, env0, List.replicate, tr_bnd]
  have hl : 0 < l.length := List.length_pos_iff.mpr h0
  refine draw_tr _ (by omega) (by omega) s fun t s' g1 g2 => ?_
  obtain ⟨n, rfl⟩ : ∃ n : Nat, t = n := ⟨t.toNat, by omega⟩
  have hn : n < l.length := by omega
  rw [ix_lst, Fx.atI_nat, List.getElem?_eq_getElem hn]
  simp
  exact q _ _ (List.getElem_mem hn)
theorem shuffled_loop : ∀ (l acc : List D) (s : DrS) (x : Option D) (L : D) {Q : Out → DrS → Prop}, acc.length + l.length < 16777216 → (∀ acc' x s', acc'.Perm (acc ++ l) → Q (.nx [none, some L, some (.lst acc'), x]) s') → Tr (forL (.nm 3) lb1_law_shuffled l [none, some L, some (.lst acc), x]) s Q
  | [], acc, s, x, L, Q, _, q => by
    simp
    exact q _ _ _ (by simp)
  | d :: l, acc, s, x, L, Q, h, q => by
    rw [m_forL1]
    simp [tr_bnd, scalD]
    rw [List.length_cons] at h
    refine draw_tr _ (by omega) (by omega) s fun t s' g1 g2 => ?_
    rw [insO_ok _ _ _ (by omega) g1 (by omega)]
    simp only [m_lft_some, m_bnd_ret, m_f1, tr_ret]
    refine shuffled_loop l _ s' _ L ?_ fun acc' x s2 p => q _ _ _ ?_
    · rw [(ins_perm acc t.toNat d).length_eq, List.length_append, List.length_singleton]; omega
    · exact p.trans (((ins_perm acc t.toNat d).append_right l).trans (by rw [List.append_assoc]; exact List.Perm.refl _))
theorem shuffled_tr (l : List D) (h : l.length < 16777216) (s : DrS) {Q : D → DrS → Prop} (q : ∀ l' s', l'.Perm l → Q (.lst l') s') : Tr (s_law_shuffled [.lst l]) s Q := by
  unfold s_law_shuffled
  rw [m_semB]
  simp [den_law_shuffled, env0, List.replicate, tr_bnd]
  refine shuffled_loop l [] s none _ (by simpa using h) fun acc' x s' p => ?_
  simp
  exact q acc' s' (by simpa using p)
/-! told is due -/
def plainD : D → Bool
  | .non => true
  | .bl _ => true
  | .int _ => true
  | .str x => okD (.str x)
  | _ => false
def plD : Nat → D → Bool
  | 0, d => plainD d
  | n + 1, .tup l => l.all (plD n) && decide (l.length ≤ 16777216)
  | _ + 1, d => plainD d
theorem so_plain (n : Nat) (d : D) (h : plainD d = true) : s_law_so (n + 1) [d, d] = some (.bl true) := by
  cases d with
  | non => exact sem_of (by simp [den_law_so, env0, List.replicate, isNonD])
  | bl b => exact sem_of (by simp [den_law_so, env0, List.replicate, isNonD, eqO, eqB, toPy, PyData.eqv])
  | int i => exact sem_of (by simp [den_law_so, env0, List.replicate, isNonD])
  | str x => exact sem_of (by simp [den_law_so, env0, List.replicate, isNonD, v_eqs h h])
  | _ => cases h
theorem so_tup (n : Nat) (l : List D) (hl : l.length ≤ 16777216) (ih : ∀ d ∈ l, s_law_so n [d, d] = some (.bl true)) : s_law_so (n + 1) [.tup l, .tup l] = some (.bl true) := by
  have hr : rng1O [.int (l.length : Nat)] = some (rngD 0 l.length) := rng1_ok (by omega)
  have hc : compL (.nm 2) (cc1_law_so (s_law_so n)) (ce1_law_so (s_law_so n)) [some (D.tup l), some (D.tup l), none] (rngD 0 l.length) = (Fx.ret [] : MS Unit (List D)) := by
    unfold rngD
    rw [comp_enc (fun k : Nat => D.int (0 + (k : Int))) (fun _ => false) (fun k => .int k) (xs := List.range l.length)]
    · have : (List.range l.length).filter (fun _ => false) = [] := by simp [List.filter_eq_nil_iff]
      rw [this]; rfl
    · intro k hk
      have hk' : k < l.length := List.mem_range.mp hk
      refine ⟨_, t_nm _ _, ?_, fun z => by cases z⟩
      have e : ixAll (.tup l) (.int (k : Int)) = some l[k] := by rw [Fx.ix_tup, Fx.atI_nat, List.getElem?_eq_getElem hk']
      have ih := ih l[k] (List.getElem_mem hk')
      simp [e, ih]
  refine sem_of ?_
  simp only [den_law_so, env0, List.replicate]
  simp [isNonD, hr, hc, rngD_length, hl]
theorem so_refl (n : Nat) : ∀ d : D, plD n d = true → s_law_so (n + 1) [d, d] = some (.bl true) := by
  induction n with
  | zero => exact fun d h => so_plain 0 d h
  | succ n ih =>
    intro d h
    cases d with
    | tup l =>
      rw [plD, Bool.and_eq_true, decide_eq_true_eq] at h
      exact so_tup (n + 1) l h.2 fun d hd => ih d (List.all_eq_true.mp h.1 d hd)
    | non => exact so_plain _ _ rfl
    | bl b => exact so_plain _ _ rfl
    | int i => exact so_plain _ _ rfl
    | str x => exact so_plain _ _ h
    | _ => cases h
/-! ### leave -/
def stA (cure : Int) : List (Int × Str) → Int → Option Int
  | [], f => some f
  | (a, w) :: l, f => if w = "break" ∧ f = -1 then stA cure l a else if w = "mend" ∧ f ≠ -1 ∧ cure ≠ -1 then (if cure < a - f then none else stA cure l (-1)) else stA cure l f
def stW (o : Option Int) : Str := match o with
  | none => "gone"
  | some f => if f = -1 then "free" else "broken"
def encO (x : Int × Str) : D := .tup [.int x.1, .str x.2]
theorem ok_break : okD (.str "break") = true := by decide +kernel
theorem ok_mend : okD (.str "mend") = true := by decide +kernel
theorem ok_free : okD (.str "free") = true := by decide +kernel
theorem ok_before : okD (.str "before") = true := by decide +kernel
theorem ok_over : okD (.str "over") = true := by decide +kernel
theorem ok_gone : okD (.str "gone") = true := by decide +kernel
theorem ok_broken : okD (.str "broken") = true := by decide +kernel
theorem br_ne : ¬ ((("break" : String) : Str) = (("mend" : String) : Str)) := by decide +kernel
theorem mb_ne : ¬ ((("mend" : String) : Str) = (("break" : String) : Str)) := by decide +kernel
theorem sa_loop (cure : Int) (L : D) : ∀ (own : List (Int × Str)) (f : Int) (x y : Option D) {Q : Out → Unit → Prop}, (∀ x ∈ own, okD (.str x.2) = true) → (stA cure own f = none → Q (.rt (.str "gone")) ()) →
    (∀ f' x y, stA cure own f = some f' → Q (.nx [some (.int cure), some L, some (.int f'), x, y]) ()) → Tr (forL (.tp [.nm 3, .nm 4]) lb1_state_after (own.map encO) [some (.int cure), some L, some (.int f), x, y]) () Q
  | [], f, x, y, Q, _, _, q2 => by
    rw [List.map_nil, m_forL0, tr_ret]
    exact q2 f x y rfl
  | (a, w) :: own, f, x, y, Q, h, q1, q2 => by
    have hw : okD (.str w) = true := h (a, w) List.mem_cons_self
    have h' : ∀ x ∈ own, okD (.str x.2) = true := fun z hz => h z (List.mem_cons_of_mem _ hz)
    rw [List.map_cons, m_forL1]
    simp [encO, v_eqs hw ok_break, v_eqs hw ok_mend]
    rw [stA] at q1 q2
    by_cases c1 : w = "break"
    · have c3 : ¬ w = "mend" := fun z => br_ne (c1.symm.trans z)
      by_cases c2 : f = -1
      · simp only [c1, c2, and_self, if_true] at q1 q2 ⊢
        exact sa_loop cure L own a _ _ h' q1 q2
      · simp only [c1, c2, c3, and_false, false_and, if_false, if_true, br_ne] at q1 q2 ⊢
        exact sa_loop cure L own f _ _ h' q1 q2
    · by_cases c3 : w = "mend"
      · by_cases c2 : f = -1
        · simp only [c1, c2, c3, ne_eq, not_true_eq_false, and_false, false_and, true_and, if_false, if_true] at q1 q2 ⊢
          exact sa_loop cure L own (-1) _ _ h' q1 q2
        · by_cases c4 : cure = -1
          · simp only [c1, c2, c3, c4, ne_eq, not_true_eq_false, not_false_eq_true, and_false, false_and, true_and, and_true, if_false, if_true] at q1 q2 ⊢
            exact sa_loop (-1) L own f _ _ h' q1 q2
          · by_cases c5 : cure < a - f
            · simp only [c1, c2, c3, c4, c5, ne_eq, not_true_eq_false, not_false_eq_true, and_false, false_and, true_and, and_true, if_false, if_true] at q1 q2 ⊢
              rw [if_neg mb_ne, tr_ret]
              exact q1 trivial
            · simp only [c1, c2, c3, c4, c5, ne_eq, not_true_eq_false, not_false_eq_true, and_false, false_and, true_and, and_true, if_false, if_true] at q1 q2 ⊢
              exact sa_loop cure L own (-1) _ _ h' q1 q2
      · simp only [c1, c3, and_false, false_and, if_false] at q1 q2 ⊢
        exact sa_loop cure L own f _ _ h' q1 q2
theorem state_after_eq (cure : Int) (own : List (Int × Str)) (h : ∀ x ∈ own, okD (.str x.2) = true) : s_state_after [.int cure, .lst (own.map encO)] = some (.str (stW (stA cure own (-1)))) := by
  refine sem_tr ?_
  simp only [den_state_after, env0, List.replicate]
  simp [tr_bnd]
  refine sa_loop cure _ own (-1) _ _ h (fun e => ?_) fun f x y e => ?_
  · simp [stW, e]
  · by_cases hf : f = -1
    · simp [stW, e, hf]
    · simp [stW, e, hf]
abbrev Grant := Int × Int × Int
abbrev Deed := Int × Int × Str
def encG (g : Grant) : D := .tup [.int g.1, .int g.2.1, .int g.2.2]
def encDd (x : Deed) : D := .tup [.int x.1, .int x.2.1, .str x.2.2]
def ownOf (g : Grant) (ds : List Deed) (day who : Int) : List (Int × Str) := (ds.filter fun x => decide (x.2.1 = who) && (decide (g.1 ≤ x.1) && decide (x.1 ≤ day))).map fun x => (x.1, x.2.2)
def lv (g : Grant) (ds : List Deed) (day who : Int) : Str := if day < g.1 then "before" else if g.2.1 ≠ -1 ∧ g.2.1 ≤ day then "over" else stW (stA g.2.2 (ownOf g ds day who) (-1))
structure WfD (ds : List Deed) : Prop where
  ok : ∀ x ∈ ds, okD (.str x.2.2) = true
  len : ds.length ≤ 16777216
theorem ok_lv (g : Grant) (ds : List Deed) (day who : Int) : okD (.str (lv g ds day who)) = true := by
  unfold lv stW
  split
  · exact ok_before
  · split
    · exact ok_over
    · split
      · exact ok_gone
      · split
        · exact ok_free
        · exact ok_broken
theorem leave_on_eq (g : Grant) (ds : List Deed) (wd : WfD ds) (day who : Int) : s_leave_on [encG g, .tup (ds.map encDd), .int day, .int who] = some (.str (lv g ds day who)) := by
  refine sem_of ?_
  have hc : ∀ ρ4 ρ5 ρ6 x1 x2 : Option D, compL (.tp [.nm 8, .nm 9, .nm 10]) cc1_leave_on ce1_leave_on [x1, x2, some (.int day), some (.int who), some (.int g.1), ρ5, ρ6, ρ4, none, none, none] (ds.map encDd) = (Fx.ret ((ds.filter fun x => decide (x.2.1 = who) && (decide (g.1 ≤ x.1) && decide (x.1 ≤ day))).map fun x => encO (x.1, x.2.2)) : MS Unit (List D)) := fun ρ4 ρ5 ρ6 x1 x2 => by
    refine comp_enc encDd _ _ fun x hx => ?_
    refine ⟨[x1, x2, some (.int day), some (.int who), some (.int g.1), ρ5, ρ6, ρ4, some (.int x.1), some (.int x.2.1), some (.str x.2.2)], by simp [encDd], ?_, fun _ => ?_⟩
    · simp
      split
      · split <;> simp [*]
      · simp [*]
    · simp [encO]
  have hs := state_after_eq g.2.2 (ownOf g ds day who) fun x hx => by
    obtain ⟨y, h1, rfl⟩ := List.mem_map.mp hx
    exact wd.ok y (List.mem_filter.mp h1).1
  unfold ownOf at hs
  rw [List.map_map] at hs
  simp only [den_leave_on, env0, List.replicate, encG]
  have hl : (ds.map encDd).length ≤ 16777216 := by rw [List.length_map]; exact wd.len
  simp only [List.length_map] at hl
  simp [hl, hc]
  simp only [Function.comp_def] at hs
  unfold lv
  by_cases h1 : day < g.1
  · simp [h1]
  · by_cases h2 : g.2.1 = -1
    · simp [h1, h2, hs, ownOf]
    · by_cases h3 : g.2.1 ≤ day
      · simp [h1, h2, h3]
      · simp [h1, h2, h3, hs, ownOf]
theorem own_cons (g : Grant) (x : Deed) (ds : List Deed) (day who : Int) : ownOf g (x :: ds) day who = if x.2.1 = who ∧ g.1 ≤ x.1 ∧ x.1 ≤ day then (x.1, x.2.2) :: ownOf g ds day who else ownOf g ds day who := by
  unfold ownOf
  rw [List.filter_cons]
  by_cases h : x.2.1 = who ∧ g.1 ≤ x.1 ∧ x.1 ≤ day
  · rw [if_pos h, if_pos (by simp [h])]; rfl
  · rw [if_neg h, if_neg (by simpa using h)]
theorem ls_loop (g : Grant) (day who : Int) (hg : 0 ≤ g.1) (hcu : g.2.2 = -1 ∨ 0 ≤ g.2.2) (L : D) : ∀ (ds : List Deed) (f : Int) (x y z : Option D) {Q : Out → Unit → Prop}, (∀ x ∈ ds, okD (.str x.2.2) = true) → (f = -1 ∨ 0 ≤ f) → (stA g.2.2 (ownOf g ds day who) f = none → Q (.rt (.str "gone")) ()) →
    (∀ f' x y z, stA g.2.2 (ownOf g ds day who) f = some f' → (f' = -1 ∨ 0 ≤ f') → Q (.nx [some (encG g), some L, some (.int day), some (.int who), some (.int f'), x, y, z]) ()) →
    Tr (forL (.tp [.nm 5, .nm 6, .nm 7]) lb1_law_state (ds.map encDd) [some (encG g), some L, some (.int day), some (.int who), some (.int f), x, y, z]) () Q
  | [], f, x, y, z, Q, _, hf, _, q2 => by
    rw [List.map_nil, m_forL0, tr_ret]
    exact q2 f x y z rfl hf
  | (a, w, s) :: ds, f, x, y, z, Q, h, hf, q1, q2 => by
    have hw : okD (.str s) = true := h (a, w, s) List.mem_cons_self
    have h' : ∀ x ∈ ds, okD (.str x.2.2) = true := fun z hz => h z (List.mem_cons_of_mem _ hz)
    rw [own_cons] at q1 q2
    rw [List.map_cons, m_forL1]
    obtain ⟨st, till, cure⟩ := g
    simp only [encDd, encG]
    simp [v_eqs hw ok_break, v_eqs hw ok_mend]
    by_cases e1 : w = who
    · by_cases e2 : st ≤ a
      · by_cases e3 : a ≤ day
        · have h0 : 0 ≤ a := Int.le_trans hg e2
          simp only [e1, e2, e3, and_self, if_true] at q1 q2 ⊢
          rw [stA] at q1 q2
          by_cases c1 : s = "break"
          · have c3 : ¬ s = "mend" := fun z => br_ne (c1.symm.trans z)
            by_cases c2 : f = -1
            · have c2' : f < 0 := by omega
              simp only [c1, c2, c2', br_ne, and_self, if_true, if_false, Int.reduceLT, Int.reduceNeg] at q1 q2 ⊢
              exact ls_loop (st, till, cure) day who hg hcu L ds a _ _ _ h' (.inr h0) q1 q2
            · have c2' : ¬ f < 0 := by omega
              simp only [c1, c2, c2', br_ne, and_false, false_and, if_false, if_true] at q1 q2 ⊢
              exact ls_loop (st, till, cure) day who hg hcu L ds f _ _ _ h' hf q1 q2
          · by_cases c3 : s = "mend"
            · by_cases c2 : f = -1
              · have c2' : ¬ 0 ≤ f := by omega
                simp only [c1, c2, c3, mb_ne, ne_eq, not_true_eq_false, and_false, false_and, true_and, if_false, if_true, Int.reduceLE, Int.reduceNeg] at q1 q2 ⊢
                exact ls_loop (st, till, cure) day who hg hcu L ds (-1) _ _ _ h' (.inl rfl) q1 q2
              · have c2' : 0 ≤ f := by omega
                by_cases c4 : cure = -1
                · have c4' : ¬ 0 ≤ cure := by omega
                  simp only [c1, c2, c2', c3, c4, mb_ne, ne_eq, not_true_eq_false, not_false_eq_true, and_false, false_and, true_and, and_true, if_false, if_true, Int.reduceLE, Int.reduceNeg] at q1 q2 ⊢
                  exact ls_loop (st, till, -1) day who hg (.inl rfl) L ds f _ _ _ h' hf q1 q2
                · have c4' : 0 ≤ cure := by
                    rcases hcu with z | z
                    · exact absurd z c4
                    · exact z
                  by_cases c5 : cure < a - f
                  · simp only [c1, c2, c2', c3, c4, c4', c5, mb_ne, ne_eq, not_true_eq_false, not_false_eq_true, and_false, false_and, true_and, and_true, if_false, if_true] at q1 q2 ⊢
                    rw [tr_ret]
                    exact q1 trivial
                  · simp only [c1, c2, c2', c3, c4, c4', c5, mb_ne, ne_eq, not_true_eq_false, not_false_eq_true, and_false, false_and, true_and, and_true, if_false, if_true] at q1 q2 ⊢
                    exact ls_loop (st, till, cure) day who hg hcu L ds (-1) _ _ _ h' (.inl rfl) q1 q2
            · simp only [c1, c3, and_false, false_and, if_false] at q1 q2 ⊢
              exact ls_loop (st, till, cure) day who hg hcu L ds f _ _ _ h' hf q1 q2
        · simp only [e1, e2, e3, and_false, if_false, if_true] at q1 q2 ⊢
          exact ls_loop (st, till, cure) day who hg hcu L ds f _ _ _ h' hf q1 q2
      · simp only [e1, e2, false_and, and_false, if_false, if_true] at q1 q2 ⊢
        exact ls_loop (st, till, cure) day who hg hcu L ds f _ _ _ h' hf q1 q2
    · simp only [e1, false_and, if_false] at q1 q2 ⊢
      exact ls_loop (st, till, cure) day who hg hcu L ds f _ _ _ h' hf q1 q2
structure WfG (g : Grant) : Prop where
  start : 0 ≤ g.1
  till : g.2.1 = -1 ∨ 0 ≤ g.2.1
  cure : g.2.2 = -1 ∨ 0 ≤ g.2.2
theorem law_state_eq (g : Grant) (wg : WfG g) (ds : List Deed) (wd : WfD ds) (day who : Int) : s_law_state [encG g, .tup (ds.map encDd), .int day, .int who] = some (.str (lv g ds day who)) := by
  refine sem_tr ?_
  simp only [den_law_state, env0, List.replicate]
  have hl := ls_loop g day who wg.start wg.cure (.tup (ds.map encDd)) ds (-1) none none none (Q := fun o s => Tr (seqK (sRet (eIf (cCmp ltO (eVar 4) (eC (.int 0))) (eC (.str "free")) (eC (.str "broken")))) o) s fun o _ => o = .rt (.str (stW (stA g.2.2 (ownOf g ds day who) (-1))))) wd.ok (.inl rfl) (fun e => by simp [stW, e]) fun f x y z e hf => by
    by_cases c : f = -1
    · simp [stW, e, c]
    · have : ¬ f < 0 := by omega
      simp [stW, e, c, this]
  have e1 : encG g = .tup [.int g.1, .int g.2.1, .int g.2.2] := rfl
  unfold lv
  by_cases h1 : day < g.1
  · simp [e1, h1]
  · by_cases h2 : g.2.1 = -1
    · simp [e1, h1, h2, tr_bnd] at hl ⊢
      exact hl
    · have h2' : 0 ≤ g.2.1 := by
        rcases wg.till with z | z
        · exact absurd z h2
        · exact z
      by_cases h3 : g.2.1 ≤ day
      · simp [e1, h1, h2, h2', h3]
      · simp [e1, h1, h2, h2', h3, tr_bnd] at hl ⊢
        exact hl
theorem tr_seq {S : Type} {f g : Fx.Env → MS S Out} {ρ : Fx.Env} {s : S} {Q : Out → S → Prop} (P : Fx.Env → S → Prop) (h : ∀ R : Out → S → Prop, (∀ ρ' s', P ρ' s' → R (.nx ρ') s') → Tr (f ρ) s R) (k : ∀ ρ' s', P ρ' s' → Tr (g ρ') s' Q) : Tr (sSeq f g ρ) s Q := by
  rw [m_seq, tr_bnd]
  exact h _ fun ρ' s' hp => by rw [m_k1]; exact k ρ' s' hp
theorem cut_some {α : Type} (l : List α) (k : Nat) : (cutA l none (some (k : Int))).length ≤ k := by
  unfold cutA
  rw [List.length_take, HT.sIx_nat, HT.sIx_none]
  omega
theorem pl_ints : ∀ (n : Nat) (hs : List Int), hs.length ≤ 16777216 → plD (n + 1) (.tup (hs.map .int)) = true := fun n hs h => by
  rw [plD, Bool.and_eq_true, decide_eq_true_eq, List.length_map]
  refine ⟨List.all_eq_true.mpr fun d hd => ?_, h⟩
  obtain ⟨i, _, rfl⟩ := List.mem_map.mp hd
  cases n <;> rfl
/-! ### what is drawn -/
theorem base_tr (s : DrS) {Q : D → DrS → Prop} (q : ∀ b s', 0 ≤ b → b ≤ 960 → Q (.int b) s') : Tr (s_law_base []) s Q := by
  unfold s_law_base
  rw [m_semB]
  simp [den_law_base, env0, List.replicate, tr_bnd]
  refine pick_tr _ (by simp) (by simp) s fun d s' hd => ?_
  simp at hd ⊢
  rcases hd with rfl | rfl | rfl | rfl <;> exact q _ _ (by decide) (by decide)
theorem grant_tr (base : Int) (hb : 0 ≤ base) (s : DrS) {Q : D → DrS → Prop} (hb2 : base ≤ 960) (q : ∀ g s', WfG g → g.1 ≤ 2000 → g.2.1 ≤ 2000 → Q (encG g) s') : Tr (s_law_grant [.int base]) s Q := by
  unfold s_law_grant
  rw [m_semB]
  simp [den_law_grant, env0, List.replicate, tr_bnd]
  refine draw_tr _ (by decide) (by decide) s fun t s1 g1 g2 => ?_
  simp
  refine draw_tr _ (by decide) (by decide) s1 fun t2 s2 g3 g4 => ?_
  simp
  have fin : ∀ (till : Int) (s3 : DrS), (till = -1 ∨ 0 ≤ till) → till ≤ 2000 → Tr (s_law_pick [.lst [.int (-1), .int 0, .int 1, .int 2, .int 5, .int 30]]) s3 fun a s4 => Q (.tup [.int (base + t), .int till, a]) s4 := fun till s3 ht ht2 => by
    refine pick_tr _ (by simp) (by simp) s3 fun d s4 hd => ?_
    simp at hd
    rcases hd with rfl | rfl | rfl | rfl | rfl | rfl
    · exact q (base + t, till, -1) s4 ⟨show 0 ≤ base + t by omega, ht, .inl rfl⟩ (show base + t ≤ 2000 by omega) ht2
    · exact q (base + t, till, 0) s4 ⟨show 0 ≤ base + t by omega, ht, .inr (show (0 : Int) ≤ 0 by decide)⟩ (show base + t ≤ 2000 by omega) ht2
    · exact q (base + t, till, 1) s4 ⟨show 0 ≤ base + t by omega, ht, .inr (show (0 : Int) ≤ 1 by decide)⟩ (show base + t ≤ 2000 by omega) ht2
    · exact q (base + t, till, 2) s4 ⟨show 0 ≤ base + t by omega, ht, .inr (show (0 : Int) ≤ 2 by decide)⟩ (show base + t ≤ 2000 by omega) ht2
    · exact q (base + t, till, 5) s4 ⟨show 0 ≤ base + t by omega, ht, .inr (show (0 : Int) ≤ 5 by decide)⟩ (show base + t ≤ 2000 by omega) ht2
    · exact q (base + t, till, 30) s4 ⟨show 0 ≤ base + t by omega, ht, .inr (show (0 : Int) ≤ 30 by decide)⟩ (show base + t ≤ 2000 by omega) ht2
  refine tr_if (fun _ => ?_) fun _ => ?_
  · simp [tr_bnd]
    exact fin (-1) s2 (.inl rfl) (by decide)
  · simp [tr_bnd]
    refine draw_tr _ (by decide) (by decide) s2 fun t3 s3 g5 g6 => ?_
    simp
    exact fin (base + t + 1 + t3) s3 (.inr (by omega)) (by omega)
theorem rngD0 (n : Nat) : rngD 0 n = (List.range n).map fun k : Nat => D.int (k : Int) := by
  unfold rngD
  simp
theorem ok_keep : okD (.str "keep") = true := by decide +kernel
def dKey (l : List (List Key × D)) : Prop := ∀ p ∈ l, (∃ a b : Int, p.1 = [.inl a, .inl b] ∧ 0 ≤ a ∧ a ≤ 2000) ∧ ∃ w : Str, p.2 = .str w ∧ okD (.str w) = true
theorem ds_of : ∀ {l : List (List Key)}, (∀ k ∈ l, ∃ (a b : Int) (w : Str), k = [.inl a, .inl b, .inr w] ∧ okD (.str w) = true ∧ 0 ≤ a ∧ a ≤ 2000) → ∃ ds : List Deed, l.map keysD = ds.map encDd ∧ (∀ x ∈ ds, okD (.str x.2.2) = true) ∧ ∀ x ∈ ds, 0 ≤ x.1 ∧ x.1 ≤ 2000
  | [], _ => ⟨[], rfl, fun x hx => (by cases hx), fun x hx => (by cases hx)⟩
  | k :: l, h => by
    obtain ⟨ds, h1, h2, h3⟩ := ds_of (l := l) fun k hk => h k (List.mem_cons_of_mem _ hk)
    obtain ⟨a, b, w, rfl, hw, ha⟩ := h k List.mem_cons_self
    refine ⟨(a, b, w) :: ds, by rw [List.map_cons, List.map_cons, h1]; rfl, fun x hx => ?_, fun x hx => ?_⟩
    · rcases List.mem_cons.mp hx with rfl | hx
      · exact hw
      · exact h2 x hx
    · rcases List.mem_cons.mp hx with rfl | hx
      · exact ha
      · exact h3 x hx
theorem deeds_loop (base people : Int) (hb : 0 ≤ base) (hb2 : base ≤ 960) (hp : 0 < people) (hp2 : people < 1073741824) (M : D) : ∀ (n : List Nat) (l : List (List Key × D)) (s : DrS) (x y z : Option D) {Q : Out → DrS → Prop}, dKey l → l.length + n.length ≤ 1000 → (∀ l' x s', dKey l' → l'.length ≤ 1000 → Q (.nx [none, some (.int base), some M, some (.int people), some (.dt l'), x, y, z]) s') →
    Tr (forL (.nm 5) lb1_law_deeds (n.map fun k : Nat => D.int (k : Int)) [none, some (.int base), some M, some (.int people), some (.dt l), x, y, z]) s Q
  | [], l, s, x, y, z, Q, hl, hn, q => by
    rw [List.map_nil, m_forL0, tr_ret]
    exact q l x s hl (by simpa using hn)
  | k :: n, l, s, x, y, z, Q, hl, hn, q => by
    rw [List.length_cons] at hn
    rw [List.map_cons, m_forL1]
    simp [tr_bnd]
    refine pick_tr _ (by simp) (by simp) s fun d s1 hd => ?_
    refine draw_tr _ (by decide) (by decide) s1 fun t s2 g1 g2 => ?_
    simp
    refine draw_tr _ hp hp2 s2 fun t2 s3 g3 g4 => ?_
    have hw : ∃ w : Str, d = .str w ∧ okD (.str w) = true := by
      simp at hd
      rcases hd with rfl | rfl | rfl
      · exact ⟨_, rfl, ok_keep⟩
      · exact ⟨_, rfl, ok_break⟩
      · exact ⟨_, rfl, ok_mend⟩
    have hk : asKeys (.tup [.int (base + t), .int t2]) = some [.inl (base + t), .inl t2] := rfl
    have hlen : l.length < 16777216 := by omega
    have hlen' := putD_len l [.inl (base + t), .inl t2] d
    simp [hk, hlen]
    refine deeds_loop base people hb hb2 hp hp2 M n (putD l [.inl (base + t), .inl t2] d) s3 _ y z ?_ (by omega) q
    exact putD_all (P := fun (k : List Key) v => (∃ a b : Int, k = [Sum.inl a, Sum.inl b] ∧ 0 ≤ a ∧ a ≤ 2000) ∧ ∃ w : Str, v = .str w ∧ okD (.str w) = true) hl ⟨⟨_, _, rfl, by omega, by omega⟩, hw⟩
theorem deeds_tr (base many people : Int) (hb : 0 ≤ base) (hb2 : base ≤ 960) (hm : 0 ≤ many) (hm2 : many ≤ 1000) (hp : 0 < people) (hp2 : people < 1073741824) (s : DrS) {Q : D → DrS → Prop} (q : ∀ ds s', WfD ds → (∀ x ∈ ds, 0 ≤ x.1 ∧ x.1 ≤ 2000) → ds.length ≤ 1000 → Q (.tup (ds.map encDd)) s') : Tr (s_law_deeds [.int base, .int many, .int people]) s Q := by
  unfold s_law_deeds
  rw [m_semB]
  have hr := rng1_okI hm (by omega)
  simp [den_law_deeds, env0, List.replicate, tr_bnd, hr]
  rw [rngD0]
  refine deeds_loop base people hb hb2 hp hp2 _ (List.range many.toNat) [] s none none none (fun p hp => by cases hp) (by rw [List.length_range, List.length_nil]; omega) fun l x s' hl hlen => ?_
  have it : iKeysD (.dt l) = some (keyTs l) := rfl
  have c1 : compL (.tp [.nm 6, .nm 7]) cYes ce1_law_deeds [none, some (.int base), some (.int many), some (.int people), some (.dt l), x, none, none] (keyTs l) = (Fx.ret (l.map fun p => .tup (p.1.map keyD ++ [(valD l p.1).getD .non])) : MS DrS (List D)) := by
    have : keyTs l = l.map fun p => keysD p.1 := rfl
    rw [this, comp_enc (fun p : List Key × D => keysD p.1) (fun _ => true) (fun p => .tup (p.1.map keyD ++ [(valD l p.1).getD .non]))]
    · rw [List.filter_eq_self.mpr (fun _ _ => rfl)]
    · intro p hp
      obtain ⟨⟨a, b, e, ha⟩, _⟩ := hl p hp
      obtain ⟨v, hv, _⟩ := valD_mem hp
      rw [e] at hv
      have h2 : ixAll (.dt l) (.tup [.int a, .int b]) = some v := ix_dt (ks := [.inl a, .inl b]) rfl hv
      refine ⟨[none, some (.int base), some (.int many), some (.int people), some (.dt l), x, some (.int a), some (.int b)], by rw [e]; simp [keysD, keyD], by simp, fun _ => ?_⟩
      rw [e, hv]
      simp [h2, keyD]
  have kss : ∃ ks : List (List Key), (l.map fun p => D.tup (p.1.map keyD ++ [(valD l p.1).getD .non])) = ks.map keysD ∧ tupKs (l.map fun p => D.tup (p.1.map keyD ++ [(valD l p.1).getD .non])) = some ks ∧ (∀ k ∈ ks, ∃ (a b : Int) (w : Str), k = [.inl a, .inl b, .inr w] ∧ okD (.str w) = true ∧ 0 ≤ a ∧ a ≤ 2000) ∧ ks.length = l.length := by
    have each : ∀ d ∈ (l.map fun p => D.tup (p.1.map keyD ++ [(valD l p.1).getD .non])), ∃ (a b : Int) (w : Str), asKeys d = some [.inl a, .inl b, .inr w] ∧ okD (.str w) = true ∧ 0 ≤ a ∧ a ≤ 2000 := fun d hd => by
      obtain ⟨p, hp, rfl⟩ := List.mem_map.mp hd
      obtain ⟨⟨a, b, e, ha⟩, _⟩ := hl p hp
      obtain ⟨v, hv, hm⟩ := valD_mem hp
      obtain ⟨_, w, e2, hw⟩ := hl _ hm
      refine ⟨a, b, w, ?_, hw, ha⟩
      rw [hv, e]
      simp only at e2
      rw [e2]
      rfl
    obtain ⟨ks, h1, h2⟩ := tupKs_all fun d hd => by
      obtain ⟨a, b, w, h, _⟩ := each d hd
      exact ⟨_, h⟩
    refine ⟨ks, h2, h1, fun k hk => ?_, ?_⟩
    · have hm : keysD k ∈ (l.map fun p => D.tup (p.1.map keyD ++ [(valD l p.1).getD .non])) := by rw [h2]; exact List.mem_map.mpr ⟨k, hk, rfl⟩
      obtain ⟨a, b, w, h, hw⟩ := each _ hm
      have e3 := asKeys_inv h
      have inj : ∀ {x y : List Key}, x.map keyD = y.map keyD → x = y := fun {x} => by
        induction x with
        | nil => intro y h; cases y <;> first | rfl | cases h
        | cons u x ih =>
          intro y h
          cases y with
          | nil => cases h
          | cons v y =>
            rw [List.map_cons, List.map_cons] at h
            injection h with h1 h2
            rw [ih h2]
            cases u <;> cases v <;> first | (cases h1; rfl) | cases h1
      have : k = [.inl a, .inl b, .inr w] := by
        unfold keysD at e3
        injection e3 with e3
        exact inj e3
      exact ⟨a, b, w, this, hw⟩
    · have := congrArg List.length h2
      rw [List.length_map, List.length_map] at this
      exact this.symm
  obtain ⟨ks, k1, k2, k3, k4⟩ := kss
  have sh : shAll ks = true := shAll_of [false, false, true] (by simp) fun k hk => by
    obtain ⟨a, b, w, rfl, _⟩ := k3 k hk
    rfl
  have so : sortO (.lst (ks.map keysD)) = some (.lst ((sortK ks).map keysD)) := by
    have e : sortO (.lst (ks.map keysD)) = match intsOf (ks.map keysD) with
      | some ns => some (.lst ((sortI ns).map .int))
      | none => match tupKs (ks.map keysD) with
        | some ks => if shAll ks then some (.lst ((sortK ks).map keysD)) else none
        | none => none := rfl
    rw [e]
    cases ks with
    | nil =>
      have : sortK [] = [] := by unfold sortK; simp
      have h' : sortI [] = [] := by unfold sortI; simp
      simp [intsOf, this, h']
    | cons k ks =>
      have : intsOf ((k :: ks).map keysD) = none := by
        rw [List.map_cons, intsOf]
        rfl
      rw [this, ← k1, k2]
      simp [sh]
  obtain ⟨ds, d1, d2, d3⟩ := ds_of (l := sortK ks) fun k hk => k3 k ((sortK_perm ks).mem_iff.mp hk)
  have dl : ds.length ≤ 1000 := by
    have := congrArg List.length d1
    rw [List.length_map, List.length_map, (sortK_perm ks).length_eq, k4] at this
    omega
  have hl2 : (keyTs l).length ≤ 16777216 := by unfold keyTs; rw [List.length_map]; omega
  simp [it, hl2, c1]
  rw [k1, so]
  simp
  rw [d1]
  exact q ds s' ⟨d2, by omega⟩ d3 dl
/-! ### spells: rows of days and states -/
def encS (x : Int × Str) : D := .tup [.int x.1, .str x.2]
def stepS (f : Int → Str) (acc : List (Int × Str)) (d : Int) : List (Int × Str) := if (acc.getLast?.map (·.2)) = some (f d) then acc else acc ++ [(d, f d)]
theorem last_ix (acc : List (Int × Str)) : ixAll (.lst (acc.map encS)) (.int (-1)) = acc.getLast?.map encS := by
  rw [Fx.ix_lst]
  rcases List.eq_nil_or_concat acc with rfl | ⟨l, x, rfl⟩
  · rfl
  · rw [List.concat_eq_append, List.getLast?_append, List.map_append]
    simp only [List.getLast?_singleton, Option.some_or, Option.map_some, List.map_cons, List.map_nil]
    unfold atI ixN
    rw [if_neg (by decide), if_pos (by rw [List.length_append]; simp; omega)]
    simp only [List.length_append, List.length_map, List.length_cons, List.length_nil, Option.bind_some]
    have : ((-1 : Int) + ((l.length + (0 + 1) : Nat) : Int)).toNat = l.length := by omega
    rw [this, List.getElem?_append_right (by rw [List.length_map]; exact Nat.le_refl _), List.length_map, Nat.sub_self]
    rfl
theorem app_ok (acc : List (Int × Str)) (x : Int × Str) (h : acc.length < 16777216) : appO (acc.map encS) [encS x] = some ((acc ++ [x]).map encS) := by
  show (if (acc.map encS).length < 16777216 then some (acc.map encS ++ [encS x]) else none) = _
  rw [List.length_map, if_pos h, List.map_append]
  rfl
theorem stepS_len (f : Int → Str) (acc : List (Int × Str)) (d : Int) : (stepS f acc d).length ≤ acc.length + 1 := by
  unfold stepS
  split
  · omega
  · rw [List.length_append]; exact Nat.le_refl _
theorem sc_int (i : Int) : scalD (.int i) = true := (rfl)
theorem sc_str (x : Str) : scalD (.str x) = true := (rfl)
theorem encS_1 (x : Int × Str) : ixAll (encS x) (.int 1) = some (.str x.2) := ix1 _ _ _
theorem encS_0 (x : Int × Str) : ixAll (encS x) (.int 0) = some (.int x.1) := ix0 _ _
theorem sp_body (g : Grant) (ds : List Deed) (wd : WfD ds) (who last : Int) (acc : List (Int × Str)) (ha : acc.length < 16777216) (hok : ∀ x ∈ acc, okD (.str x.2) = true) (d : Int) (x6 : Option D) : ∃ y, lb1_spells [some (encG g), some (.tup (ds.map encDd)), some (.int who), some (.int last), some (.lst (acc.map encS)), some (.int d), x6] =
    (Fx.ret (.nx [some (encG g), some (.tup (ds.map encDd)), some (.int who), some (.int last), some (.lst ((stepS (fun d => lv g ds d who) acc d).map encS)), some (.int d), y]) : MS Unit Out) := by
  have h1 := leave_on_eq g ds wd d who
  have h2 := last_ix acc
  have h3 := app_ok acc (d, lv g ds d who) ha
  refine ⟨some (.str (lv g ds d who)), ?_⟩
  unfold stepS
  rcases List.eq_nil_or_concat acc with rfl | ⟨l, x, rfl⟩
  · simp [h1, encS, appO, sc_int]
  · rw [List.concat_eq_append] at h2 h3 ha ⊢
    rw [List.getLast?_append] at h2 ⊢
    simp only [List.getLast?_singleton, Option.some_or, Option.map_some] at h2 ⊢
    have hne : ¬ ((l.length : Int) + 1 = 0) := by omega
    have hx : okD (.str x.2) = true := hok x (by rw [List.concat_eq_append]; exact List.mem_append_right _ (List.mem_singleton_self x))
    have hn := v_nes hx (ok_lv g ds d who)
    have h4 : appO ((l ++ [x]).map encS) [.tup [.int d, .str (lv g ds d who)]] = some ((l ++ [x] ++ [(d, lv g ds d who)]).map encS) := h3
    simp only [List.map_append, List.map_cons, List.map_nil] at h2 h4
    by_cases c : x.2 = lv g ds d who
    · have hn2 := v_nes (ok_lv g ds d who) (ok_lv g ds d who)
      simp [h1, h2, sc_int, sc_str, encS_1, hne, hn2, c]
    · simp [h1, h2, sc_int, sc_str, encS_1, hne, hn, c, h4]
theorem okS_list : ∀ acc : List (Int × Str), (∀ x ∈ acc, okD (.str x.2) = true) → PyData.canLayAll0 (toPys (acc.map encS)) = true ∧ PyData.depthAll (toPys (acc.map encS)) ≤ 3
  | [], _ => ⟨rfl, by decide⟩
  | x :: acc, h => by
    obtain ⟨h1, h2⟩ := okS_list acc fun y hy => h y (List.mem_cons_of_mem _ hy)
    have hx : PyData.canLay0 (toPy (.str x.2)) = true := SeqAt.canLay_of_shaped (h x List.mem_cons_self)
    rw [List.map_cons, toPys, PyData.canLayAll0, PyData.depthAll, h1]
    refine ⟨?_, ?_⟩
    · show (PyData.canLay0 (toPy (.tup [.int x.1, .str x.2])) && true) = true
      simp only [toPy, toPys, PyData.canLay0, PyData.canLayAll0, Bool.and_true, Bool.true_and] at hx ⊢
      exact hx
    · have : PyData.depth (toPy (encS x)) ≤ 3 := by
        show PyData.depth (toPy (.tup [.int x.1, .str x.2])) ≤ 3
        simp only [toPy, toPys, PyData.depth, PyData.depthAll]
        omega
      omega
theorem eq_nil_rows (acc : List (Int × Str)) (h : ∀ x ∈ acc, okD (.str x.2) = true) : eqO (.lst (acc.map encS)) (.lst []) = some (decide (acc = [])) := by
  obtain ⟨h1, h2⟩ := okS_list acc h
  have ok : okD (.lst (acc.map encS)) = true := by
    unfold okD SeqAt.shaped
    rw [toPy, PyData.canLay0, h1, Bool.true_and, decide_eq_true_eq, PyData.depth]
    omega
  have ok0 : okD (.lst []) = true := by decide +kernel
  unfold eqO
  rw [ok, ok0]
  cases acc with
  | nil => simp [eqB, toPy, toPys, PyData.eqv, PyData.eqvAll]
  | cons x acc => simp [eqB, toPy, toPys, PyData.eqv, PyData.eqvAll]
theorem ls_body (g : Grant) (wg : WfG g) (ds : List Deed) (wd : WfD ds) (who last : Int) (C : D) (acc : List (Int × Str)) (ha : acc.length < 16777216) (hok : ∀ x ∈ acc, okD (.str x.2) = true) (d : Int) (x7 x8 x9 x10 : Option D) : ∃ y, lb1_law_spells [some (encG g), some (.tup (ds.map encDd)), some (.int who), some (.int last), some C, some (.lst (acc.map encS)), some (.int d), x7, x8, x9, x10] =
    (Fx.ret (.nx [some (encG g), some (.tup (ds.map encDd)), some (.int who), some (.int last), some C, some (.lst ((stepS (fun d => lv g ds d who) acc d).map encS)), some (.int d), y, x8, x9, x10]) : MS Unit Out) := by
  have h1 := law_state_eq g wg ds wd d who
  have h2 := last_ix acc
  have h3 := app_ok acc (d, lv g ds d who) ha
  have h5 := eq_nil_rows acc hok
  refine ⟨some (.str (lv g ds d who)), ?_⟩
  unfold stepS
  rcases List.eq_nil_or_concat acc with rfl | ⟨l, x, rfl⟩
  · rw [List.map_nil] at h5
    simp [h1, encS, appO, h5]
  · rw [List.concat_eq_append] at h2 h3 ha h5 ⊢
    rw [List.getLast?_append] at h2 ⊢
    simp only [List.getLast?_singleton, Option.some_or, Option.map_some] at h2 ⊢
    have hx : okD (.str x.2) = true := hok x (by rw [List.concat_eq_append]; exact List.mem_append_right _ (List.mem_singleton_self x))
    have hn := v_nes hx (ok_lv g ds d who)
    have h4 : appO ((l ++ [x]).map encS) [.tup [.int d, .str (lv g ds d who)]] = some ((l ++ [x] ++ [(d, lv g ds d who)]).map encS) := h3
    simp only [List.map_append, List.map_cons, List.map_nil] at h2 h4 h5
    rw [show decide (l ++ [x] = []) = false by simp] at h5
    by_cases c : x.2 = lv g ds d who
    · have hn2 := v_nes (ok_lv g ds d who) (ok_lv g ds d who)
      simp [h1, h2, sc_int, sc_str, encS_1, h5, hn2, c]
    · simp [h1, h2, sc_int, sc_str, encS_1, h5, hn, c, h4]
theorem stepS_ok (g : Grant) (ds : List Deed) (who : Int) (acc : List (Int × Str)) (d : Int) (hok : ∀ x ∈ acc, okD (.str x.2) = true) : ∀ x ∈ stepS (fun d => lv g ds d who) acc d, okD (.str x.2) = true := by
  unfold stepS
  split
  · exact hok
  · intro x hx
    rcases List.mem_append.mp hx with hx | hx
    · exact hok x hx
    · rw [List.mem_singleton] at hx
      rw [hx]; exact ok_lv g ds d who
def rowsOf (g : Grant) (ds : List Deed) (who : Int) (days : List Int) : List (Int × Str) := days.foldl (stepS fun d => lv g ds d who) []
def daysTo (last : Int) : List Int := (List.range (last + 1).toNat).map fun k : Nat => (k : Int)
theorem sp_loop (g : Grant) (ds : List Deed) (wd : WfD ds) (who last : Int) : ∀ (days : List Int) (acc : List (Int × Str)) (x5 x6 : Option D), acc.length + days.length < 16777216 → (∀ x ∈ acc, okD (.str x.2) = true) → ∃ y5 y6, forL (.nm 5) lb1_spells (days.map D.int) [some (encG g), some (.tup (ds.map encDd)), some (.int who), some (.int last), some (.lst (acc.map encS)), x5, x6] =
    (Fx.ret (.nx [some (encG g), some (.tup (ds.map encDd)), some (.int who), some (.int last), some (.lst ((days.foldl (stepS fun d => lv g ds d who) acc).map encS)), y5, y6]) : MS Unit Out)
  | [], acc, x5, x6, _, _ => ⟨x5, x6, rfl⟩
  | d :: days, acc, x5, x6, hl, hok => by
    rw [List.length_cons] at hl
    obtain ⟨y, e1⟩ := sp_body g ds wd who last acc (by omega) hok d x6
    have hs := stepS_len (fun d => lv g ds d who) acc d
    obtain ⟨y5, y6, e2⟩ := sp_loop g ds wd who last days (stepS (fun d => lv g ds d who) acc d) (some (.int d)) y (by omega) (stepS_ok g ds who acc d hok)
    refine ⟨y5, y6, ?_⟩
    rw [List.map_cons, m_forL1, t_nm, m_lft_some, m_bnd_ret]
    show bnd (lb1_spells [some (encG g), some (.tup (ds.map encDd)), some (.int who), some (.int last), some (.lst (acc.map encS)), some (.int d), x6]) _ = _
    rw [e1, m_bnd_ret, m_f1, e2]
    rfl
theorem rows_len (f : Int → Str) : ∀ (days : List Int) (acc : List (Int × Str)), (days.foldl (stepS f) acc).length ≤ acc.length + days.length
  | [], acc => Nat.le_refl _
  | d :: days, acc => by
    have := rows_len f days (stepS f acc d)
    have := stepS_len f acc d
    rw [List.foldl_cons, List.length_cons]
    omega
theorem spells_eq (g : Grant) (ds : List Deed) (wd : WfD ds) (who last : Int) (h0 : 0 ≤ last) (h1 : last ≤ 100000) : s_spells [encG g, .tup (ds.map encDd), .int who, .int last] = some (.tup ((rowsOf g ds who (daysTo last)).map encS)) := by
  refine sem_of ?_
  have hr := rng1_okI (n := last + 1) (by omega) (by omega)
  have hd : rngD 0 (last + 1).toNat = (daysTo last).map D.int := by
    unfold rngD daysTo
    rw [List.map_map]
    refine List.map_congr_left fun k _ => ?_
    show D.int (0 + (k : Int)) = D.int (k : Int)
    rw [Int.zero_add]
  have hlen : (daysTo last).length = (last + 1).toNat := by unfold daysTo; rw [List.length_map, List.length_range]
  obtain ⟨y5, y6, e⟩ := sp_loop g ds wd who last (daysTo last) [] none none (by rw [List.length_nil, hlen]; omega) fun x hx => by cases hx
  rw [List.map_nil] at e
  simp only [den_spells, env0, List.replicate]
  simp [hr, hd, e]
  rfl
def cand (g : Grant) (ds : List Deed) (who : Int) : List Int := [0, g.1, g.2.1] ++ (ds.filter fun x => decide (x.2.1 = who)).map (·.1)
def keysIn (l : List Int) : List Int := ((l.map fun a => (a, (1 : Int))).foldl (fun l p => putP l p.1 p.2) []).map (·.1)
def askD (g : Grant) (ds : List Deed) (who last : Int) : List Int := sortI (keysIn ((cand g ds who).filter fun d => decide (0 ≤ d) && decide (d ≤ last)))
theorem mem_keysIn (k : Int) (l : List Int) : k ∈ keysIn l ↔ k ∈ l := by
  unfold keysIn
  rw [mem_merge, List.map_map]
  have e : ((fun x : Int × Int => x.1) ∘ fun a => (a, (1 : Int))) = id := rfl
  rw [e, List.map_id]
  simp
theorem nodup_keysIn (l : List Int) : (keysIn l).Nodup := by
  have go : ∀ (m : List (Int × Int)) (a : List (Int × Int)), (a.map (·.1)).Nodup → ((m.foldl (fun l p => putP l p.1 p.2) a).map (·.1)).Nodup := fun m => by
    induction m with
    | nil => exact fun a h => h
    | cons p m ih =>
      intro a h
      rw [List.foldl_cons]
      refine ih _ ?_
      rw [keys_put]
      split
      · exact h
      · rename_i hn
        exact List.nodup_append.mpr ⟨h, by simp, fun x hx y hy z => hn (by rw [List.mem_singleton] at hy; rw [← hy, ← z]; exact hx)⟩
  exact go _ [] (by simp)
theorem len_keysIn (l : List Int) : (keysIn l).length ≤ l.length := nodup_len (nodup_keysIn l) fun x hx => (mem_keysIn x l).mp hx
theorem dict_ints (l : List Int) : dictO (.lst (l.map fun a => .tup [.int a, .int 1])) = some (.dk (((l.map fun a => (a, (1 : Int))).foldl (fun l p => putP l p.1 p.2) []).map encP)) := by
  show (pairsD _).map _ = _
  rw [pairs_one, ← merge_enc]
  simp only [Option.map_some, List.map_map, List.map_nil]
  rfl
theorem ls_loop2 (g : Grant) (wg : WfG g) (ds : List Deed) (wd : WfD ds) (who last : Int) (C : D) : ∀ (days : List Int) (acc : List (Int × Str)) (x6 x7 x8 x9 x10 : Option D), acc.length + days.length < 16777216 → (∀ x ∈ acc, okD (.str x.2) = true) → ∃ y6 y7, forL (.nm 6) lb1_law_spells (days.map D.int) [some (encG g), some (.tup (ds.map encDd)), some (.int who), some (.int last), some C, some (.lst (acc.map encS)), x6, x7, x8, x9, x10] =
    (Fx.ret (.nx [some (encG g), some (.tup (ds.map encDd)), some (.int who), some (.int last), some C, some (.lst ((days.foldl (stepS fun d => lv g ds d who) acc).map encS)), y6, y7, x8, x9, x10]) : MS Unit Out)
  | [], acc, x6, x7, x8, x9, x10, _, _ => ⟨x6, x7, rfl⟩
  | d :: days, acc, x6, x7, x8, x9, x10, hl, hok => by
    rw [List.length_cons] at hl
    obtain ⟨y, e1⟩ := ls_body g wg ds wd who last C acc (by omega) hok d x7 x8 x9 x10
    have hs := stepS_len (fun d => lv g ds d who) acc d
    obtain ⟨y6, y7, e2⟩ := ls_loop2 g wg ds wd who last C days (stepS (fun d => lv g ds d who) acc d) (some (.int d)) y x8 x9 x10 (by omega) (stepS_ok g ds who acc d hok)
    refine ⟨y6, y7, ?_⟩
    rw [List.map_cons, m_forL1, t_nm, m_lft_some, m_bnd_ret]
    show bnd (lb1_law_spells [some (encG g), some (.tup (ds.map encDd)), some (.int who), some (.int last), some C, some (.lst (acc.map encS)), some (.int d), x7, x8, x9, x10]) _ = _
    rw [e1, m_bnd_ret, m_f1, e2]
    rfl
theorem law_spells_eq (g : Grant) (wg : WfG g) (ds : List Deed) (wd : WfD ds) (hd : ds.length ≤ 1000) (who last : Int) : s_law_spells [encG g, .tup (ds.map encDd), .int who, .int last] = some (.tup ((rowsOf g ds who (askD g ds who last)).map encS)) := by
  refine sem_of ?_
  have c1 : ∀ a b c d e f h : Option D, compL (.tp [.nm 8, .nm 9, .nm 10]) cc1_law_spells ce1_law_spells [a, b, some (.int who), c, d, e, f, h, none, none, none] (ds.map encDd) = (Fx.ret (((ds.filter fun x => decide (x.2.1 = who)).map (·.1)).map D.int) : MS Unit (List D)) := fun a b c d e f h => by
    rw [List.map_map]
    refine comp_enc encDd _ (fun x => .int x.1) fun x hx => ⟨[a, b, some (.int who), c, d, e, f, h, some (.int x.1), some (.int x.2.1), some (.str x.2.2)], by simp [encDd], by simp, fun _ => by simp⟩
  have c2 : ∀ (a b c d e f h i j : Option D), compL (.nm 6) cc2_law_spells ce2_law_spells [a, b, c, some (.int last), d, e, none, f, h, i, j] ((cand g ds who).map D.int) = (Fx.ret (((cand g ds who).filter fun d => decide (0 ≤ d) && decide (d ≤ last)).map fun a => .tup [.int a, .int 1]) : MS Unit (List D)) := fun a b c d e f h i j => by
    refine comp_enc D.int _ (fun a => .tup [.int a, .int 1]) fun x hx => ⟨_, t_nm _ _, ?_, fun _ => by simp⟩
    simp
    by_cases z : 0 ≤ x <;> simp [z]
  have lf := List.length_filter_le (fun x : Deed => decide (x.2.1 = who)) ds
  have lc : (cand g ds who).length ≤ 1003 := by
    unfold cand
    rw [List.length_append, List.length_map]
    simp only [List.length_cons, List.length_nil]
    omega
  have la : (askD g ds who last).length ≤ 1003 := by
    unfold askD
    rw [(sortI_perm _).length_eq]
    have h1 := len_keysIn ((cand g ds who).filter fun d => decide (0 ≤ d) && decide (d ≤ last))
    have h2 := List.length_filter_le (fun d : Int => decide (0 ≤ d) && decide (d ≤ last)) (cand g ds who)
    omega
  have hadd : addD (.lst [.int 0, .int g.1, .int g.2.1]) (.lst (((ds.filter fun x => decide (x.2.1 = who)).map (·.1)).map D.int)) = some (.lst ((cand g ds who).map D.int)) := by
    rw [v_addl, if_pos (by simp only [List.length_map, List.length_cons, List.length_nil]; omega)]
    unfold cand
    rw [List.map_append]
    rfl
  have hdict := dict_ints ((cand g ds who).filter fun d => decide (0 ≤ d) && decide (d ≤ last))
  have hsort := sort_dk ((((cand g ds who).filter fun d => decide (0 ≤ d) && decide (d ≤ last)).map fun a => (a, (1 : Int))).foldl (fun l p => putP l p.1 p.2) [])
  obtain ⟨y6, y7, e⟩ := ls_loop2 g wg ds wd who last (.lst ((cand g ds who).map D.int)) (askD g ds who last) [] none none none none none (by rw [List.length_nil]; omega) fun x hx => by cases hx
  rw [List.map_nil] at e
  have ea : sortI (((((cand g ds who).filter fun d => decide (0 ≤ d) && decide (d ≤ last)).map fun a => (a, (1 : Int))).foldl (fun l p => putP l p.1 p.2) []).map (·.1)) = askD g ds who last := rfl
  rw [ea] at hsort
  have l1 : ds.length ≤ 16777216 := by omega
  have l2 : (cand g ds who).length ≤ 16777216 := by omega
  have eg1 : ixAll (encG g) (.int 0) = some (.int g.1) := ix0 _ _
  have eg2 : ixAll (encG g) (.int 1) = some (.int g.2.1) := ix1 _ _ _
  simp only [den_law_spells, env0, List.replicate]
  simp only [m_seq, m_asg, m_op, m_lst, m_acons, m_anil, m_c, m_var, m_lc, m_iseq, m_bnd_bnd, m_bnd_if, m_lft_some, m_bnd_ret, m_clr0, m_clr1, m_k1, List.map, List.replicate, List.nil_append, List.cons_append, List.length_cons, List.length_nil, Nat.reduceAdd, Nat.reduceSub, Nat.reduceLeDiff, if_true, List.getD_cons_zero, List.getD_cons_succ, List.set_cons_zero, List.set_cons_succ, eg1, eg2, v_seqt, v_seql, List.length_map, l1, c1, hadd, m_for, m_fn, m_fn1]
  rw [if_pos l2, c2]
  simp only [m_bnd_ret, hdict, m_lft_some, hsort, v_seql, e, m_k1]
  simp
  rfl
/-! ### a state stays until a day that is asked about -/
theorem lv_stays (g : Grant) (ds : List Deed) (who d : Int) (h : d ∉ cand g ds who) : lv g ds d who = lv g ds (d - 1) who := by
  unfold cand at h
  rw [List.mem_append] at h
  have h1 : d ≠ g.1 := fun z => h (.inl (by rw [z]; simp))
  have h2 : d ≠ g.2.1 := fun z => h (.inl (by rw [z]; simp))
  have h3 : ∀ x ∈ ds, x.2.1 = who → x.1 ≠ d := fun x hx hw z => h (.inr (List.mem_map.mpr ⟨x, List.mem_filter.mpr ⟨hx, decide_eq_true hw⟩, z⟩))
  have e : ownOf g ds d who = ownOf g ds (d - 1) who := by
    unfold ownOf
    congr 1
    refine List.filter_congr fun x hx => ?_
    by_cases c : x.2.1 = who
    · have := h3 x hx c
      have : decide (x.1 ≤ d) = decide (x.1 ≤ d - 1) := by
        by_cases c1 : x.1 ≤ d
        · rw [decide_eq_true c1, decide_eq_true (show x.1 ≤ d - 1 by omega)]
        · rw [decide_eq_false c1, decide_eq_false (show ¬ x.1 ≤ d - 1 by omega)]
      rw [this]
    · simp [c]
  unfold lv
  rw [e]
  have i1 : d < g.1 ↔ d - 1 < g.1 := by omega
  have i2 : (g.2.1 ≠ -1 ∧ g.2.1 ≤ d) ↔ (g.2.1 ≠ -1 ∧ g.2.1 ≤ d - 1) := by
    constructor
    · rintro ⟨u, v⟩; exact ⟨u, by omega⟩
    · rintro ⟨u, v⟩; exact ⟨u, by omega⟩
  exact ite_congr (propext i1) (fun _ => rfl) fun _ => ite_congr (propext i2) (fun _ => rfl) fun _ => rfl
theorem stepS_stay {f : Int → Str} {acc : List (Int × Str)} {d : Int} (h : (acc.getLast?.map (·.2)) = some (f d)) : stepS f acc d = acc := if_pos h
theorem stepS_last (f : Int → Str) (acc : List (Int × Str)) (d : Int) : (stepS f acc d).getLast?.map (·.2) = some (f d) := by
  unfold stepS
  split
  · rename_i h; exact h
  · rw [List.getLast?_append]; rfl
def natD (k : Nat) : Int := (k : Int)
/-- days that are no candidates change nothing -/
theorem fold_cand (f : Int → Str) (p : Int → Bool) (h0 : p 0 = true) (hp : ∀ d, p d = false → f d = f (d - 1)) : ∀ n : Nat, ((List.range n).map natD).foldl (stepS f) [] = (((List.range n).map natD).filter p).foldl (stepS f) [] ∧ (0 < n → ((((List.range n).map natD).foldl (stepS f) []).getLast?.map (·.2)) = some (f (natD (n - 1))))
  | 0 => ⟨rfl, fun h => absurd h (Nat.lt_irrefl 0)⟩
  | n + 1 => by
    obtain ⟨h1, h2⟩ := fold_cand f p h0 hp n
    rw [List.range_succ, List.map_append, List.filter_append, List.foldl_append, List.foldl_append, ← h1]
    refine ⟨?_, fun _ => ?_⟩
    · cases e : p (natD n) with
      | true => simp [e]
      | false =>
        have hn : 0 < n := by
          rcases Nat.eq_zero_or_pos n with z | z
          · subst z
            have : p 0 = false := e
            rw [h0] at this; cases this
          · exact z
        have h3 := h2 hn
        have h4 := hp _ e
        have h5 : natD n - 1 = natD (n - 1) := by unfold natD; omega
        simp only [List.map_cons, List.map_nil, List.foldl_cons, List.foldl_nil, List.filter_cons, e, List.filter_nil, Bool.false_eq_true, if_false]
        exact stepS_stay (by rw [h3, h4, h5])
    · simp only [List.map_cons, List.map_nil, List.foldl_cons, List.foldl_nil]
      exact stepS_last f _ _
theorem rows_same (g : Grant) (ds : List Deed) (who last : Int) (h0 : 0 ≤ last) : rowsOf g ds who (daysTo last) = rowsOf g ds who (askD g ds who last) := by
  let p : Int → Bool := fun d => decide (d ∈ cand g ds who)
  have hp0 : p 0 = true := decide_eq_true (by unfold cand; simp)
  have := (fold_cand (fun d => lv g ds d who) p hp0 (fun d hd => lv_stays g ds who d (of_decide_eq_false hd)) (last + 1).toNat).1
  have e : ((List.range (last + 1).toNat).map natD).filter p = askD g ds who last := by
    have inc : ∀ n : Nat, ((List.range n).map natD).Pairwise (· < ·) := fun n => List.pairwise_map.mpr (List.pairwise_lt_range.imp fun h => by unfold natD; omega)
    unfold askD
    refine sortI_uniq (perm_of ?_ (nodup_keysIn _) fun x => ?_) (((inc _).imp fun h => Int.le_of_lt h).filter _)
    · exact ((inc _).imp fun {a b} h => Int.ne_of_lt h).filter _
    · rw [mem_keysIn, List.mem_filter, List.mem_filter, List.mem_map]
      constructor
      · rintro ⟨⟨k, hk, rfl⟩, h2⟩
        have := List.mem_range.mp hk
        refine ⟨of_decide_eq_true h2, ?_⟩
        rw [Bool.and_eq_true, decide_eq_true_eq, decide_eq_true_eq]
        unfold natD
        omega
      · rintro ⟨h1, h2⟩
        rw [Bool.and_eq_true, decide_eq_true_eq, decide_eq_true_eq] at h2
        exact ⟨⟨x.toNat, List.mem_range.mpr (by omega), by unfold natD; omega⟩, decide_eq_true h1⟩
  unfold rowsOf
  rw [← e]
  exact this
/-- what the rows say: each begins with its state, which lasts till the day before the next -/
structure RowsOk (f : Int → Str) (m : Int) (acc : List (Int × Str)) : Prop where
  st : ∀ k (h : k < acc.length), acc[k].2 = f acc[k].1
  next : ∀ k (h : k + 1 < acc.length), f (acc[k + 1].1 - 1) = acc[k].2
  last : ∀ x, acc.getLast? = some x → x.2 = f m
theorem RowsOk.step {f : Int → Str} {m : Int} {acc : List (Int × Str)} (r : RowsOk f m acc) : RowsOk f (m + 1) (stepS f acc (m + 1)) := by
  unfold stepS
  split
  · rename_i h
    refine ⟨r.st, r.next, fun x hx => ?_⟩
    rw [hx] at h
    exact Option.some.inj h
  · rename_i h
    refine ⟨fun k hk => ?_, fun k hk => ?_, fun x hx => ?_⟩
    · by_cases c : k < acc.length
      · simp only [List.getElem_append_left c]; exact r.st k c
      · have : k = acc.length := by rw [List.length_append, List.length_singleton] at hk; omega
        subst this
        simp
    · rw [List.length_append, List.length_singleton] at hk
      by_cases c : k + 1 < acc.length
      · simp only [List.getElem_append_left c, List.getElem_append_left (show k < acc.length by omega)]; exact r.next k c
      · have : k + 1 = acc.length := by omega
        have hk' : k < acc.length := by omega
        simp only [List.getElem_append_left hk', this]
        rw [List.getElem_append_right (by omega)]
        simp only [Nat.sub_self, List.getElem_cons_zero]
        have h2 := r.last acc[k] (by rw [List.getLast?_eq_getElem?, ← this]; simp [hk'])
        rw [show m + 1 - 1 = m by omega]
        exact h2.symm
    · rw [List.getLast?_append] at hx
      simp at hx
      rw [← hx]
theorem rows_ok (g : Grant) (ds : List Deed) (who last : Int) (h0 : 0 ≤ last) : RowsOk (fun d => lv g ds d who) last (rowsOf g ds who (daysTo last)) := by
  have go : ∀ n : Nat, RowsOk (fun d => lv g ds d who) ((n : Int) - 1) (((List.range n).map fun k : Nat => (k : Int)).foldl (stepS fun d => lv g ds d who) []) := fun n => by
    induction n with
    | zero => exact ⟨fun k h => absurd h (Nat.not_lt_zero k), fun k h => absurd h (Nat.not_lt_zero _), fun x h => by cases h⟩
    | succ n ih =>
      rw [List.range_succ, List.map_append, List.foldl_append]
      have := ih.step
      rw [show (n : Int) - 1 + 1 = n by omega] at this
      rw [show ((n + 1 : Nat) : Int) - 1 = n by omega]
      exact this
  have := go (last + 1).toNat
  rw [show (((last + 1).toNat : Nat) : Int) - 1 = last by omega] at this
  exact this
theorem ld_loop (g : Grant) (DS : D) (x6 : Option D) : ∀ (xs : List Deed) (L : List Int) (x3 x4 x5 : Option D), L.length + 5 * xs.length ≤ 1000 → 0 ∈ L → ∃ (L' : List Int) (y3 y4 y5 : Option D), forL (.tp [.nm 3, .nm 4, .nm 5]) lb1_law_days (xs.map encDd) [some (encG g), some DS, some (.lst (L.map .int)), x3, x4, x5, x6] =
    (Fx.ret (.nx [some (encG g), some DS, some (.lst (L'.map .int)), y3, y4, y5, x6]) : MS Unit Out) ∧ 0 ∈ L' ∧ L'.length ≤ 1000
  | [], L, x3, x4, x5, hl, h0 => ⟨L, x3, x4, x5, rfl, h0, by simpa using hl⟩
  | (a, w, x) :: xs, L, x3, x4, x5, hl, h0 => by
    rw [List.length_cons] at hl
    have add3 : addD (.lst (L.map D.int)) (.lst [.int (a - 1), .int a, .int (a + 1)]) = some (.lst ((L ++ [a - 1, a, a + 1]).map D.int)) := by
      rw [v_addl, if_pos (by rw [List.length_map]; simp; omega), List.map_append]; rfl
    have add2 : addD (.lst ((L ++ [a - 1, a, a + 1]).map D.int)) (.lst [.int (a + g.2.2), .int (a + g.2.2 + 1)]) = some (.lst ((L ++ [a - 1, a, a + 1] ++ [a + g.2.2, a + g.2.2 + 1]).map D.int)) := by
      rw [v_addl, if_pos (by rw [List.length_map]; simp; omega)]
      simp
    have eg : ixAll (encG g) (.int 2) = some (.int g.2.2) := ix2 _ _ _ _
    have go : ∃ L2 : List Int, lb1_law_days [some (encG g), some DS, some (.lst (L.map .int)), some (.int a), some (.int w), some (.str x), x6] = (Fx.ret (.nx [some (encG g), some DS, some (.lst (L2.map .int)), some (.int a), some (.int w), some (.str x), x6]) : MS Unit Out) ∧ 0 ∈ L2 ∧ L2.length ≤ L.length + 5 := by
      by_cases c : 0 ≤ g.2.2
      · refine ⟨L ++ [a - 1, a, a + 1] ++ [a + g.2.2, a + g.2.2 + 1], ?_, by simp [h0], by simp⟩
        simp only [m_seq, m_asg, m_op, m_lst, m_acons, m_anil, m_c, m_var, m_sif, m_ccmp, m_bnd_bnd, m_lft_some, m_bnd_ret, m_k1, List.getD_cons_zero, List.getD_cons_succ, List.set_cons_zero, List.set_cons_succ, v_sub, v_add, List.length_cons, List.length_nil, Nat.reduceAdd, Nat.reduceLeDiff, if_true, add3, eg, v_ge, c, decide_true, add2]
      · refine ⟨L ++ [a - 1, a, a + 1], ?_, by simp [h0], by simp⟩
        simp only [m_seq, m_asg, m_op, m_lst, m_acons, m_anil, m_c, m_var, m_sif, m_ccmp, m_bnd_bnd, m_lft_some, m_bnd_ret, m_k1, List.getD_cons_zero, List.getD_cons_succ, List.set_cons_zero, List.set_cons_succ, v_sub, v_add, List.length_cons, List.length_nil, Nat.reduceAdd, Nat.reduceLeDiff, if_true, add3, eg, v_ge, c, decide_false, Bool.false_eq_true, if_false, m_snil]
    obtain ⟨L2, e1, h2, h3⟩ := go
    obtain ⟨L', y3, y4, y5, e2, h4, h5⟩ := ld_loop g DS x6 xs L2 (some (.int a)) (some (.int w)) (some (.str x)) (by omega) h2
    refine ⟨L', y3, y4, y5, ?_, h4, h5⟩
    rw [List.map_cons, m_forL1]
    have ea : asgT (.tp [.nm 3, .nm 4, .nm 5]) (encDd (a, w, x)) [some (encG g), some DS, some (.lst (L.map .int)), x3, x4, x5, x6] = some [some (encG g), some DS, some (.lst (L.map .int)), some (.int a), some (.int w), some (.str x), x6] := by simp [encDd]
    rw [ea, m_lft_some, m_bnd_ret, e1, m_bnd_ret, m_f1, e2]
theorem law_days_eq (g : Grant) (ds : List Deed) : ∃ days : List Int, s_law_days [encG g, .tup (ds.map encDd)] = some (.lst (days.map .int)) ∧ days ≠ [] ∧ days.length ≤ 1000 := by
  obtain ⟨L, y3, y4, y5, e, h0, hl⟩ := ld_loop g (.tup (ds.map encDd)) none (cutA ds none (some 12)) [0, 1000, g.1 - 1, g.1, g.1 + 1, g.2.1 - 1, g.2.1, g.2.1 + 1] none none none (by have : (cutA ds none (some 12)).length ≤ 12 := cut_some ds 12; simp only [List.length_cons, List.length_nil]; omega) (by simp)
  have c1 : ∀ a b c d f : Option D, compL (.nm 6) cYes ce2_law_days [a, b, c, d, f, none, none] (L.map D.int) = compL (.nm 6) cYes ce2_law_days [a, b, c, d, f, none, none] (L.map D.int) := fun _ _ _ _ _ => rfl
  have c1 : ∀ a b c d f h : Option D, compL (.nm 6) cYes ce2_law_days [a, b, c, d, f, h, none] (L.map D.int) = (Fx.ret (L.map fun a => .tup [.int a, .int 1]) : MS Unit (List D)) := fun a b c d f h => by
    rw [comp_enc D.int (fun _ => true) (fun a => .tup [.int a, .int 1])]
    · rw [List.filter_eq_self.mpr (fun _ _ => rfl)]
    · exact fun x hx => ⟨_, t_nm _ _, by simp, fun _ => by simp⟩
  have c2 : ∀ a b c d f h : Option D, compL (.nm 6) cc1_law_days ce1_law_days [a, b, c, d, f, h, none] ((keysIn L).map D.int) = (Fx.ret (((keysIn L).filter fun d => decide (0 ≤ d) && decide (d ≤ 1000)).map D.int) : MS Unit (List D)) := fun a b c d f h => by
    refine comp_enc D.int _ D.int fun x hx => ⟨_, t_nm _ _, ?_, fun _ => by simp⟩
    simp
    by_cases z : 0 ≤ x <;> simp [z]
  have hdict := dict_ints L
  have hk : iKeysD (.dk (((L.map fun a => (a, (1 : Int))).foldl (fun l p => putP l p.1 p.2) []).map encP)) = some ((keysIn L).map D.int) := by
    show some (keyVs _) = _
    unfold keyVs keysIn
    rw [List.map_map, List.map_map]
    rfl
  have lk := len_keysIn L
  refine ⟨(keysIn L).filter fun d => decide (0 ≤ d) && decide (d ≤ 1000), ?_, ?_, Nat.le_trans (List.length_filter_le _ _) (by omega)⟩
  · refine sem_of ?_
    have eg0 : ixAll (encG g) (.int 0) = some (.int g.1) := ix0 _ _
    have eg1 : ixAll (encG g) (.int 1) = some (.int g.2.1) := ix1 _ _ _
    have ce : slO (.tup (ds.map encDd)) none (some 12) = some (.tup ((cutA ds none (some 12)).map encDd)) := cut_tup _ _ _ _
    have l1 : L.length ≤ 16777216 := by omega
    have l2 : (keysIn L).length ≤ 16777216 := by omega
    simp only [List.map_cons, List.map_nil] at e
    simp only [den_law_days, env0, List.replicate]
    simp [eg0, eg1, ce, e, l1, c1, hdict, hk, l2, c2]
  · intro z
    have : (0 : Int) ∈ (keysIn L).filter fun d => decide (0 ≤ d) && decide (d ≤ 1000) := List.mem_filter.mpr ⟨(mem_keysIn 0 L).mpr h0, by decide⟩
    rw [z] at this
    cases this
def cKey (l : List (Key × D)) : Prop := ∀ p ∈ l, (∃ a : Int, p.1 = .inl a ∧ 0 ≤ a ∧ a ≤ 2000) ∧ ∃ w : Str, p.2 = .str w ∧ okD (.str w) = true
theorem cKey_put {l : List (Key × D)} (h : cKey l) {a : Int} (h1 : 0 ≤ a) (h2 : a ≤ 2000) {w : Str} (hw : okD (.str w) = true) : cKey (putD l (.inl a) (.str w)) :=
  putD_all (P := fun (k : Key) v => (∃ a : Int, k = Sum.inl a ∧ 0 ≤ a ∧ a ≤ 2000) ∧ ∃ w : Str, v = .str w ∧ okD (.str w) = true) h ⟨⟨a, rfl, h1, h2⟩, w, rfl, hw⟩
theorem cured_fin (l : List (Key × D)) (hl : cKey l) (hlen : l.length ≤ 100) (a b c d : Option D) : ∃ ds : List Deed, WfD ds ∧ (∀ x ∈ ds, 0 ≤ x.1 ∧ x.1 ≤ 2000) ∧ ds.length ≤ 1000 ∧
    ((eFn (fn1 tupleO) (aCons (eLc (iSeq (eFn (fn1 sortO) (aCons (eVar 5) aNil))) (.nm 6) [6] cYes ce1_law_cured) aNil)) : Fx.Env → MS DrS D) [none, a, b, c, d, some (.dk l), none] = Fx.ret (.tup (ds.map encDd)) := by
  have ks : ∃ as : List Int, intsOf (l.map fun kv => keyD kv.1) = some as ∧ as.length = l.length ∧ ∀ a ∈ as, ∃ w : Str, valD l (.inl a) = some (.str w) ∧ okD (.str w) = true ∧ 0 ≤ a ∧ a ≤ 2000 := by
    have go : ∀ m : List (Key × D), (∀ p ∈ m, p ∈ l) → ∃ as : List Int, intsOf (m.map fun kv => keyD kv.1) = some as ∧ as.length = m.length ∧ ∀ a ∈ as, ∃ w : Str, valD l (.inl a) = some (.str w) ∧ okD (.str w) = true ∧ 0 ≤ a ∧ a ≤ 2000 := fun m => by
      induction m with
      | nil => exact fun _ => ⟨[], rfl, rfl, fun a ha => by cases ha⟩
      | cons p m ih =>
        intro h
        obtain ⟨as, h1, h2, h3⟩ := ih fun q hq => h q (List.mem_cons_of_mem _ hq)
        have hp := h p List.mem_cons_self
        obtain ⟨⟨a, ea, g1, g2⟩, _⟩ := hl p hp
        obtain ⟨v, hv, hm⟩ := valD_mem hp
        obtain ⟨_, w, ew, hw⟩ := hl _ hm
        simp only at ew
        refine ⟨a :: as, ?_, by rw [List.length_cons, List.length_cons, h2], fun b hb => ?_⟩
        · rw [List.map_cons, intsOf, h1, ea]
          rfl
        · rcases List.mem_cons.mp hb with rfl | hb
          · exact ⟨w, by rw [← ea, hv, ew], hw, g1, g2⟩
          · exact h3 b hb
    exact go l fun p hp => hp
  obtain ⟨as, k1, k2, k3⟩ := ks
  have so : sortO (.dk l) = some (.lst ((sortI as).map .int)) := by
    show (intsOf _).map _ = _
    rw [k1]; rfl
  have k3' : ∀ a ∈ sortI as, ∃ w : Str, valD l (.inl a) = some (.str w) ∧ okD (.str w) = true ∧ 0 ≤ a ∧ a ≤ 2000 := fun a ha => k3 a ((sortI_perm as).mem_iff.mp ha)
  have dsx : ∀ m : List Int, (∀ a ∈ m, ∃ w : Str, valD l (.inl a) = some (.str w) ∧ okD (.str w) = true ∧ 0 ≤ a ∧ a ≤ 2000) → ∃ ds : List Deed, (∀ x ∈ ds, okD (.str x.2.2) = true) ∧ (∀ x ∈ ds, 0 ≤ x.1 ∧ x.1 ≤ 2000) ∧ ds.length = m.length ∧ (m.map fun a => D.tup [.int a, .int 0, (valD l (.inl a)).getD .non]) = ds.map encDd := fun m => by
    induction m with
    | nil => exact fun _ => ⟨[], fun x hx => (by cases hx), fun x hx => (by cases hx), rfl, rfl⟩
    | cons a m ih =>
      intro h
      obtain ⟨ds, h1, h2, h3, h4⟩ := ih fun b hb => h b (List.mem_cons_of_mem _ hb)
      obtain ⟨w, e, hw, g1, g2⟩ := h a List.mem_cons_self
      refine ⟨(a, 0, w) :: ds, fun x hx => ?_, fun x hx => ?_, by rw [List.length_cons, List.length_cons, h3], ?_⟩
      · rcases List.mem_cons.mp hx with rfl | hx
        · exact hw
        · exact h1 x hx
      · rcases List.mem_cons.mp hx with rfl | hx
        · exact ⟨g1, g2⟩
        · exact h2 x hx
      · rw [List.map_cons, List.map_cons, h4, e]
        rfl
  obtain ⟨ds, d1, d2, d3, d4⟩ := dsx (sortI as) k3'
  have ls : (sortI as).length ≤ 100 := by rw [(sortI_perm as).length_eq, k2]; exact hlen
  have ls' : (sortI as).length ≤ 16777216 := by omega
  have c1 : compL (.nm 6) cYes ce1_law_cured [none, a, b, c, d, some (.dk l), none] ((sortI as).map D.int) = (Fx.ret (ds.map encDd) : MS DrS (List D)) := by
    rw [comp_enc D.int (fun _ => true) (fun a => D.tup [.int a, .int 0, (valD l (.inl a)).getD .non]), List.filter_eq_self.mpr (fun _ _ => rfl), d4]
    intro x hx
    obtain ⟨w, e, _⟩ := k3' x hx
    have hi : ixAll (.dk l) (.int x) = some (.str w) := by
      show (getO (.dk l) (.int x)).bind id = _
      unfold getO asKey
      simp [e]
    exact ⟨_, t_nm _ _, by simp, fun _ => by simp [hi, e]⟩
  refine ⟨ds, ⟨d1, by omega⟩, d2, by omega, ?_⟩
  simp [so, ls', c1]
theorem cured_tr (s : DrS) {Q : D → DrS → Prop} (q : ∀ g ds s', WfG g → g.1 ≤ 2000 → g.2.1 ≤ 2000 → WfD ds → (∀ x ∈ ds, 0 ≤ x.1 ∧ x.1 ≤ 2000) → ds.length ≤ 1000 → Q (.tup [encG g, .tup (ds.map encDd)]) s') : Tr (s_law_cured []) s Q := by
  unfold s_law_cured
  rw [m_semB, tr_bnd]
  simp only [den_law_cured, env0, List.replicate]
  refine tr_seq (fun ρ _ => ∃ cu : Int, 0 ≤ cu ∧ cu < 6 ∧ ρ = [none, some (.int cu), none, none, none, none, none]) (fun R hR => ?_) fun ρ s ⟨cu, g1, g2, e⟩ => ?_
  · simp [tr_bnd]
    refine draw_tr _ (by decide) (by decide) s fun t s' g1 g2 => hR _ _ ⟨t, g1, g2, rfl⟩
  subst e
  refine tr_seq (fun ρ _ => ∃ st fi : Int, 0 ≤ st ∧ st < 4 ∧ 3 ≤ fi ∧ fi < 8 ∧ ρ = [none, some (.int cu), some (.int st), some (.int fi), none, none, none]) (fun R hR => ?_) fun ρ s ⟨st, fi, g3, g4, g5, g6, e⟩ => ?_
  · simp [tr_bnd]
    refine draw_tr _ (by decide) (by decide) s fun t s' g1 g2 => ?_
    refine draw_tr _ (by decide) (by decide) s' fun t2 s2 g3 g4 => ?_
    simp
    exact hR _ _ ⟨t, 3 + t2, g1, g2, by omega, by omega, rfl⟩
  subst e
  refine tr_seq (fun ρ _ => ∃ la : Int, 0 ≤ la ∧ la ≤ 100 ∧ ρ = [none, some (.int cu), some (.int st), some (.int fi), some (.int la), none, none]) (fun R hR => ?_) fun ρ s ⟨la, g7, g8, e⟩ => ?_
  · simp [tr_bnd]
    refine draw_tr _ (by decide) (by decide) s fun t s' g1 g2 => ?_
    simp
    exact hR _ _ ⟨fi + cu + t - 1, by omega, by omega, rfl⟩
  subst e
  refine tr_seq (fun ρ _ => ∃ l : List (Key × D), cKey l ∧ l.length ≤ 1 ∧ ρ = [none, some (.int cu), some (.int st), some (.int fi), some (.int la), some (.dk l), none]) (fun R hR => ?_) fun ρ s ⟨l, hl, hn, e⟩ => ?_
  · have hk : asKey (.int fi) = some (.inl fi) := rfl
    simp [hk]
    exact hR _ _ ⟨[(.inl fi, .str "break")], fun p hp => by
      rw [List.mem_singleton] at hp
      rw [hp]
      exact ⟨⟨fi, rfl, by omega, by omega⟩, _, rfl, ok_break⟩, Nat.le_refl _, rfl⟩
  subst e
  refine tr_seq (fun ρ _ => ∃ l : List (Key × D), cKey l ∧ l.length ≤ 2 ∧ ρ = [none, some (.int cu), some (.int st), some (.int fi), some (.int la), some (.dk l), none]) (fun R hR => ?_) fun ρ s ⟨l, hl, hn, e⟩ => ?_
  · simp [tr_bnd]
    refine draw_tr _ (by decide) (by decide) s fun t s' g1 g2 => ?_
    simp
    refine tr_if (fun _ => ?_) fun _ => ?_
    · simp [tr_bnd]
      refine draw_tr _ (by decide) (by decide) s' fun t2 s2 g3 g4 => ?_
      have hk : asKey (.int (fi + 1 + t2)) = some (.inl (fi + 1 + t2)) := rfl
      have hln : l.length < 16777216 := by omega
      have := putD_len l (.inl (fi + 1 + t2)) (.str "break")
      simp [hk, hln]
      exact hR _ _ ⟨_, cKey_put hl (by omega) (by omega) ok_break, by omega, rfl⟩
    · simp
      exact hR _ _ ⟨l, hl, by omega, rfl⟩
  subst e
  refine tr_seq (fun ρ _ => ∃ l : List (Key × D), cKey l ∧ l.length ≤ 3 ∧ ρ = [none, some (.int cu), some (.int st), some (.int fi), some (.int la), some (.dk l), none]) (fun R hR => ?_) fun ρ s ⟨l, hl, hn, e⟩ => ?_
  · have hk : asKey (.int (max la (fi + 1))) = some (.inl (max la (fi + 1))) := rfl
    have hln : l.length < 16777216 := by omega
    have := putD_len l (.inl (max la (fi + 1))) (.str "mend")
    simp [hk, hln]
    exact hR _ _ ⟨_, cKey_put hl (by omega) (by omega) ok_mend, by omega, rfl⟩
  subst e
  refine tr_seq (fun ρ _ => ∃ l : List (Key × D), cKey l ∧ l.length ≤ 4 ∧ ρ = [none, some (.int cu), some (.int st), some (.int fi), some (.int la), some (.dk l), none]) (fun R hR => ?_) fun ρ s ⟨l, hl, hn, e⟩ => ?_
  · simp [tr_bnd]
    refine pick_tr _ (by simp) (by simp) s fun d s' hd => ?_
    refine draw_tr _ (by decide) (by decide) s' fun t2 s2 g3 g4 => ?_
    have hw : ∃ w : Str, d = .str w ∧ okD (.str w) = true := by
      simp at hd
      rcases hd with rfl | rfl | rfl
      · exact ⟨_, rfl, ok_break⟩
      · exact ⟨_, rfl, ok_mend⟩
      · exact ⟨_, rfl, ok_keep⟩
    obtain ⟨w, rfl, hw⟩ := hw
    have hk : asKey (.int (20 + t2)) = some (.inl (20 + t2)) := rfl
    have hln : l.length < 16777216 := by omega
    have := putD_len l (.inl (20 + t2)) (.str w)
    simp [hk, hln]
    exact hR _ _ ⟨_, cKey_put hl (by omega) (by omega) hw, by omega, rfl⟩
  subst e
  obtain ⟨ds, d1, d2, d3, d4⟩ := cured_fin l hl (by omega) (some (.int cu)) (some (.int st)) (some (.int fi)) (some (.int la))
  have fin : ∀ (till : Int) (s' : DrS), (till = -1 ∨ 0 ≤ till) → till ≤ 2000 → Q (.tup [.tup [.int st, .int till, .int cu], .tup (ds.map encDd)]) s' := fun till s' h1 h2 => q (st, till, cu) ds s' ⟨g3, h1, .inr g1⟩ (show st ≤ 2000 by omega) h2 d1 d2 d3
  rw [m_sret, m_tup, m_acons, m_acons]
  simp only [d4]
  simp [tr_bnd]
  refine pick_tr _ (by simp) (by simp) s fun d s' hd => ?_
  simp at hd
  rcases hd with rfl | rfl
  · simpa using fin (-1) s' (.inl rfl) (by decide)
  · simpa using fin 26 s' (.inr (by decide)) (by decide)
structure WfB (g : Grant) (ds : List Deed) : Prop where
  wg : WfG g
  wd : WfD ds
  gb : g.1 ≤ 2000 ∧ g.2.1 ≤ 2000
  db : ∀ x ∈ ds, 0 ≤ x.1 ∧ x.1 ≤ 2000
  len : ds.length ≤ 1000
theorem so_str (x : Str) (h : okD (.str x) = true) : s_law_so 4 [.str x, .str x] = some (.bl true) := so_refl 3 _ h
theorem rowsOf_ok (g : Grant) (ds : List Deed) (who : Int) : ∀ (days : List Int) (acc : List (Int × Str)), (∀ x ∈ acc, okD (.str x.2) = true) → ∀ x ∈ days.foldl (stepS fun d => lv g ds d who) acc, okD (.str x.2) = true
  | [], acc, h => h
  | d :: days, acc, h => rowsOf_ok g ds who days _ (stepS_ok g ds who acc d h)
theorem pl_rows : ∀ (rows : List (Int × Str)), (∀ x ∈ rows, okD (.str x.2) = true) → rows.length ≤ 16777216 → plD 3 (.tup (rows.map encS)) = true := fun rows h hl => by
  rw [plD, Bool.and_eq_true, decide_eq_true_eq, List.length_map]
  refine ⟨List.all_eq_true.mpr fun d hd => ?_, hl⟩
  obtain ⟨x, hx, rfl⟩ := List.mem_map.mp hd
  have := h x hx
  show plD 2 (.tup [.int x.1, .str x.2]) = true
  rw [plD]
  simp [plD, plainD, this]
theorem chk_loop (g : Grant) (ds : List Deed) (wb : WfB g ds) (who last : Int) (rows : List (Int × Str)) (hr : RowsOk (fun d => lv g ds d who) last rows) (hok : ∀ x ∈ rows, okD (.str x.2) = true) (a b c : Option D) : ∀ (ks : List Nat) (x9 x10 : Option D) (s : DrS) {Q : Out → DrS → Prop}, (∀ k ∈ ks, k < rows.length) → (∀ y9 y10 s', Q (.nx [none, some (encG g), some (.tup (ds.map encDd)), a, b, some (.int last), some (.int who), some (.tup (rows.map encS)), c, y9, y10]) s') →
    Tr (forL (.nm 9) lb1_law_spells_right (ks.map fun k : Nat => D.int (k : Int)) [none, some (encG g), some (.tup (ds.map encDd)), a, b, some (.int last), some (.int who), some (.tup (rows.map encS)), c, x9, x10]) s Q
  | [], x9, x10, s, Q, _, q => by
    rw [List.map_nil, m_forL0, tr_ret]
    exact q _ _ _
  | k :: ks, x9, x10, s, Q, hk, q => by
    have hk0 := hk k List.mem_cons_self
    have ik : ixAll (.tup (rows.map encS)) (.int (k : Int)) = some (encS rows[k]) := by
      rw [Fx.ix_tup, Fx.atI_nat, List.getElem?_map, List.getElem?_eq_getElem hk0]; rfl
    have st := hr.st k hk0
    have l1 := leave_on_eq g ds wb.wd rows[k].1 who
    rw [← show rows[k].2 = lv g ds rows[k].1 who from st] at l1
    have so := so_str rows[k].2 (hok _ (List.getElem_mem hk0))
    have e1 : ((k : Int) + 1) = ((k + 1 : Nat) : Int) := by omega
    rw [List.map_cons, m_forL1, t_nm, m_lft_some, m_bnd_ret, tr_bnd]
    have fin : ∀ y s', Tr (forK (forL (.nm 9) lb1_law_spells_right (ks.map fun k : Nat => D.int (k : Int))) (.nx [none, some (encG g), some (.tup (ds.map encDd)), a, b, some (.int last), some (.int who), some (.tup (rows.map encS)), c, some (.int (k : Int)), y])) s' Q := fun y s' => by
      rw [m_f1]
      exact chk_loop g ds wb who last rows hr hok a b c ks _ _ s' (fun j hj => hk j (List.mem_cons_of_mem _ hj)) q
    by_cases c1 : k + 1 < rows.length
    · have ik1 : ixAll (.tup (rows.map encS)) (.int ((k : Int) + 1)) = some (encS rows[k + 1]) := by
        rw [e1, Fx.ix_tup, Fx.atI_nat, List.getElem?_map, List.getElem?_eq_getElem c1]; rfl
      have l2 := leave_on_eq g ds wb.wd (rows[k + 1].1 - 1) who
      rw [show lv g ds (rows[k + 1].1 - 1) who = rows[k].2 from hr.next k c1] at l2
      have c2 : (k : Int) + 1 < (rows.length : Int) := by omega
      simp [ik, ik1, encS_0, encS_1, l1, l2, so, c2]
      exact fin _ s
    · have hl : rows.getLast? = some rows[k] := by
        rw [List.getLast?_eq_getElem?, show rows.length - 1 = k by omega, List.getElem?_eq_getElem hk0]
      have l2 := leave_on_eq g ds wb.wd last who
      rw [← show rows[k].2 = lv g ds last who from hr.last _ hl] at l2
      have c2 : ¬ (k : Int) + 1 < (rows.length : Int) := by omega
      simp [ik, encS_0, encS_1, l1, l2, so, c2]
      exact fin _ s
theorem daysTo_len (last : Int) : (daysTo last).length = (last + 1).toNat := by unfold daysTo; rw [List.length_map, List.length_range]
theorem who_body (g : Grant) (ds : List Deed) (wb : WfB g ds) (who last : Int) (h0 : 0 ≤ last) (h1 : last ≤ 2000) (a b x7 x8 x9 x10 : Option D) (s : DrS) {Q : Out → DrS → Prop} (q : ∀ y7 y8 y9 y10 s', Q (.nx [none, some (encG g), some (.tup (ds.map encDd)), a, b, some (.int last), some (.int who), y7, y8, y9, y10]) s') :
    Tr (lb2_law_spells_right [none, some (encG g), some (.tup (ds.map encDd)), a, b, some (.int last), some (.int who), x7, x8, x9, x10]) s Q := by
  have e1 := law_spells_eq g wb.wg ds wb.wd wb.len who last
  have e2 := spells_eq g ds wb.wd who last h0 (by omega)
  rw [← rows_same g ds who last h0] at e1
  have ro := rows_ok g ds who last h0
  have ok : ∀ x ∈ rowsOf g ds who (daysTo last), okD (.str x.2) = true := rowsOf_ok g ds who (daysTo last) [] fun x hx => by cases hx
  have rl : (rowsOf g ds who (daysTo last)).length ≤ 2001 := by
    have := rows_len (fun d => lv g ds d who) (daysTo last) []
    rw [daysTo_len, List.length_nil] at this
    unfold rowsOf
    omega
  generalize hrows : rowsOf g ds who (daysTo last) = rows at *
  have so : s_law_so 4 [.tup (rows.map encS), .tup (rows.map encS)] = some (.bl true) := so_refl 3 _ (pl_rows rows ok (by omega))
  have kw : clK 4 [3, 2, 1, 0] 4 s_spells [.int last, .int who, .tup (ds.map encDd), encG g] = some (.tup (rows.map encS)) := e2
  have hr : rng1O [.int ((rows.length : Nat) : Int)] = some ((List.range rows.length).map fun k : Nat => D.int (k : Int)) := by rw [rng1_ok (by omega), rngD0]
  by_cases c : 3 < last
  · simp [e1, e2, so, c, hr]
    exact chk_loop g ds wb who last rows ro ok a b _ (List.range rows.length) x9 x10 s (fun k hk => List.mem_range.mp hk) fun y9 y10 s' => q _ _ _ _ _
  · simp [e1, kw, so, c, hr]
    exact chk_loop g ds wb who last rows ro ok a b _ (List.range rows.length) x9 x10 s (fun k hk => List.mem_range.mp hk) fun y9 y10 s' => q _ _ _ _ _
theorem who_loop (g : Grant) (ds : List Deed) (wb : WfB g ds) (last : Int) (h0 : 0 ≤ last) (h1 : last ≤ 2000) (a b : Option D) : ∀ (ws : List Int) (x6 x7 x8 x9 x10 : Option D) (s : DrS) {Q : Out → DrS → Prop}, (∀ y6 y7 y8 y9 y10 s', Q (.nx [none, some (encG g), some (.tup (ds.map encDd)), a, b, some (.int last), y6, y7, y8, y9, y10]) s') →
    Tr (forL (.nm 6) lb2_law_spells_right (ws.map D.int) [none, some (encG g), some (.tup (ds.map encDd)), a, b, some (.int last), x6, x7, x8, x9, x10]) s Q
  | [], x6, x7, x8, x9, x10, s, Q, q => by
    rw [List.map_nil, m_forL0, tr_ret]
    exact q _ _ _ _ _ _
  | w :: ws, x6, x7, x8, x9, x10, s, Q, q => by
    rw [List.map_cons, m_forL1, t_nm, m_lft_some, m_bnd_ret, tr_bnd]
    refine who_body g ds wb w last h0 h1 a b x7 x8 x9 x10 s fun y7 y8 y9 y10 s' => ?_
    rw [m_f1]
    exact who_loop g ds wb last h0 h1 a b ws _ _ _ _ _ s' q
theorem last_loop (g : Grant) (ds : List Deed) (wb : WfB g ds) (a b : Option D) : ∀ (ls : List Int) (x5 x6 x7 x8 x9 x10 : Option D) (s : DrS) {Q : Out → DrS → Prop}, (∀ l ∈ ls, 0 ≤ l ∧ l ≤ 2000) → (∀ y5 y6 y7 y8 y9 y10 s', Q (.nx [none, some (encG g), some (.tup (ds.map encDd)), a, b, y5, y6, y7, y8, y9, y10]) s') →
    Tr (forL (.nm 5) lb3_law_spells_right (ls.map D.int) [none, some (encG g), some (.tup (ds.map encDd)), a, b, x5, x6, x7, x8, x9, x10]) s Q
  | [], x5, x6, x7, x8, x9, x10, s, Q, _, q => by
    rw [List.map_nil, m_forL0, tr_ret]
    exact q _ _ _ _ _ _ _
  | l :: ls, x5, x6, x7, x8, x9, x10, s, Q, hl, q => by
    obtain ⟨h0, h1⟩ := hl l List.mem_cons_self
    rw [List.map_cons, m_forL1, t_nm, m_lft_some, m_bnd_ret, tr_bnd]
    simp [tr_bnd]
    refine draw_tr _ (by decide) (by decide) s fun t s' g1 g2 => ?_
    have := who_loop g ds wb l h0 h1 a b [0, t] x6 x7 x8 x9 x10 s' (Q := fun o s => Tr (forK (forL (.nm 5) lb3_law_spells_right (ls.map D.int)) o) s Q) fun y6 y7 y8 y9 y10 s2 => by
      rw [m_f1]
      exact last_loop g ds wb a b ls _ _ _ _ _ _ s2 (fun x hx => hl x (List.mem_cons_of_mem _ hx)) q
    simpa using this
theorem pickT_tr (l : List D) (h0 : l ≠ []) (h1 : l.length < 1073741824) (s : DrS) {Q : D → DrS → Prop} (q : ∀ d s', d ∈ l → Q d s') : Tr (s_law_pick [.tup l]) s Q := by
  unfold s_law_pick
  rw [m_semB]
  simp [den_law_pick, env0, List.replicate, tr_bnd]
  have hl : 0 < l.length := List.length_pos_iff.mpr h0
  refine draw_tr _ (by omega) (by omega) s fun t s' g1 g2 => ?_
  obtain ⟨n, rfl⟩ : ∃ n : Nat, t = n := ⟨t.toNat, by omega⟩
  have hn : n < l.length := by omega
  rw [Fx.ix_tup, Fx.atI_nat, List.getElem?_eq_getElem hn]
  simp
  exact q _ _ (List.getElem_mem hn)
theorem okD_list : ∀ ds : List Deed, (∀ x ∈ ds, okD (.str x.2.2) = true) → PyData.canLayAll0 (toPys (ds.map encDd)) = true ∧ PyData.depthAll (toPys (ds.map encDd)) ≤ 3
  | [], _ => ⟨rfl, by decide⟩
  | x :: ds, h => by
    obtain ⟨h1, h2⟩ := okD_list ds fun y hy => h y (List.mem_cons_of_mem _ hy)
    have hx : PyData.canLay0 (toPy (.str x.2.2)) = true := SeqAt.canLay_of_shaped (h x List.mem_cons_self)
    rw [List.map_cons, toPys, PyData.canLayAll0, PyData.depthAll, h1]
    refine ⟨?_, ?_⟩
    · show (PyData.canLay0 (toPy (.tup [.int x.1, .int x.2.1, .str x.2.2])) && true) = true
      simp only [toPy, toPys, PyData.canLay0, PyData.canLayAll0, Bool.and_true, Bool.true_and] at hx ⊢
      exact hx
    · have : PyData.depth (toPy (encDd x)) ≤ 3 := by
        show PyData.depth (toPy (.tup [.int x.1, .int x.2.1, .str x.2.2])) ≤ 3
        simp only [toPy, toPys, PyData.depth, PyData.depthAll]
        omega
      omega
theorem ne_nil_deeds (ds : List Deed) (h : ∀ x ∈ ds, okD (.str x.2.2) = true) : neO (.tup (ds.map encDd)) (.tup []) = some (!decide (ds = [])) := by
  obtain ⟨h1, h2⟩ := okD_list ds h
  have ok : okD (.tup (ds.map encDd)) = true := by
    unfold okD SeqAt.shaped
    rw [toPy, PyData.canLay0, h1, Bool.true_and, decide_eq_true_eq, PyData.depth]
    omega
  have ok0 : okD (.tup []) = true := by decide +kernel
  unfold neO
  rw [ok, ok0]
  cases ds with
  | nil => simp [eqB, toPy, toPys, PyData.eqv, PyData.eqvAll]
  | cons x ds => simp [eqB, toPy, toPys, PyData.eqv, PyData.eqvAll]
theorem right_tr (g : Grant) (ds : List Deed) (wb : WfB g ds) (late : Bool) (s : DrS) {Q : D → DrS → Prop} (q : ∀ s', Q (.bl true) s') : Tr (s_law_spells_right [encG g, .tup (ds.map encDd), .bl late]) s Q := by
  unfold s_law_spells_right
  rw [m_semB, tr_bnd]
  simp only [den_law_spells_right, env0, List.replicate]
  have eg0 : ixAll (encG g) (.int 0) = some (.int g.1) := ix0 _ _
  have eg1 : ixAll (encG g) (.int 1) = some (.int g.2.1) := ix1 _ _ _
  have gb := wb.gb
  refine tr_seq (fun ρ _ => ∃ es : List Int, (∀ e ∈ es, 0 ≤ e ∧ e ≤ 2000) ∧ es.length = 5 ∧ ρ = [none, some (encG g), some (.tup (ds.map encDd)), some (.bl late), some (.lst (es.map .int)), none, none, none, none, none, none]) (fun R hR => ?_) fun ρ s ⟨es, he, hn, e⟩ => ?_
  · have g0 := wb.wg.start
    have fin : ∀ L : Int, 0 ≤ L → L ≤ 2000 → R (.nx [none, some (encG g), some (.tup (ds.map encDd)), some (.bl late), some (.lst [.int 0, .int L, .int g.1, .int (max 0 (g.1 - 1)), .int (max 0 g.2.1)]), none, none, none, none, none, none]) s := fun L h1 h2 =>
      hR _ _ ⟨[0, L, g.1, max 0 (g.1 - 1), max 0 g.2.1], fun e he => by
        simp at he
        omega, rfl, rfl⟩
    cases late with
    | true =>
      simp [eg0, eg1]
      exact fin 1000 (by decide) (by decide)
    | false =>
      simp [eg0, eg1]
      exact fin 60 (by decide) (by decide)
  subst e
  refine tr_seq (fun ρ _ => ∃ es : List Int, (∀ e ∈ es, 0 ≤ e ∧ e ≤ 2000) ∧ es.length ≤ 7 ∧ ρ = [none, some (encG g), some (.tup (ds.map encDd)), some (.bl late), some (.lst (es.map .int)), none, none, none, none, none, none]) (fun R hR => ?_) fun ρ s ⟨es, he, hn, e⟩ => ?_
  · have hne := ne_nil_deeds ds wb.wd.ok
    by_cases c : ds = []
    · subst c
      rw [List.map_nil] at hne ⊢
      simp [hne]
      exact hR _ _ ⟨es, he, by omega, rfl⟩
    · have hl := wb.len
      simp [hne, c, tr_bnd]
      refine pickT_tr _ (by simpa using c) (by rw [List.length_map]; omega) s fun d s1 hd => ?_
      obtain ⟨x, hx, rfl⟩ := List.mem_map.mp hd
      simp [encDd]
      refine pickT_tr _ (by simpa using c) (by rw [List.length_map]; omega) s1 fun d2 s2 hd2 => ?_
      obtain ⟨y, hy, rfl⟩ := List.mem_map.mp hd2
      have hb1 := wb.db x hx
      have hb2 := wb.db y hy
      have ey : ixAll (encDd y) (.int 0) = some (.int y.1) := ix0 _ _
      have l16 : es.length ≤ 16777214 := by omega
      simp [ey, l16]
      have := hR _ s2 ⟨es ++ [x.1, max 0 (y.1 - 1)], fun e h => by
        rcases List.mem_append.mp h with h | h
        · exact he e h
        · simp at h; omega, by simp; omega, rfl⟩
      simpa using this
  subst e
  refine tr_seq (fun ρ _ => True) (fun R hR => ?_) fun ρ s _ => ?_
  · have fin : ∀ (l : List Int) (s' : DrS), (∀ x ∈ l, 0 ≤ x ∧ x ≤ 2000) → Tr (forL (.nm 5) lb3_law_spells_right (l.map D.int) [none, some (encG g), some (.tup (ds.map encDd)), some (.bl late), some (.lst (es.map .int)), none, none, none, none, none, none]) s' R := fun l s' h =>
      last_loop g ds wb _ _ l _ _ _ _ _ _ s' h fun _ _ _ _ _ _ s2 => hR _ _ trivial
    cases late with
    | true =>
      simp [tr_bnd]
      refine shuffled_tr _ (by rw [List.length_map]; omega) s fun l' s' pm => ?_
      obtain ⟨l2, e, pr⟩ := perm_enc D.int pm
      subst e
      rw [cut_lst]
      simp
      exact fin _ s' fun x hx => he x (pr.mem_iff.mp (cut_mem hx))
    | false =>
      simp [tr_bnd]
      refine shuffled_tr _ (by rw [List.length_map]; omega) s fun l' s' pm => ?_
      obtain ⟨l2, e, pr⟩ := perm_enc D.int pm
      subst e
      rw [cut_lst]
      simp
      exact fin _ s' fun x hx => he x (pr.mem_iff.mp (cut_mem hx))
  · simp
    exact q s
theorem same_leave (g : Grant) (ds : List Deed) (wb : WfB g ds) (day who : Int) : ∃ x : Str, s_leave_on [encG g, .tup (ds.map encDd), .int day, .int who] = some (.str x) ∧ s_law_state [encG g, .tup (ds.map encDd), .int day, .int who] = some (.str x) ∧ s_law_so 4 [.str x, .str x] = some (.bl true) :=
  ⟨_, leave_on_eq g ds wb.wd day who, law_state_eq g wb.wg ds wb.wd day who, so_str _ (ok_lv g ds day who)⟩
theorem w_loop (g : Grant) (ds : List Deed) (wb : WfB g ds) (day : Int) (a b c : Option D) : ∀ (ws : List Int) (x8 : Option D) (s : DrS) {Q : Out → DrS → Prop}, (∀ y8 s', Q (.nx [none, none, a, b, c, some (encG g), some (.tup (ds.map encDd)), some (.int day), y8]) s') →
    Tr (forL (.nm 8) lb1_law (ws.map D.int) [none, none, a, b, c, some (encG g), some (.tup (ds.map encDd)), some (.int day), x8]) s Q
  | [], x8, s, Q, q => by
    rw [List.map_nil, m_forL0, tr_ret]
    exact q _ _
  | w :: ws, x8, s, Q, q => by
    obtain ⟨x, e1, e2, e3⟩ := same_leave g ds wb day w
    rw [List.map_cons, m_forL1, t_nm, m_lft_some, m_bnd_ret]
    simp [e1, e2, e3]
    exact w_loop g ds wb day a b c ws _ s q
theorem d_loop (g : Grant) (ds : List Deed) (wb : WfB g ds) (a b c : Option D) : ∀ (days : List Int) (x7 x8 : Option D) (s : DrS) {Q : Out → DrS → Prop}, (∀ y7 y8 s', Q (.nx [none, none, a, b, c, some (encG g), some (.tup (ds.map encDd)), y7, y8]) s') →
    Tr (forL (.nm 7) lb2_law (days.map D.int) [none, none, a, b, c, some (encG g), some (.tup (ds.map encDd)), x7, x8]) s Q
  | [], x7, x8, s, Q, q => by
    rw [List.map_nil, m_forL0, tr_ret]
    exact q _ _ _
  | d :: days, x7, x8, s, Q, q => by
    rw [List.map_cons, m_forL1, t_nm, m_lft_some, m_bnd_ret, tr_bnd]
    simp [tr_bnd]
    refine draw_tr _ (by decide) (by decide) s fun t s' g1 g2 => ?_
    have := w_loop g ds wb d a b c [t, 0, 1] x8 s' (Q := fun o s => Tr (forK (forL (.nm 7) lb2_law (days.map D.int)) o) s Q) fun y8 s2 => by
      rw [m_f1]
      exact d_loop g ds wb a b c days _ _ s2 q
    simpa using this
theorem turn_tr (k : Int) (x3 x4 x5 x6 x7 x8 : Option D) (s : DrS) {Q : Out → DrS → Prop} (q : ∀ y2 y3 y4 y5 y6 y7 y8 s', Q (.nx [none, none, y2, y3, y4, y5, y6, y7, y8]) s') : Tr (lb3_law [none, none, some (.int k), x3, x4, x5, x6, x7, x8]) s Q := by
  refine tr_seq (fun ρ _ => ∃ (b : Int) (gr : Bool), 0 ≤ b ∧ b ≤ 960 ∧ ρ = [none, none, some (.int k), some (.int b), some (.bl gr), x5, x6, x7, x8]) (fun R hR => ?_) fun ρ s ⟨b, gr, hb0, hb1, e⟩ => ?_
  · by_cases c : k = 0
    · subst c
      simp [tr_bnd]
      refine base_tr s fun b s1 h1 h2 => ?_
      refine draw_tr _ (by decide) (by decide) s1 fun t s2 g1 g2 => ?_
      simp
      exact hR _ _ ⟨b, _, h1, h2, rfl⟩
    · simp [c]
      exact hR _ _ ⟨0, _, by decide, by decide, rfl⟩
  subst e
  refine tr_seq (fun ρ _ => ∃ g : Grant, (WfG g ∧ g.1 ≤ 2000 ∧ g.2.1 ≤ 2000) ∧ ρ = [none, none, some (.int k), some (.int b), some (.bl gr), some (encG g), x6, x7, x8]) (fun R hR => ?_) fun ρ s ⟨g, wg, e⟩ => ?_
  · simp [tr_bnd]
    exact grant_tr b hb0 s hb1 fun g s1 h1 h2 h3 => hR _ _ ⟨g, ⟨h1, h2, h3⟩, rfl⟩
  subst e
  refine tr_seq (fun ρ _ => ∃ ds : List Deed, WfB g ds ∧ ρ = [none, none, some (.int k), some (.int b), some (.bl gr), some (encG g), some (.tup (ds.map encDd)), x7, x8]) (fun R hR => ?_) fun ρ s ⟨ds, wb, e⟩ => ?_
  · have go : ∀ (m p : Int) (s : DrS), 0 ≤ m → m ≤ 1000 → 0 < p → p ≤ 1000 → Tr (s_law_deeds [.int b, .int m, .int p]) s fun a s1 => R (.nx [none, none, some (.int k), some (.int b), some (.bl gr), some (encG g), some a, x7, x8]) s1 := fun m p s h1 h2 h3 h4 =>
      deeds_tr b m p hb0 hb1 h1 h2 h3 (by omega) s fun ds s1 h5 h6 h7 => hR _ _ ⟨ds, ⟨wg.1, h5, wg.2, h6, h7⟩, rfl⟩
    cases gr with
    | true =>
      simp [tr_bnd]
      exact go 40 10 s (by decide) (by decide) (by decide) (by decide)
    | false =>
      simp [tr_bnd]
      refine draw_tr _ (by decide) (by decide) s fun t s2 g1 g2 => ?_
      refine pick_tr _ (by simp) (by simp) s2 fun d s3 hd => ?_
      simp at hd
      rcases hd with rfl | rfl
      · exact go t 1 s3 g1 (by omega) (by decide) (by decide)
      · exact go t 3 s3 g1 (by omega) (by decide) (by decide)
  subst e
  refine tr_seq (fun ρ _ => ∃ (g : Grant) (ds : List Deed), WfB g ds ∧ ρ = [none, none, some (.int k), some (.int b), some (.bl gr), some (encG g), some (.tup (ds.map encDd)), x7, x8]) (fun R hR => ?_) fun ρ s ⟨g, ds, wb, e⟩ => ?_
  · by_cases c : k = 2
    · subst c
      simp [tr_bnd]
      refine cured_tr s fun g ds s' h1 h2 h3 h4 h5 h6 => ?_
      simp
      exact hR _ _ ⟨g, ds, ⟨h1, h4, ⟨h2, h3⟩, h5, h6⟩, rfl⟩
    · simp [c]
      exact hR _ _ ⟨g, ds, wb, rfl⟩
  subst e
  obtain ⟨days, e1, hne, hdl⟩ := law_days_eq g ds
  refine tr_seq (fun ρ _ => ∃ y7 y8 : Option D, ρ = [none, none, some (.int k), some (.int b), some (.bl gr), some (encG g), some (.tup (ds.map encDd)), y7, y8]) (fun R hR => ?_) fun ρ s ⟨y7, y8, e⟩ => ?_
  · simp [e1, tr_bnd]
    refine shuffled_tr _ (by rw [List.length_map]; omega) s fun l' s' pm => ?_
    obtain ⟨l2, e, pr⟩ := perm_enc D.int pm
    subst e
    rw [cut_lst]
    simp
    exact d_loop g ds wb _ _ _ _ _ _ s' fun y7 y8 s2 => hR _ _ ⟨y7, y8, rfl⟩
  subst e
  refine tr_seq (fun ρ _ => ∃ day : Int, ρ = [none, none, some (.int k), some (.int b), some (.bl gr), some (encG g), some (.tup (ds.map encDd)), some (.int day), y8]) (fun R hR => ?_) fun ρ s ⟨day, e⟩ => ?_
  · simp [e1, tr_bnd]
    refine pick_tr _ (by simpa using hne) (by rw [List.length_map]; omega) s fun d s' hd => ?_
    obtain ⟨day, _, rfl⟩ := List.mem_map.mp hd
    exact hR _ _ ⟨day, rfl⟩
  subst e
  refine tr_seq (fun ρ _ => ρ = [none, none, some (.int k), some (.int b), some (.bl gr), some (encG g), some (.tup (ds.map encDd)), some (.int day), y8]) (fun R hR => ?_) fun ρ s e => ?_
  · obtain ⟨x, e1, e2, e3⟩ := same_leave g ds wb day 1
    have kw : clK 4 [3, 2, 1, 0] 4 s_leave_on [.int 1, .int day, .tup (ds.map encDd), encG g] = some (.str x) := e1
    simp [kw, e2, e3]
    exact hR _ _ rfl
  subst e
  simp [tr_bnd]
  refine right_tr g ds wb _ s fun s' => ?_
  simp
  exact q _ _ _ _ _ _ _ _
theorem turns : ∀ (ks : List Nat) (x2 x3 x4 x5 x6 x7 x8 : Option D) (s : DrS) {Q : Out → DrS → Prop}, (∀ y2 y3 y4 y5 y6 y7 y8 s', Q (.nx [none, none, y2, y3, y4, y5, y6, y7, y8]) s') →
    Tr (forL (.nm 2) lb3_law (ks.map fun k : Nat => D.int (k : Int)) [none, none, x2, x3, x4, x5, x6, x7, x8]) s Q
  | [], x2, x3, x4, x5, x6, x7, x8, s, Q, q => by
    rw [List.map_nil, m_forL0, tr_ret]
    exact q _ _ _ _ _ _ _ _
  | k :: ks, x2, x3, x4, x5, x6, x7, x8, s, Q, q => by
    rw [List.map_cons, m_forL1, t_nm, m_lft_some, m_bnd_ret, tr_bnd]
    refine turn_tr k x3 x4 x5 x6 x7 x8 s fun y2 y3 y4 y5 y6 y7 y8 s' => ?_
    rw [m_f1]
    exact turns ks y2 y3 y4 y5 y6 y7 y8 s' q
theorem law_true : ∀ s : DrS, s.1.length ≤ 16777216 → ∃ s2, den_law (List.replicate 9 none) s = some (.rt (.bl true), s2) := fun s _ => by
  have : Tr (den_law (List.replicate 9 none)) s fun o _ => o = .rt (.bl true) := by
    rw [den_law, m_seq, tr_bnd]
    have hr : rng1O [.int 3] = some ((List.range 3).map fun k : Nat => D.int (k : Int)) := by
      rw [show (3 : Int) = ((3 : Nat) : Int) from rfl, rng1_ok (by decide), rngD0]
    simp only [m_for, m_ifn, m_acons, m_anil, m_c, m_lft_some, m_bnd_ret, m_bnd_bnd, hr]
    refine turns (List.range 3) none none none none none none none s fun y2 y3 y4 y5 y6 y7 y8 s' => ?_
    simp
  obtain ⟨o, s2, e, rfl⟩ := this
  exact ⟨s2, e⟩
end K75
namespace K75
open PySem PySem.Spec L2 Fx
def h_state_after : He.DefD := ⟨("state_after", none), "state_after", "state_after", defArgs st_state_after, defBody st_state_after, defScope st_state_after, [], []⟩
def h_leave_on : He.DefD := ⟨("leave_on", none), "leave_on", "leave_on", defArgs st_leave_on, defBody st_leave_on, defScope st_leave_on, [], []⟩
def h_spells : He.DefD := ⟨("spells", none), "spells", "spells", defArgs st_spells, defBody st_spells, defScope st_spells, [], []⟩
def h_law_draw : He.DefD := ⟨("_law_draw", none), "_law_draw", "_law_draw", defArgs st_law_draw, defBody st_law_draw, defScope st_law_draw, [], []⟩
def h_law_pick : He.DefD := ⟨("_law_pick", none), "_law_pick", "_law_pick", defArgs st_law_pick, defBody st_law_pick, defScope st_law_pick, [], []⟩
def h_law_so : He.DefD := ⟨("_law_so", none), "_law_so", "_law_so", defArgs st_law_so, defBody st_law_so, defScope st_law_so, [], []⟩
def h_law_shuffled : He.DefD := ⟨("_law_shuffled", none), "_law_shuffled", "_law_shuffled", defArgs st_law_shuffled, defBody st_law_shuffled, defScope st_law_shuffled, [], []⟩
def h_law_state : He.DefD := ⟨("_law_state", none), "_law_state", "_law_state", defArgs st_law_state, defBody st_law_state, defScope st_law_state, [], []⟩
def h_law_grant : He.DefD := ⟨("_law_grant", none), "_law_grant", "_law_grant", defArgs st_law_grant, defBody st_law_grant, defScope st_law_grant, [], []⟩
def h_law_deeds : He.DefD := ⟨("_law_deeds", none), "_law_deeds", "_law_deeds", defArgs st_law_deeds, defBody st_law_deeds, defScope st_law_deeds, [], []⟩
def h_law_base : He.DefD := ⟨("_law_base", none), "_law_base", "_law_base", defArgs st_law_base, defBody st_law_base, defScope st_law_base, [], []⟩
def h_law_spells : He.DefD := ⟨("_law_spells", none), "_law_spells", "_law_spells", defArgs st_law_spells, defBody st_law_spells, defScope st_law_spells, [], []⟩
def h_law_days : He.DefD := ⟨("_law_days", none), "_law_days", "_law_days", defArgs st_law_days, defBody st_law_days, defScope st_law_days, [], []⟩
def h_law_cured : He.DefD := ⟨("_law_cured", none), "_law_cured", "_law_cured", defArgs st_law_cured, defBody st_law_cured, defScope st_law_cured, [], []⟩
def h_law_spells_right : He.DefD := ⟨("_law_spells_right", none), "_law_spells_right", "_law_spells_right", defArgs st_law_spells_right, defBody st_law_spells_right, defScope st_law_spells_right, [], []⟩
def h_law : He.DefD := ⟨("law", none), "law", "law", defArgs st_law, defBody st_law, defScope st_law, [], []⟩
def fn : List He.DefD := [h_state_after, h_leave_on, h_spells, h_law_draw, h_law_pick, h_law_so, h_law_shuffled, h_law_state, h_law_grant, h_law_deeds, h_law_base, h_law_spells, h_law_days, h_law_cured, h_law_spells_right, h_law]
def fa : List He.Fa := [.glo "state_after", .glo "leave_on", .glo "spells", .glo "_law_draw", .glo "_law_pick", .glo "_law_so", .glo "_law_shuffled", .glo "_law_state", .glo "_law_grant", .glo "_law_deeds", .glo "_law_base", .glo "_law_spells", .glo "_law_days", .glo "_law_cured", .glo "_law_spells_right", .glo "law", .free "abs", .free "bool", .free "dict", .free "int", .free "isinstance", .free "len", .free "list", .free "max", .free "range", .free "sorted", .free "str", .free "tuple"]
abbrev R : PySem.W.OpenRow := PySem.W.OpenLaw.row PySem.Challenge.rw_onwhatterms_k75_leave_on_and_spells
abbrev hk : PySem.W.Hook := He.hookD 4 fa fn
def ob (s : PySem.W.SharedT) : He.AlD := He.obsDG 4 fa fn (HandSHeadRun.getT s)
theorem ob_eq (s : PySem.W.SharedT) : ob s = hk.obs s.abs := He.obsDG_eq (HandSHeadRun.getT_eq s)
def loose : List Str := ["__name__", "leave_on", "state_after", "spells", "_law_draw", "_law_pick", "_law_so", "_law_shuffled", "_law_state", "_law_grant", "_law_deeds", "_law_base", "_law_spells", "_law_days", "_law_cured", "_law_spells_right"]
theorem run (w : World) : HandSHeadRun.RunEq R (PySem.W.view R.prog [17]) hk ob 3000 loose w := by
  intro os
  kernel_rfl
theorem toFa {K : PySem.W.Frag} {h : Heap} {mg : Str → Option Value} (X : K.In h) (G : h.Ns mainGlobals mg) (c : He.SaysD fa fn K) : Fa K mg where
  b_abs := He.free_ok X G (c.fact 16 (f := .free "abs") rfl)
  b_bool := He.free_ok X G (c.fact 17 (f := .free "bool") rfl)
  b_dict := He.free_ok X G (c.fact 18 (f := .free "dict") rfl)
  b_int := He.free_ok X G (c.fact 19 (f := .free "int") rfl)
  b_isinstance := He.free_ok X G (c.fact 20 (f := .free "isinstance") rfl)
  b_len := He.free_ok X G (c.fact 21 (f := .free "len") rfl)
  b_list := He.free_ok X G (c.fact 22 (f := .free "list") rfl)
  b_max := He.free_ok X G (c.fact 23 (f := .free "max") rfl)
  b_range := He.free_ok X G (c.fact 24 (f := .free "range") rfl)
  b_sorted := He.free_ok X G (c.fact 25 (f := .free "sorted") rfl)
  b_str := He.free_ok X G (c.fact 26 (f := .free "str") rfl)
  b_tuple := He.free_ok X G (c.fact 27 (f := .free "tuple") rfl)
  f_state_after := by
    obtain ⟨fd, F⟩ := c.def_ 0 (d := h_state_after) rfl
    exact ⟨_, fd, F, He.glo_ok X G (c.fact 0 (f := .glo "state_after") rfl)⟩
  f_leave_on := by
    obtain ⟨fd, F⟩ := c.def_ 1 (d := h_leave_on) rfl
    exact ⟨_, fd, F, He.glo_ok X G (c.fact 1 (f := .glo "leave_on") rfl)⟩
  f_spells := by
    obtain ⟨fd, F⟩ := c.def_ 2 (d := h_spells) rfl
    exact ⟨_, fd, F, He.glo_ok X G (c.fact 2 (f := .glo "spells") rfl)⟩
  f_law_draw := by
    obtain ⟨fd, F⟩ := c.def_ 3 (d := h_law_draw) rfl
    exact ⟨_, fd, F, He.glo_ok X G (c.fact 3 (f := .glo "_law_draw") rfl)⟩
  f_law_pick := by
    obtain ⟨fd, F⟩ := c.def_ 4 (d := h_law_pick) rfl
    exact ⟨_, fd, F, He.glo_ok X G (c.fact 4 (f := .glo "_law_pick") rfl)⟩
  f_law_so := by
    obtain ⟨fd, F⟩ := c.def_ 5 (d := h_law_so) rfl
    exact ⟨_, fd, F, He.glo_ok X G (c.fact 5 (f := .glo "_law_so") rfl)⟩
  f_law_shuffled := by
    obtain ⟨fd, F⟩ := c.def_ 6 (d := h_law_shuffled) rfl
    exact ⟨_, fd, F, He.glo_ok X G (c.fact 6 (f := .glo "_law_shuffled") rfl)⟩
  f_law_state := by
    obtain ⟨fd, F⟩ := c.def_ 7 (d := h_law_state) rfl
    exact ⟨_, fd, F, He.glo_ok X G (c.fact 7 (f := .glo "_law_state") rfl)⟩
  f_law_grant := by
    obtain ⟨fd, F⟩ := c.def_ 8 (d := h_law_grant) rfl
    exact ⟨_, fd, F, He.glo_ok X G (c.fact 8 (f := .glo "_law_grant") rfl)⟩
  f_law_deeds := by
    obtain ⟨fd, F⟩ := c.def_ 9 (d := h_law_deeds) rfl
    exact ⟨_, fd, F, He.glo_ok X G (c.fact 9 (f := .glo "_law_deeds") rfl)⟩
  f_law_base := by
    obtain ⟨fd, F⟩ := c.def_ 10 (d := h_law_base) rfl
    exact ⟨_, fd, F, He.glo_ok X G (c.fact 10 (f := .glo "_law_base") rfl)⟩
  f_law_spells := by
    obtain ⟨fd, F⟩ := c.def_ 11 (d := h_law_spells) rfl
    exact ⟨_, fd, F, He.glo_ok X G (c.fact 11 (f := .glo "_law_spells") rfl)⟩
  f_law_days := by
    obtain ⟨fd, F⟩ := c.def_ 12 (d := h_law_days) rfl
    exact ⟨_, fd, F, He.glo_ok X G (c.fact 12 (f := .glo "_law_days") rfl)⟩
  f_law_cured := by
    obtain ⟨fd, F⟩ := c.def_ 13 (d := h_law_cured) rfl
    exact ⟨_, fd, F, He.glo_ok X G (c.fact 13 (f := .glo "_law_cured") rfl)⟩
  f_law_spells_right := by
    obtain ⟨fd, F⟩ := c.def_ 14 (d := h_law_spells_right) rfl
    exact ⟨_, fd, F, He.glo_ok X G (c.fact 14 (f := .glo "_law_spells_right") rfl)⟩
  f_law := by
    obtain ⟨fd, F⟩ := c.def_ 15 (d := h_law) rfl
    exact ⟨_, fd, F, He.glo_ok X G (c.fact 15 (f := .glo "law") rfl)⟩
theorem facts (ht : ∀ s : DrS, s.1.length ≤ 16777216 → ∃ s2, den_law (List.replicate 9 none) s = some (.rt (.bl true), s2)) {P : Program} {w : World} {K : PySem.W.Frag} {h : Heap} {mg : Str → Option Value} {f : Addr} (X : K.In h) (G : h.Ns mainGlobals mg) (hfa : mg ("law" : Str) = some (.ref f)) (c : He.SaysD fa fn K) :
    ∃ fd : FuncData, (∀ (s : Shared) (v : Value), BindsTo s fd ⟨[v], []⟩ [("script", v)]) ∧ ∀ base : Heap, K.In base → base.Ns mainGlobals mg → FnOk P w K mg base CX0 7 f fd ["script"] (spLaw K) := by
  obtain ⟨fd, F⟩ := c.def_ 15 (d := h_law) rfl
  have e := hfa.symm.trans (He.glo_ok X G (c.fact 15 (f := .glo "law") rfl))
  cases e
  have b := FunD.bindsA (ps := ["script"]) F fun _ _ _ _ _ _ us hl => match us, hl with | [_], _ => rfl
  exact ⟨fd, fun s v => b s [v] rfl, fun base _ _ => ok_law (toFa X G c) F ht⟩
end K75
open PySem PySem.W PySem.Calls PyProof.Rows
theorem PySem.Challenge.cw_onwhatterms_k75_leave_on_and_spells_holds : PySem.Challenge.rw_onwhatterms_k75_leave_on_and_spells.Holds := by
  w_on; o_law
  refine HandSHeadRun.head_any (r := OpenLaw.row PySem.Challenge.rw_onwhatterms_k75_leave_on_and_spells) (q := view (OpenLaw.row PySem.Challenge.rw_onwhatterms_k75_leave_on_and_spells).prog [17]) (H := K75.hk) (ob := K75.ob) (M := 3000) (loose := K75.loose) (d := HandSHeadRun.topDef (OpenLaw.row PySem.Challenge.rw_onwhatterms_k75_leave_on_and_spells).prog 17) (kwd := []) K75.ob_eq
    (by kernel_rfl) (fun s => by kernel_rfl) K75.run (by kernel_rfl) (by kernel_rfl) (by kernel_rfl) (by rfl) (by first | assumption | decide +kernel) (by decide +kernel) ⟨rfl, rfl, rfl, rfl, rfl, by decide +kernel⟩ ?hw ?hc
  case hw => w_witness2
  case hc =>
    refine L2.walk_ofE (l := PySem.Challenge.rw_onwhatterms_k75_leave_on_and_spells) (n := 63) (k := 7) (x := "script") (CX := L2.CX0) rfl (by decide) (by kernel_rfl) ⟨rfl, by decide, by decide⟩ ?F (fun _ _ _ _ z => z)
    intro w mg fa h Y G hmg0
    obtain ⟨K, KX, c⟩ := Y
    have hmg : mg ("law" : PySem.Str) = some (.ref fa) := by
      have e : (HandSHeadRun.topDef (OpenLaw.row PySem.Challenge.rw_onwhatterms_k75_leave_on_and_spells).prog 17).name = ("law" : PySem.Str) := by kernel_rfl
      rw [← e]
      exact hmg0
    obtain ⟨fd, hb, hF⟩ := K75.facts K75.law_true (P := (PySem.Challenge.rw_onwhatterms_k75_leave_on_and_spells).prog) (w := w) KX G hmg c
    exact ⟨K, fd, Fx.spLaw K, KX, hb, fun H a ns hl _ hS => ⟨a, ns, rfl, hS, Nat.le_trans hl (by decide), fun _ => rfl⟩, hF⟩
