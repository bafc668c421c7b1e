import PyProof.Rows.All
import Wide.All
import OpenK.AllK
import Wide.FinOn
import HandS.ForMost
import HandS.DictComp
import HandS.Exc
import HandS.Defaults
import HandS.IsInst
import HandS.More
import KE.KEqNest
import HandS.ListItems
import HandS.Text
import PyProof.AutoSeq1
import HandS.TryOnly
import PyProof.Draws
import KE.GoesMore
import HandS.Ends
import HandS.HeadEnd
import HandS.HeadHook2
import KE.KStateDown
import Lean
import HandS.Base
import HandS.Call
import HandS.Words
import HandS.WordsExc
import HandS.Head0
import HandS.Head1
import HandS.Head2
import HandS.HeadHook1
import PySem.Challenge.RW_salesplit_k73_whole_rows_of_issues
set_option Elab.async false
set_option linter.all false
set_option maxRecDepth 100000
set_option autoImplicit false
/-! S: plain data D, what the heap holds of it, objects of one's own, and weakest preconditions over them -/
namespace S
open PySem L2
/-- plain data -/
inductive D where
  | non | bl (b : Bool) | int (i : Int) | str (x : Str)
  | tup (ds : List D) | lst (ds : List D) | dic (ks : List Key) (ds : List D)
  | ins (C : Addr) (ns : List Str) (ds : List D)

/-! ### what stands where -/
mutual
def Rp (G : Hp) : D → V → Prop
  | .non, v => v = .non
  | .bl b, v => v = .bl b
  | .int i, v => v = .int i
  | .str x, v => v = .str x
  | .tup ds, v => ∃ a xs, v = .ref a ∧ G a = some (.tup xs) ∧ Rps G ds xs
  | .lst ds, v => ∃ a xs, v = .ref a ∧ G a = some (.lst xs) ∧ Rps G ds xs
  | .dic ks ds, v => ∃ a kvs, v = .ref a ∧ G a = some (.dK kvs) ∧ kvs.map (·.1) = ks ∧ Rps G ds (kvs.map (·.2))
  | .ins C ns ds, v => ∃ a dx fs, v = .ref a ∧ G a = some (.ins C dx fs) ∧ fs.map (·.1) = ns ∧ Rps G ds (fs.map (·.2))
def Rps (G : Hp) : List D → List V → Prop
  | [], xs => xs = []
  | d :: ds, xs => ∃ v vs, xs = v :: vs ∧ Rp G d v ∧ Rps G ds vs
end
/-- the object u holds d, its parts in G -/
def Hold (G : Hp) : D → HO → Prop
  | .tup ds, u => ∃ xs, u = .tup xs ∧ Rps G ds xs
  | .lst ds, u => ∃ xs, u = .lst xs ∧ Rps G ds xs
  | .dic ks ds, u => ∃ kvs, u = .dK kvs ∧ kvs.map (·.1) = ks ∧ Rps G ds (kvs.map (·.2))
  | .ins C ns ds, u => ∃ dx fs, u = .ins C dx fs ∧ fs.map (·.1) = ns ∧ Rps G ds (fs.map (·.2))
  | _, _ => False
def Sub (G G' : Hp) : Prop := ∀ a u, G a = some u → G' a = some u
theorem Sub.refl (G : Hp) : Sub G G := fun _ _ h => h
theorem Sub.trans {G G1 G2 : Hp} (h : Sub G G1) (k : Sub G1 G2) : Sub G G2 := fun a u e => k a u (h a u e)
theorem Sub.new {G : Hp} {p : Addr} {u : HO} (h : G p = none) : Sub G (upd G p u) := fun a o e => by rw [upd_ne (ne_of_none e h)]; exact e
mutual
theorem Rp.mono {G G' : Hp} (e : Sub G G') : ∀ {d : D} {v : V}, Rp G d v → Rp G' d v
  | .non, _, h => h
  | .bl _, _, h => h
  | .int _, _, h => h
  | .str _, _, h => h
  | .tup _, _, ⟨a, xs, h1, h2, h3⟩ => ⟨a, xs, h1, e _ _ h2, Rps.mono e h3⟩
  | .lst _, _, ⟨a, xs, h1, h2, h3⟩ => ⟨a, xs, h1, e _ _ h2, Rps.mono e h3⟩
  | .dic _ _, _, ⟨a, xs, h1, h2, h4, h3⟩ => ⟨a, xs, h1, e _ _ h2, h4, Rps.mono e h3⟩
  | .ins _ _ _, _, ⟨a, dx, fs, h1, h2, h4, h3⟩ => ⟨a, dx, fs, h1, e _ _ h2, h4, Rps.mono e h3⟩
theorem Rps.mono {G G' : Hp} (e : Sub G G') : ∀ {ds : List D} {xs : List V}, Rps G ds xs → Rps G' ds xs
  | [], _, h => h
  | _ :: _, _, ⟨v, vs, h1, h2, h3⟩ => ⟨v, vs, h1, Rp.mono e h2, Rps.mono e h3⟩
end
theorem Hold.mono {G G' : Hp} (e : Sub G G') {d : D} {u : HO} (h : Hold G d u) : Hold G' d u := by
  cases d with
  | tup ds => obtain ⟨xs, h1, h2⟩ := h; exact ⟨xs, h1, h2.mono e⟩
  | lst ds => obtain ⟨xs, h1, h2⟩ := h; exact ⟨xs, h1, h2.mono e⟩
  | dic ks ds => obtain ⟨xs, h1, h3, h2⟩ := h; exact ⟨xs, h1, h3, h2.mono e⟩
  | ins C ns ds => obtain ⟨dx, fs, h1, h3, h2⟩ := h; exact ⟨dx, fs, h1, h3, h2.mono e⟩
  | _ => exact h.elim
/-- data that is an object -/
def D.isObj : D → Bool
  | .tup _ => true
  | .lst _ => true
  | .dic _ _ => true
  | .ins _ _ _ => true
  | _ => false
theorem Rp.obj {G : Hp} {d : D} {v : V} (o : d.isObj = true) (h : Rp G d v) : ∃ a u, v = .ref a ∧ G a = some u ∧ Hold G d u := by
  cases d with
  | tup ds => obtain ⟨a, xs, h1, h2, h3⟩ := h; exact ⟨a, _, h1, h2, xs, rfl, h3⟩
  | lst ds => obtain ⟨a, xs, h1, h2, h3⟩ := h; exact ⟨a, _, h1, h2, xs, rfl, h3⟩
  | dic ks ds => obtain ⟨a, xs, h1, h2, h4, h3⟩ := h; exact ⟨a, _, h1, h2, xs, rfl, h4, h3⟩
  | ins C ns ds => obtain ⟨a, dx, fs, h1, h2, h4, h3⟩ := h; exact ⟨a, _, h1, h2, dx, fs, rfl, h4, h3⟩
  | _ => cases o
theorem Rp.of {G : Hp} {d : D} {a : Addr} {u : HO} (h : G a = some u) (k : Hold G d u) : Rp G d (.ref a) := by
  cases d with
  | tup ds => obtain ⟨xs, rfl, h2⟩ := k; exact ⟨a, xs, rfl, h, h2⟩
  | lst ds => obtain ⟨xs, rfl, h2⟩ := k; exact ⟨a, xs, rfl, h, h2⟩
  | dic ks ds => obtain ⟨xs, rfl, h3, h2⟩ := k; exact ⟨a, xs, rfl, h, h3, h2⟩
  | ins C ns ds => obtain ⟨dx, fs, rfl, h3, h2⟩ := k; exact ⟨a, dx, fs, rfl, h, h3, h2⟩
  | _ => exact k.elim
theorem Rps.length {G : Hp} : ∀ {ds : List D} {xs : List V}, Rps G ds xs → xs.length = ds.length
  | [], _, h => by rw [show _ = [] from h]; rfl
  | _ :: _, _, ⟨v, vs, h1, _, h3⟩ => by rw [h1]; simp [Rps.length h3]
theorem Rps.get {G : Hp} : ∀ {ds : List D} {xs : List V} {i : Nat} {d : D}, Rps G ds xs → ds[i]? = some d → ∃ v, xs[i]? = some v ∧ Rp G d v
  | [], _, _, _, _, e => by simp at e
  | _ :: _, _, 0, _, ⟨v, vs, h1, h2, _⟩, e => by simp at e; subst e; exact ⟨v, by rw [h1]; rfl, h2⟩
  | _ :: _, _, i + 1, d, ⟨v, vs, h1, _, h3⟩, e => by
    obtain ⟨w, h4, h5⟩ := Rps.get (i := i) h3 (by simpa using e)
    exact ⟨w, by rw [h1]; simpa using h4, h5⟩
theorem Rps.get' {G : Hp} {ds : List D} {xs : List V} {i : Nat} {v : V} (h : Rps G ds xs) (e : xs[i]? = some v) : ∃ d, ds[i]? = some d ∧ Rp G d v := by
  have hi : i < ds.length := by
    rw [← h.length]
    exact (List.getElem?_eq_some_iff.mp e).1
  obtain ⟨w, h1, h2⟩ := h.get (List.getElem?_eq_getElem hi)
  rw [e] at h1
  exact ⟨_, List.getElem?_eq_getElem hi, by rw [Option.some.inj h1]; exact h2⟩
theorem Rps.nil {G : Hp} : Rps G [] [] := rfl
theorem Rps.cons {G : Hp} {d : D} {ds : List D} {v : V} {vs : List V} (h : Rp G d v) (k : Rps G ds vs) : Rps G (d :: ds) (v :: vs) := ⟨v, vs, rfl, h, k⟩
theorem Rps.append {G : Hp} : ∀ {ds es : List D} {xs ys : List V}, Rps G ds xs → Rps G es ys → Rps G (ds ++ es) (xs ++ ys)
  | [], _, _, _, h, k => by rw [show _ = [] from h]; exact k
  | _ :: _, _, _, _, ⟨v, vs, h1, h2, h3⟩, k => by rw [h1]; exact ⟨v, _, rfl, h2, Rps.append h3 k⟩
theorem Rps.take {G : Hp} : ∀ {ds : List D} {xs : List V} (n : Nat), Rps G ds xs → Rps G (ds.take n) (xs.take n)
  | [], _, n, h => by rw [show _ = [] from h]; simp [Rps]
  | _ :: _, _, 0, _ => by simp [Rps]
  | _ :: _, _, n + 1, ⟨v, vs, h1, h2, h3⟩ => by rw [h1]; exact ⟨v, _, rfl, h2, Rps.take n h3⟩
theorem Rps.drop {G : Hp} : ∀ {ds : List D} {xs : List V} (n : Nat), Rps G ds xs → Rps G (ds.drop n) (xs.drop n)
  | [], _, n, h => by rw [show _ = [] from h]; simp [Rps]
  | _ :: _, _, 0, h => h
  | _ :: _, _, n + 1, ⟨v, vs, h1, h2, h3⟩ => by rw [h1]; exact Rps.drop n h3
theorem Rps.set {G : Hp} {d : D} {v : V} (r : Rp G d v) : ∀ {ds : List D} {xs : List V} (n : Nat), Rps G ds xs → Rps G (ds.set n d) (xs.set n v)
  | [], _, n, h => by rw [show _ = [] from h]; simp [Rps]
  | _ :: _, _, 0, ⟨w, vs, h1, h2, h3⟩ => by rw [h1]; exact ⟨v, vs, rfl, r, h3⟩
  | _ :: _, _, n + 1, ⟨w, vs, h1, h2, h3⟩ => by rw [h1]; exact ⟨w, _, rfl, h2, Rps.set r n h3⟩
theorem Rps.eraseIdx {G : Hp} : ∀ {ds : List D} {xs : List V} (n : Nat), Rps G ds xs → Rps G (ds.eraseIdx n) (xs.eraseIdx n)
  | [], _, n, h => by rw [show _ = [] from h]; simp [Rps]
  | _ :: _, _, 0, ⟨w, vs, h1, h2, h3⟩ => by rw [h1]; exact h3
  | _ :: _, _, n + 1, ⟨w, vs, h1, h2, h3⟩ => by rw [h1]; exact ⟨w, _, rfl, h2, Rps.eraseIdx n h3⟩
theorem Rps.reverse {G : Hp} : ∀ {ds : List D} {xs : List V}, Rps G ds xs → Rps G ds.reverse xs.reverse
  | [], _, h => by rw [show _ = [] from h]; simp [Rps]
  | _ :: _, _, ⟨v, vs, h1, h2, h3⟩ => by rw [h1, List.reverse_cons, List.reverse_cons]; exact (Rps.reverse h3).append (Rps.cons h2 Rps.nil)

/-! ### steps -/
theorem frz_ne {o : Obj} {u : HO} (h : HO.frz o u = u) : False := by
  have := congrArg sizeOf h
  simp at this

/-- from (H, G, as) to (H', G', as'): G: what all may know; as: the objects of one's own -/
structure Stp (as as' : List Addr) (H G H' G' : Hp) : Prop where
  ex : Sub G G'
  nw : ∀ a, G a = none → G' a ≠ none → H a = none ∨ a ∈ as
  fr : ∀ a u, (a ∉ as ∨ ∃ w, G a = some w) → H a = some u → H' a = some u ∨ (G' a = some u ∧ ∃ o, H' a = some (.frz o u))
  dm : ∀ a, H a ≠ none → H' a ≠ none
  pre : ∃ t, as' = as ++ t ∧ ∀ a ∈ t, H a = none
theorem Stp.refl {as : List Addr} {H G : Hp} : Stp as as H G H G := ⟨Sub.refl _, fun _ h k => (k h).elim, fun _ _ _ h => .inl h, fun _ h => h, [], by simp⟩
theorem Stp.trans {as as1 as2 : List Addr} {H G H1 G1 H2 G2 : Hp} (x : Stp as as1 H G H1 G1) (y : Stp as1 as2 H1 G1 H2 G2) : Stp as as2 H G H2 G2 := by
  obtain ⟨t, e1, f1⟩ := x.pre
  obtain ⟨t2, e2, f2⟩ := y.pre
  have back : ∀ a, H1 a = none → H a = none := fun a h => by
    cases q : H a with
    | none => rfl
    | some u => exact absurd h (x.dm a (by rw [q]; simp))
  refine ⟨x.ex.trans y.ex, fun a h k => ?_, fun a u ha h => ?_, fun a h => y.dm a (x.dm a h), t ++ t2, by rw [e2, e1, List.append_assoc], fun a ha => ?_⟩
  · cases q : G1 a with
    | none =>
      rcases y.nw a q k with z | z
      · exact .inl (back a z)
      · rw [e1] at z
        rcases List.mem_append.mp z with z | z
        · exact .inr z
        · exact .inl (f1 a z)
    | some u => exact x.nw a h (by rw [q]; simp)
  · have n1 : a ∉ as1 ∨ ∃ w, G1 a = some w := by
      rcases ha with ha | ⟨w, ha⟩
      · refine .inl fun z => ?_
        rw [e1] at z
        rcases List.mem_append.mp z with z | z
        · exact ha z
        · rw [f1 a z] at h; cases h
      · exact .inr ⟨w, x.ex a w ha⟩
    rcases x.fr a u ha h with q | ⟨q, o, q2⟩
    · exact y.fr a u n1 q
    · rcases y.fr a _ n1 q2 with r | ⟨r, _⟩
      · exact .inr ⟨y.ex a u q, o, r⟩
      · have := y.ex a u q
        rw [r] at this
        exact absurd (Option.some.inj this) (fun z => frz_ne z)
  · rcases List.mem_append.mp ha with z | z
    · exact f1 a z
    · exact back a (f2 a z)
/-- a new thing that all may know -/
theorem Stp.new {as : List Addr} {H G : Hp} {p : Addr} {u : HO} (h : H p = none) (hG : G p = none) : Stp as as H G (upd H p u) (upd G p u) := by
  refine ⟨Sub.new hG, fun a g k => ?_, fun a o _ e => .inl (by rw [upd_ne (ne_of_none e h)]; exact e), fun a e => ?_, [], by simp⟩
  · by_cases q : a = p
    · rw [q]; exact .inl h
    · rw [upd_ne q] at k; exact (k g).elim
  · by_cases q : a = p
    · rw [q, upd_same]; simp
    · rw [upd_ne q]; exact e

/-! ### the state of a body -/
/-- a slot: a value, or an object of one's own by number -/
inductive Arg where
  | v (d : D) | o (k : Nat)
structure Ab where
  os : List (Option D)
  ρ : List (Option Arg)
structure Own (os : List (Option D)) (H G : Hp) (as : List Addr) : Prop where
  le : ∀ a u, G a = some u → Rd H a u
  len : as.length = os.length
  nd : as.Nodup
  lv : ∀ a ∈ as, H a ≠ none
  ow : ∀ (k : Nat) (d : D), os[k]? = some (some d) → ∃ a u, as[k]? = some a ∧ G a = none ∧ H a = some u ∧ Hold G d u
structure At (S : Ab) (σ : St) (H G : Hp) (as : List Addr) : Prop where
  own : Own S.os H G as
  ln : σ.length = S.ρ.length
  va : ∀ (i : Nat) (d : D), S.ρ[i]? = some (some (Arg.v d)) → ∃ v, σ[i]? = some (some v) ∧ Rp G d v
  ob : ∀ (i k : Nat), S.ρ[i]? = some (some (Arg.o k)) → ∃ a : Addr, as[k]? = some a ∧ σ[i]? = some (some (V.ref a))
theorem Own.nG {os : List (Option D)} {H G : Hp} {as : List Addr} (o : Own os H G as) {p : Addr} (h : H p = none) : G p = none := by
  cases q : G p with
  | none => rfl
  | some u =>
    rcases o.le p u q with r | ⟨f, r⟩
    · rw [h] at r; cases r
    · rw [h] at r; cases r
theorem Rd.new {H : Hp} {p a : Addr} {u o : HO} (h : H p = none) (r : Rd H a u) : Rd (upd H p o) a u := by
  rcases r with r | ⟨f, r⟩
  · exact .inl (by rw [upd_ne (ne_of_none r h)]; exact r)
  · exact .inr ⟨f, by rw [upd_ne (ne_of_none r h)]; exact r⟩
/-- a new public thing -/
theorem Own.new {os : List (Option D)} {H G : Hp} {as : List Addr} (o : Own os H G as) {p : Addr} {u : HO} (h : H p = none) : Own os (upd H p u) (upd G p u) as := by
  refine ⟨fun a x e => ?_, o.len, o.nd, fun a ha => ?_, fun k d e => ?_⟩
  · by_cases q : a = p
    · subst q; rw [upd_same] at e; cases e; exact .inl upd_same
    · rw [upd_ne q] at e
      exact Rd.new h (o.le a x e)
  · by_cases q : a = p
    · rw [q, upd_same]; simp
    · rw [upd_ne q]; exact o.lv a ha
  · obtain ⟨a, x, h1, h2, h3, h4⟩ := o.ow k d e
    have ne : a ≠ p := ne_of_none h3 h
    exact ⟨a, x, h1, by rw [upd_ne ne]; exact h2, by rw [upd_ne ne]; exact h3, h4.mono (Sub.new (o.nG h))⟩
theorem At.new {S : Ab} {σ : St} {H G : Hp} {as : List Addr} (A : At S σ H G as) {p : Addr} {u : HO} (h : H p = none) : At S σ (upd H p u) (upd G p u) as :=
  ⟨A.own.new h, A.ln, fun i d e => let ⟨v, h1, h2⟩ := A.va i d e; ⟨v, h1, h2.mono (Sub.new (A.own.nG h))⟩, A.ob⟩
end S
set_option Elab.async false
set_option linter.all false
set_option maxRecDepth 100000
set_option autoImplicit false
/-! S: the judgements and their first rules -/
namespace S
open PySem L2
abbrev PhE := D → Ab → Prop
abbrev WE := Ab → PhE → Prop
abbrev PhT := Bool → Ab → Prop
abbrev WT := Ab → PhT → Prop
abbrev PhA := List Arg → Ab → Prop
abbrev WA := Ab → PhA → Prop
structure KN where
  nx : Ab → Prop
  rt : D → Ab → Prop
  bk : Ab → Prop := fun _ => False
  ct : Ab → Prop := fun _ => False
abbrev WS := KN → Ab → Prop
def RpA (G : Hp) (as : List Addr) : List Arg → List V → Prop
  | [], vs => vs = []
  | .v d :: r, vs => ∃ v ws, vs = v :: ws ∧ Rp G d v ∧ RpA G as r ws
  | .o k :: r, vs => ∃ a ws, vs = V.ref a :: ws ∧ as[k]? = some a ∧ RpA G as r ws
def GoE (te : TE) (S : Ab) (Φ : PhE) : Prop := ∀ (σ : L2.St) (H G : Hp) (as : List Addr), At S σ H G as → ∀ Q : VK,
  (∀ d S' v H' G', Φ d S' → Stp as as H G H' G' → At S' σ H' G' as → Rp G' d v → Q v H') → te σ H Q
def GoN (te : TE) (S : Ab) (Φ : PhE) : Prop := ∀ (σ : L2.St) (H G : Hp) (as : List Addr), At S σ H G as → ∀ Q : VK,
  (∀ d S' p u H1 G1, Φ d S' → Stp as as H G H1 G1 → At S' σ H1 G1 as → H1 p = none → Hold G1 d u → Q (.ref p) (upd H1 p u)) → te σ H Q
def GoT (tt : TT) (S : Ab) (Φ : PhT) : Prop := ∀ (σ : L2.St) (H G : Hp) (as : List Addr), At S σ H G as → ∀ Q : Bool → Hp → Prop,
  (∀ b S' H' G', Φ b S' → Stp as as H G H' G' → At S' σ H' G' as → Q b H') → tt σ H Q
def GoA (ta : TA) (S : Ab) (Φ : PhA) : Prop := ∀ (σ : L2.St) (H G : Hp) (as : List Addr), At S σ H G as → ∀ Q : List V → Hp → Prop,
  (∀ ds S' vs H' G', Φ ds S' → Stp as as H G H' G' → At S' σ H' G' as → RpA G' as ds vs → Q vs H') → ta σ H Q
def GoS (ts : TS) (S : Ab) (K : KN) : Prop := ∀ (σ : L2.St) (H G : Hp) (as : List Addr), At S σ H G as → ∀ Dn : Ends,
  (∀ S' σ' H' G' as', K.nx S' → Stp as as' H G H' G' → At S' σ' H' G' as' → Dn.nx σ' H') →
  (∀ d S' v H' G' as', K.rt d S' → Stp as as' H G H' G' → Own S'.os H' G' as' → Rp G' d v → Dn.rt v H') →
  (∀ S' σ' H' G' as', K.bk S' → Stp as as' H G H' G' → At S' σ' H' G' as' → Dn.bk σ' H') →
  (∀ S' σ' H' G' as', K.ct S' → Stp as as' H G H' G' → At S' σ' H' G' as' → Dn.ct σ' H') → ts Dn σ H
structure JE (X : Cx) (e : Expr) (t : TE) (w : WE) : Prop where
  pe : PE X e t
  go : ∀ S Φ, w S Φ → GoE t S Φ
structure JN (X : Cx) (e : Expr) (t : TE) (w : WE) : Prop where
  pe : PE X e t
  go : ∀ S Φ, w S Φ → GoN t S Φ
structure JT (X : Cx) (e : Expr) (t : TT) (w : WT) : Prop where
  pe : PT X e t
  go : ∀ S Φ, w S Φ → GoT t S Φ
structure JW (X : Cx) (e : Expr) (t : TT) (w : WT) : Prop where
  pe : PW X e t
  go : ∀ S Φ, w S Φ → GoT t S Φ
structure JA (X : Cx) (es : List Expr) (t : TA) (w : WA) : Prop where
  pe : PA X es t
  go : ∀ S Φ, w S Φ → GoA t S Φ
structure JS (X : Cx) (st : Stmt) (t : TS) (w : WS) : Prop where
  pe : PS X st t
  go : ∀ S K, w K S → GoS t S K
structure JSs (X : Cx) (st : List Stmt) (t : TS) (w : WS) : Prop where
  pe : PSs X st t
  go : ∀ S K, w K S → GoS t S K

section
variable {X : Cx} {a b e : Expr} {pos : Pos} {t ta tb te : TE} {w wa wb we : WE}
theorem At.le {S : Ab} {σ : L2.St} {H G : Hp} {as : List Addr} (A : At S σ H G as) {a : Addr} {u : HO} (h : G a = some u) : Rd H a u := A.own.le a u h
/-- a new thing made known to all -/
theorem je_new (h : JN X e t w) : JE X e t w := ⟨h.pe, fun S Φ hw σ H G as A Q q => h.go S Φ hw σ H G as A Q fun d S' p u H1 G1 hΦ st A1 hp hu =>
  q d S' _ _ _ hΦ (st.trans (Stp.new hp (A1.own.nG hp))) (A1.new hp) (Rp.of (u := u) upd_same (hu.mono (Sub.new (A1.own.nG hp))))⟩

/-! ### names, constants -/
def wVar (i : Nat) : WE := fun S Φ => match S.ρ[i]? with
  | some (some (.v d)) => Φ d S
  | some (some (.o k)) => (match S.os[k]? with
    | some (some d) => Φ d ⟨S.os.set k none, S.ρ.set i (some (.v d))⟩
    | _ => False)
  | _ => False
/-- an object of one's own becomes known to all -/
theorem At.pub {S : Ab} {σ : L2.St} {H G : Hp} {as : List Addr} (A : At S σ H G as) {i k : Nat} {d : D} (hi : S.ρ[i]? = some (some (Arg.o k))) (hk : S.os[k]? = some (some d)) :
    ∃ a u, as[k]? = some a ∧ σ[i]? = some (some (V.ref a)) ∧ Stp as as H G H (upd G a u) ∧ At ⟨S.os.set k none, S.ρ.set i (some (.v d))⟩ σ H (upd G a u) as ∧ Rp (upd G a u) d (.ref a) := by
  obtain ⟨a, h1, h2⟩ := A.ob i k hi
  obtain ⟨a', u, h3, h4, h5, h6⟩ := A.own.ow k d hk
  rw [h1] at h3
  obtain rfl : a = a' := Option.some.inj h3
  have sb : Sub G (upd G a u) := Sub.new h4
  have r : Rp (upd G a u) d (.ref a) := Rp.of upd_same (h6.mono sb)
  refine ⟨a, u, h1, h2, ⟨sb, fun b g n => ?_, fun _ _ _ h => .inl h, fun _ h => h, [], by simp⟩, ⟨⟨fun b x q => ?_, ?_, A.own.nd, A.own.lv, fun j e q => ?_⟩, ?_, fun j e q => ?_, fun j l q => ?_⟩, r⟩
  · by_cases z : b = a
    · rw [z]; exact .inr (List.mem_of_getElem? h1)
    · rw [upd_ne z] at n; exact (n g).elim
  · by_cases z : b = a
    · subst z; rw [upd_same] at q; cases q; exact .inl h5
    · rw [upd_ne z] at q; exact A.own.le b x q
  · show as.length = (S.os.set k none).length
    rw [List.length_set]; exact A.own.len
  · have q : (S.os.set k none)[j]? = some (some e) := q
    by_cases z : j = k
    · subst z
      have : j < S.os.length := (List.getElem?_eq_some_iff.mp hk).1
      rw [List.getElem?_set_self this] at q; cases q
    · rw [List.getElem?_set_ne (Ne.symm z)] at q
      obtain ⟨b, x, g1, g2, g3, g4⟩ := A.own.ow j e q
      have ne : b ≠ a := fun y => by
        subst y
        obtain ⟨l1, e1⟩ := List.getElem?_eq_some_iff.mp g1
        obtain ⟨l2, e2⟩ := List.getElem?_eq_some_iff.mp h1
        exact z ((List.getElem_inj A.own.nd).mp (e1.trans e2.symm))
      exact ⟨b, x, g1, by rw [upd_ne ne]; exact g2, g3, g4.mono sb⟩
  · show σ.length = (S.ρ.set i _).length
    rw [List.length_set]; exact A.ln
  · have q : (S.ρ.set i (some (.v d)))[j]? = some (some (Arg.v e)) := q
    by_cases z : j = i
    · subst z
      have : j < S.ρ.length := (List.getElem?_eq_some_iff.mp hi).1
      rw [List.getElem?_set_self this] at q
      cases q
      exact ⟨_, h2, r⟩
    · rw [List.getElem?_set_ne (Ne.symm z)] at q
      obtain ⟨v, g1, g2⟩ := A.va j e q
      exact ⟨v, g1, g2.mono sb⟩
  · have q : (S.ρ.set i (some (.v d)))[j]? = some (some (Arg.o l)) := q
    by_cases z : j = i
    · subst z
      have : j < S.ρ.length := (List.getElem?_eq_some_iff.mp hi).1
      rw [List.getElem?_set_self this] at q; cases q
    · rw [List.getElem?_set_ne (Ne.symm z)] at q
      exact A.ob j l q
theorem go_var {i : Nat} : ∀ S Φ, wVar i S Φ → GoE (tVar i) S Φ := by
  intro S Φ h σ H G as A Q q
  unfold wVar at h
  split at h
  · rename_i d e
    obtain ⟨v, h1, h2⟩ := A.va i d e
    exact ⟨v, h1, q d S v H G h Stp.refl A h2⟩
  · rename_i k e
    split at h
    · rename_i d e2
      obtain ⟨a, u, _, h2, st, A', r⟩ := A.pub e e2
      exact ⟨_, h2, q d _ _ _ _ h st A' r⟩
    · exact h.elim
  · exact h.elim
theorem je_var (i : Nat) {x : Str} (hN : X.N[i]? = some x := by rfl) (hv : Vis X.env.scope x := by first | exact Or.inl rfl | exact Or.inr (Or.inl rfl) | exact Or.inr (Or.inr rfl)) (hd : (x == ("__debug__" : Str)) = false := by decide)
    (hcd : (x == ("__classdict__" : Str)) = false := by decide) : JE X (.Name x pos) (tVar i) (wVar i) := ⟨pe_var hN hv hd hcd, go_var⟩
def wC (d : D) : WE := fun S Φ => Φ d S
theorem go_c {d : D} {v : V} (h : ∀ G, Rp G d v) : ∀ S Φ, wC d S Φ → GoE (tC v) S Φ := fun S Φ hw σ H G as A Q q => q d S v H G hw Stp.refl A (h G)
theorem je_int {i : Int} {j : Nat} : JE X (.Constant (.int i) j pos) (tC (.int i)) (wC (.int i)) := ⟨pe_int, go_c fun _ => rfl⟩
theorem je_bl {i : Bool} {j : Nat} : JE X (.Constant (.bool i) j pos) (tC (.bl i)) (wC (.bl i)) := ⟨pe_bl, go_c fun _ => rfl⟩
theorem je_non {j : Nat} : JE X (.Constant .none j pos) (tC .non) (wC .non) := ⟨pe_non, go_c fun _ => rfl⟩
theorem je_str {x : Str} {j : Nat} : JE X (.Constant (.str x) j pos) (tC (.str x)) (wC (.str x)) := ⟨pe_str, go_c fun _ => rfl⟩
/-- a module's constant -/
theorem je_gstr {x z : Str} (hg : Gl X x) (hm : ∃ t, X.mg x = some (.str z t)) (hd : (x == ("__debug__" : Str)) = false := by decide) : JE X (.Name x pos) (tC (.str z)) (wC (.str z)) :=
  ⟨let ⟨_, e⟩ := hm; pe_glob hg e ⟨_, rfl⟩ hd, go_c fun _ => rfl⟩
theorem je_gint {x : Str} {z : Int} (hg : Gl X x) (hm : ∃ t, X.mg x = some (.int z t)) (hd : (x == ("__debug__" : Str)) = false := by decide) : JE X (.Name x pos) (tC (.int z)) (wC (.int z)) :=
  ⟨let ⟨_, e⟩ := hm; pe_glob hg e ⟨_, rfl⟩ hd, go_c fun _ => rfl⟩

/-! ### operators -/
abbrev F2 := D → D → WE
def OpD (r : R2) (f : F2) : Prop := ∀ (S : Ab) (σ : L2.St) (H G : Hp) (as : List Addr) (x y : D) (v u : V), At S σ H G as → Rp G x v → Rp G y u → ∀ (Φ : PhE) (Q : VK), f x y S Φ →
  (∀ d S' z H' G', Φ d S' → Stp as as H G H' G' → At S' σ H' G' as → Rp G' d z → Q z H') → r v u H Q
def OpN (r : R2) (f : F2) : Prop := ∀ (S : Ab) (σ : L2.St) (H G : Hp) (as : List Addr) (x y : D) (v u : V), At S σ H G as → Rp G x v → Rp G y u → ∀ (Φ : PhE) (Q : VK), f x y S Φ →
  (∀ d S' p o H1 G1, Φ d S' → Stp as as H G H1 G1 → At S' σ H1 G1 as → H1 p = none → Hold G1 d o → Q (.ref p) (upd H1 p o)) → r v u H Q
def wOp (f : F2) (wa wb : WE) : WE := fun S Φ => wa S fun x S1 => wb S1 fun y S2 => f x y S2 Φ
theorem go_op {r : R2} {f : F2} (hr : OpD r f) (ha : ∀ S Φ, wa S Φ → GoE ta S Φ) (hb : ∀ S Φ, wb S Φ → GoE tb S Φ) : ∀ S Φ, wOp f wa wb S Φ → GoE (tOp r ta tb) S Φ := by
  intro S Φ h σ H G as A Q q
  refine ha S _ h σ H G as A _ fun x S1 v H1 G1 h1 st1 A1 r1 => ?_
  refine hb S1 _ h1 σ H1 G1 as A1 _ fun y S2 u H2 G2 h2 st2 A2 r2 => ?_
  exact hr S2 σ H2 G2 as x y v u A2 (r1.mono st2.ex) r2 Φ Q h2 fun d S' z H' G' hΦ st A' rz => q d S' z H' G' hΦ ((st1.trans st2).trans st) A' rz
theorem go_opN {r : R2} {f : F2} (hr : OpN r f) (ha : ∀ S Φ, wa S Φ → GoE ta S Φ) (hb : ∀ S Φ, wb S Φ → GoE tb S Φ) : ∀ S Φ, wOp f wa wb S Φ → GoN (tOp r ta tb) S Φ := by
  intro S Φ h σ H G as A Q q
  refine ha S _ h σ H G as A _ fun x S1 v H1 G1 h1 st1 A1 r1 => ?_
  refine hb S1 _ h1 σ H1 G1 as A1 _ fun y S2 u H2 G2 h2 st2 A2 r2 => ?_
  exact hr S2 σ H2 G2 as x y v u A2 (r1.mono st2.ex) r2 Φ Q h2 fun d S' p o H' G' hΦ st A' hp hh => q d S' p o H' G' hΦ ((st1.trans st2).trans st) A' hp hh
theorem je_op {op : Operator} {r : R2} {f : F2} (ho : OpR X (binaryOp op) r) (hr : OpD r f) (ha : JE X a ta wa) (hb : JE X b tb wb) : JE X (.BinOp a op b pos) (tOp r ta tb) (wOp f wa wb) := ⟨pe_op ho ha.pe hb.pe, go_op hr ha.go hb.go⟩
theorem jn_op {op : Operator} {r : R2} {f : F2} (ho : OpR X (binaryOp op) r) (hr : OpN r f) (ha : JE X a ta wa) (hb : JE X b tb wb) : JN X (.BinOp a op b pos) (tOp r ta tb) (wOp f wa wb) := ⟨pe_op ho ha.pe hb.pe, go_opN hr ha.go hb.go⟩
theorem je_cmp {op : CmpOp} {r : R2} {f : F2} (ho : OpR X (compareOp op) r) (hr : OpD r f) (ha : JE X a ta wa) (hb : JE X b tb wb) (hm : behindInMarks op b = false) : JE X (.Compare a [op] [b] pos) (tOp r ta tb) (wOp f wa wb) :=
  ⟨pe_cmpR ho ha.pe hb.pe hm, go_op hr ha.go hb.go⟩
def wTest (w : WE) : WT := fun S Φ => w S fun d S1 => match d with
  | .bl k => Φ k S1
  | _ => False
theorem go_test (h : ∀ S Φ, w S Φ → GoE t S Φ) : ∀ S Φ, wTest w S Φ → GoT (tTest t) S Φ := by
  intro S Φ hw σ H G as A Q q
  refine h S _ hw σ H G as A _ fun d S' v H' G' h1 st A' r => ?_
  cases d with
  | bl k => exact ⟨k, r, q k S' H' G' h1 st A'⟩
  | _ => exact h1.elim
theorem jt_cmp {op : CmpOp} {r : R2} {f : F2} (ho : OpR X (compareOp op) r) (hr : OpD r f) (ha : JE X a ta wa) (hb : JE X b tb wb) (hm : behindInMarks op b = false) : JT X (.Compare a [op] [b] pos) (tTest (tOp r ta tb)) (wTest (wOp f wa wb)) :=
  ⟨pt_cmpR ho ha.pe hb.pe hm, go_test (go_op hr ha.go hb.go)⟩
theorem jt_val (h : JE X e t w) (he : ∀ whole, isTrue e X.env whole = (do let v ← whole; standAt e.pos; holding [v] (truthy v)) := by intro _; rfl) : JT X e (tB t) (wTest w) := ⟨pt_val h.pe he, go_test h.go⟩
/-- ints -/
def fI (C : Int → Int → Prop) (g : Int → Int → D) : F2 := fun x y S Φ => match x, y with
  | .int i, .int j => C i j ∧ Φ (g i j) S
  | _, _ => False
def fI0 (g : Int → Int → D) : F2 := fun x y S Φ => match x, y with
  | .int i, .int j => Φ (g i j) S
  | _, _ => False
theorem od_I {C : Int → Int → Prop} {g : Int → Int → V} {g' : Int → Int → D} (hg : ∀ G i j, Rp G (g' i j) (g i j)) : OpD (rI C g) (fI C g') := by
  intro S σ H G as x y v u A rx ry Φ Q h q
  cases x with
  | int i => cases y with
    | int j => exact ⟨i, j, rx, ry, h.1, q _ _ _ _ _ h.2 Stp.refl A (hg G i j)⟩
    | _ => exact h.elim
  | _ => exact h.elim
theorem od_I0 {g : Int → Int → V} {g' : Int → Int → D} (hg : ∀ G i j, Rp G (g' i j) (g i j)) : OpD (rI0 g) (fI0 g') := by
  intro S σ H G as x y v u A rx ry Φ Q h q
  cases x with
  | int i => cases y with
    | int j => exact ⟨i, j, rx, ry, q _ _ _ _ _ h Stp.refl A (hg G i j)⟩
    | _ => exact h.elim
  | _ => exact h.elim
def CMulD (i j : Int) : Prop := i.natAbs.log2 + j.natAbs.log2 < 100000000
theorem CMulD.ok {i j : Int} (h : CMulD i j) : PySem.Builtin.Int.intBits i + PySem.Builtin.Int.intBits j ≤ 100000001 := by
  have b : ∀ x : Int, Builtin.Int.intBits x ≤ x.natAbs.log2 + 1 := fun x => by
    unfold Builtin.Int.intBits
    split <;> omega
  have h1 := b i
  have h2 := b j
  have h3 : i.natAbs.log2 + j.natAbs.log2 < 100000000 := h
  omega
theorem op_mulD : OpR X (binaryOp .Mult) (rI CMulD fun i j => .int (i * j)) := opI fun i j _ _ _ _ _ hc q => PyProof.Rows.mul_int q (by
  have h := CMulD.ok hc
  have e : bitsLine = 134217728 := by decide
  unfold IntMulOk
  intro z
  rw [Bool.and_eq_true] at z
  have z2 := z.2
  unfold Builtin.Int.intTooBig at z2
  have z3 := of_decide_eq_true z2
  rw [e] at z3
  omega)
theorem je_add (ha : JE X a ta wa) (hb : JE X b tb wb) : JE X (.BinOp a .Add b pos) (tOp (rI0 fun i j => .int (i + j)) ta tb) (wOp (fI0 fun i j => .int (i + j)) wa wb) := je_op op_add (od_I0 fun _ _ _ => rfl) ha hb
theorem je_sub (ha : JE X a ta wa) (hb : JE X b tb wb) : JE X (.BinOp a .Sub b pos) (tOp (rI0 fun i j => .int (i - j)) ta tb) (wOp (fI0 fun i j => .int (i - j)) wa wb) := je_op op_sub (od_I0 fun _ _ _ => rfl) ha hb
theorem je_mul (ha : JE X a ta wa) (hb : JE X b tb wb) : JE X (.BinOp a .Mult b pos) (tOp (rI CMulD fun i j => .int (i * j)) ta tb) (wOp (fI CMulD fun i j => .int (i * j)) wa wb) := je_op op_mulD (od_I fun _ _ _ => rfl) ha hb
theorem je_mod (ha : JE X a ta wa) (hb : JE X b tb wb) : JE X (.BinOp a .Mod b pos) (tOp (rI (fun _ j => 0 < j) fun i j => .int (i % j)) ta tb) (wOp (fI (fun _ j => 0 < j) fun i j => .int (i % j)) wa wb) := je_op op_mod (od_I fun _ _ _ => rfl) ha hb
theorem je_fdiv (ha : JE X a ta wa) (hb : JE X b tb wb) : JE X (.BinOp a .FloorDiv b pos) (tOp (rI CDivN fun i j => .int (i.fdiv j)) ta tb) (wOp (fI CDivN fun i j => .int (i.fdiv j)) wa wb) := je_op op_fdivN (od_I fun _ _ _ => rfl) ha hb
theorem jc_lt (ha : JE X a ta wa) (hb : JE X b tb wb) : JE X (.Compare a [.Lt] [b] pos) (tOp (rI0 fun i j => .bl (decide (i < j))) ta tb) (wOp (fI0 fun i j => .bl (decide (i < j))) wa wb) := je_cmp op_lt (od_I0 fun _ _ _ => rfl) ha hb (nomark _)
theorem jc_le (ha : JE X a ta wa) (hb : JE X b tb wb) : JE X (.Compare a [.LtE] [b] pos) (tOp (rI0 fun i j => .bl (decide (i ≤ j))) ta tb) (wOp (fI0 fun i j => .bl (decide (i ≤ j))) wa wb) := je_cmp op_le (od_I0 fun _ _ _ => rfl) ha hb (nomark _)
theorem jc_gt (ha : JE X a ta wa) (hb : JE X b tb wb) : JE X (.Compare a [.Gt] [b] pos) (tOp (rI0 fun i j => .bl (decide (j < i))) ta tb) (wOp (fI0 fun i j => .bl (decide (j < i))) wa wb) := je_cmp op_gt (od_I0 fun _ _ _ => rfl) ha hb (nomark _)
theorem jc_ge (ha : JE X a ta wa) (hb : JE X b tb wb) : JE X (.Compare a [.GtE] [b] pos) (tOp (rI0 fun i j => .bl (decide (j ≤ i))) ta tb) (wOp (fI0 fun i j => .bl (decide (j ≤ i))) wa wb) := je_cmp op_ge (od_I0 fun _ _ _ => rfl) ha hb (nomark _)
/-! ### and, or, not -/
variable {tt tu : TT} {wt wu : WT} {rest : List Expr}
def wAnd (wt wu : WT) : WT := fun S Φ => wt S fun c S1 => match c with
  | true => wu S1 Φ
  | false => Φ false S1
def wOr (wt wu : WT) : WT := fun S Φ => wt S fun c S1 => match c with
  | true => Φ true S1
  | false => wu S1 Φ
def wNot (wt : WT) : WT := fun S Φ => wt S fun c S1 => Φ (!c) S1
theorem jw_and1 (ha : JT X a tt wt) : JW X (.BoolOp .And [a] pos) tt wt := ⟨pw_and1 ha.pe, ha.go⟩
theorem jw_or1 (ha : JT X a tt wt) : JW X (.BoolOp .Or [a] pos) tt wt := ⟨pw_or1 ha.pe, ha.go⟩
theorem go_and (ha : ∀ S Φ, wt S Φ → GoT tt S Φ) (hb : ∀ S Φ, wu S Φ → GoT tu S Φ) : ∀ S Φ, wAnd wt wu S Φ → GoT (tAnd tt tu) S Φ := by
  intro S Φ h σ H G as A Q q
  refine ha S _ h σ H G as A _ fun c S1 H1 G1 h1 st1 A1 => ?_
  cases c with
  | true =>
    rw [if_pos rfl]
    exact hb S1 Φ h1 σ H1 G1 as A1 Q fun b S' H' G' hΦ st A' => q b S' H' G' hΦ (st1.trans st) A'
  | false =>
    rw [if_neg Bool.false_ne_true]
    exact q false S1 H1 G1 h1 st1 A1
theorem go_or (ha : ∀ S Φ, wt S Φ → GoT tt S Φ) (hb : ∀ S Φ, wu S Φ → GoT tu S Φ) : ∀ S Φ, wOr wt wu S Φ → GoT (tOr tt tu) S Φ := by
  intro S Φ h σ H G as A Q q
  refine ha S _ h σ H G as A _ fun c S1 H1 G1 h1 st1 A1 => ?_
  cases c with
  | true =>
    rw [if_pos rfl]
    exact q true S1 H1 G1 h1 st1 A1
  | false =>
    rw [if_neg Bool.false_ne_true]
    exact hb S1 Φ h1 σ H1 G1 as A1 Q fun b S' H' G' hΦ st A' => q b S' H' G' hΦ (st1.trans st) A'
theorem jw_and (ha : JT X a tt wt) (hb : JW X (.BoolOp .And (b :: rest) pos) tu wu) : JW X (.BoolOp .And (a :: b :: rest) pos) (tAnd tt tu) (wAnd wt wu) := ⟨pw_and ha.pe hb.pe, go_and ha.go hb.go⟩
theorem jw_or (ha : JT X a tt wt) (hb : JW X (.BoolOp .Or (b :: rest) pos) tu wu) : JW X (.BoolOp .Or (a :: b :: rest) pos) (tOr tt tu) (wOr wt wu) := ⟨pw_or ha.pe hb.pe, go_or ha.go hb.go⟩
theorem JW.pt (h : JW X e tt wt) : JT X e tt wt := ⟨h.pe.pt, h.go⟩
theorem jt_not (ha : JT X a tt wt) : JT X (.UnaryOp .Not a pos) (tNot tt) (wNot wt) := ⟨pt_not ha.pe, fun S Φ h σ H G as A Q q => ha.go S _ h σ H G as A _ fun c S1 H1 G1 h1 st1 A1 => q _ S1 H1 G1 h1 st1 A1⟩
/-- as values, of truth values -/
def wAndV (wa wb : WE) : WE := fun S Φ => wa S fun x S1 => match x with
  | .bl true => wb S1 Φ
  | .bl false => Φ (.bl false) S1
  | _ => False
def wOrV (wa wb : WE) : WE := fun S Φ => wa S fun x S1 => match x with
  | .bl true => Φ (.bl true) S1
  | .bl false => wb S1 Φ
  | _ => False
def wNotV (wa : WE) : WE := fun S Φ => wa S fun x S1 => match x with
  | .bl c => Φ (.bl (!c)) S1
  | _ => False
theorem je_one {op : BoolOp} (h : JE X a ta wa) : JE X (.BoolOp op [a] pos) ta wa := ⟨pe_one h.pe, h.go⟩
theorem je_and (ha : JE X a ta wa) (hb : JE X (.BoolOp .And (b :: rest) pos) tb wb) : JE X (.BoolOp .And (a :: b :: rest) pos) (tAndV ta tb) (wAndV wa wb) := by
  refine ⟨pe_and ha.pe hb.pe, fun S Φ h σ H G as A Q q => ?_⟩
  refine ha.go S _ h σ H G as A _ fun x S1 v H1 G1 h1 st1 A1 r1 => ?_
  cases x with
  | bl c =>
    refine ⟨c, r1, ?_⟩
    cases c with
    | true =>
      rw [if_pos rfl]
      exact hb.go S1 Φ h1 σ H1 G1 as A1 Q fun d S' v H' G' hΦ st A' r => q d S' v H' G' hΦ (st1.trans st) A' r
    | false =>
      rw [if_neg Bool.false_ne_true]
      exact q _ S1 _ H1 G1 h1 st1 A1 rfl
  | _ => exact h1.elim
theorem je_or (ha : JE X a ta wa) (hb : JE X (.BoolOp .Or (b :: rest) pos) tb wb) : JE X (.BoolOp .Or (a :: b :: rest) pos) (tOrV ta tb) (wOrV wa wb) := by
  refine ⟨pe_or ha.pe hb.pe, fun S Φ h σ H G as A Q q => ?_⟩
  refine ha.go S _ h σ H G as A _ fun x S1 v H1 G1 h1 st1 A1 r1 => ?_
  cases x with
  | bl c =>
    refine ⟨c, r1, ?_⟩
    cases c with
    | true =>
      rw [if_pos rfl]
      exact q _ S1 _ H1 G1 h1 st1 A1 rfl
    | false =>
      rw [if_neg Bool.false_ne_true]
      exact hb.go S1 Φ h1 σ H1 G1 as A1 Q fun d S' v H' G' hΦ st A' r => q d S' v H' G' hΦ (st1.trans st) A' r
  | _ => exact h1.elim
theorem je_not (ha : JE X a ta wa) : JE X (.UnaryOp .Not a pos) (tNotV ta) (wNotV wa) := by
  refine ⟨pe_not ha.pe, fun S Φ h σ H G as A Q q => ?_⟩
  refine ha.go S _ h σ H G as A _ fun x S1 v H1 G1 h1 st1 A1 r1 => ?_
  cases x with
  | bl c => exact ⟨c, r1, q _ S1 _ H1 G1 h1 st1 A1 rfl⟩
  | _ => exact h1.elim
/-- a if t else b: both ways are asked with what the test says -/
def wIf (wt : WT) (wa wb : WE) : WE := fun S Φ => wt S fun c S1 => (c = true → wa S1 Φ) ∧ (c = false → wb S1 Φ)
theorem je_if {c : Expr} (hc : JT X c tt wt) (ha : JE X a ta wa) (hb : JE X b tb wb) : JE X (.IfExp c a b pos) (tIf tt ta tb) (wIf wt wa wb) := by
  refine ⟨pe_ifExp hc.pe ha.pe hb.pe, fun S Φ h σ H G as A Q q => ?_⟩
  refine hc.go S _ h σ H G as A _ fun k S1 H1 G1 h1 st1 A1 => ?_
  cases k with
  | true =>
    rw [if_pos rfl]
    exact ha.go S1 Φ (h1.1 rfl) σ H1 G1 as A1 Q fun d S' v H' G' hΦ st A' r => q d S' v H' G' hΦ (st1.trans st) A' r
  | false =>
    rw [if_neg Bool.false_ne_true]
    exact hb.go S1 Φ (h1.2 rfl) σ H1 G1 as A1 Q fun d S' v H' G' hΦ st A' r => q d S' v H' G' hΦ (st1.trans st) A' r

/-! ### arguments, displays -/
variable {es : List Expr} {tr : TA} {wr : WA}
def wNil : WA := fun S Φ => Φ [] S
def wCons (w : WE) (wr : WA) : WA := fun S Φ => w S fun d S1 => wr S1 fun ds S2 => Φ (.v d :: ds) S2
/-- an object of one's own handed on -/
def wConsO (i : Nat) (wr : WA) : WA := fun S Φ => match S.ρ[i]? with
  | some (some (.o k)) => wr S fun ds S2 => Φ (.o k :: ds) S2
  | _ => False
theorem RpA.mono {G G' : Hp} {as : List Addr} (e : Sub G G') : ∀ {ds : List Arg} {vs : List V}, RpA G as ds vs → RpA G' as ds vs
  | [], _, h => h
  | .v d :: r, _, ⟨v, ws, h1, h2, h3⟩ => ⟨v, ws, h1, h2.mono e, RpA.mono e h3⟩
  | .o k :: r, _, ⟨a, ws, h1, h2, h3⟩ => ⟨a, ws, h1, h2, RpA.mono e h3⟩
theorem ja_nil : JA X [] tNil wNil := ⟨pa_nil, fun S Φ h σ H G as A Q q => q [] S [] H G h Stp.refl A rfl⟩
theorem go_cons (h : ∀ S Φ, w S Φ → GoE t S Φ) (hr : ∀ S Φ, wr S Φ → GoA tr S Φ) : ∀ S Φ, wCons w wr S Φ → GoA (tCons t tr) S Φ := by
  intro S Φ hw σ H G as A Q q
  refine h S _ hw σ H G as A _ fun d S1 v H1 G1 h1 st1 A1 r1 => ?_
  refine hr S1 _ h1 σ H1 G1 as A1 _ fun ds S2 vs H2 G2 h2 st2 A2 r2 => ?_
  exact q _ S2 _ H2 G2 h2 (st1.trans st2) A2 ⟨v, vs, rfl, r1.mono st2.ex, r2⟩
theorem ja_cons (h : JE X e t w) (hr : JA X es tr wr) (hs : starEach (e :: es) X.env = (false, eval e X.env) :: starEach es X.env := by rfl) : JA X (e :: es) (tCons t tr) (wCons w wr) := ⟨pa_cons h.pe hr.pe hs, go_cons h.go hr.go⟩
theorem ja_consO (i : Nat) {x : Str} (hr : JA X es tr wr) (hN : X.N[i]? = some x := by rfl) (hv : Vis X.env.scope x := by first | exact Or.inl rfl | exact Or.inr (Or.inl rfl) | exact Or.inr (Or.inr rfl)) (hd : (x == ("__debug__" : Str)) = false := by decide)
    (hcd : (x == ("__classdict__" : Str)) = false := by decide) (hs : starEach (.Name x pos :: es) X.env = (false, eval (.Name x pos) X.env) :: starEach es X.env := by rfl) : JA X (.Name x pos :: es) (tCons (tVar i) tr) (wConsO i wr) := by
  refine ⟨pa_cons (pe_var hN hv hd hcd) hr.pe hs, fun S Φ hw σ H G as A Q q => ?_⟩
  unfold wConsO at hw
  split at hw
  · rename_i k e
    obtain ⟨a, h1, h2⟩ := A.ob i k e
    refine ⟨_, h2, ?_⟩
    refine hr.go S _ hw σ H G as A _ fun ds S2 vs H2 G2 h2 st2 A2 r2 => ?_
    exact q _ S2 _ H2 G2 h2 st2 A2 ⟨a, vs, rfl, h1, r2⟩
  · exact hw.elim
/-- all of them values -/
def argsD : List Arg → Option (List D)
  | [] => some []
  | .v d :: r => (argsD r).map (d :: ·)
  | .o _ :: _ => none
theorem RpA.vals {G : Hp} {as : List Addr} : ∀ {ds : List Arg} {vs : List V} {xs : List D}, RpA G as ds vs → argsD ds = some xs → Rps G xs vs
  | [], _, _, h, e => by cases e; exact h
  | .v d :: r, _, _, ⟨v, ws, h1, h2, h3⟩, e => by
    unfold argsD at e
    obtain ⟨ys, e1, e2⟩ := Option.map_eq_some_iff.mp e
    subst e2
    exact ⟨v, ws, h1, h2, RpA.vals h3 e1⟩
  | .o k :: r, _, _, _, e => by cases e
def wTup (wr : WA) : WE := fun S Φ => wr S fun ds S1 => match argsD ds with
  | some xs => xs.length ≤ 16777216 ∧ Φ (.tup xs) S1
  | none => False
def wLst (wr : WA) : WE := fun S Φ => wr S fun ds S1 => match argsD ds with
  | some xs => xs.length ≤ 16777216 ∧ Φ (.lst xs) S1
  | none => False
theorem sl_of {n : Nat} (h : n ≤ 16777216) : n ≤ sizeLine := by rw [sizeLine_eq]; exact h
theorem go_tup (hr : ∀ S Φ, wr S Φ → GoA tr S Φ) : ∀ S Φ, wTup wr S Φ → GoN (tTup tr) S Φ := by
  intro S Φ h σ H G as A Q q
  refine hr S _ h σ H G as A _ fun ds S1 vs H1 G1 h1 st1 A1 r1 => ?_
  split at h1
  · rename_i xs e
    have r := r1.vals e
    exact ⟨sl_of (by rw [r.length]; exact h1.1), fun p hp => q _ S1 p _ H1 G1 h1.2 st1 A1 hp ⟨vs, rfl, r⟩⟩
  · exact h1.elim
theorem go_lst (hr : ∀ S Φ, wr S Φ → GoA tr S Φ) : ∀ S Φ, wLst wr S Φ → GoN (tLst tr) S Φ := by
  intro S Φ h σ H G as A Q q
  refine hr S _ h σ H G as A _ fun ds S1 vs H1 G1 h1 st1 A1 r1 => ?_
  split at h1
  · rename_i xs e
    have r := r1.vals e
    exact ⟨sl_of (by rw [r.length]; exact h1.1), fun p hp => q _ S1 p _ H1 G1 h1.2 st1 A1 hp ⟨vs, rfl, r⟩⟩
  · exact h1.elim
theorem jn_tup {x1 : Nat} (h : JA X es tr wr) : JN X (.Tuple es x1 pos) (tTup tr) (wTup wr) := ⟨pe_tup h.pe, go_tup h.go⟩
theorem jn_lst (h : JA X es tr wr) : JN X (.List es pos) (tLst tr) (wLst wr) := ⟨pe_lst h.pe, go_lst h.go⟩
theorem je_tup {x1 : Nat} (h : JA X es tr wr) : JE X (.Tuple es x1 pos) (tTup tr) (wTup wr) := je_new (jn_tup h)
theorem je_lst (h : JA X es tr wr) : JE X (.List es pos) (tLst tr) (wLst wr) := je_new (jn_lst h)
end
end S
set_option Elab.async false
set_option linter.all false
set_option maxRecDepth 100000
set_option autoImplicit false
/-! S: statements, targets, calls of defs -/
namespace S
open PySem L2
section
variable {X : Cx} {a b e : Expr} {pos : Pos} {t ta tb te : TE} {w wa wb we : WE} {tt : TT} {wt : WT} {t1 t2 ts : TS} {w1 w2 ws : WS} {st : Stmt} {rest : List Stmt}
def wNext : WS := fun K S => K.nx S
def wSeq (w1 w2 : WS) : WS := fun K S => w1 { K with nx := w2 K } S
theorem jss_nil : JSs X [] tNext wNext := ⟨pss_nil, fun S K h σ H G as A Dn n r b c => n S σ H G as h Stp.refl A⟩
theorem jss_one (h : JS X st ts ws) : JSs X [st] ts ws := ⟨pss_one h.pe, h.go⟩
theorem jss_cons (h1 : JS X st t1 w1) (h2 : JSs X rest t2 w2) : JSs X (st :: rest) (tSeq t1 t2) (wSeq w1 w2) := by
  refine ⟨pss_cons h1.pe h2.pe, fun S K h σ H G as A Dn n r b c => ?_⟩
  refine h1.go S { K with nx := w2 K } h σ H G as A _ (fun S1 σ1 H1 G1 as1 h1' st1 A1 => ?_) r b c
  exact h2.go S1 K h1' σ1 H1 G1 as1 A1 Dn (fun S' σ' H' G' as' k st A' => n S' σ' H' G' as' k (st1.trans st) A') (fun d S' v H' G' as' k st A' z => r d S' v H' G' as' k (st1.trans st) A' z)
    (fun S' σ' H' G' as' k st A' => b S' σ' H' G' as' k (st1.trans st) A') (fun S' σ' H' G' as' k st A' => c S' σ' H' G' as' k (st1.trans st) A')
def wRet (w : WE) : WS := fun K S => w S K.rt
theorem js_ret (h : JE X e t w) : JS X (.Return (some e) pos) (tRet t) (wRet w) :=
  ⟨ps_ret h.pe, fun S K hw σ H G as A Dn n r b c => h.go S _ hw σ H G as A _ fun d S' v H' G' k st A' z => r d S' v H' G' as k st A'.own z⟩
def wRetN : WS := fun K S => K.rt .non S
theorem js_retN : JS X (.Return none pos) tRetN wRetN := ⟨ps_retN, fun S K hw σ H G as A Dn n r b c => r .non S .non H G as hw Stp.refl A.own rfl⟩
def wDrop (w : WE) : WS := fun K S => w S fun _ S1 => K.nx S1
theorem js_expr (h : JE X e t w) (hs : swapsWith e none pos.line X.env = pure false := by rfl) : JS X (.Expr e pos) (tDrop t) (wDrop w) :=
  ⟨ps_expr h.pe hs, fun S K hw σ H G as A Dn n r b c => h.go S _ hw σ H G as A _ fun d S' v H' G' k st A' z => n S' σ H' G' as k st A'⟩
theorem js_pass : JS X (.Pass pos) tNext wNext := ⟨ps_pass, jss_nil (X := X) |>.go⟩
theorem js_break : JS X (.Break pos) tBreak (fun K S => K.bk S) := ⟨ps_break, fun S K h σ H G as A Dn n r b c => b S σ H G as h Stp.refl A⟩
theorem js_cont : JS X (.Continue pos) tCont (fun K S => K.ct S) := ⟨ps_continue, fun S K h σ H G as A Dn n r b c => c S σ H G as h Stp.refl A⟩
def wNever : WS := fun _ _ => False
theorem js_never : JS X st tNever wNever := ⟨ps_never, fun S K h => h.elim⟩
theorem jss_never {sts : List Stmt} : JSs X sts tNever wNever := ⟨pss_never, fun S K h => h.elim⟩
def wIfS (wt : WT) (w1 w2 : WS) : WS := fun K S => wt S fun c S1 => (c = true → w1 K S1) ∧ (c = false → w2 K S1)
theorem js_if {c : Expr} {x y : List Stmt} (hc : JT X c tt wt) (h1 : JSs X x t1 w1) (h2 : JSs X y t2 w2) : JS X (.If c x y pos) (tIfS tt t1 t2) (wIfS wt w1 w2) := by
  refine ⟨ps_if hc.pe h1.pe h2.pe, fun S K h σ H G as A Dn n r b c => ?_⟩
  refine hc.go S _ h σ H G as A _ fun k S1 H1 G1 h' st1 A1 => ?_
  cases k with
  | true =>
    rw [if_pos rfl]
    exact h1.go S1 K (h'.1 rfl) σ H1 G1 as A1 Dn (fun S' σ' H' G' as' k st A' => n S' σ' H' G' as' k (st1.trans st) A') (fun d S' v H' G' as' k st A' z => r d S' v H' G' as' k (st1.trans st) A' z)
      (fun S' σ' H' G' as' k st A' => b S' σ' H' G' as' k (st1.trans st) A') (fun S' σ' H' G' as' k st A' => c S' σ' H' G' as' k (st1.trans st) A')
  | false =>
    rw [if_neg Bool.false_ne_true]
    exact h2.go S1 K (h'.2 rfl) σ H1 G1 as A1 Dn (fun S' σ' H' G' as' k st A' => n S' σ' H' G' as' k (st1.trans st) A') (fun d S' v H' G' as' k st A' z => r d S' v H' G' as' k (st1.trans st) A' z)
      (fun S' σ' H' G' as' k st A' => b S' σ' H' G' as' k (st1.trans st) A') (fun S' σ' H' G' as' k st A' => c S' σ' H' G' as' k (st1.trans st) A')

/-! ### targets: a value is stored -/
/-- the target takes d -/
abbrev WG := D → Ab → (Ab → Prop) → Prop
def Ab.set (S : Ab) (i : Nat) (d : D) : Ab := ⟨S.os, S.ρ.set i (some (.v d))⟩
theorem At.set {S : Ab} {σ : L2.St} {H G : Hp} {as : List Addr} (A : At S σ H G as) (i : Nat) {d : D} {v : V} (r : Rp G d v) : At (S.set i d) (σ.set i (some v)) H G as := by
  refine ⟨A.own, ?_, fun j e q => ?_, fun j k q => ?_⟩
  · show (σ.set i _).length = (S.ρ.set i _).length
    rw [List.length_set, List.length_set]; exact A.ln
  · have q : (S.ρ.set i (some (.v d)))[j]? = some (some (Arg.v e)) := q
    by_cases z : i = j
    · subst z
      by_cases l : i < S.ρ.length
      · rw [List.getElem?_set_self l] at q
        cases q
        exact ⟨v, by rw [List.getElem?_set_self (by rw [A.ln]; exact l)], r⟩
      · rw [List.getElem?_eq_none (by rw [List.length_set]; omega)] at q; cases q
    · rw [List.getElem?_set_ne z] at q
      obtain ⟨u, h1, h2⟩ := A.va j e q
      exact ⟨u, by rw [List.getElem?_set_ne z]; exact h1, h2⟩
  · have q : (S.ρ.set i (some (.v d)))[j]? = some (some (Arg.o k)) := q
    by_cases z : i = j
    · subst z
      by_cases l : i < S.ρ.length
      · rw [List.getElem?_set_self l] at q; cases q
      · rw [List.getElem?_eq_none (by rw [List.length_set]; omega)] at q; cases q
    · rw [List.getElem?_set_ne z] at q
      obtain ⟨u, h1, h2⟩ := A.ob j k q
      exact ⟨u, h1, by rw [List.getElem?_set_ne z]; exact h2⟩
/-- g takes any value of d: the slots change alone (and maybe an own object) -/
def GoG (g : TG) (w : WG) : Prop := ∀ (d : D) (S : Ab) (P : Ab → Prop), w d S P → ∀ (σ : L2.St) (H G : Hp) (as : List Addr) (v : V), At S σ H G as → Rp G d v → ∀ Q : L2.St → Hp → Prop,
  (∀ S' σ' H' G', P S' → Stp as as H G H' G' → At S' σ' H' G' as → Q σ' H') → g v σ H Q
def GoGs (g : TGs) (w : List D → Ab → (Ab → Prop) → Prop) : Prop := ∀ (ds : List D) (S : Ab) (P : Ab → Prop), w ds S P → ∀ (σ : L2.St) (H G : Hp) (as : List Addr) (vs : List V), At S σ H G as → Rps G ds vs → ∀ Q : L2.St → Hp → Prop,
  (∀ S' σ' H' G', P S' → Stp as as H G H' G' → At S' σ' H' G' as → Q σ' H') → g vs σ H Q
structure JG (X : Cx) (e : Expr) (g : TG) (w : WG) : Prop where
  pe : PG X e g
  go : GoG g w
structure JGs (X : Cx) (es : List Expr) (g : TGs) (w : List D → Ab → (Ab → Prop) → Prop) : Prop where
  pe : PGs X es g
  go : GoGs g w
def wgName (i : Nat) : WG := fun d S P => P (S.set i d)
theorem go_gName (i : Nat) : GoG (gName i) (wgName i) := fun d S P h σ H G as v A r Q q => q _ _ H G h Stp.refl (A.set i r)
theorem jg_name (i : Nat) {x : Str} (hN : X.N.Nodup) (hi : X.N[i]? = some x) (hx : Loc X.env.scope x) (hf : X.fn x = true ∨ X.env.scope.names.lookup x = some .local := by first | exact .inl rfl | exact .inr rfl | assumption) : JG X (.Name x pos) (gName i) (wgName i) :=
  ⟨pg_name hN hi hx hf, go_gName i⟩
def wgNil : List D → Ab → (Ab → Prop) → Prop := fun ds S P => match ds with
  | [] => P S
  | _ :: _ => False
def wgCons (w : WG) (ws : List D → Ab → (Ab → Prop) → Prop) : List D → Ab → (Ab → Prop) → Prop := fun ds S P => match ds with
  | [] => False
  | d :: r => w d S fun S1 => ws r S1 P
theorem jgs_nil : JGs X [] gNil wgNil := ⟨pgs_nil, fun ds S P h σ H G as vs A r Q q => by
  cases ds with
  | nil => exact ⟨r, q S σ H G h Stp.refl A⟩
  | cons _ _ => exact h.elim⟩
theorem jgs_cons {e : Expr} {es : List Expr} {g : TG} {gs : TGs} {w : WG} {ws : List D → Ab → (Ab → Prop) → Prop} (h1 : JG X e g w) (h2 : JGs X es gs ws) (hs : (assignEach (e :: es) X.env).map (·.2) = assign e X.env :: (assignEach es X.env).map (·.2) := by rfl) : JGs X (e :: es) (gCons g gs) (wgCons w ws) := by
  refine ⟨pgs_cons h1.pe h2.pe hs, fun ds S P h σ H G as vs A r Q q => ?_⟩
  cases ds with
  | nil => exact h.elim
  | cons d ds =>
    obtain ⟨v, vs', e1, r1, r2⟩ := r
    refine ⟨v, vs', e1, ?_⟩
    refine h1.go d S _ h σ H G as v A r1 _ fun S1 σ1 H1 G1 k st1 A1 => ?_
    exact h2.go ds S1 P k σ1 H1 G1 as vs' A1 (r2.mono st1.ex) Q fun S' σ' H' G' k st A' => q S' σ' H' G' k (st1.trans st) A'
def wgTup (n : Nat) (w : List D → Ab → (Ab → Prop) → Prop) : WG := fun d S P => match d with
  | .tup ds => ds.length = n ∧ w ds S P
  | _ => False
theorem jg_tup {es : List Expr} {k n : Nat} {g : TGs} {w : List D → Ab → (Ab → Prop) → Prop} (hpe : PG X (.Tuple es k pos) (gTup X.K n g)) (h : GoGs g w) : JG X (.Tuple es k pos) (gTup X.K n g) (wgTup n w) := by
  refine ⟨hpe, fun d S P hw σ H G as v A r Q q => ?_⟩
  cases d with
  | tup ds =>
    obtain ⟨p, xs, e1, e2, r2⟩ := r
    refine ⟨p, xs, e1, ?_, by rw [r2.length]; exact hw.1, ?_⟩
    · exact Or.inl (A.le e2)
    · exact h ds S P hw.2 σ H G as xs A r2 Q q
  | _ => exact hw.elim
def wAsg (w : WE) (g : WG) : WS := fun K S => w S fun d S1 => g d S1 K.nx
theorem js_asg {tg : Expr} {g : TG} {wg : WG} (he : JE X e t w) (hg : JG X tg g wg) (hs : swapsWithSole [tg] e pos.line X.env = pure false := by rfl) (hw : swappedStores [tg] e X.env = pure none := by rfl) (h1 : (assignEach [tg] X.env).map (·.2) = [assign tg X.env] := by rfl) : JS X (.Assign [tg] e pos) (tAsg t g) (wAsg w wg) := by
  refine ⟨ps_asg he.pe hg.pe hs hw h1, fun S K h σ H G as A Dn n r b c => ?_⟩
  refine he.go S _ h σ H G as A _ fun d S1 v H1 G1 h1 st1 A1 r1 => ?_
  exact hg.go d S1 K.nx h1 σ H1 G1 as v A1 r1 _ fun S' σ' H' G' k st A' => n S' σ' H' G' as k (st1.trans st) A'
/-- x = e -/
theorem js_set (i : Nat) {x : Str} {pos' : Pos} (hN : X.N.Nodup) (hi : X.N[i]? = some x) (hx : Loc X.env.scope x) (he : JE X e t w) (hs : swapsWith e (some (.Name x pos')) pos.line X.env = pure false := by rfl) (hf : X.fn x = true ∨ X.env.scope.names.lookup x = some .local := by first | exact .inl rfl | exact .inr rfl | assumption) :
    JS X (.Assign [.Name x pos'] e pos) (tAsg t (gName i)) (wAsg w (wgName i)) := by
  refine ⟨ps_set hN hi hx he.pe hs hf, fun S K h σ H G as A Dn n r b c => ?_⟩
  refine he.go S _ h σ H G as A _ fun d S1 v H1 G1 h1 st1 A1 r1 => ?_
  exact go_gName i d S1 K.nx h1 σ H1 G1 as v A1 r1 _ fun S' σ' H' G' k st A' => n S' σ' H' G' as k (st1.trans st) A'
/-- x = e, a new object, kept as one's own -/
def Ab.own (S : Ab) (i : Nat) (d : D) : Ab := ⟨S.os ++ [some d], S.ρ.set i (some (.o S.os.length))⟩
theorem At.mkOwn {S : Ab} {σ : L2.St} {H G : Hp} {as : List Addr} (A : At S σ H G as) (i : Nat) {d : D} {p : Addr} {u : HO} (hp : H p = none) (hu : Hold G d u) :
    Stp as (as ++ [p]) H G (upd H p u) G ∧ At (S.own i d) (σ.set i (some (.ref p))) (upd H p u) G (as ++ [p]) := by
  have hG : G p = none := A.own.nG hp
  have np : p ∉ as := fun z => A.own.lv p z hp
  have ex : ∀ b (o : HO), H b = some o → upd H p u b = some o := fun b o e => by rw [upd_ne (ne_of_none e hp)]; exact e
  refine ⟨⟨Sub.refl _, fun a g k => (k g).elim, fun a o _ e => .inl (ex a o e), fun a e => ?_, [p], rfl, fun a ha => by rw [List.mem_singleton.mp ha]; exact hp⟩,
    ⟨⟨fun b x q => Rd.new hp (A.own.le b x q), ?_, ?_, fun b hb => ?_, fun j e q => ?_⟩, ?_, fun j e q => ?_, fun j l q => ?_⟩⟩
  · cases q : H a with
    | none => exact (e q).elim
    | some o => rw [ex a o q]; simp
  · show (as ++ [p]).length = (S.os ++ [some d]).length
    rw [List.length_append, List.length_append, A.own.len]; rfl
  · rw [List.nodup_append]
    exact ⟨A.own.nd, by simp, fun b hb c hc z => np (by rw [List.mem_singleton.mp hc] at z; rw [← z]; exact hb)⟩
  · rcases List.mem_append.mp hb with z | z
    · have := A.own.lv b z
      cases q : H b with
      | none => exact (this q).elim
      | some o => rw [ex b o q]; simp
    · rw [List.mem_singleton.mp z, upd_same]; simp
  · have q : (S.os ++ [some d])[j]? = some (some e) := q
    by_cases z : j < S.os.length
    · rw [List.getElem?_append_left z] at q
      obtain ⟨b, x, g1, g2, g3, g4⟩ := A.own.ow j e q
      exact ⟨b, x, by rw [List.getElem?_append_left (by rw [A.own.len]; exact z)]; exact g1, g2, ex b x g3, g4⟩
    · have hj : j = S.os.length := by
        have l := (List.getElem?_eq_some_iff.mp q).1
        rw [List.length_append] at l
        have : j < S.os.length + 1 := l
        omega
      subst hj
      rw [List.getElem?_append_right (Nat.le_refl _), Nat.sub_self] at q
      have q2 : some (some d) = some (some e) := q
      cases q2
      exact ⟨p, u, by rw [List.getElem?_append_right (by rw [A.own.len]; exact Nat.le_refl _), A.own.len, Nat.sub_self]; rfl, hG, upd_same, hu⟩
  · show (σ.set i _).length = (S.ρ.set i _).length
    rw [List.length_set, List.length_set]; exact A.ln
  · have q : (S.ρ.set i (some (.o S.os.length)))[j]? = some (some (Arg.v e)) := q
    by_cases z : i = j
    · subst z
      by_cases l : i < S.ρ.length
      · rw [List.getElem?_set_self l] at q; cases q
      · rw [List.getElem?_eq_none (by rw [List.length_set]; omega)] at q; cases q
    · rw [List.getElem?_set_ne z] at q
      obtain ⟨u, h1, h2⟩ := A.va j e q
      exact ⟨u, by rw [List.getElem?_set_ne z]; exact h1, h2⟩
  · have q : (S.ρ.set i (some (.o S.os.length)))[j]? = some (some (Arg.o l)) := q
    by_cases z : i = j
    · subst z
      by_cases l' : i < S.ρ.length
      · rw [List.getElem?_set_self l'] at q
        cases q
        exact ⟨p, by rw [List.getElem?_append_right (by rw [A.own.len]; exact Nat.le_refl _), A.own.len, Nat.sub_self]; rfl, by rw [List.getElem?_set_self (by rw [A.ln]; exact l')]⟩
      · rw [List.getElem?_eq_none (by rw [List.length_set]; omega)] at q; cases q
    · rw [List.getElem?_set_ne z] at q
      obtain ⟨u, h1, h2⟩ := A.ob j l q
      exact ⟨u, by rw [List.getElem?_append_left (List.getElem?_eq_some_iff.mp h1).1]; exact h1, by rw [List.getElem?_set_ne z]; exact h2⟩
def wOwn (w : WE) (i : Nat) : WS := fun K S => w S fun d S1 => K.nx (S1.own i d)
theorem js_own (i : Nat) {x : Str} {pos' : Pos} (hN : X.N.Nodup) (hi : X.N[i]? = some x) (hx : Loc X.env.scope x) (he : JN X e t w) (hs : swapsWith e (some (.Name x pos')) pos.line X.env = pure false := by rfl) (hf : X.fn x = true ∨ X.env.scope.names.lookup x = some .local := by first | exact .inl rfl | exact .inr rfl | assumption) :
    JS X (.Assign [.Name x pos'] e pos) (tAsg t (gName i)) (wOwn w i) := by
  refine ⟨ps_set hN hi hx he.pe hs hf, fun S K h σ H G as A Dn n r b c => ?_⟩
  refine he.go S _ h σ H G as A _ fun d S1 p u H1 G1 h1 st1 A1 hp hu => ?_
  obtain ⟨st2, A2⟩ := A1.mkOwn i hp hu
  exact n _ _ _ _ _ h1 (st1.trans st2) A2

/-! ### a def's promise over plain data, and its call -/
abbrev Ct := List D → List Arg → (D → List D → Prop) → Prop
def SpD (ct : Ct) : Sp := fun vs H Q _ => ∃ (os : List D) (args : List Arg) (G : Hp) (as : List Addr) (Φ : D → List D → Prop), Own (os.map some) H G as ∧ RpA G as args vs ∧ ct os args Φ ∧
  ∀ d os' v H' G', Φ d os' → Stp as as H G H' G' → Own (os'.map some) H' G' as → Rp G' d v → Q v H'
theorem RpA.length {G : Hp} {as : List Addr} : ∀ {ds : List Arg} {vs : List V}, RpA G as ds vs → vs.length = ds.length
  | [], _, h => by rw [show _ = [] from h]; rfl
  | .v d :: r, _, ⟨v, ws, h1, h2, h3⟩ => by rw [h1]; simp [RpA.length h3]
  | .o k :: r, _, ⟨a, ws, h1, h2, h3⟩ => by rw [h1]; simp [RpA.length h3]
theorem RpA.getv {G : Hp} {as : List Addr} : ∀ {ds : List Arg} {vs : List V} {i : Nat} {d : D}, RpA G as ds vs → ds[i]? = some (.v d) → ∃ v, vs[i]? = some v ∧ Rp G d v
  | [], _, _, _, _, e => by simp at e
  | .v d :: r, _, 0, _, ⟨v, ws, h1, h2, h3⟩, e => by simp at e; subst e; exact ⟨v, by rw [h1]; rfl, h2⟩
  | .o k :: r, _, 0, _, ⟨a, ws, h1, h2, h3⟩, e => by simp at e
  | .v d :: r, _, i + 1, _, ⟨v, ws, h1, h2, h3⟩, e => by
    obtain ⟨u, g1, g2⟩ := RpA.getv (i := i) h3 (by simpa using e)
    exact ⟨u, by rw [h1]; simpa using g1, g2⟩
  | .o k :: r, _, i + 1, _, ⟨v, ws, h1, h2, h3⟩, e => by
    obtain ⟨u, g1, g2⟩ := RpA.getv (i := i) h3 (by simpa using e)
    exact ⟨u, by rw [h1]; simpa using g1, g2⟩
theorem RpA.geto {G : Hp} {as : List Addr} : ∀ {ds : List Arg} {vs : List V} {i k : Nat}, RpA G as ds vs → ds[i]? = some (.o k) → ∃ a, as[k]? = some a ∧ vs[i]? = some (V.ref a)
  | [], _, _, _, _, e => by simp at e
  | .v d :: r, _, 0, _, ⟨v, ws, h1, h2, h3⟩, e => by simp at e
  | .o k :: r, _, 0, _, ⟨a, ws, h1, h2, h3⟩, e => by simp at e; subst e; exact ⟨a, h2, by rw [h1]; rfl⟩
  | .v d :: r, _, i + 1, _, ⟨v, ws, h1, h2, h3⟩, e => by
    obtain ⟨u, g1, g2⟩ := RpA.geto (i := i) h3 (by simpa using e)
    exact ⟨u, g1, by rw [h1]; simpa using g2⟩
  | .o k :: r, _, i + 1, _, ⟨v, ws, h1, h2, h3⟩, e => by
    obtain ⟨u, g1, g2⟩ := RpA.geto (i := i) h3 (by simpa using e)
    exact ⟨u, g1, by rw [h1]; simpa using g2⟩
def slots (N : List Str) (args : List Arg) : List (Option Arg) := args.map some ++ List.replicate (N.length - args.length) none
theorem at_start {N : List Str} {os : List D} {args : List Arg} {G H : Hp} {as : List Addr} {vs : List V} (o : Own (os.map some) H G as) (r : RpA G as args vs) : At ⟨os.map some, slots N args⟩ (start N vs) H G as := by
  have hl := r.length
  refine ⟨o, ?_, fun i d e => ?_, fun i k e => ?_⟩
  · show (vs.map some ++ List.replicate (N.length - vs.length) none).length = (args.map some ++ List.replicate (N.length - args.length) none).length
    simp [hl]
  · have e : (args.map some ++ List.replicate (N.length - args.length) none)[i]? = some (some (Arg.v d)) := e
    by_cases l : i < args.length
    · rw [List.getElem?_append_left (by simpa using l), List.getElem?_map] at e
      obtain ⟨x, e1, e2⟩ := Option.map_eq_some_iff.mp e
      cases e2
      obtain ⟨v, h1, h2⟩ := r.getv e1
      refine ⟨v, ?_, h2⟩
      show (vs.map some ++ List.replicate (N.length - vs.length) none)[i]? = _
      rw [List.getElem?_append_left (by simpa [hl] using l), List.getElem?_map, h1]
      rfl
    · rw [List.getElem?_append_right (by simpa using l), List.getElem?_replicate] at e
      split at e <;> cases e
  · have e : (args.map some ++ List.replicate (N.length - args.length) none)[i]? = some (some (Arg.o k)) := e
    by_cases l : i < args.length
    · rw [List.getElem?_append_left (by simpa using l), List.getElem?_map] at e
      obtain ⟨x, e1, e2⟩ := Option.map_eq_some_iff.mp e
      cases e2
      obtain ⟨v, h1, h2⟩ := r.geto e1
      refine ⟨v, h1, ?_⟩
      show (vs.map some ++ List.replicate (N.length - vs.length) none)[i]? = _
      rw [List.getElem?_append_left (by simpa [hl] using l), List.getElem?_map, h2]
      rfl
    · rw [List.getElem?_append_right (by simpa using l), List.getElem?_replicate] at e
      split at e <;> cases e
/-- what is wanted at a def's end: the result, and what its own objects have become -/
def KEnd (n : Nat) (Φ : D → List D → Prop) : KN where
  nx := fun S => ∃ os', S.os.take n = os'.map some ∧ Φ .non os'
  rt := fun d S => ∃ os', S.os.take n = os'.map some ∧ Φ d os'
theorem Own.take {os : List (Option D)} {H G : Hp} {as as' : List Addr} {os' : List D} (o : Own os H G as') (p : ∃ t, as' = as ++ t) (h : os.take as.length = os'.map some) : Own (os'.map some) H G as := by
  obtain ⟨t, rfl⟩ := p
  have hl : as.length ≤ os.length := by rw [← o.len, List.length_append]; omega
  refine ⟨o.le, ?_, (List.nodup_append.mp o.nd).1, fun a ha => o.lv a (List.mem_append_left _ ha), fun k d e => ?_⟩
  · rw [← h, List.length_take]; omega
  · rw [← h] at e
    have l : k < as.length := by
      have := (List.getElem?_eq_some_iff.mp e).1
      rw [List.length_take] at this
      omega
    rw [List.getElem?_take_of_lt l] at e
    obtain ⟨a, u, h1, h2⟩ := o.ow k d e
    exact ⟨a, u, by rw [List.getElem?_append_left l] at h1; exact h1, h2⟩
theorem GoS.fn {N : List Str} {ct : Ct} {ts : TS} {ws : WS} (go : ∀ S K, ws K S → GoS ts S K) (h : ∀ os args Φ, ct os args Φ → ws (KEnd os.length Φ) ⟨os.map some, slots N args⟩) :
    ∀ (H : Hp) (vs : List V) (Q : VK) (E : XK), SpD ct vs H Q E → ts { nx := fun _ H' => Q .non H', rt := Q } (start N vs) H := by
  rintro H vs Q E ⟨os, args, G, as, Φ, o, r, hc, k⟩
  have hl : as.length = os.length := by rw [o.len, List.length_map]
  refine go _ _ (h os args Φ hc) (start N vs) H G as (at_start o r) _ (fun S' σ' H' G' as' ⟨os', e, hΦ⟩ st A' => ?_) (fun d S' v H' G' as' ⟨os', e, hΦ⟩ st A' z => ?_) (fun _ _ _ _ _ z => z.elim) (fun _ _ _ _ _ z => z.elim)
  · obtain ⟨t, e1, e2⟩ := st.pre
    refine k .non os' .non H' G' hΦ ⟨st.ex, st.nw, st.fr, st.dm, [], by simp⟩ (A'.own.take ⟨t, e1⟩ (by rw [hl]; exact e)) rfl
  · obtain ⟨t, e1, e2⟩ := st.pre
    exact k d os' v H' G' hΦ ⟨st.ex, st.nw, st.fr, st.dm, [], by simp⟩ (A'.take ⟨t, e1⟩ (by rw [hl]; exact e)) z
end
end S
set_option Elab.async false
set_option linter.all false
set_option maxRecDepth 100000
set_option autoImplicit false
/-! S: a def by its body; calls of defs -/
namespace S
open PySem L2
section
variable {P : Program} {w : World} {K : PySem.W.Frag} {mg : Str → Option Value} {base : Heap} {x qual : Str} {params : Arguments} {body : List Stmt} {scope : Scope} {dvs : List V} {kws : List (Str × V)} {f : Addr} {fd : FuncData}
theorem def_ok {N ps : List Str} {k : Nat} {ct : Ct} {t : TS} {ws : WS} (F : FunD K x qual params body scope dvs kws f fd) (Sc : FnScope N ps scope) (len : ∀ os args Φ, ct os args Φ → args.length = ps.length)
    (hb : ∀ (cdv : Value) (A : Around) (outer : List Env) (s : Shared) (H : Hp) (E : XK), Room k (A.deeper (PyProof.Rows.envOfC qual scope s.heap.objs.size f cdv)) → JSs (cxOf CX0 P w K mg base N qual scope f cdv A outer s H E).nox body t ws)
    (h : ∀ os args Φ, ct os args Φ → ws (KEnd os.length Φ) ⟨os.map some, slots N args⟩) : FnOk P w K mg base CX0 (k + 1) f fd ps (SpD ct) := by
  refine F.ok Sc (fun vs H Q E hs => ?_) (fun cdv A outer s H vs Q E hr hs => ⟨t, PSs.nox (hb cdv A outer s H E hr).pe, GoS.fn (hb cdv A outer s H E hr).go h H vs Q E hs⟩)
  obtain ⟨os, args, G, as, Φ, o, r, hc, _⟩ := hs
  rw [r.length]; exact len os args Φ hc
end
section
variable {X : Cx} {k : Nat} {f : Addr} {fd : FuncData} {ps : List Str} {ct : Ct} {dvs : List V} {ds : List Value} {x : Str} {p pos : Pos} {e : Expr} {es : List Expr} {ta : TA} {wa : WA}
theorem RpA.of_vals {G : Hp} {as as' : List Addr} : ∀ {ds : List Arg} {vs : List V} {xs : List D}, RpA G as ds vs → argsD ds = some xs → RpA G as' ds vs
  | [], _, _, h, e => h
  | .v d :: r, _, _, ⟨v, ws, h1, h2, h3⟩, e => by
    unfold argsD at e
    obtain ⟨ys, e1, e2⟩ := Option.map_eq_some_iff.mp e
    exact ⟨v, ws, h1, h2, RpA.of_vals h3 e1⟩
  | .o k :: r, _, _, _, e => by cases e
theorem RpA.append {G : Hp} {as : List Addr} : ∀ {ds : List Arg} {vs : List V} {es : List D} {ws : List V}, RpA G as ds vs → Rps G es ws → RpA G as (ds ++ es.map Arg.v) (vs ++ ws)
  | [], _, [], _, h, k => by rw [show _ = [] from h, show _ = [] from k]; rfl
  | [], _, e :: es, _, h, ⟨v, vs, h1, h2, h3⟩ => by
    rw [show _ = [] from h, h1]
    exact ⟨v, vs, rfl, h2, RpA.append (ds := []) (vs := []) rfl h3⟩
  | .v d :: r, _, _, _, ⟨v, ws, h1, h2, h3⟩, k => by rw [h1]; exact ⟨v, _, rfl, h2, RpA.append h3 k⟩
  | .o j :: r, _, _, _, ⟨v, ws, h1, h2, h3⟩, k => by rw [h1]; exact ⟨v, _, rfl, h2, RpA.append h3 k⟩
def wCall (ct : Ct) (dd : List D) (wa : WA) : WE := fun S Φ => wa S fun args S1 => (argsD args).isSome = true ∧ ct [] (args ++ dd.map Arg.v) fun d _ => Φ d S1
theorem At.frame {S : Ab} {σ : L2.St} {H G H' G' : Hp} {as : List Addr} (A : At S σ H G as) (st : Stp [] [] H G H' G') (o : Own [] H' G' []) : Stp as as H G H' G' ∧ At S σ H' G' as := by
  refine ⟨⟨st.ex, fun a g n => .inl ((st.nw a g n).elim id fun z => nomatch z), fun a u _ h => st.fr a u (.inl (by simp)) h, st.dm, [], by simp⟩, ⟨⟨o.le, A.own.len, A.own.nd, fun a ha => st.dm a (A.own.lv a ha), fun k d e => ?_⟩, A.ln, fun i d e => ?_, A.ob⟩⟩
  · obtain ⟨a, u, h1, h2, h3, h4⟩ := A.own.ow k d e
    have hn : G' a = none := by
      cases q : G' a with
      | none => rfl
      | some y =>
        rcases st.nw a h2 (by rw [q]; simp) with z | z
        · rw [h3] at z; cases z
        · cases z
    refine ⟨a, u, h1, hn, ?_, h4.mono st.ex⟩
    rcases st.fr a u (.inl (by simp)) h3 with z | ⟨z, _⟩
    · exact z
    · rw [hn] at z; cases z
  · obtain ⟨v, h1, h2⟩ := A.va i d e
    exact ⟨v, h1, h2.mono st.ex⟩
theorem go_call {dd : List D} {ta : TA} {wa : WA} (hdd : ∀ G, Rps G dd dvs) (ha : ∀ S Φ, wa S Φ → GoA ta S Φ) : ∀ S Φ, wCall ct dd wa S Φ → GoE (tCall (SpD ct) dvs E0 ta) S Φ := by
  intro S Φ h σ H G as A Q q
  refine ha S _ h σ H G as A _ fun args S1 vs H1 G1 ⟨h1, h2⟩ st1 A1 r1 => ?_
  obtain ⟨xs, ex⟩ := Option.isSome_iff_exists.mp h1
  refine ⟨[], args ++ dd.map Arg.v, G1, [], _, ⟨A1.own.le, rfl, List.nodup_nil, by simp, fun k d e => by simp at e⟩, (r1.of_vals ex).append (hdd G1), h2, fun d os' v H' G' hΦ st o r => ?_⟩
  obtain ⟨st', A'⟩ := A1.frame st ⟨o.le, rfl, List.nodup_nil, by simp, fun k d e => by simp at e⟩
  exact q d S1 v H' G' hΦ (st1.trans st') A' r
theorem je_call {dd : List D} (F : FnOk X.prog X.w X.K X.mg X.base CX0 k f fd ps (SpD ct)) (hr : Room k X.A) (hg : Gl X x) (hm : X.mg x = some (.ref f)) (hk : PySem.W.keepIn X.K (.ref f) = true) (hb : Binds X.K fd ps ds) (hd : Vals dvs ds) (hdd : ∀ G, Rps G dd dvs)
    (ha : JA X (e :: es) ta wa) (hdb : (x == ("__debug__" : Str)) = false := by decide) (he : starEach (e :: es) X.env = (false, eval e X.env) :: starEach es X.env := by rfl) (hpl : (backTo pos (starEach es X.env)).any (·.1) = false := by rfl) :
    JE X (.Call (.Name x p) (e :: es) [] pos) (tCall (SpD ct) dvs E0 ta) (wCall ct dd wa) := ⟨pe_call F hr hg hm hk hb hd pass0 ha.pe hdb he hpl, go_call hdd ha.go⟩
/-- one object of one's own is handed on -/
def renum (k : Nat) : List Arg → Option (List Arg)
  | [] => some []
  | .v d :: r => (renum k r).map (.v d :: ·)
  | .o j :: r => if j = k then (renum k r).map (.o 0 :: ·) else none
theorem RpA.renum {G : Hp} {as : List Addr} {k : Nat} {a : Addr} (hk : as[k]? = some a) : ∀ {ds : List Arg} {vs : List V} {xs : List Arg}, RpA G as ds vs → renum k ds = some xs → RpA G [a] xs vs
  | [], _, _, h, e => by cases e; exact h
  | .v d :: r, _, _, ⟨v, ws, h1, h2, h3⟩, e => by
    unfold S.renum at e
    obtain ⟨ys, e1, e2⟩ := Option.map_eq_some_iff.mp e
    subst e2
    exact ⟨v, ws, h1, h2, RpA.renum hk h3 e1⟩
  | .o j :: r, _, _, ⟨b, ws, h1, h2, h3⟩, e => by
    unfold S.renum at e
    split at e
    · rename_i z
      subst z
      obtain ⟨ys, e1, e2⟩ := Option.map_eq_some_iff.mp e
      subst e2
      rw [hk] at h2
      exact ⟨b, ws, h1, h2, RpA.renum hk h3 e1⟩
    · cases e
def wCallO (ct : Ct) (dd : List D) (k : Nat) (wa : WA) : WE := fun S Φ => wa S fun args S1 => ∃ d args', S1.os[k]? = some (some d) ∧ renum k args = some args' ∧ ct [d] (args' ++ dd.map Arg.v) fun r os' => ∃ d', os' = [d'] ∧ Φ r ⟨S1.os.set k (some d'), S1.ρ⟩
theorem At.frame1 {S : Ab} {σ : L2.St} {H G H' G' : Hp} {as : List Addr} {k : Nat} {a : Addr} {d' : D} (A : At S σ H G as) (hk : as[k]? = some a) (st : Stp [a] [a] H G H' G') (o : Own [some d'] H' G' [a]) :
    Stp as as H G H' G' ∧ At ⟨S.os.set k (some d'), S.ρ⟩ σ H' G' as := by
  have ha : a ∈ as := List.mem_of_getElem? hk
  refine ⟨⟨st.ex, fun b g n => (st.nw b g n).elim .inl fun z => .inr (by rw [List.mem_singleton.mp z]; exact ha), fun b u nb h => st.fr b u (nb.imp (fun nb z => nb (by rw [List.mem_singleton.mp z]; exact ha)) id) h, st.dm, [], by simp⟩, ⟨⟨o.le, ?_, A.own.nd, fun b hb => st.dm b (A.own.lv b hb), fun j e q => ?_⟩, A.ln, fun i d e => ?_, A.ob⟩⟩
  · show as.length = (S.os.set k _).length
    rw [List.length_set]; exact A.own.len
  · have q : (S.os.set k (some d'))[j]? = some (some e) := q
    have hks : k < S.os.length := by rw [← A.own.len]; exact (List.getElem?_eq_some_iff.mp hk).1
    by_cases z : k = j
    · subst z
      rw [List.getElem?_set_self hks] at q
      cases q
      obtain ⟨b, u, h1, h2, h3, h4⟩ := o.ow 0 d' rfl
      cases h1
      exact ⟨a, u, hk, h2, h3, h4⟩
    · rw [List.getElem?_set_ne z] at q
      obtain ⟨b, u, h1, h2, h3, h4⟩ := A.own.ow j e q
      have nb : b ∉ [a] := fun y => by
        have y := List.mem_singleton.mp y
        subst y
        obtain ⟨l1, e1⟩ := List.getElem?_eq_some_iff.mp h1
        obtain ⟨l2, e2⟩ := List.getElem?_eq_some_iff.mp hk
        exact z ((List.getElem_inj A.own.nd).mp (e2.trans e1.symm))
      have hn : G' b = none := by
        cases y : G' b with
        | none => rfl
        | some y' =>
          rcases st.nw b h2 (by rw [y]; simp) with z | z
          · rw [h3] at z; cases z
          · exact (nb z).elim
      refine ⟨b, u, h1, hn, ?_, h4.mono st.ex⟩
      rcases st.fr b u (.inl nb) h3 with z | ⟨z, _⟩
      · exact z
      · rw [hn] at z; cases z
  · obtain ⟨v, h1, h2⟩ := A.va i d e
    exact ⟨v, h1, h2.mono st.ex⟩
theorem go_callO {dd : List D} {j : Nat} {ta : TA} {wa : WA} (hdd : ∀ G, Rps G dd dvs) (ha : ∀ S Φ, wa S Φ → GoA ta S Φ) : ∀ S Φ, wCallO ct dd j wa S Φ → GoE (tCall (SpD ct) dvs E0 ta) S Φ := by
  intro S Φ h σ H G as A Q q
  refine ha S _ h σ H G as A _ fun args S1 vs H1 G1 ⟨d, args', h1, h2, h3⟩ st1 A1 r1 => ?_
  obtain ⟨a, u, g1, g2, g3, g4⟩ := A1.own.ow j d h1
  have hl : ∀ (os : List (Option D)) b, os = [b] → os.length = 1 := fun os b e => by rw [e]; rfl
  refine ⟨[d], args' ++ dd.map Arg.v, G1, [a], _, ⟨A1.own.le, rfl, by simp, fun b hb => by rw [List.mem_singleton.mp hb, g3]; simp, fun k e q => ?_⟩, (r1.renum g1 h2).append (hdd G1), h3, fun r os' v H' G' ⟨d', e', hΦ⟩ st o rr => ?_⟩
  · match k, q with
    | 0, q =>
      have q2 : some (some d) = some (some e) := q
      cases q2
      exact ⟨a, u, rfl, g2, g3, g4⟩
    | k + 1, q => simp at q
  · subst e'
    obtain ⟨st', A'⟩ := A1.frame1 g1 st o
    exact q r _ v H' G' hΦ (st1.trans st') A' rr
theorem je_callO {dd : List D} (j : Nat) (F : FnOk X.prog X.w X.K X.mg X.base CX0 k f fd ps (SpD ct)) (hr : Room k X.A) (hg : Gl X x) (hm : X.mg x = some (.ref f)) (hk : PySem.W.keepIn X.K (.ref f) = true) (hb : Binds X.K fd ps ds) (hd : Vals dvs ds) (hdd : ∀ G, Rps G dd dvs)
    (ha : JA X (e :: es) ta wa) (hdb : (x == ("__debug__" : Str)) = false := by decide) (he : starEach (e :: es) X.env = (false, eval e X.env) :: starEach es X.env := by rfl) (hpl : (backTo pos (starEach es X.env)).any (·.1) = false := by rfl) :
    JE X (.Call (.Name x p) (e :: es) [] pos) (tCall (SpD ct) dvs E0 ta) (wCallO ct dd j wa) := ⟨pe_call F hr hg hm hk hb hd pass0 ha.pe hdb he hpl, go_callO hdd ha.go⟩

/-! ### calls of what is built in -/
abbrev RC := List V → Hp → VK → Prop
/-- a built-in's answer by data -/
def CaD (r : RC) (f : List D → WE) : Prop := ∀ (S : Ab) (σ : L2.St) (H G : Hp) (as : List Addr) (xs : List D) (vs : List V), At S σ H G as → Rps G xs vs → ∀ (Φ : PhE) (Q : VK), f xs S Φ →
  (∀ d S' z H' G', Φ d S' → Stp as as H G H' G' → At S' σ H' G' as → Rp G' d z → Q z H') → r vs H Q
def CaN (r : RC) (f : List D → WE) : Prop := ∀ (S : Ab) (σ : L2.St) (H G : Hp) (as : List Addr) (xs : List D) (vs : List V), At S σ H G as → Rps G xs vs → ∀ (Φ : PhE) (Q : VK), f xs S Φ →
  (∀ d S' p o H1 G1, Φ d S' → Stp as as H G H1 G1 → At S' σ H1 G1 as → H1 p = none → Hold G1 d o → Q (.ref p) (upd H1 p o)) → r vs H Q
def wCB (f : List D → WE) (wa : WA) : WE := fun S Φ => wa S fun args S1 => match argsD args with
  | some xs => f xs S1 Φ
  | none => False
theorem go_cb {r : RC} {g : List D → WE} (hr : CaD r g) (ha : ∀ S Φ, wa S Φ → GoA ta S Φ) : ∀ S Φ, wCB g wa S Φ → GoE (tCB r ta) S Φ := by
  intro S Φ h σ H G as A Q q
  refine ha S _ h σ H G as A _ fun args S1 vs H1 G1 h1 st1 A1 r1 => ?_
  split at h1
  · rename_i xs e
    exact hr S1 σ H1 G1 as xs vs A1 (r1.vals e) Φ Q h1 fun d S' z H' G' hΦ st A' rz => q d S' z H' G' hΦ (st1.trans st) A' rz
  · exact h1.elim
theorem go_cbN {r : RC} {g : List D → WE} (hr : CaN r g) (ha : ∀ S Φ, wa S Φ → GoA ta S Φ) : ∀ S Φ, wCB g wa S Φ → GoN (tCB r ta) S Φ := by
  intro S Φ h σ H G as A Q q
  refine ha S _ h σ H G as A _ fun args S1 vs H1 G1 h1 st1 A1 r1 => ?_
  split at h1
  · rename_i xs e
    exact hr S1 σ H1 G1 as xs vs A1 (r1.vals e) Φ Q h1 fun d S' p o H' G' hΦ st A' hp hh => q d S' p o H' G' hΦ (st1.trans st) A' hp hh
  · exact h1.elim
theorem je_cb {r : RC} {g : List D → WE} {id : String} (hc : CallR X (.builtin id) r) (hr : CaD r g) (hg : Gl X x) (hm : X.mg x = none) (hv : bootBuiltins x = some (.builtin id)) (ha : JA X (e :: es) ta wa) (hn : x ≠ "__name__" := by decide) (hdb : (x == ("__debug__" : Str)) = false := by decide)
    (hs : starEach (e :: es) X.env = (false, eval e X.env) :: starEach es X.env := by rfl) (hpl : (backTo pos (starEach es X.env)).any (·.1) = false := by rfl) : JE X (.Call (.Name x p) (e :: es) [] pos) (tCB r ta) (wCB g wa) := ⟨pe_callB hc hg hm hv ha.pe hn hdb hs hpl, go_cb hr ha.go⟩
theorem jn_cb {r : RC} {g : List D → WE} {id : String} (hc : CallR X (.builtin id) r) (hr : CaN r g) (hg : Gl X x) (hm : X.mg x = none) (hv : bootBuiltins x = some (.builtin id)) (ha : JA X (e :: es) ta wa) (hn : x ≠ "__name__" := by decide) (hdb : (x == ("__debug__" : Str)) = false := by decide)
    (hs : starEach (e :: es) X.env = (false, eval e X.env) :: starEach es X.env := by rfl) (hpl : (backTo pos (starEach es X.env)).any (·.1) = false := by rfl) : JN X (.Call (.Name x p) (e :: es) [] pos) (tCB r ta) (wCB g wa) := ⟨pe_callB hc hg hm hv ha.pe hn hdb hs hpl, go_cbN hr ha.go⟩
theorem je_ty {r : RC} {g : List D → WE} {T : String} (hc : CallR X (.type T) r) (hr : CaD r g) (hg : Gl X x) (hm : X.mg x = none) (hv : bootBuiltins x = some (.type T)) (ha : JA X (e :: es) ta wa) (hn : x ≠ "__name__" := by decide) (hdb : (x == ("__debug__" : Str)) = false := by decide)
    (hs : starEach (e :: es) X.env = (false, eval e X.env) :: starEach es X.env := by rfl) (hpl : (backTo pos (starEach es X.env)).any (·.1) = false := by rfl) : JE X (.Call (.Name x p) (e :: es) [] pos) (tCB r ta) (wCB g wa) := ⟨pe_callTy hc hg hm hv ha.pe hn hdb hs hpl, go_cb hr ha.go⟩
theorem jn_ty {r : RC} {g : List D → WE} {T : String} (hc : CallR X (.type T) r) (hr : CaN r g) (hg : Gl X x) (hm : X.mg x = none) (hv : bootBuiltins x = some (.type T)) (ha : JA X (e :: es) ta wa) (hn : x ≠ "__name__" := by decide) (hdb : (x == ("__debug__" : Str)) = false := by decide)
    (hs : starEach (e :: es) X.env = (false, eval e X.env) :: starEach es X.env := by rfl) (hpl : (backTo pos (starEach es X.env)).any (·.1) = false := by rfl) : JN X (.Call (.Name x p) (e :: es) [] pos) (tCB r ta) (wCB g wa) := ⟨pe_callTy hc hg hm hv ha.pe hn hdb hs hpl, go_cbN hr ha.go⟩
/-- abs, int, bool, len, isinstance -/
def fAbs : List D → WE := fun xs S Φ => match xs with
  | [.int i] => Φ (.int (if i < 0 then -i else i)) S
  | _ => False
def rAbs : RC := fun xs H Q => ∃ i, xs = [.int i] ∧ Q (.int (if i < 0 then -i else i)) H
theorem ca_abs : CaD rAbs fAbs := by
  intro S σ H G as xs vs A r Φ Q h q
  match xs, h, r with
  | [.int i], h, r =>
    obtain ⟨v, ws, rfl, rv, rw_⟩ := r
    have rw_ : ws = [] := rw_
    subst rw_
    exact ⟨i, by rw [show v = .int i from rv], q _ _ _ _ _ h Stp.refl A rfl⟩
def rInt : RC := fun xs H Q => (∃ i, xs = [.int i] ∧ Q (.int i) H) ∨ ∃ k, xs = [.bl k] ∧ Q (.int (if k then 1 else 0)) H
def fInt : List D → WE := fun xs S Φ => match xs with
  | [.int i] => Φ (.int i) S
  | [.bl k] => Φ (.int (if k then 1 else 0)) S
  | _ => False
theorem ca_int : CaD rInt fInt := by
  intro S σ H G as xs vs A r Φ Q h q
  match xs, h, r with
  | [.int i], h, r =>
    obtain ⟨v, ws, rfl, rv, rw_⟩ := r
    have rw_ : ws = [] := rw_
    subst rw_
    exact .inl ⟨i, by rw [show v = .int i from rv], q _ _ _ _ _ h Stp.refl A rfl⟩
  | [.bl k], h, r =>
    obtain ⟨v, ws, rfl, rv, rw_⟩ := r
    have rw_ : ws = [] := rw_
    subst rw_
    exact .inr ⟨k, by rw [show v = .bl k from rv], q _ _ _ _ _ h Stp.refl A rfl⟩
/-- length -/
def D.len : D → Option Nat
  | .lst ds => some ds.length
  | .tup ds => some ds.length
  | .dic _ ds => some ds.length
  | .str x => some x.length
  | _ => none
def rLen0 (K : PySem.W.Frag) : RC := fun xs H Q => ∃ x n, xs = [x] ∧ LenV K x H n ∧ Q (.int n) H
end
end S
set_option Elab.async false
set_option linter.all false
set_option maxRecDepth 100000
set_option autoImplicit false
/-! S: what is walked; for, comprehensions, while -/
namespace S
open PySem L2
/-- the walked thing gives these items, whatever happens meanwhile to other things -/
def WalkD (J : It) (items : List D) (as : List Addr) (H0 G0 : Hp) : Prop := ∀ (as' : List Addr) (H G : Hp) (S : Ab) (σ : L2.St), Stp as as' H0 G0 H G → At S σ H G as' → ∀ i : Nat,
  (i < items.length → J.go i H ∧ ∀ x H', J.yld i H x H' → ∃ G' d, items[i]? = some d ∧ Stp as' as' H G H' G' ∧ At S σ H' G' as' ∧ Rp G' d x) ∧ (items.length ≤ i → J.stop i H)
abbrev WI := Ab → (List D → Ab → Prop) → Prop
def GoI (wi : TI) (S : Ab) (Ψ : List D → Ab → Prop) : Prop := ∀ (σ : L2.St) (H G : Hp) (as : List Addr), At S σ H G as → ∀ R : It → Hp → Prop,
  (∀ J items S' H' G', Ψ items S' → Stp as as H G H' G' → At S' σ H' G' as → WalkD J items as H' G' → R J H') → wi σ H R
structure JI (X : Cx) (tg iter : Expr) (t : TI) (w : WI) : Prop where
  pe : PI X tg iter t
  go : ∀ S Ψ, w S Ψ → GoI t S Ψ
section
variable {X : Cx} {tg e iter : Expr} {t td : TE} {w wd : WE} {ta : TA} {wa : WA} {p pos : Pos}
theorem At.sql {S : Ab} {σ : L2.St} {H G : Hp} {as : List Addr} {K : PySem.W.Frag} (A : At S σ H G as) {a : Addr} {xs : List V} (h : G a = some (.lst xs)) : SqL K H a xs := .inl (A.le h)
theorem At.sqt {S : Ab} {σ : L2.St} {H G : Hp} {as : List Addr} {K : PySem.W.Frag} (A : At S σ H G as) {a : Addr} {xs : List V} (h : G a = some (.tup xs)) : SqT K H a xs := .inl (A.le h)
/-- what Rd says is one thing -/
theorem frz_frz {o : Obj} {u : HO} (h : u = HO.frz o u) : False := frz_ne h.symm
/-- over a list -/
def wiL (w : WE) : WI := fun S Ψ => w S fun d S1 => match d with
  | .lst ds => Ψ ds S1
  | _ => False
theorem go_iL {K : PySem.W.Frag} (h : ∀ S Φ, w S Φ → GoE t S Φ) : ∀ S Ψ, wiL w S Ψ → GoI (iList K t) S Ψ := by
  intro S Ψ hw σ H G as A R r
  refine h S _ hw σ H G as A _ fun d S1 v H1 G1 h1 st1 A1 r1 => ?_
  cases d with
  | lst ds =>
    obtain ⟨a, xs, rfl, ga, rx⟩ := r1
    refine ⟨a, rfl, ⟨xs, A1.sql ga⟩, r _ ds S1 H1 G1 h1 st1 A1 fun as' H2 G2 S2 σ2 st2 A2 i => ⟨fun hi => ?_, fun hi => ?_⟩⟩
    · have g2 := st2.ex a _ ga
      have rx2 := rx.mono st2.ex
      obtain ⟨v, hv, rv⟩ := rx2.get (List.getElem?_eq_getElem hi)
      refine ⟨⟨xs, v, A2.sql g2, hv⟩, fun x H' ⟨e1, e2⟩ => ?_⟩
      subst e1
      have e3 := e2 xs (A2.sql g2)
      rw [hv] at e3
      cases e3
      exact ⟨G2, ds[i], List.getElem?_eq_getElem hi, Stp.refl, A2, rv⟩
    · exact ⟨xs, A2.sql (st2.ex a _ ga), by rw [rx.length]; exact hi⟩
  | _ => exact h1.elim
theorem ji_list (h : JE X e t w) : JI X tg e (iList X.K t) (wiL w) := ⟨pi_list h.pe, go_iL h.go⟩
/-- over a tuple -/
def wiT (w : WE) : WI := fun S Ψ => w S fun d S1 => match d with
  | .tup ds => Ψ ds S1
  | _ => False
theorem ji_tup (h : JE X e t w) : JI X tg e (iTup X.K t) (wiT w) := by
  refine ⟨pi_tup h.pe, fun S Ψ hw σ H G as A R r => ?_⟩
  refine h.go S _ hw σ H G as A _ fun d S1 v H1 G1 h1 st1 A1 r1 => ?_
  cases d with
  | tup ds =>
    obtain ⟨a, xs, rfl, ga, rx⟩ := r1
    refine ⟨a, rfl, ⟨xs, A1.sqt ga⟩, r _ ds S1 H1 G1 h1 st1 A1 fun as' H2 G2 S2 σ2 st2 A2 i => ⟨fun hi => ?_, fun hi => ?_⟩⟩
    · have g2 := st2.ex a _ ga
      have rx2 := rx.mono st2.ex
      obtain ⟨v, hv, rv⟩ := rx2.get (List.getElem?_eq_getElem hi)
      refine ⟨⟨xs, v, A2.sqt g2, hv⟩, fun x H' ⟨e1, e2⟩ => ?_⟩
      subst e1
      have e3 := e2 xs (A2.sqt g2)
      rw [hv] at e3
      cases e3
      exact ⟨G2, ds[i], List.getElem?_eq_getElem hi, Stp.refl, A2, rv⟩
    · exact ⟨xs, A2.sqt (st2.ex a _ ga), by rw [rx.length]; exact hi⟩
  | _ => exact h1.elim
/-- over range(n) -/
def rgD (lo : Int) (n : Nat) : List D := (List.range n).map fun (i : Nat) => D.int (lo + (i : Int))
def wiR1 (wa : WA) : WI := fun S Ψ => wa S fun args S1 => match argsD args with
  | some [.int j] => (-(2 ^ 62) ≤ j ∧ j < 2 ^ 62) ∧ Ψ (rgD 0 j.toNat) S1
  | _ => False
def wiR2 (wa : WA) : WI := fun S Ψ => wa S fun args S1 => match argsD args with
  | some [.int i, .int j] => (-(2 ^ 62) ≤ i ∧ i < 2 ^ 62 ∧ -(2 ^ 62) ≤ j ∧ j < 2 ^ 62) ∧ Ψ (rgD i (j - i).toNat) S1
  | _ => False
theorem walk_rng (lo : Int) (n : Nat) (as : List Addr) (H G : Hp) : WalkD (Itr lo n) (rgD lo n) as H G := fun as' H2 G2 S2 σ2 st2 A2 i => by
  have hl : (rgD lo n).length = n := by unfold rgD; rw [List.length_map, List.length_range]
  refine ⟨fun hi => ⟨by rw [hl] at hi; exact hi, fun x H' ⟨e1, e2⟩ => ?_⟩, fun hi => by rw [hl] at hi; exact hi⟩
  subst e1 e2
  refine ⟨G2, .int (lo + i), ?_, Stp.refl, A2, rfl⟩
  rw [hl] at hi
  unfold rgD
  rw [List.getElem?_map, List.getElem?_range hi]
  rfl
theorem ji_range1 {a : Expr} (hg : Gl X "range") (hm : X.mg "range" = none) (ha : JA X [a] ta wa) (hs : starEach [a] X.env = [(false, eval a X.env)] := by rfl) : JI X tg (.Call (.Name "range" p) [a] [] pos) (iRng1 ta) (wiR1 wa) := by
  refine ⟨pi_range1 hg hm ha.pe hs, fun S Ψ hw σ H G as A R r => ?_⟩
  refine ha.go S _ hw σ H G as A _ fun args S1 vs H1 G1 h1 st1 A1 r1 => ?_
  split at h1
  · rename_i j e
    obtain ⟨v, ws, rfl, rv, rw_⟩ := r1.vals e
    have rw_ : ws = [] := rw_
    subst rw_
    exact ⟨j, by rw [show v = .int j from rv], h1.1.1, h1.1.2, r _ _ S1 H1 G1 h1.2 st1 A1 (walk_rng _ _ _ _ _)⟩
  · exact h1.elim
theorem ji_range2 {a b : Expr} (hg : Gl X "range") (hm : X.mg "range" = none) (ha : JA X [a, b] ta wa) (hs : starEach [a, b] X.env = [(false, eval a X.env), (false, eval b X.env)] := by rfl) (hs2 : starEach [b] X.env = [(false, eval b X.env)] := by rfl) : JI X tg (.Call (.Name "range" p) [a, b] [] pos) (iRng2 ta) (wiR2 wa) := by
  refine ⟨pi_range2 hg hm ha.pe hs hs2, fun S Ψ hw σ H G as A R r => ?_⟩
  refine ha.go S _ hw σ H G as A _ fun args S1 vs H1 G1 h1 st1 A1 r1 => ?_
  split at h1
  · rename_i i j e
    obtain ⟨v, ws, rfl, rv, v2, ws2, rfl, rv2, rw_⟩ := r1.vals e
    have rw_ : ws2 = [] := rw_
    subst rw_
    exact ⟨i, j, by rw [show v = .int i from rv, show v2 = .int j from rv2], h1.1, r _ _ S1 H1 G1 h1.2 st1 A1 (walk_rng _ _ _ _ _)⟩
  · exact h1.elim
/-- over a text's signs -/
def signsD (x : Str) : List D := x.cps.toList.map fun c => D.str ⟨#[c]⟩
def wiS (w : WE) : WI := fun S Ψ => w S fun d S1 => match d with
  | .str x => Ψ (signsD x) S1
  | _ => False
theorem ji_str (h : JE X e t w) : JI X tg e (iStr t) (wiS w) := by
  refine ⟨pi_str h.pe, fun S Ψ hw σ H G as A R r => ?_⟩
  refine h.go S _ hw σ H G as A _ fun d S1 v H1 G1 h1 st1 A1 r1 => ?_
  cases d with
  | str x =>
    refine ⟨x, r1, r _ _ S1 H1 G1 h1 st1 A1 fun as' H2 G2 S2 σ2 st2 A2 i => ?_⟩
    have hl : (signsD x).length = x.cps.size := by unfold signsD; rw [List.length_map, Array.length_toList]
    refine ⟨fun hi => ⟨by rw [hl] at hi; exact hi, fun y H' ⟨e1, c, e2, e3⟩ => ?_⟩, fun hi => by rw [hl] at hi; exact hi⟩
    subst e1 e3
    refine ⟨G2, .str ⟨#[c]⟩, ?_, Stp.refl, A2, rfl⟩
    unfold signsD
    rw [List.getElem?_map, Array.getElem?_toList, e2]
    rfl
  | _ => exact h1.elim

/-! ### dicts: locked where they come, and left so -/
def tLk (td : TE) : TE := fun σ H Q => td σ H fun x H1 => ∃ d kvs, x = .ref d ∧ Rd H1 d (.dK kvs) ∧ ∀ o H2, ((H1 d = some (.dK kvs) ∧ H2 = upd H1 d (.frz o (.dK kvs))) ∨ (H1 d = some (.frz o (.dK kvs)) ∧ H2 = H1)) → Q x H2
theorem pe_lk (h : PE X e td) : PE X e (tLk td) := by
  refine ⟨fun pins s σ H Q I hw => ?_⟩
  refine thn (h.run pins s σ H _ I hw) fun u s1 ⟨x, H1, I1, r1, d, kvs, ex, hd, q⟩ => ?_
  rcases hd with hd | ⟨o, hd⟩
  · obtain ⟨od, I2⟩ := I1.lock hd True.intro
    exact ⟨x, _, I2, r1, q od _ (.inl ⟨hd, rfl⟩)⟩
  · exact ⟨x, H1, I1, r1, q o H1 (.inr ⟨hd, rfl⟩)⟩
/-- a public thing gets locked -/
theorem At.lock {S : Ab} {σ : L2.St} {H G : Hp} {as : List Addr} (A : At S σ H G as) {d : Addr} {u : HO} {o : Obj} (hd : G d = some u) (hp : H d = some u) :
    Stp as as H G (upd H d (.frz o u)) G ∧ At S σ (upd H d (.frz o u)) G as := by
  have ow : ∀ a ∈ as, ∀ (k : Nat) (e : D), S.os[k]? = some (some e) → as[k]? = some a → a ≠ d := fun a _ k e h1 h2 z => by
    obtain ⟨b, x, g1, g2, _⟩ := A.own.ow k e h1
    rw [h2] at g1
    cases g1
    rw [z, hd] at g2; cases g2
  refine ⟨⟨Sub.refl _, fun _ h k => (k h).elim, fun a x na h => ?_, fun a h => ?_, [], by simp⟩, ⟨⟨fun a x g => ?_, A.own.len, A.own.nd, fun a ha => ?_, fun k e g => ?_⟩, A.ln, A.va, A.ob⟩⟩
  · by_cases z : a = d
    · subst z
      rw [hp] at h
      cases h
      exact .inr ⟨hd, o, upd_same⟩
    · exact .inl (by rw [upd_ne z]; exact h)
  · by_cases z : a = d
    · rw [z, upd_same]; simp
    · rw [upd_ne z]; exact h
  · by_cases z : a = d
    · subst z
      rw [hd] at g
      cases g
      exact .inr ⟨o, upd_same⟩
    · rcases A.le g with r | ⟨f, r⟩
      · exact .inl (by rw [upd_ne z]; exact r)
      · exact .inr ⟨f, by rw [upd_ne z]; exact r⟩
  · by_cases z : a = d
    · rw [z, upd_same]; simp
    · rw [upd_ne z]; exact A.own.lv a ha
  · obtain ⟨b, x, g1, g2, g3, g4⟩ := A.own.ow k e g
    have ne : b ≠ d := fun z => by rw [z, hd] at g2; cases g2
    exact ⟨b, x, g1, g2, by rw [upd_ne ne]; exact g3, g4⟩
/-- the dict that te gives, locked -/
theorem go_lk {S : Ab} {Φ : PhE} (h : GoE td S Φ) : ∀ (σ : L2.St) (H G : Hp) (as : List Addr), At S σ H G as → ∀ Q : VK,
    (∀ ks ds S' d kvs o H' G', Φ (.dic ks ds) S' → Stp as as H G H' G' → At S' σ H' G' as → G' d = some (.dK kvs) → H' d = some (.frz o (.dK kvs)) → kvs.map (·.1) = ks → Rps G' ds (kvs.map (·.2)) → Q (.ref d) H') →
    (∀ d S', Φ d S' → ∃ ks ds, d = .dic ks ds) → tLk td σ H Q := by
  intro σ H G as A Q q hΦ
  refine h σ H G as A _ fun d S1 v H1 G1 h1 st1 A1 r1 => ?_
  obtain ⟨ks, ds, rfl⟩ := hΦ d S1 h1
  obtain ⟨a, kvs, rfl, ga, hk, hr⟩ := r1
  refine ⟨a, kvs, rfl, A1.le ga, fun o H2 hH => ?_⟩
  rcases hH with ⟨hp, rfl⟩ | ⟨hp, rfl⟩
  · obtain ⟨st2, A2⟩ := A1.lock (o := o) ga hp
    exact q ks ds S1 a kvs o _ G1 h1 (st1.trans st2) A2 ga upd_same hk hr
  · exact q ks ds S1 a kvs o _ G1 h1 st1 A1 ga hp hk hr
/-- a locked public thing stays so -/
theorem Stp.frz {as as' : List Addr} {H G H' G' : Hp} (st : Stp as as' H G H' G') {d : Addr} {o : Obj} {u : HO} (g : G d = some u) (h : H d = some (.frz o u)) : H' d = some (.frz o u) := by
  rcases st.fr d _ (.inr ⟨u, g⟩) h with z | ⟨z, _⟩
  · exact z
  · have := st.ex d u g
    rw [z] at this
    exact (frz_ne (Option.some.inj this)).elim
def kD : Key → D
  | .inl i => .int i
  | .inr x => .str x
theorem rp_kD (G : Hp) (k : Key) : Rp G (kD k) (kV k) := by cases k <;> rfl
theorem kvs_at {ks : List Key} {ds : List D} {kvs : List (Key × V)} {G : Hp} (hk : kvs.map (·.1) = ks) (hr : Rps G ds (kvs.map (·.2))) {i : Nat} {k : Key} {v : V} (h : kvs[i]? = some (k, v)) :
    ks[i]? = some k ∧ ∃ d, ds[i]? = some d ∧ Rp G d v := by
  refine ⟨by rw [← hk, List.getElem?_map, h]; rfl, ?_⟩
  exact hr.get' (by rw [List.getElem?_map, h]; rfl)
theorem kvs_len {ks : List Key} {ds : List D} {kvs : List (Key × V)} {G : Hp} (hk : kvs.map (·.1) = ks) (hr : Rps G ds (kvs.map (·.2))) : kvs.length = ks.length ∧ ds.length = ks.length := by
  have h1 : kvs.length = ks.length := by rw [← hk, List.length_map]
  have h2 := hr.length
  rw [List.length_map] at h2
  exact ⟨h1, by omega⟩
/-- a dict's pairs as data -/
def itemsD (ks : List Key) (ds : List D) : List D := (ks.zip ds).map fun p => D.tup [kD p.1, p.2]
def mDic (f : List Key → List D → List D) (Ψ : List D → Ab → Prop) (d : D) (S1 : Ab) : Prop := match d with
  | .dic ks ds => Ψ (f ks ds) S1
  | _ => False
def wiDic (f : List Key → List D → List D) (w : WE) : WI := fun S Ψ => w S (mDic f Ψ)
theorem dic_of {f : List Key → List D → List D} {Ψ : List D → Ab → Prop} : ∀ d S', mDic f Ψ d S' → ∃ ks ds, d = D.dic ks ds := fun d S' h => by
  cases d with
  | dic ks ds => exact ⟨ks, ds, rfl⟩
  | _ => exact h.elim
theorem ji_keys (h : JE X e td w) : JI X tg e (iKeys (tLk td)) (wiDic (fun ks _ => ks.map kD) w) := by
  refine ⟨pi_keys (pe_lk h.pe), fun S Ψ hw σ H G as A R r => ?_⟩
  refine go_lk (h.go S _ hw) σ H G as A _ (fun ks ds S1 d kvs o H1 G1 h1 st1 A1 ga hd hk hr => ?_) dic_of
  refine ⟨d, o, rfl, .inl ⟨kvs, hd, r _ _ S1 H1 G1 h1 st1 A1 fun as' H2 G2 S2 σ2 st2 A2 i => ?_⟩⟩
  have hd2 := st2.frz ga hd
  have l := kvs_len hk hr
  refine ⟨fun hi => ⟨⟨hd2, by rw [List.length_map] at hi; omega⟩, fun x H' ⟨e1, k, v, e2, e3⟩ => ?_⟩, fun hi => ⟨hd2, by rw [List.length_map] at hi; omega⟩⟩
  subst e1 e3
  exact ⟨G2, kD k, by rw [List.getElem?_map, (kvs_at hk hr e2).1]; rfl, Stp.refl, A2, rp_kD _ _⟩
theorem ji_values (h : JE X e td w) {apos cpos : Pos} (hbase : attributeBase e "values" X.env (eval e X.env) = eval e X.env := by rfl) (hline : (apos.endLine == cpos.line) = true := by rfl) : JI X tg (.Call (.Attribute e "values" apos) [] [] cpos) (iVals (tLk td)) (wiDic (fun _ ds => ds) w) := by
  refine ⟨pi_values (pe_lk h.pe) hbase hline, fun S Ψ hw σ H G as A R r => ?_⟩
  refine go_lk (h.go S _ hw) σ H G as A _ (fun ks ds S1 d kvs o H1 G1 h1 st1 A1 ga hd hk hr => ?_) dic_of
  refine ⟨d, o, kvs, rfl, hd, r _ _ S1 H1 G1 h1 st1 A1 fun as' H2 G2 S2 σ2 st2 A2 i => ?_⟩
  have hd2 := st2.frz ga hd
  have l := kvs_len hk hr
  have z : ((fun (_ : List Key) (ds : List D) => ds) ks ds).length = ds.length := rfl
  refine ⟨fun hi => ⟨⟨hd2, by rw [z] at hi; omega⟩, fun x H' ⟨e1, k, e2⟩ => ?_⟩, fun hi => ⟨hd2, by rw [z] at hi; omega⟩⟩
  subst e1
  obtain ⟨_, d', g1, g2⟩ := kvs_at hk hr e2
  exact ⟨G2, d', g1, Stp.refl, A2, g2.mono st2.ex⟩
theorem ji_items (h : JE X e td w) {apos cpos tpos : Pos} {elts : List Expr} {kk : Nat} (hbase : attributeBase e "items" X.env (eval e X.env) = eval e X.env := by rfl) (hline : (apos.endLine == cpos.line) = true := by rfl) :
    JI X (.Tuple elts kk tpos) (.Call (.Attribute e "items" apos) [] [] cpos) (iItems (tLk td)) (wiDic itemsD w) := by
  refine ⟨pi_items (pe_lk h.pe) hbase hline, fun S Ψ hw σ H G as A R r => ?_⟩
  refine go_lk (h.go S _ hw) σ H G as A _ (fun ks ds S1 d kvs o H1 G1 h1 st1 A1 ga hd hk hr => ?_) dic_of
  refine ⟨d, o, kvs, rfl, hd, r _ _ S1 H1 G1 h1 st1 A1 fun as' H2 G2 S2 σ2 st2 A2 i => ?_⟩
  have hd2 := st2.frz ga hd
  have l := kvs_len hk hr
  have li : (itemsD ks ds).length = ks.length := by unfold itemsD; rw [List.length_map, List.length_zip]; omega
  refine ⟨fun hi => ⟨⟨hd2, by omega⟩, fun x H' ⟨T, k, v, e2, e3, e4, e5⟩ => ?_⟩, fun hi => ⟨hd2, by omega⟩⟩
  subst e3 e5
  obtain ⟨g0, d', g1, g2⟩ := kvs_at hk hr e2
  have gT := A2.own.nG e4
  refine ⟨upd G2 T (.tup [kV k, v]), .tup [kD k, d'], ?_, Stp.new e4 gT, A2.new e4, T, _, rfl, upd_same, kV k, [v], rfl, rp_kD _ _, v, [], rfl, (g2.mono st2.ex).mono (Sub.new gT), rfl⟩
  unfold itemsD
  rw [List.getElem?_map, List.getElem?_zip_eq_some (z := (k, d')) |>.mpr ⟨g0, g1⟩]
  rfl
/-- enumerate(list) -/
def enumD (ds : List D) : List D := ds.zipIdx.map fun p => D.tup [.int (p.2 : Nat), p.1]
def wiEnum (wa : WA) : WI := fun S Ψ => wa S fun args S1 => match argsD args with
  | some [.lst ds] => Ψ (enumD ds) S1
  | _ => False
theorem ji_enum {tpos : Pos} {elts : List Expr} {kk : Nat} (hg : Gl X "enumerate") (hm : X.mg "enumerate" = none) (ha : JA X [e] ta wa) (hs : starEach [e] X.env = [(false, eval e X.env)] := by rfl) :
    JI X (.Tuple elts kk tpos) (.Call (.Name "enumerate" p) [e] [] pos) (iEnum X.K ta) (wiEnum wa) := by
  refine ⟨pi_enum hg hm ha.pe hs, fun S Ψ hw σ H G as A R r => ?_⟩
  refine ha.go S _ hw σ H G as A _ fun args S1 vs H1 G1 h1 st1 A1 r1 => ?_
  split at h1
  · rename_i ds e
    obtain ⟨v, ws, rfl, ⟨a, xs, rfl, ga, rx⟩, rw_⟩ := r1.vals e
    have rw_ : ws = [] := rw_
    subst rw_
    refine ⟨a, xs, rfl, A1.sql ga, r _ _ S1 H1 G1 h1 st1 A1 fun as' H2 G2 S2 σ2 st2 A2 i => ?_⟩
    have g2 := st2.ex a _ ga
    have rx2 := rx.mono st2.ex
    have li : (enumD ds).length = ds.length := by unfold enumD; rw [List.length_map, List.length_zipIdx]
    refine ⟨fun hi => ?_, fun hi => ⟨xs, A2.sql g2, by rw [rx.length]; omega⟩⟩
    rw [li] at hi
    obtain ⟨v, hv, rv⟩ := rx2.get (List.getElem?_eq_getElem hi)
    refine ⟨⟨xs, v, A2.sql g2, hv⟩, fun x H' ⟨T, y, e1, e2, e3, e4⟩ => ?_⟩
    have e5 := e4 xs (A2.sql g2)
    rw [hv] at e5
    cases e5
    subst e1 e3
    have gT := A2.own.nG e2
    refine ⟨upd G2 T (.tup [.int (i : Nat), v]), .tup [.int (i : Nat), ds[i]], ?_, Stp.new e2 gT, A2.new e2, T, _, rfl, upd_same, _, [v], rfl, rfl, v, [], rfl, rv.mono (Sub.new gT), rfl⟩
    unfold enumD
    rw [List.getElem?_map, List.getElem?_zipIdx, List.getElem?_eq_getElem hi]
    simp
  · exact h1.elim
/-- zip(list, list) -/
def zipD (xs ys : List D) : List D := (xs.zip ys).map fun p => D.tup [p.1, p.2]
def wiZip (wa : WA) : WI := fun S Ψ => wa S fun args S1 => match argsD args with
  | some [.lst xs, .lst ys] => Ψ (zipD xs ys) S1
  | _ => False
theorem ji_zip {e2 : Expr} {tpos : Pos} {elts : List Expr} {kk : Nat} (hg : Gl X "zip") (hm : X.mg "zip" = none) (ha : JA X [e, e2] ta wa) (hs : starEach [e, e2] X.env = (false, eval e X.env) :: starEach [e2] X.env := by rfl) (hpl : (backTo pos (starEach [e2] X.env)).any (·.1) = false := by rfl) :
    JI X (.Tuple elts kk tpos) (.Call (.Name "zip" p) [e, e2] [] pos) (iZip X.K ta) (wiZip wa) := by
  refine ⟨pi_zip hg hm ha.pe hs hpl, fun S Ψ hw σ H G as A R r => ?_⟩
  refine ha.go S _ hw σ H G as A _ fun args S1 vs H1 G1 h1 st1 A1 r1 => ?_
  split at h1
  · rename_i ds es e
    obtain ⟨v, ws, rfl, ⟨a, xs, rfl, ga, rx⟩, v2, ws2, rfl, ⟨b, ys, rfl, gb, ry⟩, rw_⟩ := r1.vals e
    have rw_ : ws2 = [] := rw_
    subst rw_
    refine ⟨a, b, xs, ys, rfl, A1.sql ga, A1.sql gb, r _ _ S1 H1 G1 h1 st1 A1 fun as' H2 G2 S2 σ2 st2 A2 i => ?_⟩
    have g2 := st2.ex a _ ga
    have k2 := st2.ex b _ gb
    have rx2 := rx.mono st2.ex
    have ry2 := ry.mono st2.ex
    have li : (zipD ds es).length = min ds.length es.length := by unfold zipD; rw [List.length_map, List.length_zip]
    refine ⟨fun hi => ?_, fun hi => ⟨xs, ys, A2.sql g2, A2.sql k2, by rw [rx.length, ry.length]; omega⟩⟩
    rw [li] at hi
    have h1 : i < ds.length := by omega
    have h2 : i < es.length := by omega
    obtain ⟨v, hv, rv⟩ := rx2.get (List.getElem?_eq_getElem h1)
    obtain ⟨u, hu, ru⟩ := ry2.get (List.getElem?_eq_getElem h2)
    refine ⟨⟨xs, ys, v, u, A2.sql g2, A2.sql k2, hv, hu⟩, fun x H' ⟨T, y, z, e1, e2, e3, e4, e5⟩ => ?_⟩
    have e6 := e4 xs (A2.sql g2)
    rw [hv] at e6
    cases e6
    have e7 := e5 ys (A2.sql k2)
    rw [hu] at e7
    cases e7
    subst e1 e3
    have gT := A2.own.nG e2
    refine ⟨upd G2 T (.tup [v, u]), .tup [ds[i], es[i]], ?_, Stp.new e2 gT, A2.new e2, T, _, rfl, upd_same, _, [u], rfl, rv.mono (Sub.new gT), u, [], rfl, ru.mono (Sub.new gT), rfl⟩
    unfold zipD
    rw [List.getElem?_map, List.getElem?_zip_eq_some (z := (ds[i], es[i])) |>.mpr ⟨List.getElem?_eq_getElem h1, List.getElem?_eq_getElem h2⟩]
    rfl
  · exact h1.elim

/-! ### for -/
variable {g : TG} {wg : WG} {tb : TS} {wb : WS} {wi : TI} {wI : WI} {body : List Stmt}
/-- the invariant by the turn -/
def wFor (wI : WI) (wg : WG) (wb : WS) : WS := fun K S => wI S fun items S1 => ∃ IV : Nat → Ab → Prop, IV 0 S1 ∧
  (∀ i d S', items[i]? = some d → IV i S' → wg d S' fun S2 => wb { nx := IV (i + 1), rt := K.rt, bk := K.nx, ct := IV (i + 1) } S2) ∧ ∀ S', IV items.length S' → K.nx S'
/-- a target alone changes slots: no own thing comes -/
theorem js_for (hp : PassesOwn (model X.prog X.w) X.A X.env X.xe) (hc : X.calm = true) (hi : JI X tg iter wi wI) (hg : JG X tg g wg) (hb : JSs X body tb wb) (hs : ∀ x, foldedSetIterable iter X.env x = pure x := by intro _; rfl) :
    JS X (.For tg iter body [] pos) (tFor wi g tb) (wFor wI wg wb) := by
  refine ⟨ps_for hp hc hi.pe hg.pe hb.pe hs, fun S K h σ H G as A Dn n r b c => ?_⟩
  refine hi.go S _ h σ H G as A _ fun J items S1 H1 G1 ⟨IV, i0, is, ie⟩ st1 A1 wk => ?_
  refine ⟨fun i m σ' H' => m = items.length - i ∧ i ≤ items.length ∧ ∃ S' G' as', IV i S' ∧ Stp as as' H1 G1 H' G' ∧ At S' σ' H' G' as', ⟨items.length, by simp, Nat.zero_le _, S1, G1, as, i0, Stp.refl, A1⟩, ?_⟩
  rintro i m σ2 H2 ⟨rfl, hle, S2, G2, as2, p2, st2, A2⟩
  obtain ⟨wgo, wstop⟩ := wk as2 H2 G2 S2 σ2 st2 A2 i
  by_cases hlt : i < items.length
  · obtain ⟨g1, g2⟩ := wgo hlt
    refine .inr ⟨g1, fun σ' H' => ∃ S' G' as', IV (i + 1) S' ∧ Stp as as' H1 G1 H' G' ∧ At S' σ' H' G' as', fun σ' H' q => ⟨items.length - (i + 1), by omega, rfl, hlt, q⟩, fun x H3 y => ?_⟩
    obtain ⟨G3, d, hd, st3, A3, r3⟩ := g2 x H3 y
    refine hg.go d S2 _ (is i d S2 hd p2) σ2 H3 G3 as2 x A3 r3 _ fun S4 σ4 H4 G4 h4 st4 A4 => ?_
    have st14 := (st2.trans st3).trans st4
    refine hb.go S4 _ h4 σ4 H4 G4 as2 A4 _ (fun S' σ' H' G' as' k st A' => ⟨S', G', as', k, st14.trans st, A'⟩) (fun d S' v H' G' as' k st A' z => r d S' v H' G' as' k ((st1.trans st14).trans st) A' z)
      (fun S' σ' H' G' as' k st A' => n S' σ' H' G' as' k ((st1.trans st14).trans st) A') (fun S' σ' H' G' as' k st A' => ⟨S', G', as', k, st14.trans st, A'⟩)
  · have e : i = items.length := by omega
    subst e
    exact .inl ⟨wstop (Nat.le_refl _), n S2 σ2 H2 G2 as2 (ie S2 p2) (st1.trans st2) A2⟩
/-- while: the invariant by a measure; the test is read at each turn -/
def wWhile (wt : WT) (wb : WS) : WS := fun K S => ∃ IV : Nat → Ab → Prop, (∃ m, IV m S) ∧ ∀ m S', IV m S' → wt S' fun c S1 =>
  (c = true → wb { nx := fun S2 => ∃ m', m' < m ∧ IV m' S2, rt := K.rt, bk := K.nx, ct := fun S2 => ∃ m', m' < m ∧ IV m' S2 } S1) ∧ (c = false → K.nx S1)
theorem js_while {c : Expr} {tt : TT} {wt : WT} (hp : PassesOwn (model X.prog X.w) X.A X.env X.xe) (hc : JT X c tt wt) (hb : JSs X body tb wb) : JS X (.While c body [] pos) (tWhile tt tb) (wWhile wt wb) := by
  refine ⟨ps_while hp hc.pe hb.pe, fun S K ⟨IV, ⟨m0, i0⟩, is⟩ σ H G as A Dn n r b c => ?_⟩
  refine ⟨fun m σ' H' => ∃ S' G' as', IV m S' ∧ Stp as as' H G H' G' ∧ At S' σ' H' G' as', ⟨m0, S, G, as, i0, Stp.refl, A⟩, ?_⟩
  rintro m σ2 H2 ⟨S2, G2, as2, p2, st2, A2⟩
  refine hc.go S2 _ (is m S2 p2) σ2 H2 G2 as2 A2 _ fun k S3 H3 G3 h3 st3 A3 => ?_
  have st13 := st2.trans st3
  cases k with
  | true =>
    rw [if_pos rfl]
    refine ⟨fun σ' H' => ∃ m', m' < m ∧ ∃ S' G' as', IV m' S' ∧ Stp as as' H G H' G' ∧ At S' σ' H' G' as', fun σ' H' q => q, ?_⟩
    refine hb.go S3 _ (h3.1 rfl) σ2 H3 G3 as2 A3 _ (fun S' σ' H' G' as' ⟨m', hm, k⟩ st A' => ⟨m', hm, S', G', as', k, st13.trans st, A'⟩) (fun d S' v H' G' as' k st A' z => r d S' v H' G' as' k (st13.trans st) A' z)
      (fun S' σ' H' G' as' k st A' => n S' σ' H' G' as' k (st13.trans st) A') (fun S' σ' H' G' as' ⟨m', hm, k⟩ st A' => ⟨m', hm, S', G', as', k, st13.trans st, A'⟩)
  | false =>
    rw [if_neg Bool.false_ne_true]
    exact n S3 σ2 H3 G3 as2 (h3.2 rfl) st13 A3
end
end S
set_option Elab.async false
set_option linter.all false
set_option maxRecDepth 100000
set_option autoImplicit false
/-! S: comprehensions -/
namespace S
open PySem L2 PyProof.Rows
def wipeA (ρ : List (Option Arg)) : List Nat → List (Option Arg)
  | [] => ρ
  | v :: vs => (wipeA ρ vs).set v none
theorem wipe_ne {σ : L2.St} {i : Nat} : ∀ {vs : List Nat}, i ∉ vs → (wipe σ vs)[i]? = σ[i]?
  | [], _ => rfl
  | v :: vs, h => by
    unfold wipe
    rw [List.getElem?_set_ne (fun z => h (by rw [z]; exact List.mem_cons_self))]
    exact wipe_ne fun z => h (List.mem_cons_of_mem _ z)
theorem wipeA_some {ρ : List (Option Arg)} {i : Nat} {x : Arg} : ∀ {vs : List Nat}, (wipeA ρ vs)[i]? = some (some x) → ρ[i]? = some (some x) ∧ i ∉ vs
  | [], h => ⟨h, by simp⟩
  | v :: vs, h => by
    unfold wipeA at h
    by_cases hi : v = i
    · subst hi
      by_cases hv : v < (wipeA ρ vs).length
      · rw [List.getElem?_set_self hv] at h; cases h
      · rw [List.getElem?_eq_none (by simpa using hv)] at h; cases h
    · rw [List.getElem?_set_ne hi] at h
      obtain ⟨h1, h2⟩ := wipeA_some h
      exact ⟨h1, by simp only [List.mem_cons, not_or]; exact ⟨fun e => hi e.symm, h2⟩⟩
theorem wipeA_length (ρ : List (Option Arg)) : ∀ vs : List Nat, (wipeA ρ vs).length = ρ.length
  | [] => rfl
  | v :: vs => by unfold wipeA; rw [List.length_set, wipeA_length ρ vs]
theorem At.wipe {S : Ab} {σ : L2.St} {H G : Hp} {as : List Addr} (A : At S σ H G as) (vs : List Nat) : At ⟨S.os, wipeA S.ρ vs⟩ (wipe σ vs) H G as := by
  refine ⟨A.own, by rw [wipe_length]; show σ.length = (wipeA S.ρ vs).length; rw [wipeA_length]; exact A.ln, fun i d e => ?_, fun i k e => ?_⟩
  · obtain ⟨h1, h2⟩ := wipeA_some e
    obtain ⟨v, h3, h4⟩ := A.va i d h1
    exact ⟨v, by rw [wipe_ne h2]; exact h3, h4⟩
  · obtain ⟨h1, h2⟩ := wipeA_some e
    obtain ⟨a, h3, h4⟩ := A.ob i k h1
    exact ⟨a, h3, by rw [wipe_ne h2]; exact h4⟩
theorem wipe_in {σ : L2.St} {i : Nat} : ∀ {vs : List Nat}, i ∈ vs → i < σ.length → (wipe σ vs)[i]? = some none
  | [], h, _ => nomatch h
  | v :: vs, h, l => by
    unfold wipe
    by_cases z : v = i
    · subst z
      rw [List.getElem?_set_self (by rw [wipe_length]; exact l)]
    · rw [List.getElem?_set_ne z]
      exact wipe_in ((List.mem_cons.mp h).resolve_left fun q => z q.symm) l
theorem wipe_wipe (σ : L2.St) (vs : List Nat) : wipe (wipe σ vs) vs = wipe σ vs := by
  apply List.ext_getElem?
  intro i
  by_cases h : i ∈ vs
  · by_cases l : i < σ.length
    · rw [wipe_in h l, wipe_in h (by rw [wipe_length]; exact l)]
    · rw [List.getElem?_eq_none (by rw [wipe_length, wipe_length]; omega), List.getElem?_eq_none (by rw [wipe_length]; omega)]
  · rw [wipe_ne h]
/-- a target that sets these slots alone -/
def GoW (g : TG) (vs : List Nat) : Prop := ∀ (v : V) (σ : L2.St) (H : Hp) (Q : L2.St → Hp → Prop), g v σ H Q → g v σ H fun σ' H' => Q σ' H' ∧ wipe σ' vs = wipe σ vs
def GoWs (g : TGs) (vs : List Nat) : Prop := ∀ (xs : List V) (σ : L2.St) (H : Hp) (Q : L2.St → Hp → Prop), g xs σ H Q → g xs σ H fun σ' H' => Q σ' H' ∧ wipe σ' vs = wipe σ vs
theorem wipe_set {σ : L2.St} {i : Nat} {x : Option V} : ∀ {vs : List Nat}, i ∈ vs → wipe (σ.set i x) vs = wipe σ vs
  | [], h => nomatch h
  | v :: vs, h => by
    unfold wipe
    by_cases z : i ∈ vs
    · rw [wipe_set z]
    · have e : i = v := (List.mem_cons.mp h).resolve_right z
      subst e
      have : ∀ ws : List Nat, i ∉ ws → wipe (σ.set i x) ws = (wipe σ ws).set i x := by
        intro ws
        induction ws with
        | nil => intro _; rfl
        | cons w ws ih =>
          intro hw
          unfold wipe
          rw [ih fun q => hw (List.mem_cons_of_mem _ q), List.set_comm]
          exact fun q => hw (by rw [q]; exact List.mem_cons_self)
      rw [this vs z, List.set_set]
theorem gw_name {i : Nat} {vs : List Nat} (h : i ∈ vs) : GoW (gName i) vs := fun v σ H Q q => ⟨q, wipe_set h⟩
theorem gw_nil {vs : List Nat} : GoWs gNil vs := fun xs σ H Q q => ⟨q.1, q.2, rfl⟩
theorem gw_cons {g : TG} {gs : TGs} {vs : List Nat} (mg : ∀ v σ H (Q Q' : L2.St → Hp → Prop), (∀ σ' H', Q σ' H' → Q' σ' H') → g v σ H Q → g v σ H Q') (h1 : GoW g vs) (h2 : GoWs gs vs) : GoWs (gCons g gs) vs := fun xs σ H Q ⟨v, r, e, q⟩ =>
  ⟨v, r, e, mg _ _ _ _ _ (fun σ' H' ⟨q1, q2⟩ => by
    have q3 := h2 r σ' H' Q q1
    rw [q2] at q3
    exact q3) (h1 v σ H _ q)⟩
theorem mg_name {i : Nat} : ∀ v σ H (Q Q' : L2.St → Hp → Prop), (∀ σ' H', Q σ' H' → Q' σ' H') → gName i v σ H Q → gName i v σ H Q' := fun v σ H Q Q' h q => h _ _ q
theorem mg_nil : ∀ v σ H (Q Q' : L2.St → Hp → Prop), (∀ σ' H', Q σ' H' → Q' σ' H') → gNil v σ H Q → gNil v σ H Q' := fun v σ H Q Q' h q => ⟨q.1, h _ _ q.2⟩
theorem mg_cons {g : TG} {gs : TGs} (h1 : ∀ v σ H (Q Q' : L2.St → Hp → Prop), (∀ σ' H', Q σ' H' → Q' σ' H') → g v σ H Q → g v σ H Q') (h2 : ∀ v σ H (Q Q' : L2.St → Hp → Prop), (∀ σ' H', Q σ' H' → Q' σ' H') → gs v σ H Q → gs v σ H Q') :
    ∀ v σ H (Q Q' : L2.St → Hp → Prop), (∀ σ' H', Q σ' H' → Q' σ' H') → gCons g gs v σ H Q → gCons g gs v σ H Q' := fun v σ H Q Q' h ⟨x, r, e, q⟩ => ⟨x, r, e, h1 _ _ _ _ _ (fun σ' H' z => h2 _ _ _ _ _ h z) q⟩
theorem mg_tup {K : PySem.W.Frag} {n : Nat} {gs : TGs} (h2 : ∀ v σ H (Q Q' : L2.St → Hp → Prop), (∀ σ' H', Q σ' H' → Q' σ' H') → gs v σ H Q → gs v σ H Q') :
    ∀ v σ H (Q Q' : L2.St → Hp → Prop), (∀ σ' H', Q σ' H' → Q' σ' H') → gTup K n gs v σ H Q → gTup K n gs v σ H Q' := fun v σ H Q Q' h ⟨a, xs, e, q1, q2, q3⟩ => ⟨a, xs, e, q1, q2, h2 _ _ _ _ _ h q3⟩
theorem gw_tup {K : PySem.W.Frag} {n : Nat} {gs : TGs} {vs : List Nat} (h : GoWs gs vs) : GoW (gTup K n gs) vs := fun v σ H Q ⟨a, xs, e, q1, q2, q3⟩ => ⟨a, xs, e, q1, q2, h _ _ _ _ q3⟩

/-! ### a private object beside -/
theorem At.priv {S : Ab} {σ : L2.St} {H G : Hp} {as : List Addr} (A : At S σ H G as) {p : Addr} {u : HO} (np : p ∉ as) (g : G p = none) : At S σ (upd H p u) G as := by
  refine ⟨⟨fun a x q => ?_, A.own.len, A.own.nd, fun a ha => ?_, fun k d e => ?_⟩, A.ln, A.va, A.ob⟩
  · have ne : a ≠ p := ne_of_none q g
    rcases A.le q with r | ⟨f, r⟩
    · exact .inl (by rw [upd_ne ne]; exact r)
    · exact .inr ⟨f, by rw [upd_ne ne]; exact r⟩
  · rw [upd_ne (fun z => np (by rw [← z]; exact ha))]; exact A.own.lv a ha
  · obtain ⟨a, x, h1, h2, h3, h4⟩ := A.own.ow k d e
    exact ⟨a, x, h1, h2, by rw [upd_ne (fun z => np (by rw [← z]; exact List.mem_of_getElem? h1))]; exact h3, h4⟩
theorem Stp.priv {as as' : List Addr} {H G H' G' : Hp} (st : Stp as as' H G H' G') {p : Addr} {u : HO} (hp : H p = none) : Stp as as' H G (upd H' p u) G' := by
  refine ⟨st.ex, st.nw, fun a x na h => ?_, fun a h => ?_, st.pre⟩
  · rw [upd_ne (ne_of_none h hp)]; exact st.fr a x na h
  · by_cases z : a = p
    · rw [z, upd_same]; simp
    · rw [upd_ne z]; exact st.dm a h
/-- a private object through a step -/
theorem Stp.keepP {as : List Addr} {H G H' G' : Hp} (st : Stp as as H G H' G') {p : Addr} {u : HO} (np : p ∉ as) (g : G p = none) (h : H p = some u) : H' p = some u ∧ G' p = none := by
  have gn : G' p = none := by
    cases q : G' p with
    | none => rfl
    | some y =>
      rcases st.nw p g (by rw [q]; simp) with z | z
      · rw [h] at z; cases z
      · exact (np z).elim
  rcases st.fr p u (.inl np) h with z | ⟨z, _⟩
  · exact ⟨z, gn⟩
  · rw [gn] at z; cases z
/-- without the private object -/
def S_rem (H : Hp) (p : Addr) : Hp := fun a => if a = p then none else H a
theorem rem_same {H : Hp} {p : Addr} : S_rem H p p = none := by unfold S_rem; rw [if_pos rfl]
theorem rem_ne {H : Hp} {p a : Addr} (h : a ≠ p) : S_rem H p a = H a := by unfold S_rem; rw [if_neg h]
theorem rem_upd {H : Hp} {p : Addr} {u : HO} (h : H p = some u) : upd (S_rem H p) p u = H := by
  funext a
  by_cases z : a = p
  · rw [z, upd_same, h]
  · rw [upd_ne z, rem_ne z]
theorem At.rem {S : Ab} {σ : L2.St} {H G : Hp} {as : List Addr} (A : At S σ H G as) {p : Addr} (np : p ∉ as) (g : G p = none) : At S σ (S_rem H p) G as := by
  refine ⟨⟨fun a x q => ?_, A.own.len, A.own.nd, fun a ha => ?_, fun k d e => ?_⟩, A.ln, A.va, A.ob⟩
  · have ne : a ≠ p := ne_of_none q g
    rcases A.le q with r | ⟨f, r⟩
    · exact .inl (by rw [rem_ne ne]; exact r)
    · exact .inr ⟨f, by rw [rem_ne ne]; exact r⟩
  · rw [rem_ne (fun z => np (by rw [← z]; exact ha))]; exact A.own.lv a ha
  · obtain ⟨a, x, h1, h2, h3, h4⟩ := A.own.ow k d e
    exact ⟨a, x, h1, h2, by rw [rem_ne (fun z => np (by rw [← z]; exact List.mem_of_getElem? h1))]; exact h3, h4⟩
theorem Stp.rem {as as' : List Addr} {H G H' G' : Hp} (st : Stp as as' H G H' G') {p : Addr} (hp : H p = none) : Stp as as' H G (S_rem H' p) G' := by
  refine ⟨st.ex, st.nw, fun a x na h => ?_, fun a h => ?_, st.pre⟩
  · rw [rem_ne (ne_of_none h hp)]; exact st.fr a x na h
  · rw [rem_ne (fun z => h (by rw [z]; exact hp))]; exact st.dm a h
theorem Stp.slots {as : List Addr} {H G H' G' : Hp} {S S' : Ab} {σ σ' : L2.St} (st : Stp as as H G H' G') (A : At S σ H G as) (A' : At S' σ' H' G' as) : At ⟨S'.os, S.ρ⟩ σ H' G' as :=
  ⟨A'.own, A.ln, fun i d e => let ⟨v, h1, h2⟩ := A.va i d e; ⟨v, h1, h2.mono st.ex⟩, A.ob⟩

section
variable {X : Cx} {tg iter elt kx vx : Expr} {ifs : List Expr} {scope : Scope} {own : List (Str × Nat)} {pos : Pos} {wi : TI} {wI : WI} {g : TG} {wg : WG} {tt : TT} {wt : WT} {te tk tv : TE} {we wk wv : WE}
structure JTs (X : Cx) (ifs : List Expr) (t : TT) (w : WT) : Prop where
  pe : PTs X ifs t
  go : ∀ S Φ, w S Φ → GoT t S Φ
def wYes : WT := fun S Φ => Φ true S
theorem jts_nil : JTs X [] tYes wYes := ⟨pts_nil, fun S Φ h σ H G as A Q q => q true S H G h Stp.refl A⟩
theorem jts_one {c : Expr} (h : JT X c tt wt) : JTs X [c] tt wt := ⟨pts_one h.pe, h.go⟩
/-- [elt for target in iter if ..] -/
def wLc (vs : List Nat) (wI : WI) (wg : WG) (wt : WT) (we : WE) : WE := fun S Φ => wI S fun items S1 => ∃ IV : Nat → List (Option D) → List D → Prop, IV 0 S1.os [] ∧
  (∀ (i : Nat) (d : D) (os : List (Option D)) (acc : List D), items[i]? = some d → IV i os acc → acc.length < 16777216 ∧ wg d ⟨os, wipeA S1.ρ vs⟩ fun S2 => wt S2 fun b S3 =>
    (b = true → we S3 fun y S4 => IV (i + 1) S4.os (acc ++ [y])) ∧ (b = false → IV (i + 1) S3.os acc)) ∧ ∀ os acc, IV items.length os acc → Φ (.lst acc) ⟨os, S1.ρ⟩
theorem go_lc {vs : List Nat} (hi : ∀ S Ψ, wI S Ψ → GoI wi S Ψ) (hg : GoG g wg) (hw : GoW g vs) (mg : ∀ v σ H (Q Q' : L2.St → Hp → Prop), (∀ σ' H', Q σ' H' → Q' σ' H') → g v σ H Q → g v σ H Q') (ht : ∀ S Φ, wt S Φ → GoT tt S Φ) (he : ∀ S Φ, we S Φ → GoE te S Φ) :
    ∀ S Φ, wLc vs wI wg wt we S Φ → GoN (tLc wi g tt te vs) S Φ := by
  intro S Φ h σ H G as A Q q
  refine hi S _ h σ H G as A _ fun J items S1 H1 G1 ⟨IV, i0, is, ie⟩ st1 A1 wk => ?_
  intro Dl hD
  have gD : G1 Dl = none := A1.own.nG hD
  have nD : Dl ∉ as := fun z => A1.own.lv Dl z hD
  refine ⟨fun i m H' => m = items.length - i ∧ i ≤ items.length ∧ ∃ os acc xs G', IV i os acc ∧ H' Dl = some (.lst xs) ∧ Rps G' acc xs ∧ G' Dl = none ∧ Stp as as H1 G1 H' G' ∧ At ⟨os, wipeA S1.ρ vs⟩ (wipe σ vs) H' G' as,
    ⟨items.length, by simp, Nat.zero_le _, S1.os, [], [], G1, i0, upd_same, rfl, gD, Stp.refl.priv hD, (A1.wipe vs).priv nD gD⟩, ?_⟩
  rintro i m H2 ⟨rfl, hle, os, acc, xs, G2, p2, hx, rx, g2, st2, A2⟩
  obtain ⟨wgo, wstop⟩ := wk as H2 G2 ⟨os, S1.ρ⟩ σ st2 (st2.slots A1 A2) i
  by_cases hlt : i < items.length
  · obtain ⟨go1, go2⟩ := wgo hlt
    let N : Hp → Prop := fun H' => ∃ os acc xs G', IV (i + 1) os acc ∧ H' Dl = some (.lst xs) ∧ Rps G' acc xs ∧ G' Dl = none ∧ Stp as as H1 G1 H' G' ∧ At ⟨os, wipeA S1.ρ vs⟩ (wipe σ vs) H' G' as
    refine .inr ⟨go1, N,
      fun H' q => ⟨items.length - (i + 1), by omega, rfl, hlt, q⟩, fun x H3 y => ?_⟩
    obtain ⟨G3, d, hd, st3, A3, r3⟩ := go2 x H3 y
    have A3' : At ⟨os, wipeA S1.ρ vs⟩ (wipe σ vs) H3 G3 as := st3.slots A2 A3
    obtain ⟨h3x, g3x⟩ := st3.keepP nD g2 hx
    have w := (is i d os acc hd p2)
    refine mg _ _ _ _ _ ?_ (hw x (wipe σ vs) H3 _ (hg d _ _ w.2 (wipe σ vs) H3 G3 as x A3' r3 (fun σ2 H4 => tt σ2 H4 fun b H5 => if b = true then te σ2 H5 fun y H6 => ∃ ac, H6 Dl = some (.lst ac) ∧ ac.length < sizeLine ∧ N (upd H6 Dl (.lst (ac ++ [y]))) else N H5) fun S4 σ4 H4 G4 h4 st4 A4 => ?_))
    · rintro σ' H' ⟨z1, z2⟩
      exact ⟨by rw [z2, wipe_wipe], z1⟩
    · have st24 := st3.trans st4
      refine ht S4 _ h4 σ4 H4 G4 as A4 _ fun b S5 H5 G5 h5 st5 A5 => ?_
      have st25 := st24.trans st5
      obtain ⟨h5x, g5x⟩ := st25.keepP nD g2 hx
      have ww : ∀ {S' : Ab} {σ' : L2.St} {H' G' : Hp}, At S' σ' H' G' as → Stp as as H2 G2 H' G' → At ⟨S'.os, wipeA S1.ρ vs⟩ (wipe σ vs) H' G' as := fun A' st' => st'.slots A2 A'
      cases b with
      | true =>
        rw [if_pos rfl]
        refine he S5 _ (h5.1 rfl) σ4 H5 G5 as A5 _ fun yd S6 v H6 G6 h6 st6 A6 r6 => ?_
        have st26 := st25.trans st6
        obtain ⟨h6x, g6x⟩ := st26.keepP nD g2 hx
        refine ⟨xs, h6x, by rw [rx.length, sizeLine_eq]; exact w.1, S6.os, _, _, G6, h6, upd_same, (rx.mono st26.ex).append (Rps.cons r6 Rps.nil), g6x, (st2.trans st26).priv hD, ((ww A6 st26)).priv nD g6x⟩
      | false =>
        rw [if_neg Bool.false_ne_true]
        exact ⟨S5.os, acc, xs, G5, h5.2 rfl, h5x, rx.mono st25.ex, g5x, st2.trans st25, ww A5 st25⟩
  · have e : i = items.length := by omega
    subst e
    refine .inl ⟨wstop (Nat.le_refl _), ?_⟩
    have z := q (.lst acc) ⟨os, S1.ρ⟩ Dl (.lst xs) (S_rem H2 Dl) G2 (ie os acc p2) (st1.trans (st2.rem hD)) ((st2.slots A1 A2).rem nD g2) rem_same ⟨xs, rfl, rx⟩
    rw [rem_upd hx] at z
    exact z
theorem jn_lc (hc : X.calm = true) (hN : X.N.Nodup) (hi : JI X tg iter wi wI) (ok : BlkOk X.N X.env.scope scope own)
    (hg : ∀ (s : Shared) (H : Hp) (C : Addr) (cl : List (Str × Addr)) (fp : List Addr), JG (X.blk s H scope (compEnvC scope cl C X.env) fp) tg g wg) (hw : GoW g (own.map (·.2))) (mg : ∀ v σ H (Q Q' : L2.St → Hp → Prop), (∀ σ' H', Q σ' H' → Q' σ' H') → g v σ H Q → g v σ H Q')
    (ht : ∀ (s : Shared) (H : Hp) (C : Addr) (cl : List (Str × Addr)) (fp : List Addr), JTs (X.blk s H scope (compEnvC scope cl C X.env) fp) ifs tt wt)
    (he : ∀ (s : Shared) (H : Hp) (C : Addr) (cl : List (Str × Addr)) (fp : List Addr), JE (X.blk s H scope (compEnvC scope cl C X.env) fp) elt te we) (hs : ∀ x, foldedSetIterable iter X.env x = pure x := by intro _; rfl) :
    JN X (.ListComp elt [⟨tg, iter, ifs, 0⟩] scope pos) (tLc wi g tt te (own.map (·.2))) (wLc (own.map (·.2)) wI wg wt we) :=
  ⟨pe_lc hc hN hi.pe ok (fun s H C cl fp => (hg s H C cl fp).pe) (fun s H C cl fp => (ht s H C cl fp).pe) (fun s H C cl fp => (he s H C cl fp).pe) hs,
    go_lc hi.go (hg X.s_0 X.H_0 0 [] []).go hw mg (ht X.s_0 X.H_0 0 [] []).go (he X.s_0 X.H_0 0 [] []).go⟩
/-- y = [..] on one line -/
theorem js_setLc (i : Nat) {y : Str} {py : Pos} {spos : Pos} (hc : X.calm = true) (hN : X.N.Nodup) (hy : X.N[i]? = some y) (hyl : X.env.scope.names.lookup y = some .local)
    (hsw : swapsWith (.ListComp elt [⟨tg, iter, ifs, 0⟩] scope pos) (some (.Name y py)) spos.line X.env = pure true) (hi : JI X tg iter wi wI) (ok : BlkOk X.N X.env.scope scope own)
    (hg : ∀ (s : Shared) (H : Hp) (C : Addr) (cl : List (Str × Addr)) (fp : List Addr), JG (X.blk s H scope (compEnvC scope cl C X.env) fp) tg g wg) (hw : GoW g (own.map (·.2))) (mg : ∀ v σ H (Q Q' : L2.St → Hp → Prop), (∀ σ' H', Q σ' H' → Q' σ' H') → g v σ H Q → g v σ H Q')
    (ht : ∀ (s : Shared) (H : Hp) (C : Addr) (cl : List (Str × Addr)) (fp : List Addr), JTs (X.blk s H scope (compEnvC scope cl C X.env) fp) ifs tt wt)
    (he : ∀ (s : Shared) (H : Hp) (C : Addr) (cl : List (Str × Addr)) (fp : List Addr), JE (X.blk s H scope (compEnvC scope cl C X.env) fp) elt te we) (hs : ∀ x, foldedSetIterable iter X.env x = pure x := by intro _; rfl) :
    JS X (.Assign [.Name y py] (.ListComp elt [⟨tg, iter, ifs, 0⟩] scope pos) spos) (tAsg (tLc wi g tt te (own.map (·.2))) (gName i)) (wAsg (wLc (own.map (·.2)) wI wg wt we) (wgName i)) := by
  refine ⟨ps_setLc hc hN hy hyl hsw hi.pe ok (fun s H C cl fp => (hg s H C cl fp).pe) (fun s H C cl fp => (ht s H C cl fp).pe) (fun s H C cl fp => (he s H C cl fp).pe) hs, fun S K h σ H G as A Dn n r b c => ?_⟩
  refine go_lc hi.go (hg X.s_0 X.H_0 0 [] []).go hw mg (ht X.s_0 X.H_0 0 [] []).go (he X.s_0 X.H_0 0 [] []).go S _ h σ H G as A _ fun d S1 p u H1 G1 h1 st1 A1 hp hu => ?_
  have gp := A1.own.nG hp
  exact n _ _ _ _ _ h1 (st1.trans (Stp.new hp gp)) ((A1.new hp).set i (Rp.of upd_same (hu.mono (Sub.new gp))))
theorem js_ownLc (i : Nat) {y : Str} {py : Pos} {spos : Pos} (hc : X.calm = true) (hN : X.N.Nodup) (hy : X.N[i]? = some y) (hyl : X.env.scope.names.lookup y = some .local)
    (hsw : swapsWith (.ListComp elt [⟨tg, iter, ifs, 0⟩] scope pos) (some (.Name y py)) spos.line X.env = pure true) (hi : JI X tg iter wi wI) (ok : BlkOk X.N X.env.scope scope own)
    (hg : ∀ (s : Shared) (H : Hp) (C : Addr) (cl : List (Str × Addr)) (fp : List Addr), JG (X.blk s H scope (compEnvC scope cl C X.env) fp) tg g wg) (hw : GoW g (own.map (·.2))) (mg : ∀ v σ H (Q Q' : L2.St → Hp → Prop), (∀ σ' H', Q σ' H' → Q' σ' H') → g v σ H Q → g v σ H Q')
    (ht : ∀ (s : Shared) (H : Hp) (C : Addr) (cl : List (Str × Addr)) (fp : List Addr), JTs (X.blk s H scope (compEnvC scope cl C X.env) fp) ifs tt wt)
    (he : ∀ (s : Shared) (H : Hp) (C : Addr) (cl : List (Str × Addr)) (fp : List Addr), JE (X.blk s H scope (compEnvC scope cl C X.env) fp) elt te we) (hs : ∀ x, foldedSetIterable iter X.env x = pure x := by intro _; rfl) :
    JS X (.Assign [.Name y py] (.ListComp elt [⟨tg, iter, ifs, 0⟩] scope pos) spos) (tAsg (tLc wi g tt te (own.map (·.2))) (gName i)) (wOwn (wLc (own.map (·.2)) wI wg wt we) i) := by
  refine ⟨ps_setLc hc hN hy hyl hsw hi.pe ok (fun s H C cl fp => (hg s H C cl fp).pe) (fun s H C cl fp => (ht s H C cl fp).pe) (fun s H C cl fp => (he s H C cl fp).pe) hs, fun S K h σ H G as A Dn n r b c => ?_⟩
  refine go_lc hi.go (hg X.s_0 X.H_0 0 [] []).go hw mg (ht X.s_0 X.H_0 0 [] []).go (he X.s_0 X.H_0 0 [] []).go S _ h σ H G as A _ fun d S1 p u H1 G1 h1 st1 A1 hp hu => ?_
  obtain ⟨st2, A2⟩ := A1.mkOwn i hp hu
  exact n _ _ _ _ _ h1 (st1.trans st2) A2

/-! ### dicts by pairs -/
def dk (kvs : List (Key × D)) : D := .dic (kvs.map (·.1)) (kvs.map (·.2))
def dput (kvs : List (Key × D)) (k : Key) (d : D) : List (Key × D) := if (kvs.any fun kv => decide (kv.1 = k)) = true then kvs.map (fun kv => if kv.1 = k then (kv.1, d) else kv) else kvs ++ [(k, d)]
def dget (kvs : List (Key × D)) (k : Key) : Option D := (kvs.find? fun kv => decide (kv.1 = k)).map (·.2)
theorem kv_cons {p : Key × D} {kds : List (Key × D)} {G : Hp} {kvs : List (Key × V)} (h1 : kvs.map (·.1) = (p :: kds).map (·.1)) (h2 : Rps G ((p :: kds).map (·.2)) (kvs.map (·.2))) :
    ∃ v r, kvs = (p.1, v) :: r ∧ Rp G p.2 v ∧ r.map (·.1) = kds.map (·.1) ∧ Rps G (kds.map (·.2)) (r.map (·.2)) := by
  cases kvs with
  | nil => cases h1
  | cons q r =>
    obtain ⟨k, v⟩ := q
    rw [List.map_cons, List.map_cons] at h1
    injection h1 with e1 e2
    obtain ⟨v', vs, e3, e4, e5⟩ := h2
    rw [List.map_cons] at e3
    injection e3 with e6 e7
    exact ⟨v, r, by rw [show k = p.1 from e1], by rw [show v = v' from e6]; exact e4, e2, by rw [e7]; exact e5⟩
theorem kv_any {G : Hp} {k : Key} : ∀ {kds : List (Key × D)} {kvs : List (Key × V)}, kvs.map (·.1) = kds.map (·.1) → Rps G (kds.map (·.2)) (kvs.map (·.2)) → (kvs.any fun kv => decide (kv.1 = k)) = (kds.any fun kv => decide (kv.1 = k))
  | [], kvs, h1, _ => by rw [List.map_nil, List.map_eq_nil_iff] at h1; rw [h1]; rfl
  | p :: r, kvs, h1, h2 => by
    obtain ⟨v, r', e1, _, e3, e4⟩ := kv_cons h1 h2
    rw [e1, List.any_cons, List.any_cons, kv_any e3 e4]
theorem kv_put {G : Hp} {k : Key} {d : D} {v : V} (rv : Rp G d v) {kds : List (Key × D)} {kvs : List (Key × V)} (h1 : kvs.map (·.1) = kds.map (·.1)) (h2 : Rps G (kds.map (·.2)) (kvs.map (·.2))) :
    (putK kvs k v).map (·.1) = (dput kds k d).map (·.1) ∧ Rps G ((dput kds k d).map (·.2)) ((putK kvs k v).map (·.2)) := by
  have e := kv_any (k := k) h1 h2
  unfold putK dput
  rw [e]
  by_cases c : (kds.any fun kv => decide (kv.1 = k)) = true
  · rw [if_pos c, if_pos c]
    have : ∀ (kds : List (Key × D)) (kvs : List (Key × V)), kvs.map (·.1) = kds.map (·.1) → Rps G (kds.map (·.2)) (kvs.map (·.2)) →
        (kvs.map fun kv => if kv.1 = k then (kv.1, v) else kv).map (·.1) = (kds.map fun kv => if kv.1 = k then (kv.1, d) else kv).map (·.1) ∧
        Rps G ((kds.map fun kv => if kv.1 = k then (kv.1, d) else kv).map (·.2)) ((kvs.map fun kv => if kv.1 = k then (kv.1, v) else kv).map (·.2)) := by
      intro kds
      induction kds with
      | nil =>
        intro kvs h1 _
        rw [List.map_nil, List.map_eq_nil_iff] at h1
        rw [h1]
        exact ⟨rfl, rfl⟩
      | cons p r ih =>
        intro kvs h1 h2
        obtain ⟨w, r', e1, e2, e3, e4⟩ := kv_cons h1 h2
        obtain ⟨i1, i2⟩ := ih r' e3 e4
        subst e1
        by_cases z : p.1 = k
        · refine ⟨?_, ?_⟩
          · simp only [List.map_cons, if_pos z]; rw [i1]
          · simp only [List.map_cons, if_pos z]; exact Rps.cons rv i2
        · refine ⟨?_, ?_⟩
          · simp only [List.map_cons, if_neg z]; rw [i1]
          · simp only [List.map_cons, if_neg z]; exact Rps.cons e2 i2
    exact this kds kvs h1 h2
  · rw [if_neg c, if_neg c, List.map_append, List.map_append, List.map_append, List.map_append, h1]
    exact ⟨rfl, h2.append (Rps.cons rv Rps.nil)⟩
theorem kv_get {G : Hp} {k : Key} : ∀ {kds : List (Key × D)} {kvs : List (Key × V)} {d : D}, kvs.map (·.1) = kds.map (·.1) → Rps G (kds.map (·.2)) (kvs.map (·.2)) → dget kds k = some d → ∃ v, valV kvs k = some v ∧ Rp G d v
  | [], kvs, d, h1, _, e => by cases e
  | p :: r, kvs, d, h1, h2, e => by
    obtain ⟨w, r', e1, e2, e3, e4⟩ := kv_cons h1 h2
    subst e1
    unfold dget at e
    by_cases z : p.1 = k
    · rw [List.find?_cons, decide_eq_true z] at e
      have e : some p.2 = some d := e
      cases e
      exact ⟨w, valV_pos (p := (p.1, w)) z, e2⟩
    · rw [List.find?_cons, decide_eq_false z] at e
      obtain ⟨v, g1, g2⟩ := kv_get (k := k) (d := d) e3 e4 e
      exact ⟨v, by rw [valV_neg (p := (p.1, w)) z]; exact g1, g2⟩
theorem kv_none {G : Hp} {k : Key} {kds : List (Key × D)} {kvs : List (Key × V)} (h1 : kvs.map (·.1) = kds.map (·.1)) (h2 : Rps G (kds.map (·.2)) (kvs.map (·.2))) : (valV kvs k).isSome = (dget kds k).isSome := by
  rw [← valV_any, kv_any h1 h2]
  have : ∀ l : List (Key × D), (l.any fun kv => decide (kv.1 = k)) = (dget l k).isSome := by
    intro l
    induction l with
    | nil => rfl
    | cons p r ih =>
      rw [List.any_cons]
      unfold dget at ih ⊢
      by_cases z : p.1 = k
      · rw [List.find?_cons, decide_eq_true z]; rfl
      · rw [List.find?_cons, decide_eq_false z, Bool.false_or]; exact ih
  exact this kds
theorem dput_length (kvs : List (Key × D)) (k : Key) (d : D) : (dput kvs k d).length ≤ kvs.length + 1 := by
  unfold dput
  split
  · rw [List.length_map]; omega
  · rw [List.length_append]; exact Nat.le_refl _
def keyD : D → Option Key
  | .int i => some (.inl i)
  | .str x => some (.inr x)
  | _ => none
theorem keyD_rp {G : Hp} {d : D} {k : Key} {v : V} (h : keyD d = some k) (r : Rp G d v) : v = kV k := by
  cases d with
  | int i => cases h; exact r
  | str x => cases h; exact r
  | _ => cases h
/-- {k: v for target in iter if ..} -/
def wDc (vs : List Nat) (wI : WI) (wg : WG) (wt : WT) (wk wv : WE) : WE := fun S Φ => wI S fun items S1 => ∃ IV : Nat → List (Option D) → List (Key × D) → Prop, IV 0 S1.os [] ∧
  (∀ (i : Nat) (d : D) (os : List (Option D)) (acc : List (Key × D)), items[i]? = some d → IV i os acc → acc.length < 16777216 ∧ wg d ⟨os, wipeA S1.ρ vs⟩ fun S2 => wt S2 fun b S3 =>
    (b = true → wk S3 fun y S4 => wv S4 fun z S5 => ∃ k, keyD y = some k ∧ IV (i + 1) S5.os (dput acc k z)) ∧ (b = false → IV (i + 1) S3.os acc)) ∧ ∀ os acc, IV items.length os acc → Φ (dk acc) ⟨os, S1.ρ⟩
theorem go_dc {vs : List Nat} (hi : ∀ S Ψ, wI S Ψ → GoI wi S Ψ) (hg : GoG g wg) (hw : GoW g vs) (mg : ∀ v σ H (Q Q' : L2.St → Hp → Prop), (∀ σ' H', Q σ' H' → Q' σ' H') → g v σ H Q → g v σ H Q') (ht : ∀ S Φ, wt S Φ → GoT tt S Φ) (hk : ∀ S Φ, wk S Φ → GoE tk S Φ) (he : ∀ S Φ, wv S Φ → GoE tv S Φ) :
    ∀ S Φ, wDc vs wI wg wt wk wv S Φ → GoN (tDc wi g tt tk tv vs) S Φ := by
  intro S Φ h σ H G as A Q q
  refine hi S _ h σ H G as A _ fun J items S1 H1 G1 ⟨IV, i0, is, ie⟩ st1 A1 wk_ => ?_
  intro Dl hD
  have gD : G1 Dl = none := A1.own.nG hD
  have nD : Dl ∉ as := fun z => A1.own.lv Dl z hD
  refine ⟨fun i m H' => m = items.length - i ∧ i ≤ items.length ∧ ∃ os acc xs G', IV i os acc ∧ H' Dl = some (.dK xs) ∧ xs.map (·.1) = acc.map (·.1) ∧ Rps G' (acc.map (·.2)) (xs.map (·.2)) ∧ G' Dl = none ∧ Stp as as H1 G1 H' G' ∧ At ⟨os, wipeA S1.ρ vs⟩ (wipe σ vs) H' G' as,
    ⟨items.length, by simp, Nat.zero_le _, S1.os, [], [], G1, i0, upd_same, rfl, rfl, gD, Stp.refl.priv hD, (A1.wipe vs).priv nD gD⟩, ?_⟩
  rintro i m H2 ⟨rfl, hle, os, acc, xs, G2, p2, hx, kx, rx, g2, st2, A2⟩
  obtain ⟨wgo, wstop⟩ := wk_ as H2 G2 ⟨os, S1.ρ⟩ σ st2 (st2.slots A1 A2) i
  by_cases hlt : i < items.length
  · obtain ⟨go1, go2⟩ := wgo hlt
    let N : Hp → Prop := fun H' => ∃ os acc xs G', IV (i + 1) os acc ∧ H' Dl = some (.dK xs) ∧ xs.map (·.1) = acc.map (·.1) ∧ Rps G' (acc.map (·.2)) (xs.map (·.2)) ∧ G' Dl = none ∧ Stp as as H1 G1 H' G' ∧ At ⟨os, wipeA S1.ρ vs⟩ (wipe σ vs) H' G' as
    refine .inr ⟨go1, N,
      fun H' q => ⟨items.length - (i + 1), by omega, rfl, hlt, q⟩, fun x H3 y => ?_⟩
    obtain ⟨G3, d, hd, st3, A3, r3⟩ := go2 x H3 y
    have A3' : At ⟨os, wipeA S1.ρ vs⟩ (wipe σ vs) H3 G3 as := st3.slots A2 A3
    have w := (is i d os acc hd p2)
    refine mg _ _ _ _ _ ?_ (hw x (wipe σ vs) H3 _ (hg d _ _ w.2 (wipe σ vs) H3 G3 as x A3' r3 (fun σ2 H4 => tt σ2 H4 fun b H5 => if b = true then tk σ2 H5 fun y H6 => tv σ2 H6 fun z H7 => ∃ kvs k, y = kV k ∧ H7 Dl = some (.dK kvs) ∧ kvs.length < sizeLine ∧ N (upd H7 Dl (.dK (putK kvs k z))) else N H5) fun S4 σ4 H4 G4 h4 st4 A4 => ?_))
    · rintro σ' H' ⟨z1, z2⟩
      exact ⟨by rw [z2, wipe_wipe], z1⟩
    · have st24 := st3.trans st4
      refine ht S4 _ h4 σ4 H4 G4 as A4 _ fun b S5 H5 G5 h5 st5 A5 => ?_
      have st25 := st24.trans st5
      have ww : ∀ {S' : Ab} {σ' : L2.St} {H' G' : Hp}, At S' σ' H' G' as → Stp as as H2 G2 H' G' → At ⟨S'.os, wipeA S1.ρ vs⟩ (wipe σ vs) H' G' as := fun A' st' => st'.slots A2 A'
      cases b with
      | true =>
        rw [if_pos rfl]
        refine hk S5 _ (h5.1 rfl) σ4 H5 G5 as A5 _ fun yd S6 v H6 G6 h6 st6 A6 r6 => ?_
        refine he S6 _ h6 σ4 H6 G6 as A6 _ fun zd S7 v2 H7 G7 ⟨k, hk7, h7⟩ st7 A7 r7 => ?_
        have st27 := (st25.trans st6).trans st7
        obtain ⟨h7x, g7x⟩ := st27.keepP nD g2 hx
        have pk := kv_put (k := k) r7 kx (rx.mono st27.ex)
        have l : xs.length = acc.length := by
          have := congrArg List.length kx
          rw [List.length_map, List.length_map] at this
          exact this
        refine ⟨xs, k, keyD_rp hk7 r6, h7x, by rw [l, sizeLine_eq]; exact w.1, S7.os, _, _, G7, h7, upd_same, pk.1, pk.2, g7x, (st2.trans st27).priv hD, ((ww A7 st27)).priv nD g7x⟩
      | false =>
        rw [if_neg Bool.false_ne_true]
        obtain ⟨h5x, g5x⟩ := st25.keepP nD g2 hx
        exact ⟨S5.os, acc, xs, G5, h5.2 rfl, h5x, kx, rx.mono st25.ex, g5x, st2.trans st25, ww A5 st25⟩
  · have e : i = items.length := by omega
    subst e
    refine .inl ⟨wstop (Nat.le_refl _), ?_⟩
    have z := q (dk acc) ⟨os, S1.ρ⟩ Dl (.dK xs) (S_rem H2 Dl) G2 (ie os acc p2) (st1.trans (st2.rem hD)) ((st2.slots A1 A2).rem nD g2) rem_same ⟨xs, rfl, kx, rx⟩
    rw [rem_upd hx] at z
    exact z
theorem jn_dc (hc : X.calm = true) (hN : X.N.Nodup) (hi : JI X tg iter wi wI) (ok : BlkOk X.N X.env.scope scope own)
    (hg : ∀ (s : Shared) (H : Hp) (C : Addr) (cl : List (Str × Addr)) (fp : List Addr), JG (X.blk s H scope (compEnvC scope cl C X.env) fp) tg g wg) (hw : GoW g (own.map (·.2))) (mg : ∀ v σ H (Q Q' : L2.St → Hp → Prop), (∀ σ' H', Q σ' H' → Q' σ' H') → g v σ H Q → g v σ H Q')
    (ht : ∀ (s : Shared) (H : Hp) (C : Addr) (cl : List (Str × Addr)) (fp : List Addr), JTs (X.blk s H scope (compEnvC scope cl C X.env) fp) ifs tt wt)
    (hk : ∀ (s : Shared) (H : Hp) (C : Addr) (cl : List (Str × Addr)) (fp : List Addr), JE (X.blk s H scope (compEnvC scope cl C X.env) fp) kx tk wk)
    (he : ∀ (s : Shared) (H : Hp) (C : Addr) (cl : List (Str × Addr)) (fp : List Addr), JE (X.blk s H scope (compEnvC scope cl C X.env) fp) vx tv wv) (hs : ∀ x, foldedSetIterable iter X.env x = pure x := by intro _; rfl) :
    JN X (.DictComp kx vx [⟨tg, iter, ifs, 0⟩] scope pos) (tDc wi g tt tk tv (own.map (·.2))) (wDc (own.map (·.2)) wI wg wt wk wv) :=
  ⟨pe_dc hc hN hi.pe ok (fun s H C cl fp => (hg s H C cl fp).pe) (fun s H C cl fp => (ht s H C cl fp).pe) (fun s H C cl fp => (hk s H C cl fp).pe) (fun s H C cl fp => (he s H C cl fp).pe) hs,
    go_dc hi.go (hg X.s_0 X.H_0 0 [] []).go hw mg (ht X.s_0 X.H_0 0 [] []).go (hk X.s_0 X.H_0 0 [] []).go (he X.s_0 X.H_0 0 [] []).go⟩
end
end S
set_option Elab.async false
set_option linter.all false
set_option maxRecDepth 100000
set_option autoImplicit false
/-! S: subscripts, slices, lengths, classes, what lists and dicts do -/
namespace S
open PySem L2 PyProof.Rows
section
variable {X : Cx} {a b e : Expr} {es : List Expr} {pos p p2 : Pos} {ta tb te td ty tv : TE} {wa wb we wd wy wv : WE} {tA : TA} {wA : WA}
theorem Stp.back {as as' : List Addr} {H G H' G' : Hp} (st : Stp as as' H G H' G') {p : Addr} (h : H' p = none) : H p = none := by
  cases z : H p with
  | none => rfl
  | some o => exact absurd h (st.dm p (by rw [z]; simp))
/-! ### a[i] -/
def fIx : F2 := fun x y S Φ => match x, y with
  | .lst ds, .int i => ∃ d, atI ds i = some d ∧ Φ d S
  | .tup ds, .int i => ∃ d, atI ds i = some d ∧ Φ d S
  | .str z, .int i => ∃ c, z.length ≤ 16777216 ∧ atI z.cps.toList i = some c ∧ Φ (.str ⟨#[c]⟩) S
  | _, _ => False
theorem atI_rp {G : Hp} {ds : List D} {xs : List V} {i : Int} {d : D} (r : Rps G ds xs) (h : atI ds i = some d) : ∃ v, atI xs i = some v ∧ Rp G d v := by
  unfold atI at h ⊢
  rw [r.length]
  cases q : ixN ds.length i with
  | none => rw [q] at h; cases h
  | some j =>
    rw [q] at h
    exact r.get (show ds[j]? = some d from h)
theorem od_ix {K : PySem.W.Frag} : OpD (rIx K) fIx := by
  intro S σ H G as x y v u A rx ry Φ Q h q
  unfold fIx at h
  split at h
  · rename_i ds i
    obtain ⟨d, h1, h2⟩ := h
    obtain ⟨p, xs, rfl, gp, rr⟩ := rx
    obtain ⟨w, g1, g2⟩ := atI_rp rr h1
    exact .inl ⟨p, xs, i, w, rfl, ry, A.sql gp, g1, q d S w H G h2 Stp.refl A g2⟩
  · rename_i ds i
    obtain ⟨d, h1, h2⟩ := h
    obtain ⟨p, xs, rfl, gp, rr⟩ := rx
    obtain ⟨w, g1, g2⟩ := atI_rp rr h1
    exact .inr (.inl ⟨p, xs, i, w, rfl, ry, A.sqt gp, g1, q d S w H G h2 Stp.refl A g2⟩)
  · rename_i z i
    obtain ⟨c, h1, h2, h3⟩ := h
    exact .inr (.inr ⟨z, i, c, rx, ry, sl_of h1, h2, q _ S _ H G h3 Stp.refl A rfl⟩)
  · exact h.elim
theorem je_ix (ha : JE X a ta wa) (hb : JE X b tb wb) (hs : PlainIx b := by exact fun _ _ => rfl) : JE X (.Subscript a b pos) (tOp (rIx X.K) ta tb) (wOp fIx wa wb) := ⟨pe_ix ix_seq ha.pe hb.pe hs, go_op od_ix ha.go hb.go⟩
/-- d[k] -/
def fDg : F2 := fun x y S Φ => ∃ kvs k d, x = dk kvs ∧ keyD y = some k ∧ dget kvs k = some d ∧ Φ d S
theorem dk_rp {G : Hp} {kvs : List (Key × D)} {v : V} (h : Rp G (dk kvs) v) : ∃ a xs, v = .ref a ∧ G a = some (.dK xs) ∧ xs.map (·.1) = kvs.map (·.1) ∧ Rps G (kvs.map (·.2)) (xs.map (·.2)) := h
theorem je_dget (hu : X.A.units + 1 < cLine) (ha : JE X a td wd) (hb : JE X b ty wy) (hs : NoSl b := by exact fun _ _ => rfl) : JE X (.Subscript a b pos) (tDGet td ty) (wOp fDg wd wy) := by
  refine ⟨pe_dget hu ha.pe hb.pe hs, fun S Φ h σ H G as A Q q => ?_⟩
  refine ha.go S _ h σ H G as A _ fun x S1 v H1 G1 h1 st1 A1 r1 => ?_
  refine hb.go S1 _ h1 σ H1 G1 as A1 _ fun y S2 u H2 G2 ⟨kvs, k, d, e1, e2, e3, e4⟩ st2 A2 r2 => ?_
  subst e1
  obtain ⟨a, xs, rfl, ga, hk, hr⟩ := dk_rp (r1.mono st2.ex)
  obtain ⟨w, g1, g2⟩ := kv_get hk hr e3
  exact ⟨a, w, rfl, .inl ⟨xs, k, A2.le ga, keyD_rp e2 r2, g1.symm⟩, q d S2 w H2 G2 e4 (st1.trans st2) A2 g2⟩
/-- k in d -/
def fDin (neg : Bool) : F2 := fun y x S Φ => ∃ kvs k, x = dk kvs ∧ keyD y = some k ∧ Φ (.bl (if neg then !(dget kvs k).isSome else (dget kvs k).isSome)) S
theorem go_din (ha : ∀ S Φ, wy S Φ → GoE ty S Φ) (hb : ∀ S Φ, wd S Φ → GoE td S Φ) : ∀ S Φ, wOp (fDin false) wy wd S Φ → GoE (tDIn ty td) S Φ := by
  intro S Φ h σ H G as A Q q
  refine ha S _ h σ H G as A _ fun y S1 u H1 G1 h1 st1 A1 r1 => ?_
  refine hb S1 _ h1 σ H1 G1 as A1 _ fun x S2 v H2 G2 ⟨kvs, k, e1, e2, e4⟩ st2 A2 r2 => ?_
  subst e1
  obtain ⟨a, xs, rfl, ga, hk, hr⟩ := dk_rp r2
  refine ⟨a, _, rfl, .inl ⟨xs, k, A2.le ga, keyD_rp e2 (r1.mono st2.ex), rfl⟩, q _ S2 _ H2 G2 e4 (st1.trans st2) A2 ?_⟩
  rw [kv_none hk hr]
  rfl
theorem go_dnin (ha : ∀ S Φ, wy S Φ → GoE ty S Φ) (hb : ∀ S Φ, wd S Φ → GoE td S Φ) : ∀ S Φ, wOp (fDin true) wy wd S Φ → GoE (tDNotIn ty td) S Φ := by
  intro S Φ h σ H G as A Q q
  refine ha S _ h σ H G as A _ fun y S1 u H1 G1 h1 st1 A1 r1 => ?_
  refine hb S1 _ h1 σ H1 G1 as A1 _ fun x S2 v H2 G2 ⟨kvs, k, e1, e2, e4⟩ st2 A2 r2 => ?_
  subst e1
  obtain ⟨a, xs, rfl, ga, hk, hr⟩ := dk_rp r2
  refine ⟨a, _, rfl, .inl ⟨xs, k, A2.le ga, keyD_rp e2 (r1.mono st2.ex), rfl⟩, q _ S2 _ H2 G2 e4 (st1.trans st2) A2 ?_⟩
  rw [kv_none hk hr]
  rfl
theorem je_din (hu : X.A.units + 1 < cLine) (ha : JE X a ty wy) (hb : JE X b td wd) (hm : behindInMarks .In b = false := by rfl) : JE X (.Compare a [.In] [b] pos) (tDIn ty td) (wOp (fDin false) wy wd) := ⟨pe_cmp (pc_din hu ha.pe hb.pe) hm, go_din ha.go hb.go⟩
theorem je_dnin (hu : X.A.units + 1 < cLine) (ha : JE X a ty wy) (hb : JE X b td wd) (hm : behindInMarks .NotIn b = false := by rfl) : JE X (.Compare a [.NotIn] [b] pos) (tDNotIn ty td) (wOp (fDin true) wy wd) := ⟨pe_cmp (pc_dnotin hu ha.pe hb.pe) hm, go_dnin ha.go hb.go⟩
theorem go_tB {t : TE} {w : WE} (h : ∀ S Φ, w S Φ → GoE t S Φ) : ∀ S Φ, wTest w S Φ → GoT (tB t) S Φ := go_test h
theorem jt_din (hu : X.A.units + 1 < cLine) (ha : JE X a ty wy) (hb : JE X b td wd) (hm : behindInMarks .In b = false := by rfl) : JT X (.Compare a [.In] [b] pos) (tB (tDIn ty td)) (wTest (wOp (fDin false) wy wd)) := ⟨pt_cmp (pc_din hu ha.pe hb.pe) hm, go_tB (go_din ha.go hb.go)⟩
theorem jt_dnin (hu : X.A.units + 1 < cLine) (ha : JE X a ty wy) (hb : JE X b td wd) (hm : behindInMarks .NotIn b = false := by rfl) : JT X (.Compare a [.NotIn] [b] pos) (tB (tDNotIn ty td)) (wTest (wOp (fDin true) wy wd)) := ⟨pt_cmp (pc_dnotin hu ha.pe hb.pe) hm, go_tB (go_dnin ha.go hb.go)⟩

/-! ### slices -/
def cutD (xs : List D) (lo hi : Option Int) : List D := (xs.drop (HT.sIx xs.length 0 lo)).take (HT.sIx xs.length xs.length hi - HT.sIx xs.length 0 lo)
/-- the ends of a slice -/
abbrev WO := Ab → (Option Int → Ab → Prop) → Prop
structure JO (X : Cx) (o : Option Expr) (t : TO) (w : WO) : Prop where
  pe : PO X o t
  go : ∀ S Φ, w S Φ → ∀ (σ : L2.St) (H G : Hp) (as : List Addr), At S σ H G as → ∀ Q : Option Int → Hp → Prop, (∀ i S' H' G', Φ i S' → Stp as as H G H' G' → At S' σ H' G' as → Q i H') → t σ H Q
def woN : WO := fun S Φ => Φ none S
def woS (w : WE) : WO := fun S Φ => w S fun d S1 => match d with
  | .int i => Φ (some i) S1
  | _ => False
theorem jo_none : JO X none tNoPart woN := ⟨po_none, fun S Φ h σ H G as A Q q => q none S H G h Stp.refl A⟩
theorem jo_some (h : JE X e te we) : JO X (some e) (tPart te) (woS we) := by
  refine ⟨po_some h.pe, fun S Φ hw σ H G as A Q q => ?_⟩
  refine h.go S _ hw σ H G as A _ fun d S1 v H1 G1 h1 st1 A1 r1 => ?_
  cases d with
  | int i => exact ⟨i, r1, q (some i) S1 H1 G1 h1 st1 A1⟩
  | _ => exact h1.elim
def wSlL (w : WE) (wl wh : WO) : WE := fun S Φ => w S fun d S1 => wl S1 fun lo S2 => wh S2 fun hi S3 => match d with
  | .lst ds => Φ (.lst (cutD ds lo hi)) S3
  | _ => False
theorem cut_rp {G : Hp} {ds : List D} {xs : List V} (r : Rps G ds xs) (lo hi : Option Int) : Rps G (cutD ds lo hi) (cutV xs lo hi) := by
  unfold cutD cutV
  rw [r.length]
  exact (r.drop _).take _
theorem jn_slice {lo hi : Option Expr} {tl th : TO} {wl wh : WO} (h : JE X e te we) (hl : JO X lo tl wl) (hh : JO X hi th wh) : JN X (.Subscript e (.Slice lo hi none p2) pos) (tSl (rSlL X.K) te tl th) (wSlL we wl wh) := by
  refine ⟨pe_slice sl_list h.pe hl.pe hh.pe, fun S Φ hw σ H G as A Q q => ?_⟩
  refine h.go S _ hw σ H G as A _ fun d S1 v H1 G1 h1 st1 A1 r1 => ?_
  refine hl.go S1 _ h1 σ H1 G1 as A1 _ fun i S2 H2 G2 h2 st2 A2 => ?_
  refine hh.go S2 _ h2 σ H2 G2 as A2 _ fun j S3 H3 G3 h3 st3 A3 => ?_
  cases d with
  | lst ds =>
    obtain ⟨a, xs, rfl, ga, rx⟩ := (r1.mono st2.ex).mono st3.ex
    exact ⟨a, xs, rfl, A3.sql ga, fun p hp => q _ S3 p _ H3 G3 h3 ((st1.trans st2).trans st3) A3 hp ⟨_, rfl, cut_rp rx i j⟩⟩
  | _ => exact h3.elim
/-- a text's slice -/
def wSlS (w : WE) (wl wh : WO) : WE := fun S Φ => w S fun d S1 => wl S1 fun lo S2 => wh S2 fun hi S3 => match d with
  | .str z => z.length ≤ 16777216 ∧ Φ (.str (cutS z lo hi)) S3
  | _ => False
theorem je_sliceS {lo hi : Option Expr} {tl th : TO} {wl wh : WO} (h : JE X e te we) (hl : JO X lo tl wl) (hh : JO X hi th wh) : JE X (.Subscript e (.Slice lo hi none p2) pos) (tSl rSlS te tl th) (wSlS we wl wh) := by
  refine ⟨pe_slice sl_str h.pe hl.pe hh.pe, fun S Φ hw σ H G as A Q q => ?_⟩
  refine h.go S _ hw σ H G as A _ fun d S1 v H1 G1 h1 st1 A1 r1 => ?_
  refine hl.go S1 _ h1 σ H1 G1 as A1 _ fun i S2 H2 G2 h2 st2 A2 => ?_
  refine hh.go S2 _ h2 σ H2 G2 as A2 _ fun j S3 H3 G3 h3 st3 A3 => ?_
  cases d with
  | str z => exact ⟨z, r1, sl_of h3.1, q _ S3 _ H3 G3 h3.2 ((st1.trans st2).trans st3) A3 rfl⟩
  | _ => exact h3.elim

/-! ### lists joined, repeated; new lists of what is there -/
theorem Inv.lstR {pins : List (Addr × Obj)} {σ : L2.St} {H : Hp} {s : Shared} {l : Addr} {xs : List V} (I : L2.Inv X pins σ H s) (h : Rd H l (.lst xs)) : xs.length ≤ sizeLine ∧ ∃ (its : List Value) (n : Nat), Vals xs its ∧ xs.length = its.length ∧ s.heap.get? l = some { cls := .type "list", data := .seq its.toArray n } := by
  obtain ⟨z, its, n, r, e⟩ := h.ok I.hok
  exact ⟨z, its, n, r, r.length, e⟩
def rCatR : R2 := fun x y H Q => ∃ l b xs zs, x = .ref l ∧ y = .ref b ∧ Rd H l (.lst xs) ∧ Rd H b (.lst zs) ∧ xs.length + zs.length ≤ sizeLine ∧ ∀ p, H p = none → Q (.ref p) (upd H p (.lst (xs ++ zs)))
theorem op_catR : OpR X (binaryOp .Add) rCatR := by
  intro pins s σ H x y v u Q I rx ry h
  obtain ⟨l, b, xs, zs, rfl, rfl, hH, hB, hz, q⟩ := h
  cases rx
  cases ry
  obtain ⟨z, its, n, r, hl, e⟩ := Inv.lstR I hH
  obtain ⟨z2, its2, n2, r2, hl2, e2⟩ := Inv.lstR I hB
  refine PySem.P.add_list e e2 ?_ (by rw [List.size_toArray, List.size_toArray]; omega)
  have ea : its.toArray ++ its2.toArray = (its ++ its2).toArray := by simp
  rw [ea]
  exact ⟨.ref _, _, I.lnew (t' := s.toks) (r.append r2) (by rw [List.length_append]; omega), rfl, q _ I.fresh⟩
def fCat : F2 := fun x y S Φ => match x, y with
  | .lst ds, .lst es => ds.length + es.length ≤ 16777216 ∧ Φ (.lst (ds ++ es)) S
  | _, _ => False
theorem on_cat : OpN rCatR fCat := by
  intro S σ H G as x y v u A rx ry Φ Q h q
  unfold fCat at h
  split at h
  · rename_i ds es
    obtain ⟨l, xs, rfl, gl, rl⟩ := rx
    obtain ⟨b, zs, rfl, gb, rb⟩ := ry
    exact ⟨l, b, xs, zs, rfl, rfl, A.le gl, A.le gb, by rw [rl.length, rb.length]; exact sl_of h.1, fun p hp => q _ S p _ H G h.2 Stp.refl A hp ⟨_, rfl, rl.append rb⟩⟩
  · exact h.elim
theorem jn_cat (ha : JE X a ta wa) (hb : JE X b tb wb) : JN X (.BinOp a .Add b pos) (tOp rCatR ta tb) (wOp fCat wa wb) := jn_op op_catR on_cat ha hb
/-- + of texts -/
def rCatS : R2 := fun x y H Q => ∃ i j, x = .str i ∧ y = .str j ∧ i.length + j.length ≤ sizeLine ∧ Q (.str (i ++ j)) H
def fCatS : F2 := fun x y S Φ => match x, y with
  | .str i, .str j => i.length + j.length ≤ 16777216 ∧ Φ (.str (i ++ j)) S
  | _, _ => False
theorem je_catS (ha : JE X a ta wa) (hb : JE X b tb wb) : JE X (.BinOp a .Add b pos) (tOp rCatS ta tb) (wOp fCatS wa wb) := je_op op_add_str (by
  intro S σ H G as x y v u A rx ry Φ Q h q
  unfold fCatS at h
  split at h
  · rename_i i j
    exact ⟨i, j, rx, ry, sl_of h.1, q _ S _ H G h.2 Stp.refl A rfl⟩
  · exact h.elim) ha hb
/-- [x, ..] * k -/
def rRepR : R2 := fun x y H Q => ∃ l k xs, x = .ref l ∧ y = .int k ∧ H l = some (.lst xs) ∧ -(2 ^ 63) ≤ k ∧ k < 2 ^ 63 ∧ xs.length * k.toNat ≤ sizeLine ∧
  ∀ p, H p = none → Q (.ref p) (upd H p (.lst (List.replicate k.toNat xs).flatten))
/-- of a display just made -/
def wRep (wa wb : WE) : WE := fun S Φ => wa S fun x S1 => wb S1 fun y S2 => match x, y with
  | .lst ds, .int k => (-(2 ^ 63) ≤ k ∧ k < 2 ^ 63 ∧ ds.length * k.toNat ≤ 16777216) ∧ Φ (.lst (List.replicate k.toNat ds).flatten) S2
  | _, _ => False
theorem rep_rp {G : Hp} {ds : List D} {xs : List V} (r : Rps G ds xs) : ∀ k : Nat, Rps G (List.replicate k ds).flatten (List.replicate k xs).flatten
  | 0 => rfl
  | k + 1 => by
    rw [List.replicate_succ, List.replicate_succ, List.flatten_cons, List.flatten_cons]
    exact r.append (rep_rp r k)
theorem jn_rep (ha : JN X a ta wa) (hb : JE X b tb wb) : JN X (.BinOp a .Mult b pos) (tOp rRepR ta tb) (wRep wa wb) := by
  refine ⟨pe_op op_rep ha.pe hb.pe, fun S Φ h σ H G as A Q q => ?_⟩
  refine ha.go S _ h σ H G as A _ fun x S1 p u H1 G1 h1 st1 A1 hp hu => ?_
  have gp := A1.own.nG hp
  have np : p ∉ as := fun z => A1.own.lv p z hp
  refine hb.go S1 _ h1 σ _ G1 as (A1.priv np gp) _ fun y S2 v H2 G2 h2 st2 A2 r2 => ?_
  have keep := st2.keepP np gp upd_same
  split at h2
  · rename_i ds k
    obtain ⟨xs, rfl, rx⟩ := hu
    refine ⟨p, k, xs, rfl, r2, keep.1, h2.1.1, h2.1.2.1, by rw [rx.length]; exact sl_of h2.1.2.2, fun p' hp' => ?_⟩
    exact q _ S2 p' _ H2 G2 h2.2 ((st1.priv (u := .lst xs) (st1.back hp)).trans st2) A2 hp' ⟨_, rfl, rep_rp (rx.mono st2.ex) k.toNat⟩
  · exact h2.elim

/-! ### len -/
def rLenA (K : PySem.W.Frag) : RC := fun xs H Q => (∃ x n, xs = [x] ∧ LenV K x H n ∧ Q (.int n) H) ∨ ∃ a kvs, xs = [V.ref a] ∧ Rd H a (.dK kvs) ∧ Q (.int kvs.length) H
theorem call_lenA : CallR X (.builtin "len") (rLenA X.K) := by
  intro pins s σ H xs us Q I r h
  rcases h with h | ⟨a, kvs, rfl, ha, q⟩
  · exact call_len pins s σ H xs us Q I r h
  · obtain ⟨u, rfl, ru⟩ := vals1 r
    cases ru
    exact d_len I ha fun t s' I' => ⟨.int kvs.length, H, I', ⟨t, rfl⟩, q⟩
def fLen : List D → WE := fun xs S Φ => match xs with
  | [.lst ds] => Φ (.int ds.length) S
  | [.tup ds] => Φ (.int ds.length) S
  | [.str z] => z.length ≤ 16777216 ∧ Φ (.int z.length) S
  | [.dic _ ds] => Φ (.int ds.length) S
  | _ => False
theorem ca_len {K : PySem.W.Frag} : CaD (rLenA K) fLen := by
  intro S σ H G as xs vs A r Φ Q h q
  unfold fLen at h
  split at h
  · rename_i ds
    obtain ⟨v, ws, rfl, ⟨a, ys, rfl, ga, ry⟩, rw_⟩ := r
    have rw_ : ws = [] := rw_
    subst rw_
    exact .inl ⟨_, ys.length, rfl, .inl ⟨ys, A.sql ga, rfl⟩, q _ S _ H G h Stp.refl A (by rw [ry.length]; rfl)⟩
  · rename_i ds
    obtain ⟨v, ws, rfl, ⟨a, ys, rfl, ga, ry⟩, rw_⟩ := r
    have rw_ : ws = [] := rw_
    subst rw_
    exact .inl ⟨_, ys.length, rfl, .inr ⟨ys, A.sqt ga, rfl⟩, q _ S _ H G h Stp.refl A (by rw [ry.length]; rfl)⟩
  · rename_i z
    obtain ⟨v, ws, rfl, rv, rw_⟩ := r
    have rw_ : ws = [] := rw_
    subst rw_
    have rv : v = .str z := rv
    subst rv
    exact .inl ⟨_, z.length, rfl, ⟨sl_of h.1, rfl⟩, q _ S _ H G h.2 Stp.refl A rfl⟩
  · rename_i ks ds
    obtain ⟨v, ws, rfl, ⟨a, ys, rfl, ga, hk, ry⟩, rw_⟩ := r
    have rw_ : ws = [] := rw_
    subst rw_
    exact .inr ⟨a, ys, rfl, A.le ga, q _ S _ H G h Stp.refl A (by rw [← ry.length, List.length_map]; rfl)⟩
  · exact h.elim
theorem je_len (hg : Gl X "len") (hm : X.mg "len" = none) (ha : JA X (e :: es) tA wA) (hs : starEach (e :: es) X.env = (false, eval e X.env) :: starEach es X.env := by rfl) (hpl : (backTo pos (starEach es X.env)).any (·.1) = false := by rfl) :
    JE X (.Call (.Name "len" p) (e :: es) [] pos) (tCB (rLenA X.K) tA) (wCB fLen wA) := je_cb call_lenA ca_len hg hm boot_len ha (hs := hs) (hpl := hpl)
theorem je_abs (hg : Gl X "abs") (hm : X.mg "abs" = none) (ha : JA X (e :: es) tA wA) (hs : starEach (e :: es) X.env = (false, eval e X.env) :: starEach es X.env := by rfl) (hpl : (backTo pos (starEach es X.env)).any (·.1) = false := by rfl) :
    JE X (.Call (.Name "abs" p) (e :: es) [] pos) (tCB rAbs tA) (wCB fAbs wA) := je_cb call_abs ca_abs hg hm (by decide +kernel) ha (hs := hs) (hpl := hpl)
theorem je_intc (hg : Gl X "int") (hm : X.mg "int" = none) (ha : JA X (e :: es) tA wA) (hs : starEach (e :: es) X.env = (false, eval e X.env) :: starEach es X.env := by rfl) (hpl : (backTo pos (starEach es X.env)).any (·.1) = false := by rfl) :
    JE X (.Call (.Name "int" p) (e :: es) [] pos) (tCB rInt tA) (wCB fInt wA) := je_ty call_int1 ca_int hg hm (by decide +kernel) ha (hs := hs) (hpl := hpl)
/-- max, min of two -/
def fMax2 : List D → WE := fun xs S Φ => match xs with
  | [.int i, .int j] => Φ (.int (if j > i then j else i)) S
  | _ => False
def fMin2 : List D → WE := fun xs S Φ => match xs with
  | [.int i, .int j] => Φ (.int (if j < i then j else i)) S
  | _ => False
def rMax2 : RC := fun xs H Q => ∃ i j, xs = [.int i, .int j] ∧ Q (.int (if j > i then j else i)) H
def rMin2 : RC := fun xs H Q => ∃ i j, xs = [.int i, .int j] ∧ Q (.int (if j < i then j else i)) H
theorem ints2 {G : Hp} {i j : Int} {vs : List V} (r : Rps G [.int i, .int j] vs) : vs = [.int i, .int j] := by
  obtain ⟨v, ws, rfl, rv, v2, ws2, rfl, rv2, rw_⟩ := r
  have rw_ : ws2 = [] := rw_
  subst rw_
  rw [show v = .int i from rv, show v2 = .int j from rv2]
theorem ca_max2 : CaD rMax2 fMax2 := by
  intro S σ H G as xs vs A r Φ Q h q
  unfold fMax2 at h
  split at h
  · rename_i i j
    exact ⟨i, j, ints2 r, q _ S _ H G h Stp.refl A rfl⟩
  · exact h.elim
theorem ca_min2 : CaD rMin2 fMin2 := by
  intro S σ H G as xs vs A r Φ Q h q
  unfold fMin2 at h
  split at h
  · rename_i i j
    exact ⟨i, j, ints2 r, q _ S _ H G h Stp.refl A rfl⟩
  · exact h.elim
theorem je_max2 (hc : X.calm = true) (hg : Gl X "max") (hm : X.mg "max" = none) (ha : JA X (e :: es) tA wA) (hs : starEach (e :: es) X.env = (false, eval e X.env) :: starEach es X.env := by rfl) (hpl : (backTo pos (starEach es X.env)).any (·.1) = false := by rfl) :
    JE X (.Call (.Name "max" p) (e :: es) [] pos) (tCB rMax2 tA) (wCB fMax2 wA) := je_cb (call_max2 hc) ca_max2 hg hm (by decide +kernel) ha (hs := hs) (hpl := hpl)
theorem je_min2 (hc : X.calm = true) (hg : Gl X "min") (hm : X.mg "min" = none) (ha : JA X (e :: es) tA wA) (hs : starEach (e :: es) X.env = (false, eval e X.env) :: starEach es X.env := by rfl) (hpl : (backTo pos (starEach es X.env)).any (·.1) = false := by rfl) :
    JE X (.Call (.Name "min" p) (e :: es) [] pos) (tCB rMin2 tA) (wCB fMin2 wA) := je_cb (call_min2 hc) ca_min2 hg hm (by decide +kernel) ha (hs := hs) (hpl := hpl)

/-! ### isinstance of a built-in class -/
def D.tyOf : D → Option String
  | .non => some "NoneType"
  | .bl _ => some "bool"
  | .int _ => some "int"
  | .str _ => some "str"
  | .tup _ => some "tuple"
  | .lst _ => some "list"
  | .dic _ _ => some "dict"
  | _ => none
theorem tyx_of {S : Ab} {σ : L2.St} {H G : Hp} {as : List Addr} {K : PySem.W.Frag} (A : At S σ H G as) {d : D} {v : V} {T : String} (h : d.tyOf = some T) (r : Rp G d v) : TyX K H v (.type T) := by
  cases d with
  | non => cases h; rw [show v = .non from r]; exact .base .non
  | bl b => cases h; rw [show v = .bl b from r]; exact .base (.bl b)
  | int i => cases h; rw [show v = .int i from r]; exact .base (.int i)
  | str x => cases h; rw [show v = .str x from r]; exact .base (.str x)
  | tup ds =>
    cases h
    obtain ⟨a, xs, rfl, ga, _⟩ := r
    rcases A.le ga with z | ⟨o, z⟩
    · exact .base (.tup z)
    · exact .fTuple z
  | lst ds =>
    cases h
    obtain ⟨a, xs, rfl, ga, _⟩ := r
    rcases A.le ga with z | ⟨o, z⟩
    · exact .base (.lst z)
    · exact .base (.frz z)
  | dic ks ds =>
    cases h
    obtain ⟨a, xs, rfl, ga, _⟩ := r
    rcases A.le ga with z | ⟨o, z⟩
    · exact .base (.dK z)
    · exact .fDict z
  | ins C ns ds => cases h
def D.isI (T : String) (d : D) : Option Bool := d.tyOf.bind fun t => kitB t T
def wIsi (T : String) (w : WE) : WE := fun S Φ => w S fun d S1 => ∃ b, d.isI T = some b ∧ Φ (.bl b) S1
theorem je_isi {T : String} {x : Str} {p3 : Pos} (hg : Gl X "isinstance") (hm : X.mg "isinstance" = none) (hgT : Gl X x) (hmT : X.mg x = none) (hvT : bootBuiltins x = some (.type T)) (hn : x ≠ "__name__") (hd : (x == ("__debug__" : Str)) = false) (ha : JE X e te we)
    (hs : starEach [e, .Name x p3] X.env = (false, eval e X.env) :: starEach [.Name x p3] X.env := by rfl) (hs2 : starEach [.Name x p3] X.env = (false, eval (.Name x p3) X.env) :: starEach [] X.env := by rfl) (hpl : (backTo pos (starEach [.Name x p3] X.env)).any (·.1) = false := by rfl) :
    JE X (.Call (.Name "isinstance" p) [e, .Name x p3] [] pos) (tCB (rIsi X.K) (tCons te (tCons (tC (.ty T)) tNil))) (wIsi T we) := by
  refine ⟨pe_callB call_isi hg hm (by decide +kernel) (pa_cons ha.pe (pa_cons (pe_bltn hgT hmT hvT rfl hn hd) pa_nil hs2) hs) (by decide) (by decide) hs hpl, fun S Φ hw σ H G as A Q q => ?_⟩
  refine ha.go S _ hw σ H G as A _ fun d S1 v H1 G1 ⟨b, h1, h2⟩ st1 A1 r1 => ?_
  unfold D.isI at h1
  cases ht : d.tyOf with
  | none => rw [ht] at h1; cases h1
  | some t =>
    rw [ht] at h1
    exact ⟨v, .ty T, .type t, .type T, b, rfl, .ty T, tyx_of A1 ht r1, kit_ty h1, q _ S1 _ H1 G1 h2 st1 A1 rfl⟩

/-! ### own lists: append, pop, insert, extend, items stored -/
theorem At.upOwn {S : Ab} {σ : L2.St} {H G : Hp} {as : List Addr} (A : At S σ H G as) {k : Nat} {d0 d : D} {a : Addr} {u : HO} (h0 : S.os[k]? = some (some d0)) (hk : as[k]? = some a) (hu : Hold G d u) :
    Stp as as H G (upd H a u) G ∧ At ⟨S.os.set k (some d), S.ρ⟩ σ (upd H a u) G as := by
  obtain ⟨b, u0, g1, g2, g3, g4⟩ := A.own.ow k d0 h0
  rw [hk] at g1
  obtain rfl : a = b := Option.some.inj g1
  have ha : a ∈ as := List.mem_of_getElem? hk
  have hks : k < S.os.length := (List.getElem?_eq_some_iff.mp h0).1
  refine ⟨⟨Sub.refl _, fun _ g n => (n g).elim, fun b x nb h => .inl ?_, fun b h => ?_, [], by simp⟩, ⟨⟨fun b x g => ?_, ?_, A.own.nd, fun b hb => ?_, fun j e q => ?_⟩, A.ln, A.va, A.ob⟩⟩
  · have ne : b ≠ a := fun z => by
      subst z
      rcases nb with nb | ⟨w, nb⟩
      · exact nb ha
      · rw [g2] at nb; cases nb
    rw [upd_ne ne]; exact h
  · by_cases z : b = a
    · rw [z, upd_same]; simp
    · rw [upd_ne z]; exact h
  · have ne : b ≠ a := ne_of_none g g2
    rcases A.le g with r | ⟨f, r⟩
    · exact .inl (by rw [upd_ne ne]; exact r)
    · exact .inr ⟨f, by rw [upd_ne ne]; exact r⟩
  · show as.length = (S.os.set k _).length
    rw [List.length_set]; exact A.own.len
  · by_cases z : b = a
    · rw [z, upd_same]; simp
    · rw [upd_ne z]; exact A.own.lv b hb
  · have q : (S.os.set k (some d))[j]? = some (some e) := q
    by_cases z : k = j
    · subst z
      rw [List.getElem?_set_self hks] at q
      cases q
      exact ⟨a, u, hk, g2, upd_same, hu⟩
    · rw [List.getElem?_set_ne z] at q
      obtain ⟨b, x, h1, h2, h3, h4⟩ := A.own.ow j e q
      have ne : b ≠ a := fun y => by
        subst y
        obtain ⟨l1, e1⟩ := List.getElem?_eq_some_iff.mp h1
        obtain ⟨l2, e2⟩ := List.getElem?_eq_some_iff.mp hk
        exact z ((List.getElem_inj A.own.nd).mp (e2.trans e1.symm))
      exact ⟨b, x, h1, h2, by rw [upd_ne ne]; exact h3, h4⟩
def Ab.put (S : Ab) (k : Nat) (d : D) : Ab := ⟨S.os.set k (some d), S.ρ⟩
/-- the own object that stands in a slot -/
def Ab.atO (S : Ab) (i : Nat) : Option (Nat × D) := match S.ρ[i]? with
  | some (some (.o k)) => (match S.os[k]? with
    | some (some d) => some (k, d)
    | _ => none)
  | _ => none
theorem At.atO {S : Ab} {σ : L2.St} {H G : Hp} {as : List Addr} (A : At S σ H G as) {i k : Nat} {d : D} (h : S.atO i = some (k, d)) :
    ∃ a u, S.os[k]? = some (some d) ∧ as[k]? = some a ∧ σ[i]? = some (some (V.ref a)) ∧ G a = none ∧ H a = some u ∧ Hold G d u := by
  unfold Ab.atO at h
  split at h
  · rename_i k' e
    split at h
    · rename_i d' e2
      cases h
      obtain ⟨a, h1, h2⟩ := A.ob i k e
      obtain ⟨b, u, g1, g2, g3, g4⟩ := A.own.ow k d e2
      rw [h1] at g1
      cases g1
      exact ⟨a, u, e2, h1, h2, g2, g3, g4⟩
    · cases h
  · cases h
/-- x.append(e), x an own list -/
def wApp (i : Nat) (w : WE) : WE := fun S Φ => ∃ k ds, S.atO i = some (k, .lst ds) ∧ w S fun d S1 => ∃ ds1, S1.atO i = some (k, .lst ds1) ∧ ds1.length < 16777216 ∧ Φ .non (S1.put k (.lst (ds1 ++ [d])))
theorem sl_lt {n : Nat} (h : n < 16777216) : n < sizeLine := by rw [sizeLine_eq]; exact h
theorem je_app (i : Nat) {x : Str} {pl : Sem Bool} {apos cpos : Pos} (h : JE X e te we) (hN : X.N[i]? = some x := by rfl) (hv : Vis X.env.scope x := by first | exact Or.inl rfl | exact Or.inr (Or.inl rfl) | exact Or.inr (Or.inr rfl)) (hd : (x == ("__debug__" : Str)) = false := by decide)
    (hcd : (x == ("__classdict__" : Str)) = false := by decide) (hpe : PE X (.Call (.Attribute (.Name x p) "append" apos) [e] [] cpos) (tBM X.K "list" rAppend (tVar i) (tCons te tNil))) :
    JE X (.Call (.Attribute (.Name x p) "append" apos) [e] [] cpos) (tBM X.K "list" rAppend (tVar i) (tCons te tNil)) (wApp i we) := by
  refine ⟨hpe, fun S Φ ⟨k, ds, h1, hw⟩ σ H G as A Q q => ?_⟩
  obtain ⟨a, u, e1, e2, e3, e4, e5, xs, rfl, rx⟩ := A.atO h1
  refine ⟨_, e3, .inl ⟨rfl, xs, .inl (.inl e5)⟩, ?_⟩
  refine h.go S _ hw σ H G as A _ fun d S1 v H1 G1 ⟨ds1, g1, g2, g3⟩ st1 A1 r1 => ?_
  obtain ⟨b, u1, f1, f2, f3, f4, f5, ys, rfl, ry⟩ := A1.atO g1
  rw [e2] at f2
  cases f2
  obtain ⟨st2, A2⟩ := A1.upOwn (d := .lst (ds1 ++ [d])) (u := .lst (ys ++ [v])) f1 e2 ⟨_, rfl, ry.append (Rps.cons r1 Rps.nil)⟩
  exact ⟨a, ys, v, rfl, rfl, f5, by rw [ry.length]; exact sl_lt g2, q _ _ _ _ G1 g3 (st1.trans st2) A2 rfl⟩
end
end S
set_option Elab.async false
set_option linter.all false
set_option maxRecDepth 100000
set_option autoImplicit false
/-! S: defs that stand in the text, by name -/
namespace S
open PySem L2 PyProof.Rows
/-- a def of the text as the top has left it -/
def Given (K : PySem.W.Frag) (mg : Str → Option Value) (x : Str) (st : Stmt) (dvs : List V) : Prop := ∃ f fd, FunD K x x (defArgs st) (defBody st) (defScope st) dvs [] f fd ∧ mg x = some (.ref f)
/-- a def by what it promises -/
structure DefOk (P : Program) (w : World) (K : PySem.W.Frag) (mg : Str → Option Value) (base : Heap) (k : Nat) (x : Str) (ps : List Str) (dvs : List V) (ct : Ct) : Prop where
  ex : ∃ f fd ds, mg x = some (.ref f) ∧ PySem.W.keepIn K (.ref f) = true ∧ Binds K fd ps ds ∧ Vals dvs ds ∧ FnOk P w K mg base CX0 k f fd ps (SpD ct)
section
variable {P : Program} {w : World} {K : PySem.W.Frag} {mg : Str → Option Value} {base : Heap}
theorem mk_def {x : Str} {st : Stmt} {N ps : List Str} {k : Nat} {ct : Ct} (F : Given K mg x st []) (Sc : FnScope N ps (defScope st)) (len : ∀ os args Φ, ct os args Φ → args.length = ps.length)
    (hbind : ∀ (kV doc pm : Value) (an : Option Addr) (cdv c : Value) (us : List Value), us.length = ps.length → bindArgs (PySem.W.fnOf x x (defArgs st) (defBody st) (defScope st) .none kV doc pm an cdv c) ⟨us, []⟩ = pure (ps.zip us))
    (hb : ∀ (f : Addr) (cdv : Value) (A : Around) (outer : List Env) (s : Shared) (H : Hp) (E : XK), Room k (A.deeper (envOfC x (defScope st) s.heap.objs.size f cdv)) →
      ∃ t ws, JSs (cxOf CX0 P w K mg base N x (defScope st) f cdv A outer s H E).nox (defBody st) t ws ∧ ∀ os args Φ, ct os args Φ → ws (KEnd os.length Φ) ⟨os.map some, slots N args⟩) : DefOk P w K mg base (k + 1) x ps [] ct := by
  obtain ⟨f, fd, F, g⟩ := F
  refine ⟨f, fd, [], g, F.kp, F.bindsN hbind, .nil, F.ok Sc (fun vs H Q E hs => ?_) (fun cdv A outer s H vs Q E hr hs => ?_)⟩
  · obtain ⟨os, args, G, as, Φ, o, r, hc, _⟩ := hs
    rw [r.length]; exact len os args Φ hc
  · obtain ⟨t, ws, J, h⟩ := hb f cdv A outer s H E hr
    exact ⟨t, PSs.nox J.pe, GoS.fn J.go h H vs Q E hs⟩
end
section
variable {X : Cx} {k : Nat} {ps : List Str} {ct : Ct} {x : Str} {p pos : Pos} {e : Expr} {es : List Expr} {ta : TA} {wa : WA}
/-- a def called with all its arguments -/
theorem jc (F : DefOk X.prog X.w X.K X.mg X.base k x ps [] ct) (hr : Room k X.A) (hg : Gl X x) (ha : JA X (e :: es) ta wa) (hdb : (x == ("__debug__" : Str)) = false := by decide) (he : starEach (e :: es) X.env = (false, eval e X.env) :: starEach es X.env := by rfl)
    (hpl : (backTo pos (starEach es X.env)).any (·.1) = false := by rfl) : JE X (.Call (.Name x p) (e :: es) [] pos) (tCall (SpD ct) [] E0 ta) (wCall ct [] wa) := by
  obtain ⟨f, fd, ds, h1, h2, h3, h4, h5⟩ := F.ex
  cases h4
  exact je_call h5 hr hg h1 h2 h3 .nil (fun _ => rfl) ha hdb he hpl
theorem jcO (j : Nat) (F : DefOk X.prog X.w X.K X.mg X.base k x ps [] ct) (hr : Room k X.A) (hg : Gl X x) (ha : JA X (e :: es) ta wa) (hdb : (x == ("__debug__" : Str)) = false := by decide) (he : starEach (e :: es) X.env = (false, eval e X.env) :: starEach es X.env := by rfl)
    (hpl : (backTo pos (starEach es X.env)).any (·.1) = false := by rfl) : JE X (.Call (.Name x p) (e :: es) [] pos) (tCall (SpD ct) [] E0 ta) (wCallO ct [] j wa) := by
  obtain ⟨f, fd, ds, h1, h2, h3, h4, h5⟩ := F.ex
  cases h4
  exact je_callO j h5 hr hg h1 h2 h3 .nil (fun _ => rfl) ha hdb he hpl
end
end S
set_option Elab.async false
set_option linter.all false
set_option maxRecDepth 100000
set_option autoImplicit false
/-! S: equality -/
namespace S
open PySem L2 PyProof.Rows
noncomputable instance instDecD : DecidableEq D := fun _ _ => Classical.propDecidable _
mutual
def toP : D → PyData
  | .non => .none
  | .bl b => .bool b
  | .int i => .int i
  | .str x => .str x
  | .tup ds => .tuple (toPs ds)
  | .lst ds => .list (toPs ds)
  | .dic _ _ => .none
  | .ins _ _ _ => .none
def toPs : List D → List PyData
  | [] => []
  | d :: ds => toP d :: toPs ds
end
mutual
/-- no truth value, no dict, no instance within; texts short; n deep at most -/
def okE : Nat → D → Bool
  | _, .non => true
  | _, .int _ => true
  | _, .str x => PyData.canLay0 (.str x)
  | n + 1, .tup ds => okEs n ds
  | n + 1, .lst ds => okEs n ds
  | _, _ => false
def okEs : Nat → List D → Bool
  | _, [] => true
  | n, d :: ds => okE n d && okEs n ds
end
mutual
theorem okE_lay : ∀ (n : Nat) (d : D), okE n d = true → (toP d).canLay0 = true ∧ (toP d).depth ≤ n
  | n, .non, _ => by cases n <;> exact ⟨rfl, Nat.zero_le _⟩
  | n, .int i, _ => by cases n <;> exact ⟨rfl, Nat.zero_le _⟩
  | n, .str x, h => by
    have h : PyData.canLay0 (.str x) = true := by cases n <;> exact h
    exact ⟨h, by show PyData.depth (.str x) ≤ n; simp [PyData.depth]⟩
  | 0, .tup ds, h => by cases h
  | n + 1, .tup ds, h => by
    obtain ⟨h1, h2⟩ := okEs_lay n ds h
    refine ⟨by show PyData.canLay0 (.tuple _) = true; simpa [PyData.canLay0] using h1, ?_⟩
    show PyData.depth (.tuple _) ≤ _
    simp only [PyData.depth]; omega
  | 0, .lst ds, h => by cases h
  | n + 1, .lst ds, h => by
    obtain ⟨h1, h2⟩ := okEs_lay n ds h
    refine ⟨by show PyData.canLay0 (.list _) = true; simpa [PyData.canLay0] using h1, ?_⟩
    show PyData.depth (.list _) ≤ _
    simp only [PyData.depth]; omega
  | n, .bl b, h => by cases n <;> cases h
  | n, .dic _ _, h => by cases n <;> cases h
  | n, .ins _ _ _, h => by cases n <;> cases h
theorem okEs_lay : ∀ (n : Nat) (ds : List D), okEs n ds = true → PyData.canLayAll0 (toPs ds) = true ∧ PyData.depthAll (toPs ds) ≤ n
  | n, [], _ => ⟨rfl, Nat.zero_le _⟩
  | n, d :: ds, h => by
    unfold okEs at h
    rw [Bool.and_eq_true] at h
    obtain ⟨h1, h2⟩ := okE_lay n d h.1
    obtain ⟨h3, h4⟩ := okEs_lay n ds h.2
    refine ⟨by show PyData.canLayAll0 (toP d :: toPs ds) = true; simp [PyData.canLayAll0, h1, h3], ?_⟩
    show PyData.depthAll (toP d :: toPs ds) ≤ n
    simp only [PyData.depthAll]; omega
end
theorem okE_shaped {n : Nat} {d : D} (h : okE n d = true) (hn : n ≤ 64) : SeqAt.shaped (toP d) = true := by
  obtain ⟨h1, h2⟩ := okE_lay n d h
  unfold SeqAt.shaped
  rw [h1, decide_eq_true (by omega)]
  rfl
mutual
theorem eqv_dec : ∀ (n : Nat) (x y : D) (m : Nat), okE n x = true → okE m y = true → PyData.eqv (toP x) (toP y) = decide (x = y)
  | n, .non, y, m, _, hy => by
    cases y with
    | non => simp [toP, PyData.eqv]
    | bl _ => cases m <;> cases hy
    | dic _ _ => cases m <;> cases hy
    | ins _ _ _ => cases m <;> cases hy
    | _ => simp [toP, PyData.eqv]
  | n, .int i, y, m, _, hy => by
    cases y with
    | int j =>
      show (i == j) = _
      by_cases e : i = j
      · subst e; simp
      · rw [decide_eq_false (fun z => e (by injection z))]
        exact beq_eq_false_iff_ne.mpr e
    | bl _ => cases m <;> cases hy
    | dic _ _ => cases m <;> cases hy
    | ins _ _ _ => cases m <;> cases hy
    | _ => simp [toP, PyData.eqv]
  | n, .str i, y, m, _, hy => by
    cases y with
    | str j =>
      show (i == j) = _
      by_cases e : i = j
      · subst e; simp
      · rw [decide_eq_false (fun z => e (by injection z))]
        exact beq_eq_false_iff_ne.mpr e
    | bl _ => cases m <;> cases hy
    | dic _ _ => cases m <;> cases hy
    | ins _ _ _ => cases m <;> cases hy
    | _ => simp [toP, PyData.eqv]
  | 0, .tup xs, _, _, h, _ => by cases h
  | n + 1, .tup xs, y, m, hx, hy => by
    cases y with
    | tup ys =>
      cases m with
      | zero => cases hy
      | succ m =>
        show PyData.eqvAll (toPs xs) (toPs ys) = _
        rw [eqvs_dec n xs ys m hx hy]
        by_cases e : xs = ys
        · subst e; simp
        · rw [decide_eq_false e, decide_eq_false (fun z => e (by injection z))]
    | bl _ => cases m <;> cases hy
    | dic _ _ => cases m <;> cases hy
    | ins _ _ _ => cases m <;> cases hy
    | _ => simp [toP, PyData.eqv]
  | 0, .lst xs, _, _, h, _ => by cases h
  | n + 1, .lst xs, y, m, hx, hy => by
    cases y with
    | lst ys =>
      cases m with
      | zero => cases hy
      | succ m =>
        show PyData.eqvAll (toPs xs) (toPs ys) = _
        rw [eqvs_dec n xs ys m hx hy]
        by_cases e : xs = ys
        · subst e; simp
        · rw [decide_eq_false e, decide_eq_false (fun z => e (by injection z))]
    | bl _ => cases m <;> cases hy
    | dic _ _ => cases m <;> cases hy
    | ins _ _ _ => cases m <;> cases hy
    | _ => simp [toP, PyData.eqv]
  | n, .bl b, _, _, h, _ => by cases n <;> cases h
  | n, .dic _ _, _, _, h, _ => by cases n <;> cases h
  | n, .ins _ _ _, _, _, h, _ => by cases n <;> cases h
theorem eqvs_dec : ∀ (n : Nat) (xs ys : List D) (m : Nat), okEs n xs = true → okEs m ys = true → PyData.eqvAll (toPs xs) (toPs ys) = decide (xs = ys)
  | n, [], [], _, _, _ => by simp [toPs, PyData.eqvAll]
  | n, [], y :: ys, _, _, _ => by simp [toPs, PyData.eqvAll]
  | n, x :: xs, [], _, _, _ => by simp [toPs, PyData.eqvAll]
  | n, x :: xs, y :: ys, m, hx, hy => by
    unfold okEs at hx hy
    rw [Bool.and_eq_true] at hx hy
    show (PyData.eqv (toP x) (toP y) && PyData.eqvAll (toPs xs) (toPs ys)) = _
    rw [eqv_dec n x y m hx.1 hy.1, eqvs_dec n xs ys m hx.2 hy.2]
    by_cases e : x = y
    · subst e
      by_cases e2 : xs = ys
      · subst e2; simp
      · simp [e2]
    · simp [e]
end
mutual
theorem dp_of {S : Ab} {σ : L2.St} {H G : Hp} {as : List Addr} {K : PySem.W.Frag} (A : At S σ H G as) : ∀ (n : Nat) (d : D) (v : V), okE n d = true → Rp G d v → Dp K H v (toP d)
  | n, .non, v, _, r => by rw [show v = .non from r]; exact .non
  | n, .int i, v, _, r => by rw [show v = .int i from r]; exact .int i
  | n, .str i, v, _, r => by rw [show v = .str i from r]; exact .str i
  | 0, .tup ds, _, h, _ => by cases h
  | n + 1, .tup ds, _, h, ⟨a, xs, e, ga, rx⟩ => by rw [e]; exact .tup (A.sqt ga) (dp_all A n ds xs h rx)
  | 0, .lst ds, _, h, _ => by cases h
  | n + 1, .lst ds, _, h, ⟨a, xs, e, ga, rx⟩ => by rw [e]; exact .lst (A.sql ga) (dp_all A n ds xs h rx)
  | n, .bl b, v, h, r => by cases n <;> cases h
  | n, .dic _ _, _, h, _ => by cases n <;> cases h
  | n, .ins _ _ _, _, h, _ => by cases n <;> cases h
theorem dp_all {S : Ab} {σ : L2.St} {H G : Hp} {as : List Addr} {K : PySem.W.Frag} (A : At S σ H G as) : ∀ (n : Nat) (ds : List D) (vs : List V), okEs n ds = true → Rps G ds vs → DpAll K H vs (toPs ds)
  | n, [], vs, _, r => by rw [show vs = [] from r]; exact .nil
  | n, d :: ds, _, h, ⟨v, vs, e, r1, r2⟩ => by
    unfold okEs at h
    rw [Bool.and_eq_true] at h
    rw [e]
    exact .cons (dp_of A n d v h.1 r1) (dp_all A n ds vs h.2 r2)
end
/-- what may be compared -/
def cmpOk : D → D → Bool
  | .bl _, .bl _ => true
  | x, y => okE 60 x && okE 60 y
def rEqA (K : PySem.W.Frag) : R2 := fun x y H Q => (∃ a b, x = .bl a ∧ y = .bl b ∧ Q (.bl (a == b)) H) ∨ rEqD K x y H Q
def rNeA (K : PySem.W.Frag) : R2 := fun x y H Q => (∃ a b, x = .bl a ∧ y = .bl b ∧ Q (.bl (!(a == b))) H) ∨ rNeD K x y H Q
def fEq : F2 := fun x y S Φ => cmpOk x y = true ∧ Φ (.bl (decide (x = y))) S
def fNe : F2 := fun x y S Φ => cmpOk x y = true ∧ Φ (.bl (!decide (x = y))) S
theorem cmpOk_cases {x y : D} (h : cmpOk x y = true) : (∃ a b, x = .bl a ∧ y = .bl b) ∨ (okE 60 x = true ∧ okE 60 y = true) := by
  unfold cmpOk at h
  split at h
  · exact .inl ⟨_, _, rfl, rfl⟩
  · rw [Bool.and_eq_true] at h; exact .inr h
theorem dec_bl2 (a b : Bool) : decide (D.bl a = D.bl b) = (a == b) := by
  cases a <;> cases b <;> simp
section
variable {X : Cx} {a b e : Expr} {pos : Pos} {ta tb te : TE} {wa wb we : WE}
theorem op_eqA (hu : X.A.units + 64 < cLine) : OpR X (compareOp .Eq) (rEqA X.K) := by
  intro pins s σ H x y v u Q I rx ry h
  rcases h with ⟨a, b, rfl, rfl, q⟩ | h
  · exact op_eq pins s σ H _ _ v u Q I rx ry ⟨rfl, by rw [dec_bl]; exact q⟩
  · exact op_eqD hu pins s σ H x y v u Q I rx ry h
theorem op_neA (hu : X.A.units + 64 < cLine) : OpR X (compareOp .NotEq) (rNeA X.K) := by
  intro pins s σ H x y v u Q I rx ry h
  rcases h with ⟨a, b, rfl, rfl, q⟩ | h
  · exact op_ne pins s σ H _ _ v u Q I rx ry ⟨rfl, by rw [dec_bl]; exact q⟩
  · exact op_neD hu pins s σ H x y v u Q I rx ry h
theorem od_eq {K : PySem.W.Frag} : OpD (rEqA K) fEq := by
  intro S σ H G as x y v u A rx ry Φ Q ⟨h1, h2⟩ q
  rcases cmpOk_cases h1 with ⟨a, b, rfl, rfl⟩ | ⟨hx, hy⟩
  · rw [dec_bl2] at h2
    exact .inl ⟨a, b, rx, ry, q _ S _ H G h2 Stp.refl A rfl⟩
  · exact .inr ⟨toP x, toP y, dp_of A 60 x v hx rx, dp_of A 60 y u hy ry, okE_shaped hx (by decide), okE_shaped hy (by decide), by rw [eqv_dec 60 x y 60 hx hy]; exact q _ S _ H G h2 Stp.refl A rfl⟩
theorem od_ne {K : PySem.W.Frag} : OpD (rNeA K) fNe := by
  intro S σ H G as x y v u A rx ry Φ Q ⟨h1, h2⟩ q
  rcases cmpOk_cases h1 with ⟨a, b, rfl, rfl⟩ | ⟨hx, hy⟩
  · rw [dec_bl2] at h2
    exact .inl ⟨a, b, rx, ry, q _ S _ H G h2 Stp.refl A rfl⟩
  · exact .inr ⟨toP x, toP y, dp_of A 60 x v hx rx, dp_of A 60 y u hy ry, okE_shaped hx (by decide), okE_shaped hy (by decide), by rw [eqv_dec 60 x y 60 hx hy]; exact q _ S _ H G h2 Stp.refl A rfl⟩
theorem je_eq (hu : X.A.units + 64 < cLine) (ha : JE X a ta wa) (hb : JE X b tb wb) : JE X (.Compare a [.Eq] [b] pos) (tOp (rEqA X.K) ta tb) (wOp fEq wa wb) := je_cmp (op_eqA hu) od_eq ha hb (nomark _)
theorem je_ne (hu : X.A.units + 64 < cLine) (ha : JE X a ta wa) (hb : JE X b tb wb) : JE X (.Compare a [.NotEq] [b] pos) (tOp (rNeA X.K) ta tb) (wOp fNe wa wb) := je_cmp (op_neA hu) od_ne ha hb (nomark _)
theorem jt_eq (hu : X.A.units + 64 < cLine) (ha : JE X a ta wa) (hb : JE X b tb wb) : JT X (.Compare a [.Eq] [b] pos) (tTest (tOp (rEqA X.K) ta tb)) (wTest (wOp fEq wa wb)) := jt_cmp (op_eqA hu) od_eq ha hb (nomark _)
theorem jt_ne (hu : X.A.units + 64 < cLine) (ha : JE X a ta wa) (hb : JE X b tb wb) : JT X (.Compare a [.NotEq] [b] pos) (tTest (tOp (rNeA X.K) ta tb)) (wTest (wOp fNe wa wb)) := jt_cmp (op_neA hu) od_ne ha hb (nomark _)
theorem jt_lt (ha : JE X a ta wa) (hb : JE X b tb wb) : JT X (.Compare a [.Lt] [b] pos) (tTest (tOp (rI0 fun i j => .bl (decide (i < j))) ta tb)) (wTest (wOp (fI0 fun i j => .bl (decide (i < j))) wa wb)) := jt_cmp op_lt (od_I0 fun _ _ _ => rfl) ha hb (nomark _)
theorem jt_le (ha : JE X a ta wa) (hb : JE X b tb wb) : JT X (.Compare a [.LtE] [b] pos) (tTest (tOp (rI0 fun i j => .bl (decide (i ≤ j))) ta tb)) (wTest (wOp (fI0 fun i j => .bl (decide (i ≤ j))) wa wb)) := jt_cmp op_le (od_I0 fun _ _ _ => rfl) ha hb (nomark _)
theorem jt_gt (ha : JE X a ta wa) (hb : JE X b tb wb) : JT X (.Compare a [.Gt] [b] pos) (tTest (tOp (rI0 fun i j => .bl (decide (j < i))) ta tb)) (wTest (wOp (fI0 fun i j => .bl (decide (j < i))) wa wb)) := jt_cmp op_gt (od_I0 fun _ _ _ => rfl) ha hb (nomark _)
theorem jt_ge (ha : JE X a ta wa) (hb : JE X b tb wb) : JT X (.Compare a [.GtE] [b] pos) (tTest (tOp (rI0 fun i j => .bl (decide (j ≤ i))) ta tb)) (wTest (wOp (fI0 fun i j => .bl (decide (j ≤ i))) wa wb)) := jt_cmp op_ge (od_I0 fun _ _ _ => rfl) ha hb (nomark _)
/-- is None, is not None -/
def rIsN : R2 := fun x y H Q => y = .non ∧ Q (.bl (decide (x = .non))) H
def rNotN : R2 := fun x y H Q => y = .non ∧ Q (.bl (!decide (x = .non))) H
def D.isNon : D → Bool
  | .non => true
  | _ => false
def wIsN (neg : Bool) (w : WE) : WE := fun S Φ => w S fun d S1 => Φ (.bl (if neg then !d.isNon else d.isNon)) S1
theorem isNon_rp {G : Hp} {d : D} {v : V} (r : Rp G d v) : decide (v = .non) = d.isNon := by
  cases d with
  | non => rw [show v = .non from r]; rfl
  | bl _ => rw [show v = .bl _ from r]; rfl
  | int _ => rw [show v = .int _ from r]; rfl
  | str _ => rw [show v = .str _ from r]; rfl
  | tup _ => obtain ⟨a, _, e, _⟩ := r; rw [e]; rfl
  | lst _ => obtain ⟨a, _, e, _⟩ := r; rw [e]; rfl
  | dic _ _ => obtain ⟨a, _, e, _⟩ := r; rw [e]; rfl
  | ins _ _ _ => obtain ⟨a, _, _, e, _⟩ := r; rw [e]; rfl
theorem je_isN {j : Nat} {p2 : Pos} (ha : JE X a ta wa) : JE X (.Compare a [.Is] [.Constant .none j p2] pos) (tOp rIsN ta (tC .non)) (wIsN false wa) :=
  ⟨pe_cmpR op_isN ha.pe pe_non (nomark _), fun S Φ hw σ H G as A Q q => ha.go S _ hw σ H G as A _ fun d S1 v H1 G1 h1 st1 A1 r1 => ⟨rfl, by rw [isNon_rp r1]; exact q _ S1 _ H1 G1 h1 st1 A1 rfl⟩⟩
theorem je_notN {j : Nat} {p2 : Pos} (ha : JE X a ta wa) : JE X (.Compare a [.IsNot] [.Constant .none j p2] pos) (tOp rNotN ta (tC .non)) (wIsN true wa) :=
  ⟨pe_cmpR op_notN ha.pe pe_non (nomark _), fun S Φ hw σ H G as A Q q => ha.go S _ hw σ H G as A _ fun d S1 v H1 G1 h1 st1 A1 r1 => ⟨rfl, by rw [isNon_rp r1]; exact q _ S1 _ H1 G1 h1 st1 A1 rfl⟩⟩
theorem jt_isN {j : Nat} {p2 : Pos} (ha : JE X a ta wa) : JT X (.Compare a [.Is] [.Constant .none j p2] pos) (tTest (tOp rIsN ta (tC .non))) (wTest (wIsN false wa)) := ⟨pt_cmpR op_isN ha.pe pe_non (nomark _), go_test (je_isN (pos := pos) (j := j) (p2 := p2) ha).go⟩
theorem jt_notN {j : Nat} {p2 : Pos} (ha : JE X a ta wa) : JT X (.Compare a [.IsNot] [.Constant .none j p2] pos) (tTest (tOp rNotN ta (tC .non))) (wTest (wIsN true wa)) := ⟨pt_cmpR op_notN ha.pe pe_non (nomark _), go_test (je_notN (pos := pos) (j := j) (p2 := p2) ha).go⟩
/-! ### dicts compared -/
noncomputable def dicEq (ks ls : List (Key × D)) : Bool := ks.length == ls.length && ks.all fun p => (dget ls p.1).isSome && decide (dget ls p.1 = some p.2)
def okD (ks : List (Key × D)) : Bool := okEs 40 (ks.map (·.2))
def rEqC : R2 := fun x y H Q => ∃ a b xs ys, x = .ref a ∧ y = .ref b ∧ Rd H a (.dK xs) ∧ Rd H b (.dK ys) ∧ True
def wDEq (neg : Bool) (wa wb : WE) : WE := fun S Φ => wa S fun x S1 => wb S1 fun y S2 => ∃ ks ls, x = dk ks ∧ y = dk ls ∧ okD ks = true ∧ okD ls = true ∧ Φ (.bl (if neg then !dicEq ks ls else dicEq ks ls)) S2
end
end S
set_option Elab.async false
set_option linter.all false
set_option maxRecDepth 100000
set_option autoImplicit false
/-! S: pairs of names stored at once, one's own lists and dicts -/
namespace S
open PySem L2 PyProof.Rows
theorem set_out {α : Type} : ∀ {l : List α} {i : Nat} {x : α}, l.length ≤ i → l.set i x = l
  | [], _, _, _ => rfl
  | a :: l, 0, _, h => by simp at h
  | a :: l, i + 1, _, h => by rw [List.set_cons_succ, set_out (by simpa using h)]
theorem At.mkOwn0 {S : Ab} {σ : L2.St} {H G : Hp} {as : List Addr} (A : At S σ H G as) {d : D} {p : Addr} {u : HO} (hp : H p = none) (hu : Hold G d u) :
    Stp as (as ++ [p]) H G (upd H p u) G ∧ At ⟨S.os ++ [some d], S.ρ⟩ σ (upd H p u) G (as ++ [p]) := by
  have h := A.mkOwn S.ρ.length hp hu
  unfold Ab.own at h
  rw [set_out (Nat.le_refl _), set_out (by rw [A.ln]; exact Nat.le_refl _)] at h
  exact h
def Ab.setO (S : Ab) (i k : Nat) : Ab := ⟨S.os, S.ρ.set i (some (.o k))⟩
theorem At.setO {S : Ab} {σ : L2.St} {H G : Hp} {as : List Addr} (A : At S σ H G as) (i : Nat) {k : Nat} {p : Addr} (hk : as[k]? = some p) : At (S.setO i k) (σ.set i (some (.ref p))) H G as := by
  refine ⟨A.own, ?_, fun j e q => ?_, fun j l q => ?_⟩
  · show (σ.set i _).length = (S.ρ.set i _).length
    rw [List.length_set, List.length_set]; exact A.ln
  · have q : (S.ρ.set i (some (.o k)))[j]? = some (some (Arg.v e)) := q
    by_cases z : i = j
    · subst z
      by_cases l : i < S.ρ.length
      · rw [List.getElem?_set_self l] at q; cases q
      · rw [List.getElem?_eq_none (by rw [List.length_set]; omega)] at q; cases q
    · rw [List.getElem?_set_ne z] at q
      obtain ⟨u, h1, h2⟩ := A.va j e q
      exact ⟨u, by rw [List.getElem?_set_ne z]; exact h1, h2⟩
  · have q : (S.ρ.set i (some (.o k)))[j]? = some (some (Arg.o l)) := q
    by_cases z : i = j
    · subst z
      by_cases ll : i < S.ρ.length
      · rw [List.getElem?_set_self ll] at q
        cases q
        exact ⟨p, hk, by rw [List.getElem?_set_self (by rw [A.ln]; exact ll)]⟩
      · rw [List.getElem?_eq_none (by rw [List.length_set]; omega)] at q; cases q
    · rw [List.getElem?_set_ne z] at q
      obtain ⟨a, h1, h2⟩ := A.ob j l q
      exact ⟨a, h1, by rw [List.getElem?_set_ne z]; exact h2⟩
section
variable {X : Cx} {a b e : Expr} {pos p p2 : Pos} {t ta tb te : TE} {w wa wb we : WE}
/-! ### x, y = a, b -/
def wPar (i j : Nat) (wa wb : WE) : WS := fun K S => wa S fun d1 S1 => wb S1 fun d2 S2 => K.nx ((S2.set i d1).set j d2)
def wParN (i j : Nat) (wa wb : WE) : WS := fun K S => wa S fun d1 S1 => wb ⟨S1.os ++ [some d1], S1.ρ⟩ fun d2 S2 => K.nx ((S2.setO i S1.os.length).set j d2)
def wParNN (i j : Nat) (wa wb : WE) : WS := fun K S => wa S fun d1 S1 => wb ⟨S1.os ++ [some d1], S1.ρ⟩ fun d2 S2 => K.nx (Ab.setO ⟨S2.os ++ [some d2], S2.ρ.set i (some (.o S1.os.length))⟩ j S2.os.length)
section
variable {i j : Nat} {x y : Str} {px py pt : Pos} {kt k2 : Nat} {pt2 : Pos}
theorem js_par (hc : X.calm = true) (hN : X.N.Nodup) (hi : X.N[i]? = some x) (hj : X.N[j]? = some y) (hij : i ≠ j) (hx : X.env.scope.names.lookup x = some .local) (hy : X.env.scope.names.lookup y = some .local) (ha : JE X a ta wa) (hb : JE X b tb wb)
    (hw : swappedStores [.Tuple [.Name x px, .Name y py] kt pt] (.Tuple [a, b] k2 pt2) X.env = pure (some [x, y]))
    (hs : swapsWithSole [.Tuple [.Name x px, .Name y py] kt pt] (.Tuple [a, b] k2 pt2) pos.line X.env = pure false := by rfl)
    (h1 : starEach [a, b] X.env = (false, eval a X.env) :: starEach [b] X.env := by rfl) (h2 : starEach [b] X.env = (false, eval b X.env) :: starEach [] X.env := by rfl) :
    JS X (.Assign [.Tuple [.Name x px, .Name y py] kt pt] (.Tuple [a, b] k2 pt2) pos) (tPar i j (tCons ta (tCons tb tNil))) (wPar i j wa wb) := by
  refine ⟨ps_par hc hN hi hj hij hx hy (pa_cons ha.pe (pa_cons hb.pe pa_nil h2) h1) hw hs, fun S K h σ H G as A Dn n r b c => ?_⟩
  refine ha.go S _ h σ H G as A _ fun d1 S1 v1 H1 G1 g1 st1 A1 r1 => ?_
  refine hb.go S1 _ g1 σ H1 G1 as A1 _ fun d2 S2 v2 H2 G2 g2 st2 A2 r2 => ?_
  exact ⟨v1, v2, rfl, n _ _ _ _ as g2 (st1.trans st2) ((A2.set i (r1.mono st2.ex)).set j r2)⟩
theorem js_parN (hc : X.calm = true) (hN : X.N.Nodup) (hi : X.N[i]? = some x) (hj : X.N[j]? = some y) (hij : i ≠ j) (hx : X.env.scope.names.lookup x = some .local) (hy : X.env.scope.names.lookup y = some .local) (ha : JN X a ta wa) (hb : JE X b tb wb)
    (hw : swappedStores [.Tuple [.Name x px, .Name y py] kt pt] (.Tuple [a, b] k2 pt2) X.env = pure (some [x, y]))
    (hs : swapsWithSole [.Tuple [.Name x px, .Name y py] kt pt] (.Tuple [a, b] k2 pt2) pos.line X.env = pure false := by rfl)
    (h1 : starEach [a, b] X.env = (false, eval a X.env) :: starEach [b] X.env := by rfl) (h2 : starEach [b] X.env = (false, eval b X.env) :: starEach [] X.env := by rfl) :
    JS X (.Assign [.Tuple [.Name x px, .Name y py] kt pt] (.Tuple [a, b] k2 pt2) pos) (tPar i j (tCons ta (tCons tb tNil))) (wParN i j wa wb) := by
  refine ⟨ps_par hc hN hi hj hij hx hy (pa_cons ha.pe (pa_cons hb.pe pa_nil h2) h1) hw hs, fun S K h σ H G as A Dn n r b c => ?_⟩
  refine ha.go S _ h σ H G as A _ fun d1 S1 p u H1 G1 g1 st1 A1 hp hu => ?_
  obtain ⟨st1', A1'⟩ := A1.mkOwn0 hp hu
  refine hb.go _ _ g1 σ _ G1 _ A1' _ fun d2 S2 v2 H2 G2 g2 st2 A2 r2 => ?_
  have hk : (as ++ [p])[S1.os.length]? = some p := by
    rw [List.getElem?_append_right (by rw [A1.own.len]; exact Nat.le_refl _), A1.own.len, Nat.sub_self]; rfl
  exact ⟨_, v2, rfl, n _ _ _ _ _ g2 ((st1.trans st1').trans st2) ((A2.setO i hk).set j r2)⟩
theorem js_parNN (hc : X.calm = true) (hN : X.N.Nodup) (hi : X.N[i]? = some x) (hj : X.N[j]? = some y) (hij : i ≠ j) (hx : X.env.scope.names.lookup x = some .local) (hy : X.env.scope.names.lookup y = some .local) (ha : JN X a ta wa) (hb : JN X b tb wb)
    (hw : swappedStores [.Tuple [.Name x px, .Name y py] kt pt] (.Tuple [a, b] k2 pt2) X.env = pure (some [x, y]))
    (hs : swapsWithSole [.Tuple [.Name x px, .Name y py] kt pt] (.Tuple [a, b] k2 pt2) pos.line X.env = pure false := by rfl)
    (h1 : starEach [a, b] X.env = (false, eval a X.env) :: starEach [b] X.env := by rfl) (h2 : starEach [b] X.env = (false, eval b X.env) :: starEach [] X.env := by rfl) :
    JS X (.Assign [.Tuple [.Name x px, .Name y py] kt pt] (.Tuple [a, b] k2 pt2) pos) (tPar i j (tCons ta (tCons tb tNil))) (wParNN i j wa wb) := by
  refine ⟨ps_par hc hN hi hj hij hx hy (pa_cons ha.pe (pa_cons hb.pe pa_nil h2) h1) hw hs, fun S K h σ H G as A Dn n r b c => ?_⟩
  refine ha.go S _ h σ H G as A _ fun d1 S1 p u H1 G1 g1 st1 A1 hp hu => ?_
  obtain ⟨st1', A1'⟩ := A1.mkOwn0 hp hu
  refine hb.go _ _ g1 σ _ G1 _ A1' _ fun d2 S2 p2 u2 H2 G2 g2 st2 A2 hp2 hu2 => ?_
  obtain ⟨st2', A2'⟩ := A2.mkOwn0 hp2 hu2
  have hk : ((as ++ [p]) ++ [p2])[S1.os.length]? = some p := by
    rw [List.append_assoc, List.getElem?_append_right (by rw [A1.own.len]; exact Nat.le_refl _), A1.own.len, Nat.sub_self]; rfl
  have hk2 : ((as ++ [p]) ++ [p2])[S2.os.length]? = some p2 := by
    rw [List.getElem?_append_right (by rw [A2.own.len]; exact Nat.le_refl _), A2.own.len, Nat.sub_self]; rfl
  exact ⟨_, _, rfl, n _ _ _ _ _ g2 (((st1.trans st1').trans st2).trans st2') ((A2'.setO i hk).setO j hk2)⟩
end

/-! ### an own object read -/
/-- the object a slot has, without making it known -/
def tO (i : Nat) : TE := tVar i
/-- len(x) -/
def wLenO (i : Nat) : WE := fun S Φ => ∃ k d n, S.atO i = some (k, d) ∧ d.len = some n ∧ (match d with | .str _ => False | _ => True) ∧ Φ (.int n) S
theorem pv' (i : Nat) {x : Str} {pos : Pos} (hN : X.N[i]? = some x := by rfl) (hv : Vis X.env.scope x := by first | exact Or.inl rfl | exact Or.inr (Or.inl rfl) | exact Or.inr (Or.inr rfl)) (hd : (x == ("__debug__" : Str)) = false := by decide)
    (hcd : (x == ("__classdict__" : Str)) = false := by decide) : PE X (.Name x pos) (tVar i) := pe_var hN hv hd hcd
theorem je_lenO (i : Nat) {x : Str} (hg : Gl X "len") (hm : X.mg "len" = none) (hpe : PE X (.Name x p2) (tVar i)) (hs : starEach [.Name x p2] X.env = (false, eval (.Name x p2) X.env) :: starEach [] X.env := by rfl) (hpl : (backTo pos (starEach [] X.env)).any (·.1) = false := by rfl) :
    JE X (.Call (.Name "len" p) [.Name x p2] [] pos) (tCB (rLenA X.K) (tCons (tVar i) tNil)) (wLenO i) := by
  refine ⟨pe_callB call_lenA hg hm boot_len (pa_cons hpe pa_nil hs) (by decide) (by decide) hs hpl, fun S Φ ⟨k, d, n, h1, h2, h3, h4⟩ σ H G as A Q q => ?_⟩
  obtain ⟨a, u, e1, e2, e3, e4, e5, hu⟩ := A.atO h1
  refine ⟨_, e3, ?_⟩
  cases d with
  | lst ds =>
    obtain ⟨xs, rfl, rx⟩ := hu
    cases h2
    exact .inl ⟨_, xs.length, rfl, .inl ⟨xs, .inl (.inl e5), rfl⟩, q _ S _ H G h4 Stp.refl A (by rw [rx.length]; rfl)⟩
  | tup ds =>
    obtain ⟨xs, rfl, rx⟩ := hu
    cases h2
    exact .inl ⟨_, xs.length, rfl, .inr ⟨xs, .inl (.inl e5), rfl⟩, q _ S _ H G h4 Stp.refl A (by rw [rx.length]; rfl)⟩
  | dic ks ds =>
    obtain ⟨ys, rfl, hk, rx⟩ := hu
    cases h2
    exact .inr ⟨a, ys, rfl, .inl e5, q _ S _ H G h4 Stp.refl A (by rw [← rx.length, List.length_map]; rfl)⟩
  | str _ => exact h3.elim
  | _ => cases h2
/-- x[c], x an own list -/
def wIxO (i : Nat) (w : WE) : WE := fun S Φ => w S fun c S1 => ∃ k ds d j, S1.atO i = some (k, .lst ds) ∧ c = .int j ∧ atI ds j = some d ∧ Φ d S1
theorem je_ixO (i : Nat) {x : Str} (hb : JE X b tb wb) (hpe : PE X (.Name x p2) (tVar i)) (hs : PlainIx b := by exact fun _ _ => rfl) : JE X (.Subscript (.Name x p2) b pos) (tOp (rIx X.K) (tVar i) tb) (fun S Φ => (∃ k d, S.atO i = some (k, d)) ∧ wIxO i wb S fun d S1 => (∀ (k : Nat) (e : D), S.atO i = some (k, e) → ∃ e1, S1.atO i = some (k, e1)) ∧ Φ d S1) := by
  refine ⟨pe_ix ix_seq hpe hb.pe hs, fun S Φ ⟨⟨k0, d0, h0⟩, hw⟩ σ H G as A Q q => ?_⟩
  obtain ⟨a, u, e1, e2, e3, e4, e5, hu⟩ := A.atO h0
  refine ⟨_, e3, ?_⟩
  refine hb.go S _ hw σ H G as A _ fun c S1 v H1 G1 ⟨k, ds, d, j, h1, h2, h3, h4, h5⟩ st1 A1 r1 => ?_
  subst h2
  obtain ⟨d1, h6⟩ := h4 k0 d0 h0
  rw [h1] at h6
  cases h6
  obtain ⟨a', u', f1, f2, f3, f4, f5, xs, rfl, rx⟩ := A1.atO h1
  rw [e2] at f2
  cases f2
  obtain ⟨w', g1, g2⟩ := atI_rp rx h3
  exact .inl ⟨_, xs, j, w', rfl, r1, .inl (.inl f5), g1, q d S1 w' H1 G1 h5 st1 A1 g2⟩
/-- x[c] by a constant -/
def wIxC (i : Nat) (j : Int) : WE := fun S Φ => ∃ k ds d, S.atO i = some (k, .lst ds) ∧ atI ds j = some d ∧ Φ d S
theorem je_ixC (i : Nat) {x : Str} {j : Int} {n : Nat} {p3 : Pos} (hpe : PE X (.Name x p2) (tVar i)) : JE X (.Subscript (.Name x p2) (.Constant (.int j) n p3) pos) (tOp (rIx X.K) (tVar i) (tC (.int j))) (wIxC i j) := by
  refine ⟨pe_ix ix_seq hpe pe_int (fun _ _ => rfl), fun S Φ ⟨k, ds, d, h1, h3, h4⟩ σ H G as A Q q => ?_⟩
  obtain ⟨a, u, e1, e2, e3, e4, e5, xs, rfl, rx⟩ := A.atO h1
  obtain ⟨w', g1, g2⟩ := atI_rp rx h3
  exact ⟨_, e3, .inl ⟨_, xs, j, w', rfl, rfl, .inl (.inl e5), g1, q d S w' H G h4 Stp.refl A g2⟩⟩
/-- x[c] = e, x an own list, c a constant -/
def wSetC (i : Nat) (j : Int) (w : WE) : WS := fun K S => w S fun d S1 => ∃ k ds n, S1.atO i = some (k, .lst ds) ∧ ixN ds.length j = some n ∧ K.nx (S1.put k (.lst (ds.set n d)))
theorem js_setC (i : Nat) {x : Str} {j : Int} {n : Nat} {p3 p4 : Pos} (he : JE X e te we) (hpe : PE X (.Name x p2) (tVar i)) (hs : swapsWithSole [.Subscript (.Name x p2) (.Constant (.int j) n p3) p4] e pos.line X.env = pure false := by rfl) (hw : swappedStores [.Subscript (.Name x p2) (.Constant (.int j) n p3) p4] e X.env = pure none := by rfl)
    (h1 : (assignEach [.Subscript (.Name x p2) (.Constant (.int j) n p3) p4] X.env).map (·.2) = [assign (.Subscript (.Name x p2) (.Constant (.int j) n p3) p4) X.env] := by rfl)
    (ha : ∀ v, assign (.Subscript (.Name x p2) (.Constant (.int j) n p3) p4) X.env v = (do
      let ov ← holding [v] (eval (.Name x p2) X.env)
      let iv ← holding [v, ov] (eval (.Constant (.int j) n p3) X.env)
      standAt p4
      holding [v, ov, iv] (setItem ov iv v)
      release [v, ov, iv] []) := by intro _; rfl) :
    JS X (.Assign [.Subscript (.Name x p2) (.Constant (.int j) n p3) p4] e pos) (tAsg te (gSub (tVar i) (tC (.int j)) rSetL)) (wSetC i j we) := by
  refine ⟨ps_asg he.pe (pg_sub hpe pe_int set_list ha) hs hw h1, fun S K h σ H G as A Dn nn r b c => ?_⟩
  refine he.go S _ h σ H G as A _ fun d S1 v H1 G1 ⟨k, ds, m, g1, g2, g3⟩ st1 A1 r1 => ?_
  obtain ⟨a, u, e1, e2, e3, e4, e5, xs, rfl, rx⟩ := A1.atO g1
  obtain ⟨st2, A2⟩ := A1.upOwn (d := .lst (ds.set m d)) (u := .lst (xs.set m v)) e1 e2 ⟨_, rfl, rx.set r1 m⟩
  exact ⟨_, e3, _, xs, j, m, rfl, rfl, e5, by rw [rx.length]; exact g2, nn _ σ _ G1 as g3 (st1.trans st2) A2⟩
/-- x[y] = e, x an own dict -/
def wDputO (i : Nat) (w wk : WE) : WS := fun K S => w S fun d S1 => (∃ k e, S1.atO i = some (k, e)) ∧ wk S1 fun y S2 => ∃ k kvs key, (∀ (k1 : Nat) (e : D), S1.atO i = some (k1, e) → k1 = k) ∧ S2.atO i = some (k, dk kvs) ∧ keyD y = some key ∧ kvs.length < 16777216 ∧ K.nx (S2.put k (dk (dput kvs key d)))
theorem js_dputO (i : Nat) {x : Str} {ty : TE} {wy : WE} {y : Expr} {p4 : Pos} (hu : X.A.units + 1 < cLine) (he : JE X e te we) (hk : JE X y ty wy) (hpe : PE X (.Name x p2) (tVar i)) (hs : swapsWith e (some (.Subscript (.Name x p2) y p4)) pos.line X.env = pure false := by rfl) :
    JS X (.Assign [.Subscript (.Name x p2) y p4] e pos) (sDPut (tVar i) ty te) (wDputO i we wy) := by
  refine ⟨ps_dput hu hpe hk.pe he.pe hs, fun S K h σ H G as A Dn nn r b c => ?_⟩
  refine he.go S _ h σ H G as A _ fun d S1 v H1 G1 ⟨⟨k0, e0, h0⟩, h1⟩ st1 A1 r1 => ?_
  obtain ⟨a0, u0, f1, f2, f3, f4, f5, f6⟩ := A1.atO h0
  refine ⟨_, f3, ?_⟩
  refine hk.go S1 _ h1 σ H1 G1 as A1 _ fun y' S2 v2 H2 G2 ⟨k, kvs, key, g0, g1, g2, g3, g4⟩ st2 A2 r2 => ?_
  obtain rfl := g0 k0 e0 h0
  obtain ⟨a, u, e1, e2, e3, e4, e5, hu2⟩ := A2.atO g1
  rw [f2] at e2
  cases e2
  obtain ⟨xs, rfl, hx1, hx2⟩ := hu2
  obtain ⟨p1, p2'⟩ := kv_put (k := key) (r1.mono st2.ex) hx1 hx2
  obtain ⟨st3, A3⟩ := A2.upOwn (d := dk (dput kvs key d)) (u := .dK (putK xs key v)) e1 f2 ⟨_, rfl, p1, p2'⟩
  have hl : xs.length = kvs.length := by have := congrArg List.length hx1; simpa using this
  refine ⟨_, _, rfl, ?_, nn _ σ _ G2 as g4 ((st1.trans st2).trans st3) A3⟩
  rw [keyD_rp g2 r2]
  exact DPut.k e5 (by rw [hl]; exact sl_lt g3)
/-- x.pop(e), x an own list -/
def wPopO (i : Nat) (w : WE) : WE := fun S Φ => (∃ k e, S.atO i = some (k, .lst e)) ∧ w S fun c S1 => ∃ k ds j d, (∀ (k1 : Nat) (e : D), S.atO i = some (k1, e) → k1 = k) ∧ S1.atO i = some (k, .lst ds) ∧ c = .int (j : Nat) ∧ j < 2 ^ 62 ∧ ds[j]? = some d ∧ Φ d (S1.put k (.lst (ds.eraseIdx j)))
theorem je_popO (i : Nat) {x : Str} {apos cpos : Pos} (h : JE X e te we) (hpe : PE X (.Call (.Attribute (.Name x p) "pop" apos) [e] [] cpos) (tBM X.K "list" rPopAt (tVar i) (tCons te tNil))) :
    JE X (.Call (.Attribute (.Name x p) "pop" apos) [e] [] cpos) (tBM X.K "list" rPopAt (tVar i) (tCons te tNil)) (wPopO i we) := by
  refine ⟨hpe, fun S Φ ⟨⟨k0, ds0, h0⟩, hw⟩ σ H G as A Q q => ?_⟩
  obtain ⟨a, u, e1, e2, e3, e4, e5, xs, rfl, rx⟩ := A.atO h0
  refine ⟨_, e3, .inl ⟨rfl, xs, .inl (.inl e5)⟩, ?_⟩
  refine h.go S _ hw σ H G as A _ fun c S1 v H1 G1 ⟨k, ds, j, d, g0, g1, g2, g3, g4, g5⟩ st1 A1 r1 => ?_
  obtain rfl := g0 k0 _ h0
  subst g2
  obtain ⟨b, u1, f1, f2, f3, f4, f5, ys, rfl, ry⟩ := A1.atO g1
  rw [e2] at f2
  cases f2
  obtain ⟨z, z1, z2⟩ := ry.get g4
  obtain ⟨st2, A2⟩ := A1.upOwn (d := .lst (ds.eraseIdx j)) (u := .lst (ys.eraseIdx j)) f1 e2 ⟨_, rfl, ry.eraseIdx j⟩
  have hj : j < ys.length := (List.getElem?_eq_some_iff.mp z1).1
  exact ⟨a, ys, (j : Int), j, z, rfl, by rw [show v = V.int (j : Int) from r1], f5, by omega, by omega, by rw [seqIndex_of (by omega) (by simpa using hj)]; rfl, z1, q d _ _ _ G1 g5 (st1.trans st2) A2 z2⟩
/-- x != e, x an own list -/
def wNeO (i : Nat) (w : WE) : WE := fun S Φ => (∃ k e, S.atO i = some (k, .lst e)) ∧ w S fun y S1 => ∃ k ds, (∀ (k1 : Nat) (e : D), S.atO i = some (k1, e) → k1 = k) ∧ S1.atO i = some (k, .lst ds) ∧ okE 60 (.lst ds) = true ∧ okE 60 y = true ∧ Φ (.bl (!decide (D.lst ds = y))) S1
theorem go_neO (i : Nat) (hb : ∀ S Φ, wb S Φ → GoE tb S Φ) : ∀ S Φ, wNeO i wb S Φ → GoE (tOp (rNeA X.K) (tVar i) tb) S Φ := by
  intro S Φ ⟨⟨k0, ds0, h0⟩, hw⟩ σ H G as A Q q
  obtain ⟨a, u, e1, e2, e3, e4, e5, xs, rfl, rx⟩ := A.atO h0
  refine ⟨_, e3, ?_⟩
  refine hb S _ hw σ H G as A _ fun y S1 v H1 G1 ⟨k, ds, g0, g1, g2, g3, g4⟩ st1 A1 r1 => ?_
  obtain rfl := g0 k0 _ h0
  obtain ⟨b, u1, f1, f2, f3, f4, f5, ys, rfl, ry⟩ := A1.atO g1
  rw [e2] at f2
  cases f2
  have hx : Dp X.K H1 (.ref a) (toP (.lst ds)) := by
    have g2' : okEs 59 ds = true := g2
    exact .lst (.inl (.inl f5)) (dp_all A1 59 ds ys g2' ry)
  exact .inr ⟨toP (.lst ds), toP y, hx, dp_of A1 60 y v g3 r1, okE_shaped g2 (by decide), okE_shaped g3 (by decide), by rw [eqv_dec 60 _ y 60 g2 g3]; exact q _ S1 _ H1 G1 g4 st1 A1 rfl⟩
theorem jt_neO (i : Nat) {x : Str} (hu : X.A.units + 64 < cLine) (hb : JE X b tb wb) (hpe : PE X (.Name x p2) (tVar i)) : JT X (.Compare (.Name x p2) [.NotEq] [b] pos) (tTest (tOp (rNeA X.K) (tVar i) tb)) (wTest (wNeO i wb)) :=
  ⟨pt_cmpR (op_neA hu) hpe hb.pe (nomark _), go_test (go_neO i hb.go)⟩
end
end S
set_option Elab.async false
set_option linter.all false
set_option maxRecDepth 100000
set_option autoImplicit false
/-! S: more of what is built in -/
namespace S
open PySem L2 PyProof.Rows
section
variable {X : Cx} {a b e : Expr} {es : List Expr} {pos p p2 : Pos} {t ta tb te : TE} {w wa wb we : WE} {tA : TA} {wA : WA}
theorem rps1 {G : Hp} {d : D} {vs : List V} (r : Rps G [d] vs) : ∃ v, vs = [v] ∧ Rp G d v := by
  obtain ⟨v, ws, rfl, rv, rw_⟩ := r
  have rw_ : ws = [] := rw_
  subst rw_
  exact ⟨v, rfl, rv⟩
/-! ### list(x), dict(x), sorted(d) -/
def rListOf (K : PySem.W.Frag) : RC := fun xs H Q => ∃ p ys, xs = [V.ref p] ∧ (SqL K H p ys ∨ SqT K H p ys) ∧ ∀ l, H l = none → Q (.ref l) (upd H l (.lst ys))
def rListDK : RC := fun xs H Q => ∃ (a : Addr) (kvs : List (Key × V)), xs = [V.ref a] ∧ Rd H a (.dK kvs) ∧ ∀ p, H p = none → Q (.ref p) (upd H p (.lst (kvs.map fun kv => kV kv.1)))
def fListOf : List D → WE := fun xs S Φ => match xs with
  | [.lst ds] => Φ (.lst ds) S
  | [.tup ds] => Φ (.lst ds) S
  | _ => False
def fListDK : List D → WE := fun xs S Φ => match xs with
  | [.dic ks ds] => Φ (.lst (ks.map kD)) S
  | _ => False
theorem rps_kD (G : Hp) : ∀ ks : List Key, Rps G (ks.map kD) (ks.map kV)
  | [] => rfl
  | k :: ks => ⟨_, _, rfl, rp_kD G k, rps_kD G ks⟩
theorem cn_listOf {K : PySem.W.Frag} : CaN (rListOf K) fListOf := by
  intro S σ H G as xs vs A r Φ Q h q
  unfold fListOf at h
  split at h
  · obtain ⟨v, rfl, a, ys, rfl, ga, ry⟩ := rps1 r
    exact ⟨a, ys, rfl, .inl (A.sql ga), fun l hl => q _ S l _ H G h Stp.refl A hl ⟨_, rfl, ry⟩⟩
  · obtain ⟨v, rfl, a, ys, rfl, ga, ry⟩ := rps1 r
    exact ⟨a, ys, rfl, .inr (A.sqt ga), fun l hl => q _ S l _ H G h Stp.refl A hl ⟨_, rfl, ry⟩⟩
  · exact h.elim
theorem cn_listDK : CaN rListDK fListDK := by
  intro S σ H G as xs vs A r Φ Q h q
  unfold fListDK at h
  split at h
  · obtain ⟨v, rfl, a, ys, rfl, ga, hk, ry⟩ := rps1 r
    refine ⟨a, ys, rfl, A.le ga, fun l hl => q _ S l _ H G h Stp.refl A hl ⟨_, rfl, ?_⟩⟩
    rw [← hk, List.map_map]
    have := rps_kD G (ys.map (·.1))
    rw [List.map_map, List.map_map] at this
    exact this
  · exact h.elim
theorem jn_listOf (hg : Gl X "list") (hm : X.mg "list" = none) (ha : JA X (e :: es) tA wA) (hs : starEach (e :: es) X.env = (false, eval e X.env) :: starEach es X.env := by rfl) (hpl : (backTo pos (starEach es X.env)).any (·.1) = false := by rfl) :
    JN X (.Call (.Name "list" p) (e :: es) [] pos) (tCB (rListOf X.K) tA) (wCB fListOf wA) := jn_ty call_list_of cn_listOf hg hm (by decide +kernel) ha (hs := hs) (hpl := hpl)
theorem jn_listDK (hc : X.calm = true) (hg : Gl X "list") (hm : X.mg "list" = none) (ha : JA X (e :: es) tA wA) (hs : starEach (e :: es) X.env = (false, eval e X.env) :: starEach es X.env := by rfl) (hpl : (backTo pos (starEach es X.env)).any (·.1) = false := by rfl) :
    JN X (.Call (.Name "list" p) (e :: es) [] pos) (tCB rListDK tA) (wCB fListDK wA) := jn_ty (call_listD hc) cn_listDK hg hm (by decide +kernel) ha (hs := hs) (hpl := hpl)
def rDictD : RC := fun xs H Q => ∃ (a : Addr) (kvs : List (Key × V)), xs = [V.ref a] ∧ Rd H a (.dK kvs) ∧ ∀ p, H p = none → Q (.ref p) (upd H p (.dK kvs))
def fDictD : List D → WE := fun xs S Φ => match xs with
  | [.dic ks ds] => Φ (.dic ks ds) S
  | _ => False
theorem cn_dictD : CaN rDictD fDictD := by
  intro S σ H G as xs vs A r Φ Q h q
  unfold fDictD at h
  split at h
  · obtain ⟨v, rfl, a, ys, rfl, ga, hk, ry⟩ := rps1 r
    exact ⟨a, ys, rfl, A.le ga, fun l hl => q _ S l _ H G h Stp.refl A hl ⟨_, rfl, hk, ry⟩⟩
  · exact h.elim
theorem jn_dictD (hg : Gl X "dict") (hm : X.mg "dict" = none) (ha : JA X (e :: es) tA wA) (hs : starEach (e :: es) X.env = (false, eval e X.env) :: starEach es X.env := by rfl) (hpl : (backTo pos (starEach es X.env)).any (·.1) = false := by rfl) :
    JN X (.Call (.Name "dict" p) (e :: es) [] pos) (tCB rDictD tA) (wCB fDictD wA) := jn_ty call_dictD cn_dictD hg hm (by decide +kernel) ha (hs := hs) (hpl := hpl)
/-- dict(pairs): the keys new ones each -/
def rDictP (K : PySem.W.Frag) : RC := fun xs H Q => ∃ (a : Addr) (ps : List Addr) (kvs : List (Key × V)), xs = [V.ref a] ∧ SqL K H a (ps.map V.ref) ∧ Paired (fun p kv => SqT K H p [kV kv.1, kv.2]) ps kvs ∧
    ∀ p, H p = none → Q (.ref p) (upd H p (.dK (mergeK [] kvs)))
def pairsD : List D → Option (List (Key × D))
  | [] => some []
  | .tup [k, d] :: r => match keyD k, pairsD r with
    | some k, some r => some ((k, d) :: r)
    | _, _ => none
  | _ :: _ => none
def dmerge (acc : List (Key × D)) : List (Key × D) → List (Key × D)
  | [] => acc
  | p :: r => dmerge (dput acc p.1 p.2) r
def fDictP : List D → WE := fun xs S Φ => match xs with
  | [.lst ds] => ∃ kvs, pairsD ds = some kvs ∧ Φ (dk (dmerge [] kvs)) S
  | _ => False
theorem pairs_rp {S : Ab} {σ : L2.St} {H G : Hp} {as : List Addr} {K : PySem.W.Frag} (A : At S σ H G as) : ∀ (ds : List D) (vs : List V) (kds : List (Key × D)), Rps G ds vs → pairsD ds = some kds →
    ∃ (ps : List Addr) (kvs : List (Key × V)), vs = ps.map V.ref ∧ Paired (fun p kv => SqT K H p [kV kv.1, kv.2]) ps kvs ∧ kvs.map (·.1) = kds.map (·.1) ∧ Rps G (kds.map (·.2)) (kvs.map (·.2))
  | [], vs, kds, r, h => by
    cases h
    rw [show vs = [] from r]
    exact ⟨[], [], rfl, .nil, rfl, rfl⟩
  | d :: ds, _, kds, ⟨v, vs, e, r1, r2⟩, h => by
    subst e
    cases d with
    | tup xs =>
      match xs, h, r1 with
      | [k, d], h, ⟨a, ys, e1, ga, ry⟩ =>
        unfold pairsD at h
        cases hk : keyD k with
        | none => rw [hk] at h; cases h
        | some k' =>
          cases hr : pairsD ds with
          | none => rw [hk, hr] at h; cases h
          | some kr =>
            rw [hk, hr] at h
            cases h
            obtain ⟨ps, kvs, e2, e3, e4, e5⟩ := pairs_rp A ds vs kr r2 hr
            obtain ⟨y1, ys1, rfl, q1, y2, ys2, rfl, q2, q3⟩ := ry
            have q3 : ys2 = [] := q3
            subst q3
            subst e1
            rw [keyD_rp hk q1] at ga
            refine ⟨a :: ps, (k', y2) :: kvs, by rw [e2]; rfl, .cons (A.sqt ga) e3, by simp [e4], ⟨y2, _, rfl, q2, e5⟩⟩
      | [], h, _ => simp [pairsD] at h
      | [_], h, _ => simp [pairsD] at h
      | _ :: _ :: _ :: _, h, _ => simp [pairsD] at h
    | _ => simp [pairsD] at h
theorem mergeK_rp {G : Hp} : ∀ (kds : List (Key × D)) (kvs : List (Key × V)) (acc : List (Key × D)) (acv : List (Key × V)), kvs.map (·.1) = kds.map (·.1) → Rps G (kds.map (·.2)) (kvs.map (·.2)) → acv.map (·.1) = acc.map (·.1) → Rps G (acc.map (·.2)) (acv.map (·.2)) →
    (mergeK acv kvs).map (·.1) = (dmerge acc kds).map (·.1) ∧ Rps G ((dmerge acc kds).map (·.2)) ((mergeK acv kvs).map (·.2))
  | [], [], acc, acv, _, _, h3, h4 => ⟨h3, h4⟩
  | [], _ :: _, _, _, h, _, _, _ => by simp at h
  | _ :: _, [], _, _, h, _, _, _ => by simp at h
  | (k, d) :: kds, (k2, v) :: kvs, acc, acv, h1, ⟨v', vs', e, r1, r2⟩, h3, h4 => by
    have h1' : k2 = k ∧ kvs.map (·.1) = kds.map (·.1) := by simpa using h1
    obtain ⟨rfl, h1'⟩ := h1'
    have e' : v = v' ∧ kvs.map (·.2) = vs' := by simpa using e
    obtain ⟨rfl, rfl⟩ := e'
    obtain ⟨g1, g2⟩ := kv_put (k := k2) r1 h3 h4
    exact mergeK_rp kds kvs _ _ h1' r2 g1 g2
theorem cn_dictP {K : PySem.W.Frag} : CaN (rDictP K) fDictP := by
  intro S σ H G as xs vs A r Φ Q h q
  unfold fDictP at h
  split at h
  · obtain ⟨kds, h1, h2⟩ := h
    obtain ⟨v, rfl, a, ys, rfl, ga, ry⟩ := rps1 r
    obtain ⟨ps, kvs, e1, e2, e3, e4⟩ := pairs_rp (K := K) A _ ys kds ry h1
    subst e1
    obtain ⟨g1, g2⟩ := mergeK_rp (G := G) kds kvs [] [] e3 e4 rfl rfl
    exact ⟨a, ps, kvs, rfl, A.sql ga, e2, fun l hl => q _ S l _ H G h2 Stp.refl A hl ⟨_, rfl, g1, g2⟩⟩
  · exact h.elim
theorem jn_dictP (hc : X.calm = true) (hg : Gl X "dict") (hm : X.mg "dict" = none) (ha : JA X (e :: es) tA wA) (hs : starEach (e :: es) X.env = (false, eval e X.env) :: starEach es X.env := by rfl) (hpl : (backTo pos (starEach es X.env)).any (·.1) = false := by rfl) :
    JN X (.Call (.Name "dict" p) (e :: es) [] pos) (tCB (rDictP X.K) tA) (wCB fDictP wA) := jn_ty (call_dictP hc) cn_dictP hg hm (by decide +kernel) ha (hs := hs) (hpl := hpl)
/-- sorted(d) of a dict with text keys -/
def rSortedD : RC := fun xs H Q => ∃ (a : Addr) (kvs : List (Key × V)) (ks : List Str), xs = [V.ref a] ∧ Rd H a (.dK kvs) ∧ kvs.map (·.1) = ks.map Sum.inr ∧ ks.length < 64 ∧
    ∀ ys p, ys.Perm ks → sortedS ys = true → H p = none → Q (.ref p) (upd H p (.lst (ys.map V.str)))
def fSortedD : List D → WE := fun xs S Φ => match xs with
  | [.dic ks ds] => ∃ zs : List Str, ks = zs.map Sum.inr ∧ zs.length < 64 ∧ ∀ ys : List Str, ys.Perm zs → sortedS ys = true → Φ (.lst (ys.map D.str)) S
  | _ => False
theorem rps_strs (G : Hp) : ∀ ys : List Str, Rps G (ys.map D.str) (ys.map V.str)
  | [] => rfl
  | _ :: ys => ⟨_, _, rfl, rfl, rps_strs G ys⟩
theorem cn_sortedD : CaN rSortedD fSortedD := by
  intro S σ H G as xs vs A r Φ Q h q
  unfold fSortedD at h
  split at h
  · obtain ⟨zs, h1, h2, h3⟩ := h
    obtain ⟨v, rfl, a, ys, rfl, ga, hk, ry⟩ := rps1 r
    exact ⟨a, ys, zs, rfl, A.le ga, hk.trans h1, h2, fun ws l g1 g2 hl => q _ S l _ H G (h3 ws g1 g2) Stp.refl A hl ⟨_, rfl, rps_strs G ws⟩⟩
  · exact h.elim
theorem jn_sortedD (hc : X.calm = true) (hg : Gl X "sorted") (hm : X.mg "sorted" = none) (ha : JA X (e :: es) tA wA) (hs : starEach (e :: es) X.env = (false, eval e X.env) :: starEach es X.env := by rfl) (hpl : (backTo pos (starEach es X.env)).any (·.1) = false := by rfl) :
    JN X (.Call (.Name "sorted" p) (e :: es) [] pos) (tCB rSortedD tA) (wCB fSortedD wA) := jn_cb (call_sortedD hc) cn_sortedD hg hm (by decide +kernel) ha (hs := hs) (hpl := hpl)
/-! ### max, all -/
def intsD : List D → Option (List Int)
  | [] => some []
  | .int i :: r => (intsD r).map (i :: ·)
  | _ :: _ => none
theorem ints_rp {G : Hp} : ∀ (ds : List D) (vs : List V) (is : List Int), Rps G ds vs → intsD ds = some is → vs = is.map V.int
  | [], _, _, r, h => by cases h; exact r
  | .int i :: ds, _, is, ⟨v, vs, e, r1, r2⟩, h => by
    unfold intsD at h
    obtain ⟨js, h1, h2⟩ := Option.map_eq_some_iff.mp h
    subst h2
    rw [e, show v = V.int i from r1, ints_rp ds vs js r2 h1]
    rfl
  | .non :: _, _, _, _, h => by cases h
  | .bl _ :: _, _, _, _, h => by cases h
  | .str _ :: _, _, _, _, h => by cases h
  | .tup _ :: _, _, _, _, h => by cases h
  | .lst _ :: _, _, _, _, h => by cases h
  | .dic _ _ :: _, _, _, _, h => by cases h
  | .ins _ _ _ :: _, _, _, _, h => by cases h
def fMaxOf (ds : List D) (Φ : PhE) (S : Ab) : Prop := ∃ is, intsD ds = some is ∧ 0 < is.length ∧ ∀ m, m ∈ is → (∀ y, y ∈ is → y ≤ m) → Φ (.int m) S
def fMaxL : List D → WE := fun xs S Φ => match xs with
  | [.lst ds] => fMaxOf ds Φ S
  | _ => False
theorem ca_maxL {K : PySem.W.Frag} : CaD (rMax K) fMaxL := by
  intro S σ H G as xs vs A r Φ Q h q
  unfold fMaxL at h
  split at h
  · obtain ⟨is, h1, h2, h3⟩ := h
    obtain ⟨v, rfl, a, ys, rfl, ga, ry⟩ := rps1 r
    have e := ints_rp _ _ _ ry h1
    subst e
    exact ⟨a, is, rfl, A.sql ga, h2, fun m g1 g2 => q _ S _ H G (h3 m g1 g2) Stp.refl A rfl⟩
  · exact h.elim
theorem je_maxL (hc : X.calm = true) (hg : Gl X "max") (hm : X.mg "max" = none) (ha : JA X (e :: es) tA wA) (hs : starEach (e :: es) X.env = (false, eval e X.env) :: starEach es X.env := by rfl) (hpl : (backTo pos (starEach es X.env)).any (·.1) = false := by rfl) :
    JE X (.Call (.Name "max" p) (e :: es) [] pos) (tCB (rMax X.K) tA) (wCB fMaxL wA) := je_cb (cr_max hc) ca_maxL hg hm (by decide +kernel) ha (hs := hs) (hpl := hpl)
def rMaxT (K : PySem.W.Frag) : RC := fun vs H Q => ∃ (a : Addr) (ns : List Int), vs = [V.ref a] ∧ SqT K H a (ns.map V.int) ∧ 0 < ns.length ∧ ∀ m, m ∈ ns → (∀ y, y ∈ ns → y ≤ m) → Q (.int m) H
theorem cr_maxT (hc : X.calm = true) : CallR X (.builtin "max") (rMaxT X.K) := by
  intro pins s σ H vs us Q I r h
  obtain ⟨a, ns, rfl, hs, hne, q⟩ := h
  obtain ⟨its, rv, hl, hz⟩ := I.tuple hs
  rw [Vals.ref1 r]
  have hi : IntsAre its ns := intsAre_of rv
  obtain ⟨xs, e⟩ := hi.allInts.items
  have hn : numsOf (intItems xs).toList = ns := by rw [← e]; exact hi.numsOf
  rw [nums_intItems] at hn
  subst hn
  rw [e] at hl
  have hsz : 0 < xs.size := by simpa using hne
  have hlt : a < s.heap.objs.size := by obtain ⟨_, e, _⟩ := hl; exact Heap.lt_size e
  refine call_max_walk (wpAny_pyIter_tuple hl ?_)
  have hh := I.ok.hd hc
  have st : (s.heap.push { cls := .type "tuple_iterator", data := .fields #[.ref a, .int 0 0] }).IsTupleIter s.heap.objs.size a 0 ∧ (s.heap.push { cls := .type "tuple_iterator", data := .fields #[.ref a, .int 0 0] }).IsTuple a (intItems xs) :=
    ⟨⟨_, Heap.get?_push_size _ rfl, rfl, rfl⟩, hl.push _⟩
  refine ⟨_, _, _, _, _, _, _, rfl, Walks.tuple (A := X.A.in1) hh _ a (Nat.ne_of_lt hlt) (intItems xs), st, fun b hb => ?_, by simpa [intItems] using hsz, CmpOf.ints_gt (numAt xs) (fun _ _ => intItems_at), fun v h' tk hP hk => ?_⟩
  · show b < (s.heap.push _).objs.size
    rw [Heap.size_push]
    rcases List.mem_cons.mp hb with rfl | hb
    · exact Nat.lt_succ_self _
    · rw [List.mem_singleton.mp hb]; exact Nat.lt_succ_of_lt hlt
  · have hv : (intItems xs)[argBest (fun i j => decide (numAt xs i > numAt xs j)) (xs.size - 1)]? = some v := by simpa [intItems] using hP
    obtain ⟨t, rfl⟩ := intItems_at hv
    obtain ⟨h1, h2⟩ := argBest_gt (numAt xs) (xs.size - 1)
    refine ⟨.int _, H, I.kept fun b o eo => hk b o (fun hmem => ?_) (Heap.get?_push_of_some _ eo), ⟨_, rfl⟩, q _ ?_ fun y hy => ?_⟩
    · rcases List.mem_cons.mp hmem with e1 | hmem
      · exact absurd (e1 ▸ Heap.lt_size eo) (Nat.lt_irrefl _)
      · cases hmem
    · rw [numAt_eq]; exact PySem.getD_mem (by rw [List.length_map, Array.length_toList]; omega)
    · obtain ⟨j, hj, rfl⟩ := mem_getD hy
      rw [List.length_map, Array.length_toList] at hj
      rw [← numAt_eq]; exact h2 j (by omega)
def fMaxT : List D → WE := fun xs S Φ => match xs with
  | [.tup ds] => fMaxOf ds Φ S
  | _ => False
theorem ca_maxT {K : PySem.W.Frag} : CaD (rMaxT K) fMaxT := by
  intro S σ H G as xs vs A r Φ Q h q
  unfold fMaxT at h
  split at h
  · obtain ⟨is, h1, h2, h3⟩ := h
    obtain ⟨v, rfl, a, ys, rfl, ga, ry⟩ := rps1 r
    have e := ints_rp _ _ _ ry h1
    subst e
    exact ⟨a, is, rfl, A.sqt ga, h2, fun m g1 g2 => q _ S _ H G (h3 m g1 g2) Stp.refl A rfl⟩
  · exact h.elim
theorem je_maxT (hc : X.calm = true) (hg : Gl X "max") (hm : X.mg "max" = none) (ha : JA X (e :: es) tA wA) (hs : starEach (e :: es) X.env = (false, eval e X.env) :: starEach es X.env := by rfl) (hpl : (backTo pos (starEach es X.env)).any (·.1) = false := by rfl) :
    JE X (.Call (.Name "max" p) (e :: es) [] pos) (tCB (rMaxT X.K) tA) (wCB fMaxT wA) := je_cb (cr_maxT hc) ca_maxT hg hm (by decide +kernel) ha (hs := hs) (hpl := hpl)
def blsD : List D → Option (List Bool)
  | [] => some []
  | .bl i :: r => (blsD r).map (i :: ·)
  | _ :: _ => none
theorem bls_rp {G : Hp} : ∀ (ds : List D) (vs : List V) (is : List Bool), Rps G ds vs → blsD ds = some is → vs = is.map V.bl
  | [], _, _, r, h => by cases h; exact r
  | .bl i :: ds, _, is, ⟨v, vs, e, r1, r2⟩, h => by
    unfold blsD at h
    obtain ⟨js, h1, h2⟩ := Option.map_eq_some_iff.mp h
    subst h2
    rw [e, show v = V.bl i from r1, bls_rp ds vs js r2 h1]
    rfl
  | .non :: _, _, _, _, h => by cases h
  | .int _ :: _, _, _, _, h => by cases h
  | .str _ :: _, _, _, _, h => by cases h
  | .tup _ :: _, _, _, _, h => by cases h
  | .lst _ :: _, _, _, _, h => by cases h
  | .dic _ _ :: _, _, _, _, h => by cases h
  | .ins _ _ _ :: _, _, _, _, h => by cases h
def fAllL : List D → WE := fun xs S Φ => match xs with
  | [.lst ds] => ∃ bs, blsD ds = some bs ∧ Φ (.bl (bs.all id)) S
  | _ => False
theorem ca_allL {K : PySem.W.Frag} : CaD (rAll K) fAllL := by
  intro S σ H G as xs vs A r Φ Q h q
  unfold fAllL at h
  split at h
  · obtain ⟨bs, h1, h2⟩ := h
    obtain ⟨v, rfl, a, ys, rfl, ga, ry⟩ := rps1 r
    have e := bls_rp _ _ _ ry h1
    subst e
    exact ⟨a, bs, rfl, A.sql ga, q _ S _ H G h2 Stp.refl A rfl⟩
  · exact h.elim
theorem je_all (hc : X.calm = true) (hg : Gl X "all") (hm : X.mg "all" = none) (ha : JA X (e :: es) tA wA) (hs : starEach (e :: es) X.env = (false, eval e X.env) :: starEach es X.env := by rfl) (hpl : (backTo pos (starEach es X.env)).any (·.1) = false := by rfl) :
    JE X (.Call (.Name "all" p) (e :: es) [] pos) (tCB (rAll X.K) tA) (wCB fAllL wA) := je_cb (cr_all hc) ca_allL hg hm (by decide +kernel) ha (hs := hs) (hpl := hpl)
/-! ### list(d.values()) -/
def rListVals : V → Hp → VK → Prop := fun x H Q => ∃ (d : Addr) (kvs : List (Key × V)), x = .ref d ∧ Rd H d (.dK kvs) ∧ ∀ p, H p = none → Q (.ref p) (upd H p (.lst (kvs.map (·.2))))
def tListVals (te : TE) : TE := fun σ H Q => te σ H fun x H1 => rListVals x H1 Q
theorem vals_at : ∀ {kvs : List (Key × V)} {vs : List (Key × Value)} {us : List Value}, KV kvs vs → us.length = vs.length → (∀ (j : Nat) (v : Value), us[j]? = some v → ∃ k, vs[j]? = some (k, v)) → Vals (kvs.map (·.2)) us
  | [], [], [], _, _, _ => .nil
  | p :: kvs, q :: vs, u :: us, .cons r rr, hl, h => by
    obtain ⟨k, e⟩ := h 0 u rfl
    have e' : q = (k, u) := by simpa using e
    subst e'
    exact .cons r.2 (vals_at rr (by simpa using hl) fun j v e => by simpa using h (j + 1) v (by simpa using e))
  | [], _ :: _, _, r, _, _ => by cases r
  | _ :: _, [], _, r, _, _ => by cases r
  | [], [], _ :: _, _, hl, _ => by simp at hl
  | _ :: _, _ :: _, [], _, hl, _ => by simp at hl
theorem pe_listVals {apos cpos : Pos} (hc : X.calm = true) (he : PE X e te) (hg : Gl X "list") (hm : X.mg "list" = none) (hbase : attributeBase e "values" X.env (eval e X.env) = eval e X.env := by rfl) (hline : (apos.endLine == cpos.line) = true := by rfl)
    (hs : starEach [.Call (.Attribute e "values" apos) [] [] cpos] X.env = (false, eval (.Call (.Attribute e "values" apos) [] [] cpos) X.env) :: starEach [] X.env := by rfl) :
    PE X (.Call (.Name "list" p) [.Call (.Attribute e "values" apos) [] [] cpos] [] pos) (tListVals te) := by
  refine ⟨fun pins s σ H Q I hq => ?_⟩
  refine wpAny_Call_Name_kw (ld_blt I hg hm (show bootBuiltins "list" = some (.type "list") by decide +kernel) ?_)
  refine PyProof.Rows.callWith_type1 ?_ hs rfl
  rw [hs]
  show wpAny _ _ (spliced ((false, eval (.Call (.Attribute e "values" apos) [] [] cpos) X.env) :: backTo pos (starEach [] X.env))) _ _ s
  refine Calls.spliced_cons ?_
  refine wpAny_Call_method (T := "dict") (id := "dict.values") hbase rfl hline F.plainAttrs_dict F.slot_dict_values F.type_dict_values (thn (he.run pins s σ H _ I hq) fun u s1 ⟨x, H1, I1, rx, d, kvs, ex, hd, q⟩ => ?_)
  subst ex
  obtain rfl : u = Value.ref d := rx
  obtain ⟨hz, hs0, vs, kv, hdo⟩ := dk_rd I1.hok hd
  obtain ⟨ep, hat⟩ := hdo.dictAt
  have lk : kvs.length = vs.length := Paired.length kv
  refine ⟨hdo.typeIs, hdo.mapOf.noDict, ?_⟩
  show wpAny _ _ (callWith cpos (.builtin "dict.values") [.ref d] [] []) _ X.xe s1
  refine method_meetsIn F.slot_dict_values F.entry_dict_values rfl (PySem.evalArgs_none ⟨rfl, hdo.typeIs, F.args_dict_values_1 _, _, meets_dict_values (mixKind X.prog X.w) d hs0, ⟨vs, hdo⟩, ?_⟩)
  refine Calls.spliced_nil ?_
  have I2 : Inv X pins σ H1 { s1 with heap := s1.heap.push { cls := .type "dict_values", data := .fields #[.ref d] } } := I1.kept (t' := s1.toks) fun b ob q => Heap.get?_push_of_some _ q
  refine PySem.W.kdl_call (PySem.W.kdl_values (knd := mixKind X.prog X.w) (kvs := vs) (ep := ep)) (I1.ok.hd hc) ⟨⟨_, Heap.get?_push_size _ rfl, rfl, rfl⟩, hat.push _⟩ (by omega) fun h' tk acc c' hk hD hacc => ?_
  have hv : Vals (kvs.map (·.2)) acc.toList := vals_at kv (by rw [Array.length_toList]; exact hacc.1) fun j v e => hacc.2 j v (by rw [← Array.getElem?_toList]; exact e)
  exact ⟨.ref _, _, I2.laid (t' := tk) hk (Nat.le_refl _) (show ObjOk X.prog X.w _ _ _ (.lst (kvs.map (·.2))) from ⟨by rw [List.length_map]; exact hz, acc.toList, c', hv, by rw [Array.toArray_toList]; exact hD⟩), rfl, q _ (I2.hok.fresh (Nat.le_refl _))⟩
def wListVals (w : WE) : WE := fun S Φ => w S fun d S1 => match d with
  | .dic ks ds => Φ (.lst ds) S1
  | _ => False
theorem jn_listVals {apos cpos : Pos} (hc : X.calm = true) (he : JE X e te we) (hg : Gl X "list") (hm : X.mg "list" = none) (hbase : attributeBase e "values" X.env (eval e X.env) = eval e X.env := by rfl) (hline : (apos.endLine == cpos.line) = true := by rfl)
    (hs : starEach [.Call (.Attribute e "values" apos) [] [] cpos] X.env = (false, eval (.Call (.Attribute e "values" apos) [] [] cpos) X.env) :: starEach [] X.env := by rfl) :
    JN X (.Call (.Name "list" p) [.Call (.Attribute e "values" apos) [] [] cpos] [] pos) (tListVals te) (wListVals we) := by
  refine ⟨pe_listVals hc he.pe hg hm hbase hline hs, fun S Φ h σ H G as A Q q => ?_⟩
  refine he.go S _ h σ H G as A _ fun d S1 v H1 G1 h1 st1 A1 r1 => ?_
  split at h1
  · obtain ⟨a, ys, rfl, ga, hk, ry⟩ := r1
    exact ⟨a, ys, rfl, A1.le ga, fun l hl => q _ S1 l _ H1 G1 h1 st1 A1 hl ⟨_, rfl, ry⟩⟩
  · exact h1.elim
end
end S
set_option Elab.async false
set_option linter.all false
set_option maxRecDepth 100000
set_option autoImplicit false
/-! S: dicts compared, chains, signs, powers, division, a list lengthened by a tuple, defs with defaults -/
namespace S
open PySem L2 PyProof.Rows
section
variable {X : Cx} {a b c e : Expr} {es : List Expr} {pos p p2 : Pos} {t ta tb tc te : TE} {w wa wb wc we : WE} {tA : TA} {wA : WA}
/-! ### chains of two comparisons -/
def wChain (f f' : F2) (wa wb wc : WE) : WE := fun S Φ => wa S fun x S1 => wb S1 fun y S2 => f x y S2 fun z S3 => match z with
  | .bl true => wc S3 fun u S4 => f' y u S4 Φ
  | .bl false => Φ (.bl false) S3
  | _ => False
theorem go_chain {r r' : R2} {f f' : F2} (hr : OpD r f) (hr' : OpD r' f') (ha : ∀ S Φ, wa S Φ → GoE ta S Φ) (hb : ∀ S Φ, wb S Φ → GoE tb S Φ) (hc : ∀ S Φ, wc S Φ → GoE tc S Φ) : ∀ S Φ, wChain f f' wa wb wc S Φ → GoE (tChain r r' ta tb tc) S Φ := by
  intro S Φ h σ H G as A Q q
  refine ha S _ h σ H G as A _ fun x S1 v H1 G1 h1 st1 A1 r1 => ?_
  refine hb S1 _ h1 σ H1 G1 as A1 _ fun y S2 u H2 G2 h2 st2 A2 r2 => ?_
  refine hr S2 σ H2 G2 as x y v u A2 (r1.mono st2.ex) r2 _ _ h2 fun d S3 z H3 G3 h3 st3 A3 r3 => ?_
  have st := (st1.trans st2).trans st3
  cases d with
  | bl k =>
    refine ⟨k, r3, ?_⟩
    cases k with
    | true =>
      rw [if_pos rfl]
      refine hc S3 _ h3 σ H3 G3 as A3 _ fun u' S4 v4 H4 G4 h4 st4 A4 r4 => ?_
      exact hr' S4 σ H4 G4 as y u' u v4 A4 ((r2.mono st3.ex).mono st4.ex) r4 Φ Q h4 fun d S' z H' G' hΦ st' A' rz => q d S' z H' G' hΦ ((st.trans st4).trans st') A' rz
    | false =>
      rw [if_neg Bool.false_ne_true]
      exact q _ S3 _ H3 G3 h3 st A3 rfl
  | _ => exact h3.elim
theorem je_chain {op op' : CmpOp} {r r' : R2} {f f' : F2} (ho : OpR X (compareOp op) r) (hr : OpD r f) (ho' : OpR X (compareOp op') r') (hr' : OpD r' f') (ha : JE X a ta wa) (hb : JE X b tb wb) (hc : JE X c tc wc) (hm : lastMarks [op, op'] [b, c] = false := by with_unfolding_all rfl) :
    JE X (.Compare a [op, op'] [b, c] pos) (tChain r r' ta tb tc) (wChain f f' wa wb wc) := ⟨pe_chain ho ho' ha.pe hb.pe hc.pe hm, go_chain hr hr' ha.go hb.go hc.go⟩
theorem jt_chain {op op' : CmpOp} {r r' : R2} {f f' : F2} (ho : OpR X (compareOp op) r) (hr : OpD r f) (ho' : OpR X (compareOp op') r') (hr' : OpD r' f') (ha : JE X a ta wa) (hb : JE X b tb wb) (hc : JE X c tc wc) (hm : lastMarks [op, op'] [b, c] = false := by with_unfolding_all rfl) :
    JT X (.Compare a [op, op'] [b, c] pos) (tTest (tChain r r' ta tb tc)) (wTest (wChain f f' wa wb wc)) := ⟨pt_chain ho ho' ha.pe hb.pe hc.pe hm, go_test (go_chain hr hr' ha.go hb.go hc.go)⟩
/-- a <= b <= c -/
theorem jt_lele (ha : JE X a ta wa) (hb : JE X b tb wb) (hc : JE X c tc wc) (hm : lastMarks [.LtE, .LtE] [b, c] = false := by with_unfolding_all rfl) :
    JT X (.Compare a [.LtE, .LtE] [b, c] pos) (tTest (tChain (rI0 fun i j => .bl (decide (i ≤ j))) (rI0 fun i j => .bl (decide (i ≤ j))) ta tb tc)) (wTest (wChain (fI0 fun i j => .bl (decide (i ≤ j))) (fI0 fun i j => .bl (decide (i ≤ j))) wa wb wc)) :=
  jt_chain op_le (od_I0 fun _ _ _ => rfl) op_le (od_I0 fun _ _ _ => rfl) ha hb hc hm
/-! ### c in TEXT; x not in (A, B, ..) -/
def rSign : R2 := fun x y H Q => ∃ (c : Nat) (z : Str), x = .str ⟨#[c]⟩ ∧ y = .str z ∧ Q (.bl (decide (c ∈ z.cps.toList))) H
def fSign : F2 := fun x y S Φ => match x, y with
  | .str i, .str z => ∃ c, i = ⟨#[c]⟩ ∧ Φ (.bl (decide (c ∈ z.cps.toList))) S
  | _, _ => False
theorem od_sign : OpD rSign fSign := by
  intro S σ H G as x y v u A rx ry Φ Q h q
  unfold fSign at h
  split at h
  · obtain ⟨c, rfl, h2⟩ := h
    exact ⟨c, _, rx, ry, q _ S _ H G h2 Stp.refl A rfl⟩
  · exact h.elim
theorem je_sign (ha : JE X a ta wa) (hb : JE X b tb wb) (hm : behindInMarks .In b = false := by with_unfolding_all rfl) : JE X (.Compare a [.In] [b] pos) (tOp rSign ta tb) (wOp fSign wa wb) := je_cmp op_in_sign od_sign ha hb hm
theorem jt_sign (ha : JE X a ta wa) (hb : JE X b tb wb) (hm : behindInMarks .In b = false := by with_unfolding_all rfl) : JT X (.Compare a [.In] [b] pos) (tTest (tOp rSign ta tb)) (wTest (wOp fSign wa wb)) := jt_cmp op_in_sign od_sign ha hb hm
def strsD : List D → Option (List Str)
  | [] => some []
  | .str i :: r => (strsD r).map (i :: ·)
  | _ :: _ => none
theorem strs_rp {G : Hp} : ∀ (ds : List D) (vs : List V) (is : List Str), Rps G ds vs → strsD ds = some is → vs = is.map V.str
  | [], _, _, r, h => by cases h; exact r
  | .str i :: ds, _, is, ⟨v, vs, e, r1, r2⟩, h => by
    unfold strsD at h
    obtain ⟨js, h1, h2⟩ := Option.map_eq_some_iff.mp h
    subst h2
    rw [e, show v = V.str i from r1, strs_rp ds vs js r2 h1]
    rfl
  | .non :: _, _, _, _, h => by cases h
  | .int _ :: _, _, _, _, h => by cases h
  | .bl _ :: _, _, _, _, h => by cases h
  | .tup _ :: _, _, _, _, h => by cases h
  | .lst _ :: _, _, _, _, h => by cases h
  | .dic _ _ :: _, _, _, _, h => by cases h
  | .ins _ _ _ :: _, _, _, _, h => by cases h
def fInT (neg : Bool) : F2 := fun x y S Φ => match x, y with
  | .str i, .tup ds => ∃ is, strsD ds = some is ∧ Φ (.bl (if neg then !decide (i ∈ is) else decide (i ∈ is))) S
  | _, _ => False
theorem inV_strs (i : Str) : ∀ is : List Str, inV (.str i) (is.map V.str) = decide (i ∈ is)
  | [] => rfl
  | j :: is => by
    have ih := inV_strs i is
    unfold inV at ih ⊢
    rw [List.map_cons, List.any_cons, ih]
    by_cases e : i = j
    · subst e; simp [eqV]
    · have : (j == i) = false := beq_eq_false_iff_ne.mpr (Ne.symm e)
      simp [eqV, this, e]
theorem flat_strs : ∀ is : List Str, (is.map V.str).all flatV = true
  | [] => rfl
  | _ :: is => by rw [List.map_cons, List.all_cons, flat_strs is]; rfl
theorem od_inT (neg : Bool) {K : PySem.W.Frag} : OpD (rIn K neg) (fInT neg) := by
  intro S σ H G as x y v u A rx ry Φ Q h q
  unfold fInT at h
  split at h
  · rename_i i ds
    obtain ⟨is, h1, h2⟩ := h
    obtain ⟨p, xs, rfl, gp, rr⟩ := ry
    have e := strs_rp ds xs is rr h1
    subst e
    rw [show v = V.str i from rx]
    refine ⟨p, _, rfl, .inr (A.sqt gp), rfl, flat_strs is, ?_⟩
    rw [inV_strs]
    exact q _ S _ H G h2 Stp.refl A rfl
  · exact h.elim
theorem jt_notInT (ha : JE X a ta wa) (hb : JE X b tb wb) (hm : behindInMarks .NotIn b = false := by with_unfolding_all rfl) : JT X (.Compare a [.NotIn] [b] pos) (tTest (tOp (rIn X.K true) ta tb)) (wTest (wOp (fInT true) wa wb)) := jt_cmp op_notIn_seq (od_inT true) ha hb hm
theorem je_notInT (ha : JE X a ta wa) (hb : JE X b tb wb) (hm : behindInMarks .NotIn b = false := by with_unfolding_all rfl) : JE X (.Compare a [.NotIn] [b] pos) (tOp (rIn X.K true) ta tb) (wOp (fInT true) wa wb) := je_cmp op_notIn_seq (od_inT true) ha hb hm
theorem jt_inT (ha : JE X a ta wa) (hb : JE X b tb wb) (hm : behindInMarks .In b = false := by with_unfolding_all rfl) : JT X (.Compare a [.In] [b] pos) (tTest (tOp (rIn X.K false) ta tb)) (wTest (wOp (fInT false) wa wb)) := jt_cmp op_in_seq (od_inT false) ha hb hm
/-! ### **, // -/
theorem je_pow (ha : JE X a ta wa) (hb : JE X b tb wb) : JE X (.BinOp a .Pow b pos) (tOp (rI CPow fun i j => .int (i ^ j.toNat)) ta tb) (wOp (fI CPow fun i j => .int (i ^ j.toNat)) wa wb) := je_op op_pow (od_I fun _ _ _ => rfl) ha hb
/-- nothing looks on -/
structure SeerOk (X : Cx) : Prop where
  ns : X.base.NoSeer
  tr : X.prog.given.tree = none
  dp : X.A.depth + Builtin.pylongFrames < recursionLimit
  fr : ∃ env l, X.stack = env :: l ∧ env.scope.isGenerator = false ∧ env.scope.isCoroutine = false ∧ env.builtins = builtinsNs ∧ env.globals = mainGlobals
def CPos (_ j : Int) : Prop := 0 < j
theorem op_fdivP (hs : SeerOk X) : OpR X (binaryOp .FloorDiv) (rI CPos fun i j => .int (i / j)) := by
  intro pins s σ H x y v u Q I rx ry h
  obtain ⟨i, j, rfl, rfl, hc, q⟩ := h
  obtain ⟨t1, rfl⟩ := rx
  obtain ⟨t2, rfl⟩ := ry
  obtain ⟨env, l, f1, f2, f3, f4, f5⟩ := hs.fr
  have hj : (0 : Int) < j := hc
  refine floordiv_int (by omega) ⟨.int (i / j), H, I.tok _, ⟨_, by rw [Int.fdiv_eq_ediv_of_nonneg i (by omega)]⟩, q⟩ (.inr ?_)
  exact PylongRoom.of I.nolimit hs.dp (SeerAt.of (hs.ns.keeps I.bk) hs.tr (I.ok.frames.trans (congrArg some f1)) f2 f3 f4 f5)
theorem je_fdivP (hs : SeerOk X) (ha : JE X a ta wa) (hb : JE X b tb wb) : JE X (.BinOp a .FloorDiv b pos) (tOp (rI CPos fun i j => .int (i / j)) ta tb) (wOp (fI CPos fun i j => .int (i / j)) wa wb) := je_op (op_fdivP hs) (od_I fun _ _ _ => rfl) ha hb
/-! ### dicts compared -/
def eqP (kd ld : List (Key × PyData)) : Bool := kd.length == ld.length && kd.all fun p => match (kd.find? fun q => decide (q.1 = p.1)), (ld.find? fun q => decide (q.1 = p.1)) with
  | some x, some y => PyData.eqv x.2 y.2
  | _, _ => false
def rDEqP (K : PySem.W.Frag) (neg : Bool) : R2 := fun x y H Q => ∃ a b ks ls kd ld, x = .ref a ∧ y = .ref b ∧ Rd H a (.dK ks) ∧ Rd H b (.dK ls) ∧
  Paired (fun (p : Key × V) (q : Key × PyData) => p.1 = q.1 ∧ Dp K H p.2 q.2 ∧ SeqAt.shaped q.2 = true) ks kd ∧ Paired (fun (p : Key × V) (q : Key × PyData) => p.1 = q.1 ∧ Dp K H p.2 q.2 ∧ SeqAt.shaped q.2 = true) ls ld ∧ Q (.bl (if neg then !eqP kd ld else eqP kd ld)) H
theorem paired_find {K : PySem.W.Frag} {H : Hp} : ∀ {ks : List (Key × V)} {kd : List (Key × PyData)} {vs : List (Key × Value)}, Paired (fun (p : Key × V) (q : Key × PyData) => p.1 = q.1 ∧ Dp K H p.2 q.2 ∧ SeqAt.shaped q.2 = true) ks kd → KV ks vs → ∀ (k : Key),
    (match vs.find? (fun q => decide (q.1 = k)), kd.find? (fun q => decide (q.1 = k)) with
      | some q, some d => ∃ v, RelV v q.2 ∧ Dp K H v d.2 ∧ SeqAt.shaped d.2 = true
      | none, none => True
      | _, _ => False)
  | [], [], [], _, _, k => trivial
  | p :: ks, d :: kd, q :: vs, .cons ⟨e1, e2, e3⟩ r, .cons ⟨g1, g2⟩ s, k => by
    have ih := paired_find r s k
    rw [List.find?_cons, List.find?_cons]
    by_cases z : q.1 = k
    · have z2 : d.1 = k := by rw [← e1, g1]; exact z
      rw [decide_eq_true z, decide_eq_true z2]
      exact ⟨p.2, g2, e2, e3⟩
    · have z2 : d.1 ≠ k := by rw [← e1, g1]; exact z
      rw [decide_eq_false z, decide_eq_false z2]
      exact ih
  | [], _ :: _, _, r, _, _ => by cases r
  | _ :: _, [], _, r, _, _ => by cases r
  | _ :: _, _, [], _, s, _ => by cases s
  | [], _, _ :: _, _, s, _ => by cases s
def eKey (kd ld : List (Key × PyData)) (k : Key) : Bool := match (kd.find? fun q => decide (q.1 = k)), (ld.find? fun q => decide (q.1 = k)) with
  | some x, some y => PyData.eqv x.2 y.2
  | _, _ => false
theorem eqP_of {K : PySem.W.Frag} {H : Hp} {ks ls : List (Key × V)} {kd ld : List (Key × PyData)} {vs ws : List (Key × Value)} (rk : Paired (fun (p : Key × V) (q : Key × PyData) => p.1 = q.1 ∧ Dp K H p.2 q.2 ∧ SeqAt.shaped q.2 = true) ks kd) (rl : Paired (fun (p : Key × V) (q : Key × PyData) => p.1 = q.1 ∧ Dp K H p.2 q.2 ∧ SeqAt.shaped q.2 = true) ls ld)
    (kv : KV ks vs) (lv : KV ls ws) : (vs.length == ws.length && vs.all fun p => (valueAt ws p.1).isSome && eKey kd ld p.1) = eqP kd ld := by
  have hl1 : vs.length = kd.length := (Paired.length kv).symm.trans (Paired.length rk)
  have hl2 : ws.length = ld.length := (Paired.length lv).symm.trans (Paired.length rl)
  unfold eqP
  rw [hl1, hl2]
  congr 1
  have key : ∀ k : Key, ((valueAt ws k).isSome && eKey kd ld k) = eKey kd ld k := fun k => by
    have h := paired_find rl lv k
    unfold valueAt eKey
    rw [Option.isSome_map]
    cases q1 : ws.find? (fun q => decide (q.1 = k)) with
    | none =>
      rw [q1] at h
      cases q2 : ld.find? (fun q => decide (q.1 = k)) with
      | none => cases kd.find? (fun q => decide (q.1 = k)) <;> rfl
      | some y => rw [q2] at h; exact h.elim
    | some x => simp
  have keys : vs.map (·.1) = kd.map (·.1) := by
    clear key hl1 hl2 rl lv
    induction rk generalizing vs with
    | nil => cases kv; rfl
    | cons h _ ih =>
      cases kv with
      | cons g s => rw [List.map_cons, List.map_cons, ih s, ← g.1, h.1]
  have e1 : (vs.all fun p => (valueAt ws p.1).isSome && eKey kd ld p.1) = (vs.map (·.1)).all (eKey kd ld) := by
    rw [List.all_map]
    congr 1
    funext p
    exact key p.1
  have e2 : (kd.all fun p => eKey kd ld p.1) = (kd.map (·.1)).all (eKey kd ld) := by rw [List.all_map]; rfl
  rw [e1, keys, ← e2]
  rfl
theorem eqs_of {pins : List (Addr × Obj)} {σ : L2.St} {H : Hp} {s : Shared} (I : Inv X pins σ H s) {ks ls : List (Key × V)} {kd ld : List (Key × PyData)} {vs ws : List (Key × Value)} (rk : Paired (fun (p : Key × V) (q : Key × PyData) => p.1 = q.1 ∧ Dp X.K H p.2 q.2 ∧ SeqAt.shaped q.2 = true) ks kd)
    (rl : Paired (fun (p : Key × V) (q : Key × PyData) => p.1 = q.1 ∧ Dp X.K H p.2 q.2 ∧ SeqAt.shaped q.2 = true) ls ld) (kv : KV ks vs) (lv : KV ls ws) (nd : (vs.map (·.1)).Nodup) {A : Around} (hu : A.units + 64 < cLine) : ∀ (k : Key) (v y : Value), (k, v) ∈ vs → valueAt ws k = some y → SeqAt.EqAt A s v y (eKey kd ld k) := by
  intro k v y hm hv
  have h1 := paired_find rk kv k
  have h2 := paired_find rl lv k
  unfold valueAt at hv
  obtain ⟨q, hq, rfl⟩ := Option.map_eq_some_iff.mp hv
  rw [hq] at h2
  have hf : vs.find? (fun q => decide (q.1 = k)) = some (k, v) := by
    clear h1 h2 hv hq rk rl kv lv
    induction vs with
    | nil => cases hm
    | cons z zs ih =>
      rw [List.find?_cons]
      rw [List.map_cons, List.nodup_cons] at nd
      rcases List.mem_cons.mp hm with e | e
      · rw [← e]; simp
      · have : z.1 ≠ k := fun w => nd.1 (by rw [w]; exact List.mem_map_of_mem (f := (·.1)) e)
        rw [decide_eq_false this]
        exact ih nd.2 e
  rw [hf] at h1
  unfold eKey
  cases q1 : kd.find? (fun q => decide (q.1 = k)) with
  | none => rw [q1] at h1; exact h1.elim
  | some d1 =>
    cases q2 : ld.find? (fun q => decide (q.1 = k)) with
    | none => rw [q2] at h2; exact h2.elim
    | some d2 =>
      rw [q1] at h1
      rw [q2] at h2
      obtain ⟨v1, r1, p1, s1⟩ := h1
      obtain ⟨v2, r2, p2, s2⟩ := h2
      obtain ⟨as1, e1⟩ := Dp.reads I d1.2 v1 v p1 r1
      obtain ⟨as2, e2⟩ := Dp.reads I d2.2 v2 q.2 p2 r2
      exact SeqAt.eqAt_reads d1.2 d2.2 A s v q.2 as1 as2 e1 e2 (SeqAt.canLay_of_shaped s1) (SeqAt.canLay_of_shaped s2) (SeqAt.room_of_shaped s1 hu)
theorem hits_of {A : Around} {s : Shared} {kb : List (Key × Value)} {e : Key → Bool} : ∀ {r : List (Key × Value)}, (∀ (k : Key) (v y : Value), (k, v) ∈ r → valueAt kb k = some y → SeqAt.EqAt A s v y (e k)) →
    PySem.W.KeqHits A s kb r (r.all fun p => (valueAt kb p.1).isSome && e p.1)
  | [], _ => .nil
  | (k, v) :: r, h => by
    rw [List.all_cons]
    cases q : valueAt kb k with
    | none => simp only [Option.isSome_none, Bool.false_and]; exact .miss q
    | some y =>
      simp only [Option.isSome_some, Bool.true_and]
      exact .hit q (h k v y List.mem_cons_self q) (hits_of fun k' v' y' hm hv => h k' v' y' (List.mem_cons_of_mem _ hm) hv)
theorem nodup_of {P : Program} {w : World} {h : Heap} {a : Addr} {vs : List (Key × Value)} (d : h.DictOf (mixKind P w) a vs) : (vs.map (·.1)).Nodup := let ⟨_, _, _, _, _, _, _, _, n⟩ := d; n
theorem op_deq (hu : X.A.units + 65 < cLine) : OpR X (compareOp .Eq) (rDEqP X.K false) := by
  intro pins s σ H x y v u Q I rx ry h
  obtain ⟨a, b, ks, ls, kd, ld, rfl, rfl, ha, hb, rk, rl, q⟩ := h
  obtain rfl : v = Value.ref a := rx
  obtain rfl : u = Value.ref b := ry
  obtain ⟨_, ya, va, ra, da⟩ := dk_rd I.hok ha
  obtain ⟨_, yb, vb, rb, db⟩ := dk_rd I.hok hb
  refine PySem.W.keq_eq (knd := mixKind X.prog X.w) ya yb da db (by omega) (fun _ => hits_of (eqs_of I rk rl ra rb (nodup_of da) (A := X.A.in1) (by show X.A.units + 1 + 64 < cLine; omega))) ?_
  rw [eqP_of rk rl ra rb]
  exact ⟨.bl _, H, I, rfl, q⟩
theorem op_dne (hu : X.A.units + 65 < cLine) : OpR X (compareOp .NotEq) (rDEqP X.K true) := by
  intro pins s σ H x y v u Q I rx ry h
  obtain ⟨a, b, ks, ls, kd, ld, rfl, rfl, ha, hb, rk, rl, q⟩ := h
  obtain rfl : v = Value.ref a := rx
  obtain rfl : u = Value.ref b := ry
  obtain ⟨_, ya, va, ra, da⟩ := dk_rd I.hok ha
  obtain ⟨_, yb, vb, rb, db⟩ := dk_rd I.hok hb
  refine PySem.W.keq_ne (knd := mixKind X.prog X.w) ya yb da db (by omega) (fun _ => hits_of (eqs_of I rk rl ra rb (nodup_of da) (A := X.A.in1) (by show X.A.units + 1 + 64 < cLine; omega))) ?_
  rw [eqP_of rk rl ra rb]
  exact ⟨.bl _, H, I, rfl, q⟩
/-- over data -/
noncomputable def dEq (ks ls : List (Key × D)) : Bool := ks.length == ls.length && ks.all fun p => match (ks.find? fun q => decide (q.1 = p.1)), (ls.find? fun q => decide (q.1 = p.1)) with
  | some x, some y => decide (x.2 = y.2)
  | _, _ => false
def kPs (ks : List (Key × D)) : List (Key × PyData) := ks.map fun p => (p.1, toP p.2)
theorem find_kPs (k : Key) : ∀ ks : List (Key × D), (kPs ks).find? (fun q => decide (q.1 = k)) = (ks.find? fun q => decide (q.1 = k)).map fun p => (p.1, toP p.2)
  | [] => rfl
  | p :: ks => by
    show ((p.1, toP p.2) :: kPs ks).find? _ = _
    rw [List.find?_cons, List.find?_cons]
    by_cases z : p.1 = k
    · rw [decide_eq_true z]; rfl
    · rw [decide_eq_false z]; exact find_kPs k ks
theorem okD_find {k : Key} : ∀ {ks : List (Key × D)} {p : Key × D}, okD ks = true → ks.find? (fun q => decide (q.1 = k)) = some p → okE 40 p.2 = true
  | [], _, _, h => by cases h
  | q :: ks, p, o, h => by
    unfold okD at o
    rw [List.map_cons] at o
    unfold okEs at o
    rw [Bool.and_eq_true] at o
    rw [List.find?_cons] at h
    by_cases z : q.1 = k
    · rw [decide_eq_true z] at h
      cases h
      exact o.1
    · rw [decide_eq_false z] at h
      exact okD_find (ks := ks) o.2 h
theorem eqP_dEq {ks ls : List (Key × D)} (h1 : okD ks = true) (h2 : okD ls = true) : eqP (kPs ks) (kPs ls) = dEq ks ls := by
  unfold eqP dEq
  have e1 : (kPs ks).length = ks.length := by unfold kPs; rw [List.length_map]
  have e2 : (kPs ls).length = ls.length := by unfold kPs; rw [List.length_map]
  rw [e1, e2]
  congr 1
  have e3 : ∀ g : Key × PyData → Bool, (kPs ks).all g = ks.all fun p => g (p.1, toP p.2) := fun g => by unfold kPs; rw [List.all_map]; rfl
  rw [e3]
  congr 1
  funext p
  rw [find_kPs, find_kPs]
  cases q1 : ks.find? (fun q => decide (q.1 = p.1)) with
  | none => rfl
  | some x =>
    cases q2 : ls.find? (fun q => decide (q.1 = p.1)) with
    | none => rfl
    | some y => exact eqv_dec 40 x.2 y.2 40 (okD_find h1 q1) (okD_find h2 q2)
theorem kPs_rp {S : Ab} {σ : L2.St} {H G : Hp} {as : List Addr} {K : PySem.W.Frag} (A : At S σ H G as) : ∀ (ks : List (Key × D)) (kvs : List (Key × V)), okD ks = true → kvs.map (·.1) = ks.map (·.1) → Rps G (ks.map (·.2)) (kvs.map (·.2)) →
    Paired (fun (p : Key × V) (q : Key × PyData) => p.1 = q.1 ∧ Dp K H p.2 q.2 ∧ SeqAt.shaped q.2 = true) kvs (kPs ks)
  | [], [], _, _, _ => .nil
  | [], _ :: _, _, h, _ => by simp at h
  | _ :: _, [], _, h, _ => by simp at h
  | (k, d) :: ks, (k2, v) :: kvs, o, h1, ⟨v', vs', e, r1, r2⟩ => by
    have h1' : k2 = k ∧ kvs.map (·.1) = ks.map (·.1) := by simpa using h1
    have e' : v = v' ∧ kvs.map (·.2) = vs' := by simpa using e
    obtain ⟨rfl, rfl⟩ := e'
    unfold okD at o
    rw [List.map_cons] at o
    unfold okEs at o
    rw [Bool.and_eq_true] at o
    exact .cons ⟨h1'.1, dp_of A 40 d v o.1 r1, okE_shaped o.1 (by decide)⟩ (kPs_rp A ks kvs o.2 h1'.2 r2)
def fDEq (neg : Bool) : F2 := fun x y S Φ => ∃ ks ls, x = dk ks ∧ y = dk ls ∧ okD ks = true ∧ okD ls = true ∧ Φ (.bl (if neg then !dEq ks ls else dEq ks ls)) S
theorem od_deq {K : PySem.W.Frag} (neg : Bool) : OpD (rDEqP K neg) (fDEq neg) := by
  intro S σ H G as x y v u A rx ry Φ Q ⟨ks, ls, e1, e2, o1, o2, h⟩ q
  subst e1
  subst e2
  obtain ⟨a, xs, rfl, ga, hx1, hx2⟩ := dk_rp rx
  obtain ⟨b, ys, rfl, gb, hy1, hy2⟩ := dk_rp ry
  refine ⟨a, b, xs, ys, kPs ks, kPs ls, rfl, rfl, A.le ga, A.le gb, kPs_rp A ks xs o1 hx1 hx2, kPs_rp A ls ys o2 hy1 hy2, ?_⟩
  rw [eqP_dEq o1 o2]
  exact q _ S _ H G h Stp.refl A rfl
theorem je_deq (hu : X.A.units + 65 < cLine) (ha : JE X a ta wa) (hb : JE X b tb wb) : JE X (.Compare a [.Eq] [b] pos) (tOp (rDEqP X.K false) ta tb) (wOp (fDEq false) wa wb) := je_cmp (op_deq hu) (od_deq false) ha hb (nomark _)
theorem jt_deq (hu : X.A.units + 65 < cLine) (ha : JE X a ta wa) (hb : JE X b tb wb) : JT X (.Compare a [.Eq] [b] pos) (tTest (tOp (rDEqP X.K false) ta tb)) (wTest (wOp (fDEq false) wa wb)) := jt_cmp (op_deq hu) (od_deq false) ha hb (nomark _)
theorem je_dne (hu : X.A.units + 65 < cLine) (ha : JE X a ta wa) (hb : JE X b tb wb) : JE X (.Compare a [.NotEq] [b] pos) (tOp (rDEqP X.K true) ta tb) (wOp (fDEq true) wa wb) := je_cmp (op_dne hu) (od_deq true) ha hb (nomark _)
theorem jt_dne (hu : X.A.units + 65 < cLine) (ha : JE X a ta wa) (hb : JE X b tb wb) : JT X (.Compare a [.NotEq] [b] pos) (tTest (tOp (rDEqP X.K true) ta tb)) (wTest (wOp (fDEq true) wa wb)) := jt_cmp (op_dne hu) (od_deq true) ha hb (nomark _)
/-- {} -/
def wDic0 : WE := fun S Φ => Φ (.dic [] []) S
theorem jn_dic0 : JN X (.Dict [] [] pos) tDNewK wDic0 := ⟨pe_dnewK, fun S Φ h σ H G as A Q q => fun p hp => q _ S p _ H G h Stp.refl A hp ⟨[], rfl, rfl, rfl⟩⟩
end
/-! ### x.extend(t), t a tuple -/
theorem ext_tup (l : Addr) (items : Array Value) (n : Nat) (b : Addr) (items2 : Array Value) (n2 : Nat) (dd : Option Addr) (sl : Array (Option Value))
    (c0 : ¬(!items.isEmpty && Builtin.List.listTooLong (items.size + items2.size)) = true) (c1 : items.size ≤ sizeLine) (c2 : items.size + items2.size ≤ sizeLine + 1) :
    Meets (Builtin.«list.extend» ⟨[.ref l, .ref b], []⟩) (fun _ R s =>
      s.heap.get? l = some { cls := .type "list", data := .seq items n } ∧
      s.heap.get? b = some { cls := .type "tuple", dict := dd, data := .seq items2 n2, slots := sl } ∧
      R (.ok (.ret Value.none)) { s with heap := s.heap.update l (Obj.mapSeq fun x => x ++ items2), toks := s.toks }) := by
  have joined : (items ++ items2).size ≤ sizeLine + 1 := by rw [Array.size_append]; exact c2
  refine .of_wp fun prog w A R s h => ?_
  obtain ⟨hp, g, d, tk, os⟩ := s
  obtain ⟨hl, hb, h⟩ := h
  have f1 := AutoSeq1.idx_int
  have f2 := AutoSeq1.sub_tuple_tuple
  have f3 := AutoSeq1.sub_list_list
  have f4 := AutoSeq1.sub_tuple_list
  have f5 := AutoSeq1.sub_list_tuple
  wp_walk using
    (wpAny_updateSeq hl rfl
      (hz := c1) (_hz' := joined)),
    AutoSeq1.wpAny_loadPart' hl,
    AutoSeq1.wpAny_loadPart' hb
  exact ⟨_, rfl, h⟩
end S
set_option Elab.async false
set_option linter.all false
set_option maxRecDepth 100000
set_option autoImplicit false
/-! S: lists lengthened by tuples, defs with one default, who looks on -/
namespace S
open PySem L2 PyProof.Rows
section
variable {X : Cx} {a b c e : Expr} {es : List Expr} {pos p p2 : Pos} {t ta tb tc te : TE} {w wa wb wc we : WE} {tA : TA} {wA : WA}
def rExtT (K : PySem.W.Frag) : V → List V → Hp → VK → Prop := fun x vs H Q => ∃ l b xs zs, x = .ref l ∧ vs = [V.ref b] ∧ H l = some (.lst xs) ∧ SqT K H b zs ∧ xs.length + zs.length ≤ sizeLine ∧ Q .non (upd H l (.lst (xs ++ zs)))
theorem mt_extT : MtR X "list.extend" (rExtT X.K) := by
  intro pins s σ H x vs v us Q I rx rv h
  obtain ⟨l, b, xs, zs, rfl, rfl, hH, hB, hz, q⟩ := h
  cases rx
  obtain ⟨u, rfl, ru⟩ := rv.one
  cases ru
  obtain ⟨z, its, n, r, hl, e⟩ := I.lstM hH
  obtain ⟨its2, r2, ⟨o, e2, oc, n2, od⟩, z2⟩ := I.tuple hB
  have hl2 := r2.length
  obtain ⟨oc', dd, od', sl⟩ := o
  simp only at oc od
  subst oc
  subst od
  have hsz : its.toArray.size + its2.toArray.size ≤ sizeLine := by rw [List.size_toArray, List.size_toArray]; omega
  have hlong : ¬ (!its.toArray.isEmpty && Builtin.List.listTooLong (its.toArray.size + its2.toArray.size)) = true := by
    rw [notLongL hsz, Bool.and_false]; decide
  refine call_meets F.slot_list_extend ⟨_, e, rfl⟩ F.entry_list_extend (F.args_list_extend_2 _ _) (ext_tup l its.toArray n b its2.toArray n2 dd sl hlong (by rw [List.size_toArray]; omega) (by omega)) ⟨e, e2, ?_⟩
  exact ⟨.non, _, I.lset (its' := its ++ its2) hH e (by simp) (r.append r2) (by rw [List.length_append]; omega), rfl, q⟩
/-- x.extend(t), x an own list -/
def wExtO (i : Nat) (w : WE) : WE := fun S Φ => (∃ k e, S.atO i = some (k, .lst e)) ∧ w S fun c S1 => ∃ k ds es, (∀ (k1 : Nat) (e : D), S.atO i = some (k1, e) → k1 = k) ∧ S1.atO i = some (k, .lst ds) ∧ c = .tup es ∧ ds.length + es.length ≤ 16777216 ∧ Φ .non (S1.put k (.lst (ds ++ es)))
theorem je_extO (i : Nat) {x : Str} {apos cpos : Pos} (h : JE X e te we) (hpe : PE X (.Call (.Attribute (.Name x p) "extend" apos) [e] [] cpos) (tBM X.K "list" (rExtT X.K) (tVar i) (tCons te tNil))) :
    JE X (.Call (.Attribute (.Name x p) "extend" apos) [e] [] cpos) (tBM X.K "list" (rExtT X.K) (tVar i) (tCons te tNil)) (wExtO i we) := by
  refine ⟨hpe, fun S Φ ⟨⟨k0, ds0, h0⟩, hw⟩ σ H G as A Q q => ?_⟩
  obtain ⟨a, u, e1, e2, e3, e4, e5, xs, rfl, rx⟩ := A.atO h0
  refine ⟨_, e3, .inl ⟨rfl, xs, .inl (.inl e5)⟩, ?_⟩
  refine h.go S _ hw σ H G as A _ fun c S1 v H1 G1 ⟨k, ds, es, g0, g1, g2, g3, g5⟩ st1 A1 r1 => ?_
  obtain rfl := g0 k0 _ h0
  subst g2
  obtain ⟨b, u1, f1, f2, f3, f4, f5, ys, rfl, ry⟩ := A1.atO g1
  rw [e2] at f2
  cases f2
  obtain ⟨b, zs, rfl, gb, rz⟩ := r1
  obtain ⟨st2, A2⟩ := A1.upOwn (d := .lst (ds ++ es)) (u := .lst (ys ++ zs)) f1 e2 ⟨_, rfl, ry.append rz⟩
  exact ⟨a, b, ys, zs, rfl, rfl, f5, A1.sqt gb, by rw [ry.length, rz.length]; exact sl_of g3, q _ _ _ _ G1 g5 (st1.trans st2) A2 rfl⟩
/-- a reading of an own list's methods -/
theorem pm_app (i : Nat) {x : Str} {apos cpos : Pos} (ho : PE X (.Name x p) (tVar i)) (h : PE X e te) (hbase : attributeBase (.Name x p) "append" X.env (eval (.Name x p) X.env) = eval (.Name x p) X.env := by rfl)
    (hfew : ((backTo cpos (starEach [e] X.env)).all (fun x => !x.1) && (backToKw cpos (keywordEach [] X.env)).all (fun x => x.1.isSome)
      && decide ([e].length + ([] : List Keyword).length + (if ([] : List Keyword).isEmpty then 0 else 1) < 30)) = true := by rfl)
    (hline : (apos.endLine == cpos.line) = true := by rfl) (hs : starEach [e] X.env = (false, eval e X.env) :: starEach [] X.env := by rfl) (hplain : (backTo cpos (starEach [] X.env)).any (·.1) = false := by rfl) :
    PE X (.Call (.Attribute (.Name x p) "append" apos) [e] [] cpos) (tBM X.K "list" rAppend (tVar i) (tCons te tNil)) :=
  pe_bm F.plainAttrs_list F.slot_list_append F.type_list_append mt_append ho (pa_cons h pa_nil hs) hbase hfew hline hs hplain
theorem pm_pop (i : Nat) {x : Str} {apos cpos : Pos} (ho : PE X (.Name x p) (tVar i)) (h : PE X e te) (hbase : attributeBase (.Name x p) "pop" X.env (eval (.Name x p) X.env) = eval (.Name x p) X.env := by rfl)
    (hfew : ((backTo cpos (starEach [e] X.env)).all (fun x => !x.1) && (backToKw cpos (keywordEach [] X.env)).all (fun x => x.1.isSome)
      && decide ([e].length + ([] : List Keyword).length + (if ([] : List Keyword).isEmpty then 0 else 1) < 30)) = true := by rfl)
    (hline : (apos.endLine == cpos.line) = true := by rfl) (hs : starEach [e] X.env = (false, eval e X.env) :: starEach [] X.env := by rfl) (hplain : (backTo cpos (starEach [] X.env)).any (·.1) = false := by rfl) :
    PE X (.Call (.Attribute (.Name x p) "pop" apos) [e] [] cpos) (tBM X.K "list" rPopAt (tVar i) (tCons te tNil)) :=
  pe_bm F.plainAttrs_list F.slot_list_pop F.type_list_pop mt_popAt ho (pa_cons h pa_nil hs) hbase hfew hline hs hplain
theorem pm_ext (i : Nat) {x : Str} {apos cpos : Pos} (ho : PE X (.Name x p) (tVar i)) (h : PE X e te) (hbase : attributeBase (.Name x p) "extend" X.env (eval (.Name x p) X.env) = eval (.Name x p) X.env := by rfl)
    (hfew : ((backTo cpos (starEach [e] X.env)).all (fun x => !x.1) && (backToKw cpos (keywordEach [] X.env)).all (fun x => x.1.isSome)
      && decide ([e].length + ([] : List Keyword).length + (if ([] : List Keyword).isEmpty then 0 else 1) < 30)) = true := by rfl)
    (hline : (apos.endLine == cpos.line) = true := by rfl) (hs : starEach [e] X.env = (false, eval e X.env) :: starEach [] X.env := by rfl) (hplain : (backTo cpos (starEach [] X.env)).any (·.1) = false := by rfl) :
    PE X (.Call (.Attribute (.Name x p) "extend" apos) [e] [] cpos) (tBM X.K "list" (rExtT X.K) (tVar i) (tCons te tNil)) :=
  pe_bm F.plainAttrs_list F.slot_list_extend F.type_list_extend mt_extT ho (pa_cons h pa_nil hs) hbase hfew hline hs hplain
end
section
variable {P : Program} {w : World} {K : PySem.W.Frag} {mg : Str → Option Value} {base : Heap}
/-- a def with one default, left out -/
theorem mk_def1 {x : Str} {st : Stmt} {N ps : List Str} {k : Nat} {ct : Ct} {dv : V} (F : Given K mg x st [dv]) (Sc : FnScope N ps (defScope st)) (len : ∀ os args Φ, ct os args Φ → args.length = ps.length) (n : Nat) (hn : n + 1 = ps.length)
    (hbind : ∀ (T : Addr) (kV doc pm : Value) (an : Option Addr) (cdv c : Value) (us its : List Value), us.length = n → its.length = 1 →
      ∃ k, bindArgs (PySem.W.fnOf x x (defArgs st) (defBody st) (defScope st) (.ref T) kV doc pm an cdv c) ⟨us, []⟩ = seqItems? (.ref T) >>= k ∧ k (some its.toArray) = pure (ps.zip (us ++ its)))
    (hb : ∀ (f : Addr) (cdv : Value) (A : Around) (outer : List Env) (s : Shared) (H : Hp) (E : XK), Room k (A.deeper (envOfC x (defScope st) s.heap.objs.size f cdv)) →
      ∃ t ws, JSs (cxOf CX0 P w K mg base N x (defScope st) f cdv A outer s H E).nox (defBody st) t ws ∧ ∀ os args Φ, ct os args Φ → ws (KEnd os.length Φ) ⟨os.map some, slots N args⟩) : DefOk P w K mg base (k + 1) x ps [dv] ct := by
  obtain ⟨f, fd, F, g⟩ := F
  obtain ⟨ds, h1, h2⟩ := F.binds1 (ps := ps) n 0 (by simp) (by simpa using hn) (fun T kV doc pm an cdv c us its hu hi => by simpa using hbind T kV doc pm an cdv c us its hu hi)
  refine ⟨f, fd, ds, g, F.kp, h2, by simpa using h1, F.ok Sc (fun vs H Q E hs => ?_) (fun cdv A outer s H vs Q E hr hs => ?_)⟩
  · obtain ⟨os, args, G, as, Φ, o, r, hc, _⟩ := hs
    rw [r.length]; exact len os args Φ hc
  · obtain ⟨t, ws, J, h⟩ := hb f cdv A outer s H E hr
    exact ⟨t, PSs.nox J.pe, GoS.fn J.go h H vs Q E hs⟩
end
section
variable {X : Cx} {k : Nat} {ps : List Str} {ct : Ct} {x : Str} {p pos : Pos} {e : Expr} {es : List Expr} {ta : TA} {wa : WA}
/-- a def called with a default left out -/
theorem jcD {dv : V} (dd : D) (hdd : ∀ G, Rp G dd dv) (F : DefOk X.prog X.w X.K X.mg X.base k x ps [dv] ct) (hr : Room k X.A) (hg : Gl X x) (ha : JA X (e :: es) ta wa) (hdb : (x == ("__debug__" : Str)) = false := by decide) (he : starEach (e :: es) X.env = (false, eval e X.env) :: starEach es X.env := by rfl)
    (hpl : (backTo pos (starEach es X.env)).any (·.1) = false := by rfl) : JE X (.Call (.Name x p) (e :: es) [] pos) (tCall (SpD ct) [dv] E0 ta) (wCall ct [dd] wa) := by
  obtain ⟨f, fd, ds, h1, h2, h3, h4, h5⟩ := F.ex
  exact je_call h5 hr hg h1 h2 h3 h4 (fun G => ⟨dv, [], rfl, hdd G, rfl⟩) ha hdb he hpl
end
/-- in a def's body nothing looks on -/
theorem seer_cx {P : Program} {w : World} {K : PySem.W.Frag} {mg : Str → Option Value} {base : Heap} {N : List Str} {x : Str} {sc : Scope} {f : Addr} {cdv : Value} {A : Around} {outer : List Env} {s : Shared} {H : Hp} {E : XK} {k : Nat} (hk : 35 ≤ k)
    (ns : base.NoSeer) (tr : P.given.tree = none) (h1 : sc.isGenerator = false) (h2 : sc.isCoroutine = false) (hr : Room k (A.deeper (envOfC x sc s.heap.objs.size f cdv))) : SeerOk (cxOf CX0 P w K mg base N x sc f cdv A outer s H E).nox := by
  refine ⟨ns, tr, ?_, ?_⟩
  · have := hr.dp
    show (A.deeper (envOfC x sc s.heap.objs.size f cdv)).depth + Builtin.pylongFrames < recursionLimit
    have e : Builtin.pylongFrames = 100 := rfl
    rw [e]
    omega
  · exact ⟨_, _, rfl, h1, h2, rfl, rfl⟩
end S
set_option Elab.async false
set_option linter.all false
set_option maxRecDepth 100000
set_option autoImplicit false
/-! S: a dict comprehension stored on its own line; defs whose result is a new object, the caller's own -/
namespace S
open PySem L2 PyProof.Rows
section
variable {X : Cx} {i : Nat} {y : Str} {py : Pos} {kx vx tg iter : Expr} {ifs : List Expr} {scope : Scope} {own : List (Str × Nat)} {pos spos : Pos} {wi : TI} {wI : WI} {g : TG} {wg : WG} {tt : TT} {wt : WT} {tk tv : TE} {wk wv : WE}
theorem ps_setDc (hc : X.calm = true) (hN : X.N.Nodup) (hy : X.N[i]? = some y) (hyl : X.env.scope.names.lookup y = some .local)
    (hsw : swapsWith (.DictComp kx vx [⟨tg, iter, ifs, 0⟩] scope pos) (some (.Name y py)) spos.line X.env = pure true)
    (hi : PI X tg iter wi) (ok : BlkOk X.N X.env.scope scope own)
    (hg : ∀ (s : Shared) (H : Hp) (C : Addr) (cl : List (Str × Addr)) (fp : List Addr), PG (X.blk s H scope (compEnvC scope cl C X.env) fp) tg g)
    (ht : ∀ (s : Shared) (H : Hp) (C : Addr) (cl : List (Str × Addr)) (fp : List Addr), PTs (X.blk s H scope (compEnvC scope cl C X.env) fp) ifs tt)
    (hk : ∀ (s : Shared) (H : Hp) (C : Addr) (cl : List (Str × Addr)) (fp : List Addr), PE (X.blk s H scope (compEnvC scope cl C X.env) fp) kx tk)
    (he : ∀ (s : Shared) (H : Hp) (C : Addr) (cl : List (Str × Addr)) (fp : List Addr), PE (X.blk s H scope (compEnvC scope cl C X.env) fp) vx tv)
    (hs : ∀ x, foldedSetIterable iter X.env x = pure x) :
    PS X (.Assign [.Name y py] (.DictComp kx vx [⟨tg, iter, ifs, 0⟩] scope pos) spos) (tAsg (tDc wi g tt tk tv (own.map (·.2))) (gName i)) := by
  constructor
  intro pins s σ H D I h
  rw [exec_Assign_Name_used _ _ _ _ hsw]
  refine wpAny_bind (wpAny_standAt (wpAny_bind ?_))
  show wpAny _ X.A (do
    let _ ← comprehension (.DictComp kx vx [⟨tg, iter, ifs, 0⟩] scope pos) scope X.env (firstIterPos [⟨tg, iter, ifs, 0⟩] pos) newDict false (eval iter X.env) (some (assign (.Name y py) X.env))) _ _ s
  have h1 : tDc wi g tt tk tv (own.map (·.2)) σ H (fun x H1 => gName i x σ H1 D.nx) := h
  refine wpAny_bind (thn (dc_core (Qf := fun _ s' => SP X pins D .next s') hc hN I hi ok hg ht hk he hs h1 ?_) fun _ s' hq => wpAny_pure (wpAny_pure hq))
  intro L C s' m H' I' q hn f
  show wpAny _ _ (assign (.Name y py) X.env (.ref L)) _ _ _
  refine wpAny_assign_Name (store_ok2 (v := V.ref L) I' hN hy (.inl hyl) rfl ?_ (.inr hyl))
  rintro s2 I2 ⟨a, sb, ha⟩
  obtain ⟨f0, f1, f2, f3, f4, f5⟩ := f
  have apart : C ≠ a := ha.elim (fun z => by rw [z]; exact f1) fun z e => f4 y a z e.symm
  exact ⟨m, hn.sameBut sb apart, fun h3 sb3 => ⟨_, H', I2.turned (t' := s2.toks) (fun b o hb e => (sb3.2 b hb).trans e) f0 f1 f3 f4 f5, q⟩⟩
theorem js_setDc (i : Nat) (hc : X.calm = true) (hN : X.N.Nodup) (hy : X.N[i]? = some y) (hyl : X.env.scope.names.lookup y = some .local)
    (hsw : swapsWith (.DictComp kx vx [⟨tg, iter, ifs, 0⟩] scope pos) (some (.Name y py)) spos.line X.env = pure true) (hi : JI X tg iter wi wI) (ok : BlkOk X.N X.env.scope scope own)
    (hg : ∀ (s : Shared) (H : Hp) (C : Addr) (cl : List (Str × Addr)) (fp : List Addr), JG (X.blk s H scope (compEnvC scope cl C X.env) fp) tg g wg) (hw : GoW g (own.map (·.2))) (mg : ∀ v σ H (Q Q' : L2.St → Hp → Prop), (∀ σ' H', Q σ' H' → Q' σ' H') → g v σ H Q → g v σ H Q')
    (ht : ∀ (s : Shared) (H : Hp) (C : Addr) (cl : List (Str × Addr)) (fp : List Addr), JTs (X.blk s H scope (compEnvC scope cl C X.env) fp) ifs tt wt)
    (hk : ∀ (s : Shared) (H : Hp) (C : Addr) (cl : List (Str × Addr)) (fp : List Addr), JE (X.blk s H scope (compEnvC scope cl C X.env) fp) kx tk wk)
    (he : ∀ (s : Shared) (H : Hp) (C : Addr) (cl : List (Str × Addr)) (fp : List Addr), JE (X.blk s H scope (compEnvC scope cl C X.env) fp) vx tv wv) (hs : ∀ x, foldedSetIterable iter X.env x = pure x := by intro _; rfl) :
    JS X (.Assign [.Name y py] (.DictComp kx vx [⟨tg, iter, ifs, 0⟩] scope pos) spos) (tAsg (tDc wi g tt tk tv (own.map (·.2))) (gName i)) (wAsg (wDc (own.map (·.2)) wI wg wt wk wv) (wgName i)) := by
  refine ⟨ps_setDc hc hN hy hyl hsw hi.pe ok (fun s H C cl fp => (hg s H C cl fp).pe) (fun s H C cl fp => (ht s H C cl fp).pe) (fun s H C cl fp => (hk s H C cl fp).pe) (fun s H C cl fp => (he s H C cl fp).pe) hs, fun S K h σ H G as A Dn n r b c => ?_⟩
  refine go_dc hi.go (hg X.s_0 X.H_0 0 [] []).go hw mg (ht X.s_0 X.H_0 0 [] []).go (hk X.s_0 X.H_0 0 [] []).go (he X.s_0 X.H_0 0 [] []).go S _ h σ H G as A _ fun d S1 p u H1 G1 h1 st1 A1 hp hu => ?_
  have gp := A1.own.nG hp
  exact n _ _ _ _ _ h1 (st1.trans (Stp.new hp gp)) ((A1.new hp).set i (Rp.of upd_same (hu.mono (Sub.new gp))))
end
/-! ### defs that make -/
def SpN (ct : Ct) : Sp := fun vs H Q _ => ∃ (os : List D) (args : List Arg) (G : Hp) (as : List Addr) (Φ : D → List D → Prop), Own (os.map some) H G as ∧ RpA G as args vs ∧ ct os args Φ ∧
  ∀ d os' p u H' G', Φ d os' → Stp as as H G H' G' → Own (os'.map some) H' G' as → H' p = none → Hold G' d u → Q (.ref p) (upd H' p u)
abbrev WM := (D → Ab → Prop) → Ab → Prop
/-- statements that end in a return of a new object -/
structure JM (X : Cx) (sts : List Stmt) (t : TS) (w : WM) : Prop where
  pe : PSs X sts t
  go : ∀ (S : Ab) (Φ : D → Ab → Prop), w Φ S → ∀ (σ : L2.St) (H G : Hp) (as : List Addr), At S σ H G as → ∀ Dn : Ends,
    (∀ d S' p u H' G' as', Φ d S' → Stp as as' H G H' G' → Own S'.os H' G' as' → H' p = none → Hold G' d u → Dn.rt (.ref p) (upd H' p u)) → t Dn σ H
section
variable {X : Cx} {e : Expr} {pos : Pos} {te : TE} {we : WE} {st : Stmt} {rest : List Stmt} {t1 t2 : TS} {w1 : WS} {w2 : WM}
def wmRet (w : WE) : WM := fun Φ S => w S Φ
def wmSeq (w1 : WS) (w2 : WM) : WM := fun Φ S => w1 { nx := w2 Φ, rt := fun _ _ => False } S
theorem jm_ret (h : JN X e te we) : JM X [.Return (some e) pos] (tRet te) (wmRet we) :=
  ⟨pss_one (ps_ret h.pe), fun S Φ hw σ H G as A Dn r => h.go S _ hw σ H G as A _ fun d S' p u H1 G1 hΦ st A1 hp hu => r d S' p u H1 G1 as hΦ st A1.own hp hu⟩
theorem jm_cons (h1 : JS X st t1 w1) (h2 : JM X rest t2 w2) : JM X (st :: rest) (tSeq t1 t2) (wmSeq w1 w2) := by
  refine ⟨pss_cons h1.pe h2.pe, fun S Φ h σ H G as A Dn r => ?_⟩
  exact h1.go S _ h σ H G as A _ (fun S1 σ1 H1 G1 as1 h1' st1 A1 => h2.go S1 Φ h1' σ1 H1 G1 as1 A1 Dn fun d S' p u H' G' as' hΦ st o hp hu => r d S' p u H' G' as' hΦ (st1.trans st) o hp hu)
    (fun _ _ _ _ _ _ z => z.elim) (fun _ _ _ _ _ z => z.elim) (fun _ _ _ _ _ z => z.elim)
end
def KM (n : Nat) (Φ : D → List D → Prop) : D → Ab → Prop := fun d S => ∃ os', S.os.take n = os'.map some ∧ Φ d os'
theorem GoM.fn {N : List Str} {ct : Ct} {X : Cx} {sts : List Stmt} {t : TS} {w : WM} (J : JM X sts t w) (h : ∀ os args Φ, ct os args Φ → w (KM os.length Φ) ⟨os.map some, slots N args⟩) :
    ∀ (H : Hp) (vs : List V) (Q : VK) (E : XK), SpN ct vs H Q E → t { nx := fun _ H' => Q .non H', rt := Q } (start N vs) H := by
  rintro H vs Q E ⟨os, args, G, as, Φ, o, r, hc, k⟩
  have hl : as.length = os.length := by rw [o.len, List.length_map]
  refine J.go _ _ (h os args Φ hc) (start N vs) H G as (at_start o r) _ fun d S' p u H' G' as' ⟨os', e, hΦ⟩ st A' hp hu => ?_
  obtain ⟨t, e1, e2⟩ := st.pre
  exact k d os' p u H' G' hΦ ⟨st.ex, st.nw, st.fr, st.dm, [], by simp⟩ (A'.take ⟨t, e1⟩ (by rw [hl]; exact e)) hp hu
/-- a def that makes, by what it promises -/
structure DefMk (P : Program) (w : World) (K : PySem.W.Frag) (mg : Str → Option Value) (base : Heap) (k : Nat) (x : Str) (ps : List Str) (ct : Ct) : Prop where
  ex : ∃ f fd, mg x = some (.ref f) ∧ PySem.W.keepIn K (.ref f) = true ∧ Binds K fd ps [] ∧ FnOk P w K mg base CX0 k f fd ps (SpN ct)
section
variable {P : Program} {w : World} {K : PySem.W.Frag} {mg : Str → Option Value} {base : Heap}
theorem mk_mk {x : Str} {st : Stmt} {N ps : List Str} {k : Nat} {ct : Ct} (F : Given K mg x st []) (Sc : FnScope N ps (defScope st)) (len : ∀ os args Φ, ct os args Φ → args.length = ps.length)
    (hbind : ∀ (kV doc pm : Value) (an : Option Addr) (cdv c : Value) (us : List Value), us.length = ps.length → bindArgs (PySem.W.fnOf x x (defArgs st) (defBody st) (defScope st) .none kV doc pm an cdv c) ⟨us, []⟩ = pure (ps.zip us))
    (hb : ∀ (f : Addr) (cdv : Value) (A : Around) (outer : List Env) (s : Shared) (H : Hp) (E : XK), Room k (A.deeper (envOfC x (defScope st) s.heap.objs.size f cdv)) →
      ∃ t ws, JM (cxOf CX0 P w K mg base N x (defScope st) f cdv A outer s H E).nox (defBody st) t ws ∧ ∀ os args Φ, ct os args Φ → ws (KM os.length Φ) ⟨os.map some, slots N args⟩) : DefMk P w K mg base (k + 1) x ps ct := by
  obtain ⟨f, fd, F, g⟩ := F
  refine ⟨f, fd, g, F.kp, F.bindsN hbind, F.ok Sc (fun vs H Q E hs => ?_) (fun cdv A outer s H vs Q E hr hs => ?_)⟩
  · obtain ⟨os, args, G, as, Φ, o, r, hc, _⟩ := hs
    rw [r.length]; exact len os args Φ hc
  · obtain ⟨t, ws, J, h⟩ := hb f cdv A outer s H E hr
    exact ⟨t, PSs.nox J.pe, GoM.fn J h H vs Q E hs⟩
end
section
variable {X : Cx} {k : Nat} {ps : List Str} {ct : Ct} {x : Str} {p pos : Pos} {e : Expr} {es : List Expr} {ta : TA} {wa : WA}
theorem jcN (F : DefMk X.prog X.w X.K X.mg X.base k x ps ct) (hr : Room k X.A) (hg : Gl X x) (ha : JA X (e :: es) ta wa) (hdb : (x == ("__debug__" : Str)) = false := by decide) (he : starEach (e :: es) X.env = (false, eval e X.env) :: starEach es X.env := by rfl)
    (hpl : (backTo pos (starEach es X.env)).any (·.1) = false := by rfl) : JN X (.Call (.Name x p) (e :: es) [] pos) (tCall (SpN ct) [] E0 ta) (wCall ct [] wa) := by
  obtain ⟨f, fd, h1, h2, h3, h5⟩ := F.ex
  refine ⟨pe_call h5 hr hg h1 h2 h3 .nil pass0 ha.pe hdb he hpl, fun S Φ h σ H G as A Q q => ?_⟩
  refine ha.go S _ h σ H G as A _ fun args S1 vs H1 G1 ⟨g1, g2⟩ st1 A1 r1 => ?_
  obtain ⟨xs, ex⟩ := Option.isSome_iff_exists.mp g1
  refine ⟨[], args ++ [].map Arg.v, G1, [], _, ⟨A1.own.le, rfl, List.nodup_nil, by simp, fun k d e => by simp at e⟩, (r1.of_vals ex).append (es := []) (ws := []) rfl, g2, fun d os' p u H' G' hΦ st o hp hu => ?_⟩
  obtain ⟨st', A'⟩ := A1.frame st ⟨o.le, rfl, List.nodup_nil, by simp, fun k d e => by simp at e⟩
  exact q d S1 p u H' G' hΦ (st1.trans st') A' hp hu
end
end S
set_option Elab.async false
set_option linter.all false
set_option maxRecDepth 100000
set_option autoImplicit false
/-! S: forms that a generator prints -/
namespace S
open PySem L2 PyProof.Rows
section
variable {X : Cx} {a b c e : Expr} {es : List Expr} {pos p p2 : Pos} {t ta tb tc te : TE} {w wa wb wc we : WE}
theorem jx_app (i : Nat) {x : Str} {apos cpos : Pos} (ho : PE X (.Name x p) (tVar i)) (h : JE X e te we) (hN : X.N[i]? = some x := by rfl) (hv : Vis X.env.scope x := by first | exact Or.inl rfl | exact Or.inr (Or.inl rfl) | exact Or.inr (Or.inr rfl)) (hd : (x == ("__debug__" : Str)) = false := by decide)
    (hcd : (x == ("__classdict__" : Str)) = false := by decide) (hbase : attributeBase (.Name x p) "append" X.env (eval (.Name x p) X.env) = eval (.Name x p) X.env := by rfl)
    (hfew : ((backTo cpos (starEach [e] X.env)).all (fun x => !x.1) && (backToKw cpos (keywordEach [] X.env)).all (fun x => x.1.isSome)
      && decide ([e].length + ([] : List Keyword).length + (if ([] : List Keyword).isEmpty then 0 else 1) < 30)) = true := by rfl)
    (hline : (apos.endLine == cpos.line) = true := by rfl) (hs : starEach [e] X.env = (false, eval e X.env) :: starEach [] X.env := by rfl) (hplain : (backTo cpos (starEach [] X.env)).any (·.1) = false := by rfl) :
    JE X (.Call (.Attribute (.Name x p) "append" apos) [e] [] cpos) (tBM X.K "list" rAppend (tVar i) (tCons te tNil)) (wApp i we) := je_app (pl := pure false) i h hN hv hd hcd (pm_app i ho h.pe hbase hfew hline hs hplain)
theorem jx_pop (i : Nat) {x : Str} {apos cpos : Pos} (ho : PE X (.Name x p) (tVar i)) (h : JE X e te we) (hbase : attributeBase (.Name x p) "pop" X.env (eval (.Name x p) X.env) = eval (.Name x p) X.env := by rfl)
    (hfew : ((backTo cpos (starEach [e] X.env)).all (fun x => !x.1) && (backToKw cpos (keywordEach [] X.env)).all (fun x => x.1.isSome)
      && decide ([e].length + ([] : List Keyword).length + (if ([] : List Keyword).isEmpty then 0 else 1) < 30)) = true := by rfl)
    (hline : (apos.endLine == cpos.line) = true := by rfl) (hs : starEach [e] X.env = (false, eval e X.env) :: starEach [] X.env := by rfl) (hplain : (backTo cpos (starEach [] X.env)).any (·.1) = false := by rfl) :
    JE X (.Call (.Attribute (.Name x p) "pop" apos) [e] [] cpos) (tBM X.K "list" rPopAt (tVar i) (tCons te tNil)) (wPopO i we) := je_popO i h (pm_pop i ho h.pe hbase hfew hline hs hplain)
theorem jx_ext (i : Nat) {x : Str} {apos cpos : Pos} (ho : PE X (.Name x p) (tVar i)) (h : JE X e te we) (hbase : attributeBase (.Name x p) "extend" X.env (eval (.Name x p) X.env) = eval (.Name x p) X.env := by rfl)
    (hfew : ((backTo cpos (starEach [e] X.env)).all (fun x => !x.1) && (backToKw cpos (keywordEach [] X.env)).all (fun x => x.1.isSome)
      && decide ([e].length + ([] : List Keyword).length + (if ([] : List Keyword).isEmpty then 0 else 1) < 30)) = true := by rfl)
    (hline : (apos.endLine == cpos.line) = true := by rfl) (hs : starEach [e] X.env = (false, eval e X.env) :: starEach [] X.env := by rfl) (hplain : (backTo cpos (starEach [] X.env)).any (·.1) = false := by rfl) :
    JE X (.Call (.Attribute (.Name x p) "extend" apos) [e] [] cpos) (tBM X.K "list" (rExtT X.K) (tVar i) (tCons te tNil)) (wExtO i we) := je_extO i h (pm_ext i ho h.pe hbase hfew hline hs hplain)
theorem jx_tup {es : List Expr} {k n : Nat} {g : TGs} {w : List D → Ab → (Ab → Prop) → Prop} (hc : X.calm = true) (h : JGs X es g w) (hn : (assignEach es X.env).length = n := by rfl) (hst : (assignEach es X.env).findIdx? (·.1) = none := by rfl) :
    JG X (.Tuple es k pos) (gTup X.K n g) (wgTup n w) := jg_tup (pg_tup hc h.pe hn hst) h.go
end
section
variable {X : Cx} {k : Nat} {ps : List Str} {ct : Ct} {x : Str} {p pos : Pos} {e : Expr} {es : List Expr} {ta : TA} {wa : WA}
/-- one own object handed on, whichever -/
def wCallX (ct : Ct) (wa : WA) : WE := fun S Φ => ∃ j, wCallO ct [] j wa S Φ
theorem jcX (F : DefOk X.prog X.w X.K X.mg X.base k x ps [] ct) (hr : Room k X.A) (hg : Gl X x) (ha : JA X (e :: es) ta wa) (hdb : (x == ("__debug__" : Str)) = false := by decide) (he : starEach (e :: es) X.env = (false, eval e X.env) :: starEach es X.env := by rfl)
    (hpl : (backTo pos (starEach es X.env)).any (·.1) = false := by rfl) : JE X (.Call (.Name x p) (e :: es) [] pos) (tCall (SpD ct) [] E0 ta) (wCallX ct wa) :=
  ⟨(jcO (p := p) (pos := pos) 0 F hr hg ha hdb he hpl).pe, fun S Φ ⟨j, h⟩ => (jcO (p := p) (pos := pos) j F hr hg ha hdb he hpl).go S Φ h⟩
end
section
variable {X : Cx} {b : Expr} {pos p2 : Pos} {tb : TE} {wb : WE}
/-- x[e], x an own list, e any -/
def wIxV (i : Nat) (wb : WE) : WE := fun S Φ => (∃ k d, S.atO i = some (k, d)) ∧ wIxO i wb S fun d S1 => (∀ (k : Nat) (e : D), S.atO i = some (k, e) → ∃ e1, S1.atO i = some (k, e1)) ∧ Φ d S1
theorem je_ixV (i : Nat) {x : Str} (hb : JE X b tb wb) (hpe : PE X (.Name x p2) (tVar i)) (hs : PlainIx b := by exact fun _ _ => rfl) : JE X (.Subscript (.Name x p2) b pos) (tOp (rIx X.K) (tVar i) tb) (wIxV i wb) := je_ixO i hb hpe hs
/-- enumerate(d), d a dict -/
def wiEnumK (wa : WA) : WI := fun S Ψ => wa S fun args S1 => match argsD args with
  | some [.dic ks _] => Ψ (enumD (ks.map kD)) S1
  | _ => False
end
end S
set_option Elab.async false
set_option linter.all false
set_option maxRecDepth 100000
set_option autoImplicit false
/-! S: rules that name the written part, the part given (within a comprehension's block it can't be found) -/
namespace S
open PySem L2 PyProof.Rows
section
variable {X : Cx} {K : PySem.W.Frag} {a b e : Expr} {es : List Expr} {pos p p2 : Pos} {ta tb te : TE} {wa wb we : WE} {tA : TA} {wA : WA}
theorem jy_ix (hK : X.K = K) (ha : JE X a ta wa) (hb : JE X b tb wb) (hs : PlainIx b := by exact fun _ _ => rfl) : JE X (.Subscript a b pos) (tOp (rIx K) ta tb) (wOp fIx wa wb) := hK ▸ je_ix ha hb hs
theorem jy_eq (hK : X.K = K) (hu : X.A.units + 64 < cLine) (ha : JE X a ta wa) (hb : JE X b tb wb) : JE X (.Compare a [.Eq] [b] pos) (tOp (rEqA K) ta tb) (wOp fEq wa wb) := hK ▸ je_eq hu ha hb
theorem jy_ne (hK : X.K = K) (hu : X.A.units + 64 < cLine) (ha : JE X a ta wa) (hb : JE X b tb wb) : JE X (.Compare a [.NotEq] [b] pos) (tOp (rNeA K) ta tb) (wOp fNe wa wb) := hK ▸ je_ne hu ha hb
theorem jyt_eq (hK : X.K = K) (hu : X.A.units + 64 < cLine) (ha : JE X a ta wa) (hb : JE X b tb wb) : JT X (.Compare a [.Eq] [b] pos) (tTest (tOp (rEqA K) ta tb)) (wTest (wOp fEq wa wb)) := hK ▸ jt_eq hu ha hb
theorem jyt_ne (hK : X.K = K) (hu : X.A.units + 64 < cLine) (ha : JE X a ta wa) (hb : JE X b tb wb) : JT X (.Compare a [.NotEq] [b] pos) (tTest (tOp (rNeA K) ta tb)) (wTest (wOp fNe wa wb)) := hK ▸ jt_ne hu ha hb
theorem jy_len (hK : X.K = K) (hg : Gl X "len") (hm : X.mg "len" = none) (ha : JA X (e :: es) tA wA) (hs : starEach (e :: es) X.env = (false, eval e X.env) :: starEach es X.env := by rfl) (hpl : (backTo pos (starEach es X.env)).any (·.1) = false := by rfl) :
    JE X (.Call (.Name "len" p) (e :: es) [] pos) (tCB (rLenA K) tA) (wCB fLen wA) := hK ▸ je_len hg hm ha hs hpl
theorem jy_maxT (hK : X.K = K) (hc : X.calm = true) (hg : Gl X "max") (hm : X.mg "max" = none) (ha : JA X (e :: es) tA wA) (hs : starEach (e :: es) X.env = (false, eval e X.env) :: starEach es X.env := by rfl) (hpl : (backTo pos (starEach es X.env)).any (·.1) = false := by rfl) :
    JE X (.Call (.Name "max" p) (e :: es) [] pos) (tCB (rMaxT K) tA) (wCB fMaxT wA) := hK ▸ je_maxT hc hg hm ha hs hpl
theorem jy_maxL (hK : X.K = K) (hc : X.calm = true) (hg : Gl X "max") (hm : X.mg "max" = none) (ha : JA X (e :: es) tA wA) (hs : starEach (e :: es) X.env = (false, eval e X.env) :: starEach es X.env := by rfl) (hpl : (backTo pos (starEach es X.env)).any (·.1) = false := by rfl) :
    JE X (.Call (.Name "max" p) (e :: es) [] pos) (tCB (rMax K) tA) (wCB fMaxL wA) := hK ▸ je_maxL hc hg hm ha hs hpl
theorem jy_all (hK : X.K = K) (hc : X.calm = true) (hg : Gl X "all") (hm : X.mg "all" = none) (ha : JA X (e :: es) tA wA) (hs : starEach (e :: es) X.env = (false, eval e X.env) :: starEach es X.env := by rfl) (hpl : (backTo pos (starEach es X.env)).any (·.1) = false := by rfl) :
    JE X (.Call (.Name "all" p) (e :: es) [] pos) (tCB (rAll K) tA) (wCB fAllL wA) := hK ▸ je_all hc hg hm ha hs hpl
theorem jyn_listOf (hK : X.K = K) (hg : Gl X "list") (hm : X.mg "list" = none) (ha : JA X (e :: es) tA wA) (hs : starEach (e :: es) X.env = (false, eval e X.env) :: starEach es X.env := by rfl) (hpl : (backTo pos (starEach es X.env)).any (·.1) = false := by rfl) :
    JN X (.Call (.Name "list" p) (e :: es) [] pos) (tCB (rListOf K) tA) (wCB fListOf wA) := hK ▸ jn_listOf hg hm ha hs hpl
theorem jyt_notInT (hK : X.K = K) (ha : JE X a ta wa) (hb : JE X b tb wb) (hm : behindInMarks .NotIn b = false := by with_unfolding_all rfl) : JT X (.Compare a [.NotIn] [b] pos) (tTest (tOp (rIn K true) ta tb)) (wTest (wOp (fInT true) wa wb)) := hK ▸ jt_notInT ha hb hm
theorem jyn_slice (hK : X.K = K) {lo hi : Option Expr} {tl th : TO} {wl wh : WO} (h : JE X e te we) (hl : JO X lo tl wl) (hh : JO X hi th wh) : JN X (.Subscript e (.Slice lo hi none p2) pos) (tSl (rSlL K) te tl th) (wSlL we wl wh) := hK ▸ jn_slice h hl hh
theorem jyt_deq (hK : X.K = K) (hu : X.A.units + 65 < cLine) (ha : JE X a ta wa) (hb : JE X b tb wb) : JT X (.Compare a [.Eq] [b] pos) (tTest (tOp (rDEqP K false) ta tb)) (wTest (wOp (fDEq false) wa wb)) := hK ▸ jt_deq hu ha hb
theorem jyt_dne (hK : X.K = K) (hu : X.A.units + 65 < cLine) (ha : JE X a ta wa) (hb : JE X b tb wb) : JT X (.Compare a [.NotEq] [b] pos) (tTest (tOp (rDEqP K true) ta tb)) (wTest (wOp (fDEq true) wa wb)) := hK ▸ jt_dne hu ha hb
theorem jy_deq (hK : X.K = K) (hu : X.A.units + 65 < cLine) (ha : JE X a ta wa) (hb : JE X b tb wb) : JE X (.Compare a [.Eq] [b] pos) (tOp (rDEqP K false) ta tb) (wOp (fDEq false) wa wb) := hK ▸ je_deq hu ha hb
theorem jy_dne (hK : X.K = K) (hu : X.A.units + 65 < cLine) (ha : JE X a ta wa) (hb : JE X b tb wb) : JE X (.Compare a [.NotEq] [b] pos) (tOp (rDEqP K true) ta tb) (wOp (fDEq true) wa wb) := hK ▸ je_dne hu ha hb
theorem jy_isi (hK : X.K = K) {T : String} {x : Str} {p3 : Pos} (hg : Gl X "isinstance") (hm : X.mg "isinstance" = none) (hgT : Gl X x) (hmT : X.mg x = none) (hvT : bootBuiltins x = some (.type T)) (hn : x ≠ "__name__") (hd : (x == ("__debug__" : Str)) = false) (ha : JE X e te we)
    (hs : starEach [e, .Name x p3] X.env = (false, eval e X.env) :: starEach [.Name x p3] X.env := by rfl) (hs2 : starEach [.Name x p3] X.env = (false, eval (.Name x p3) X.env) :: starEach [] X.env := by rfl) (hpl : (backTo pos (starEach [.Name x p3] X.env)).any (·.1) = false := by rfl) :
    JE X (.Call (.Name "isinstance" p) [e, .Name x p3] [] pos) (tCB (rIsi K) (tCons te (tCons (tC (.ty T)) tNil))) (wIsi T we) := hK ▸ je_isi hg hm hgT hmT hvT hn hd ha hs hs2 hpl
end
end S
set_option Elab.async false
set_option linter.all false
set_option maxRecDepth 100000
set_option autoImplicit false
/-! S: a loop whose turns' own new objects are forgotten at each turn's end -/
namespace S
open PySem L2 PyProof.Rows
def cutA (n : Nat) : Option Arg → Option Arg
  | some (.o k) => if k < n then some (.o k) else none
  | x => x
theorem cutA_lt {n k : Nat} (h : k < n) : cutA n (some (.o k)) = some (.o k) := if_pos h
theorem cutA_ge {n k : Nat} (h : ¬ k < n) : cutA n (some (.o k)) = none := if_neg h
def Ab.cut (S : Ab) (n : Nat) : Ab := ⟨S.os.take n, S.ρ.map (cutA n)⟩
theorem At.cut {S : Ab} {σ : L2.St} {H G : Hp} {as : List Addr} (A : At S σ H G as) (n : Nat) : At (S.cut n) σ H G (as.take n) := by
  refine ⟨⟨A.own.le, ?_, A.own.nd.sublist (List.take_sublist _ _), fun a ha => A.own.lv a (List.mem_of_mem_take ha), fun k d e => ?_⟩, ?_, fun i d e => ?_, fun i k e => ?_⟩
  · show (as.take n).length = (S.os.take n).length
    rw [List.length_take, List.length_take, A.own.len]
  · have e : (S.os.take n)[k]? = some (some d) := e
    rw [List.getElem?_take] at e
    split at e
    · rename_i hk
      obtain ⟨a, u, h1, h2⟩ := A.own.ow k d e
      exact ⟨a, u, by rw [List.getElem?_take, if_pos hk]; exact h1, h2⟩
    · cases e
  · show σ.length = (S.ρ.map _).length
    rw [List.length_map]; exact A.ln
  · have e : (S.ρ.map (cutA n))[i]? = some (some (Arg.v d)) := e
    rw [List.getElem?_map] at e
    obtain ⟨x, h1, h2⟩ := Option.map_eq_some_iff.mp e
    cases x with
    | none => cases h2
    | some y =>
      cases y with
      | v z => cases h2; exact A.va i d h1
      | o k =>
        by_cases hk : k < n
        · rw [cutA_lt hk] at h2; cases h2
        · rw [cutA_ge hk] at h2; cases h2
  · have e : (S.ρ.map (cutA n))[i]? = some (some (Arg.o k)) := e
    rw [List.getElem?_map] at e
    obtain ⟨x, h1, h2⟩ := Option.map_eq_some_iff.mp e
    cases x with
    | none => cases h2
    | some y =>
      cases y with
      | v z => cases h2
      | o j =>
        by_cases hj : j < n
        · rw [cutA_lt hj] at h2
          cases h2
          obtain ⟨a, g1, g2⟩ := A.ob i _ h1
          exact ⟨a, by rw [List.getElem?_take, if_pos hj]; exact g1, g2⟩
        · rw [cutA_ge hj] at h2; cases h2
theorem Stp.cut {as as' : List Addr} {H G H' G' : Hp} (st : Stp as as' H G H' G') : Stp as as H G H' G' ∧ as'.take as.length = as := by
  obtain ⟨t, e1, e2⟩ := st.pre
  exact ⟨⟨st.ex, st.nw, st.fr, st.dm, [], by simp⟩, by rw [e1]; simp⟩
section
variable {X : Cx} {tg iter : Expr} {body : List Stmt} {pos : Pos} {wi : TI} {wI : WI} {g : TG} {wg : WG} {tb : TS} {wb : WS}
def wForC (wI : WI) (wg : WG) (wb : WS) : WS := fun K S => wI S fun items S1 => ∃ IV : Nat → Ab → Prop, IV 0 S1 ∧
  (∀ i d S', items[i]? = some d → IV i S' → S'.os.length = S1.os.length → wg d S' fun S2 => wb { nx := fun S3 => IV (i + 1) (S3.cut S1.os.length), rt := K.rt, bk := K.nx, ct := fun S3 => IV (i + 1) (S3.cut S1.os.length) } S2) ∧ ∀ S', IV items.length S' → K.nx S'
theorem js_forC (hp : PassesOwn (model X.prog X.w) X.A X.env X.xe) (hc : X.calm = true) (hi : JI X tg iter wi wI) (hg : JG X tg g wg) (hb : JSs X body tb wb) (hs : ∀ x, foldedSetIterable iter X.env x = pure x := by intro _; rfl) :
    JS X (.For tg iter body [] pos) (tFor wi g tb) (wForC wI wg wb) := by
  refine ⟨ps_for hp hc hi.pe hg.pe hb.pe hs, fun S K h σ H G as A Dn n r b c => ?_⟩
  refine hi.go S _ h σ H G as A _ fun J items S1 H1 G1 ⟨IV, i0, is, ie⟩ st1 A1 wk => ?_
  have hl : as.length = S1.os.length := A1.own.len
  have back : ∀ {S' : Ab} {σ' : L2.St} {H' G' : Hp} {as' : List Addr}, Stp as as' H1 G1 H' G' → At S' σ' H' G' as' → Stp as as H1 G1 H' G' ∧ At (S'.cut S1.os.length) σ' H' G' as := fun st A => by
    obtain ⟨k1, k2⟩ := st.cut
    have A2 := A.cut S1.os.length
    rw [← hl, k2, hl] at A2
    exact ⟨k1, A2⟩
  refine ⟨fun i m σ' H' => m = items.length - i ∧ i ≤ items.length ∧ ∃ S' G', IV i S' ∧ Stp as as H1 G1 H' G' ∧ At S' σ' H' G' as, ⟨items.length, by simp, Nat.zero_le _, S1, G1, i0, Stp.refl, A1⟩, ?_⟩
  rintro i m σ2 H2 ⟨rfl, hle, S2, G2, p2, st2, A2⟩
  obtain ⟨wgo, wstop⟩ := wk as H2 G2 S2 σ2 st2 A2 i
  by_cases hlt : i < items.length
  · obtain ⟨g1, g2⟩ := wgo hlt
    refine .inr ⟨g1, fun σ' H' => ∃ S' G', IV (i + 1) S' ∧ Stp as as H1 G1 H' G' ∧ At S' σ' H' G' as, fun σ' H' q => ⟨items.length - (i + 1), by omega, rfl, hlt, q⟩, fun x H3 y => ?_⟩
    obtain ⟨G3, d, hd, st3, A3, r3⟩ := g2 x H3 y
    refine hg.go d S2 _ (is i d S2 hd p2 (by rw [← A2.own.len, hl])) σ2 H3 G3 as x A3 r3 _ fun S4 σ4 H4 G4 h4 st4 A4 => ?_
    have st14 := (st2.trans st3).trans st4
    refine hb.go S4 _ h4 σ4 H4 G4 as A4 _ (fun S' σ' H' G' as' k st A' => ?_) (fun d S' v H' G' as' k st A' z => r d S' v H' G' as' k ((st1.trans st14).trans st) A' z)
      (fun S' σ' H' G' as' k st A' => n S' σ' H' G' as' k ((st1.trans st14).trans st) A') (fun S' σ' H' G' as' k st A' => ?_)
    · obtain ⟨b1, b2⟩ := back (st14.trans st) A'
      exact ⟨_, G', k, b1, b2⟩
    · obtain ⟨b1, b2⟩ := back (st14.trans st) A'
      exact ⟨_, G', k, b1, b2⟩
  · have e : i = items.length := by omega
    subst e
    exact .inl ⟨wstop (Nat.le_refl _), n S2 σ2 H2 G2 as (ie S2 p2) (st1.trans st2) A2⟩
def kForC (wg : WG) (wb : WS) (Kn : KN) : List D → Ab → Prop := fun items S1 => ∃ IV : Nat → Ab → Prop, IV 0 S1 ∧
  (∀ i d S', items[i]? = some d → IV i S' → S'.os.length = S1.os.length → wg d S' fun S2 => wb { nx := fun S3 => IV (i + 1) (S3.cut S1.os.length), rt := Kn.rt, bk := Kn.nx, ct := fun S3 => IV (i + 1) (S3.cut S1.os.length) } S2) ∧ ∀ S', IV items.length S' → Kn.nx S'
theorem i_forC {Kn : KN} {S : Ab} (h : wI S (kForC wg wb Kn)) : wForC wI wg wb Kn S := h
theorem i_kForC {Kn : KN} {S : Ab} {items : List D} (IV : Nat → Ab → Prop) (h0 : IV 0 S) (h1 : ∀ i d S', items[i]? = some d → IV i S' → wg d S' fun S2 => wb { nx := fun S3 => IV (i + 1) (S3.cut S.os.length), rt := Kn.rt, bk := Kn.nx, ct := fun S3 => IV (i + 1) (S3.cut S.os.length) } S2) (h2 : ∀ S', IV items.length S' → Kn.nx S') : kForC wg wb Kn items S := ⟨IV, h0, fun i d S' a b _ => h1 i d S' a b, h2⟩
end
end S
set_option Elab.async false
set_option linter.all false
set_option maxRecDepth 100000
set_option autoImplicit false
/-! S: a list taken apart by names -/
namespace S
open PySem L2 PyProof.Rows
section
variable {X : Cx} {pos : Pos}
def wgLst (n : Nat) (w : List D → Ab → (Ab → Prop) → Prop) : WG := fun d S P => match d with
  | .lst ds => ds.length = n ∧ w ds S P
  | _ => False
theorem jx_lst {es : List Expr} {k n : Nat} {g : TGs} {w : List D → Ab → (Ab → Prop) → Prop} (hc : X.calm = true) (h : JGs X es g w) (hn : (assignEach es X.env).length = n := by rfl) (hst : (assignEach es X.env).findIdx? (·.1) = none := by rfl) :
    JG X (.Tuple es k pos) (gLst X.K n g) (wgLst n w) := by
  refine ⟨pg_lst hc h.pe hn hst, fun d S P hw σ H G as v A r Q q => ?_⟩
  cases d with
  | lst ds =>
    obtain ⟨p, xs, e1, e2, r2⟩ := r
    exact ⟨p, xs, e1, .inl (A.le e2), by rw [r2.length]; exact hw.1, h.go ds S P hw.2 σ H G as xs A r2 Q q⟩
  | _ => exact hw.elim
theorem i_glst {n : Nat} {gs : List D → Ab → (Ab → Prop) → Prop} {ds : List D} {S : Ab} {P : Ab → Prop} (h1 : ds.length = n) (h : gs ds S P) : wgLst n gs (.lst ds) S P := ⟨h1, h⟩
end
end S
set_option Elab.async false
set_option linter.all false
set_option maxRecDepth 100000
set_option autoImplicit false
/-! S: enumerate over a dict -/
namespace S
open PySem L2 PyProof.Rows
section
variable {prog : Program} {w : World} {A : Around} {E : Value → Shared → Prop} {s : Shared}
theorem nx_item {it d : Addr} {j n ep : Nat} {ob : Obj} {es : Array DictEntry} {en : DictEntry} {Q : Value → Shared → Prop}
    (I0 : s.heap.IsKeyIter it d j n ep) (go : s.heap.get? d = some ob) (gd : ob.data = .dict es ep) (sz : es.size = n) (ge : es[j]? = some en)
    (q : ∀ h', h'.IsKeyIter it d (j + 1) n ep → Heap.SameBut it s.heap h' → Q en.key { s with heap := h' }) :
    wpAny (model prog w) A (Builtin.SmallTypes.nextOf (.ref it)) Q E s := by
  obtain ⟨oi, gi, ci, di⟩ := id I0
  unfold Builtin.SmallTypes.nextOf
  refine wpAny_bind (wpAny_callSpecial?_slot (name := Str.ofString "__next__")
    I0.typeIs F.slot_dict_keyiterator_next (wpAny_call_entry F.slot_dict_keyiterator_next I0.typeIs
      F.entry_dict_keyiterator_next ?_ (F.args_dict_keyiterator_next_1 _)))
  refine wpAny_bind (wpAny_pure ?_)
  refine wpAny_bind ?_
  refine wpAny_bind ?_
  first
    | refine wpAny_bind (wpAny_typeNameOfWhole_keyiter I0.typeIs (wpAny_pure ?_))
    | refine wpAny_bind (wpAny_typeNameOf_keyiter I0.typeIs (wpAny_pure ?_))
  refine wpAny_bind (wpAny_fieldsOf gi di ?_)
  have own : Builtin.Dict_items.ownsTuple "dict_keyiterator" = false := by decide
  simp only [own, Bool.false_eq_true, if_false]
  show wpAny _ _ (if (Value.ref d == Value.none) = true
    then _ else _) _ _ s
  rw [if_neg (show ¬ ((Value.ref d == Value.none) = true)
    from Bool.false_ne_true)]
  refine wpAny_bind (wpAny_pure ?_)
  refine wpAny_bind (wpAny_dictEntries go gd ?_)
  rw [if_neg (by rw [sz]; simp)]
  refine wpAny_bind (wpAny_pure ?_)
  refine wpAny_bind (wpAny_dictEpoch go gd ?_)
  rw [if_neg (by simp)]
  refine wpAny_pure ?_
  obtain ⟨lt, eqn⟩ := Array.getElem?_eq_some_iff.mp ge
  simp only [show ¬ ((j : Int) < 0) from by omega, if_false,
    Int.toNat_natCast, Array.getElem?_eq_getElem lt]
  refine wpAny_bind ?_
  first
    | refine wpAny_bind (wpAny_typeNameOfWhole_keyiter I0.typeIs (wpAny_pure ?_))
    | refine wpAny_bind (wpAny_typeNameOf_keyiter I0.typeIs (wpAny_pure ?_))
  refine wpAny_bind (wpAny_isOneOf_keyiter I0.typeIs ?_)
  show wpAny _ _ (setField (.ref it) 1
    (rawInt ((j : Int) + 1)) >>= _) _ _ s
  refine wpAny_bind (wpAny_setField gi di (by simp) ?_)
  have I1 : (s.heap.update it (Obj.mapFields (·.setIfInBounds 1
      (rawInt ((j : Int) + 1))))).IsKeyIter it d (j + 1) n ep :=
    ⟨_, Heap.get?_update_self _ gi (Obj.isFreed_of_fields (Obj.data_mapFields di _)),
      (Obj.cls_mapFields ..).trans ci, by rw [Obj.data_mapFields di]; simp [rawInt]⟩
  refine wpAny_bind (wpAny_holding ?_)
  refine wpAny_bind (wpAny_isOneOf_keyiter
    (s := { s with heap := s.heap.update it (Obj.mapFields (·.setIfInBounds 1 (rawInt ((j : Int) + 1)))) })
    I1.typeIs ?_)
  show wpAny _ _ (pure es[j].key) _ _ _
  rw [eqn]
  exact wpAny_pure (wpAny_pure ⟨_, rfl,
    wpAny_pure (q _ I1 (Heap.SameBut.update ..))⟩)
theorem nx_end {it d : Addr} {j n ep : Nat} {ob : Obj} {es : Array DictEntry} {Q : Value → Shared → Prop}
    (hh : A.handled = none) (I0 : s.heap.IsKeyIter it d j n ep) (go : s.heap.get? d = some ob) (gd : ob.data = .dict es ep) (sz : es.size = n) (ge : n ≤ j)
    (q : ∀ h' e, Heap.ExtBut it s.heap h' → (∃ o, h'.get? e = some o ∧ o.cls = .type "StopIteration") → E (.ref e) { s with heap := h' }) :
    wpAny (model prog w) A (Builtin.SmallTypes.nextOf (.ref it)) Q E s := by
  obtain ⟨oi, gi, ci, di⟩ := id I0
  unfold Builtin.SmallTypes.nextOf
  refine wpAny_bind (wpAny_callSpecial?_slot (name := Str.ofString "__next__")
    I0.typeIs F.slot_dict_keyiterator_next (wpAny_call_entry F.slot_dict_keyiterator_next I0.typeIs
      F.entry_dict_keyiterator_next ?_ (F.args_dict_keyiterator_next_1 _)))
  refine wpAny_bind (wpAny_pure ?_)
  refine wpAny_bind ?_
  refine wpAny_bind ?_
  first
    | refine wpAny_bind (wpAny_typeNameOfWhole_keyiter I0.typeIs (wpAny_pure ?_))
    | refine wpAny_bind (wpAny_typeNameOf_keyiter I0.typeIs (wpAny_pure ?_))
  refine wpAny_bind (wpAny_fieldsOf gi di ?_)
  have own : Builtin.Dict_items.ownsTuple "dict_keyiterator" = false := by decide
  simp only [own, Bool.false_eq_true, if_false]
  show wpAny _ _ (if (Value.ref d == Value.none) = true
    then _ else _) _ _ s
  rw [if_neg (show ¬ ((Value.ref d == Value.none) = true)
    from Bool.false_ne_true)]
  refine wpAny_bind (wpAny_pure ?_)
  refine wpAny_bind (wpAny_dictEntries go gd ?_)
  rw [if_neg (by rw [sz]; simp)]
  refine wpAny_bind (wpAny_pure ?_)
  refine wpAny_bind (wpAny_dictEpoch go gd ?_)
  rw [if_neg (by simp)]
  refine wpAny_pure ?_
  have ge2 : es.size ≤ j := by rw [sz]; exact ge
  simp only [show ¬ ((j : Int) < 0) from by omega, if_false,
    Int.toNat_natCast, Array.getElem?_eq_none ge2]
  refine wpAny_bind ?_
  first
    | refine wpAny_bind (wpAny_typeNameOfWhole_keyiter I0.typeIs (wpAny_pure ?_))
    | refine wpAny_bind (wpAny_typeNameOf_keyiter I0.typeIs (wpAny_pure ?_))
  show wpAny _ _ (setField (.ref it) 0
    .none >>= _) _ _ s
  refine wpAny_bind (wpAny_setField gi di (by simp) ?_)
  show wpAny _ _ (newExc (.type "StopIteration") []
    >>= _) _ _ _
  refine wpAny_bind ?_
  simp only [newExc, newTuple]
  refine wpAny_bind (wpAny_newObj_type ?_ (by size_fits))
  refine wpAny_bind (m := firstArgMember _ _) (wpAny_of_eq (a := Value.none)
    (by first | rfl | (simp only [firstArgMember]; rfl)) ?_)
  refine wpAny_newObj_type ?_ (by size_fits)
  simp only [raiseNew]
  refine wpAny_bind (wpAny_handled ?_)
  first
    | rw [show A.in1.handled = none from hh]
    | rw [hh]
  refine wpAny_bind (wpAny_pure (wpAny_throw ?_))
  exact q _ _ (((Heap.SameBut.update ..).extBut.push _).push _)
    ⟨_, Heap.get?_push_size _ rfl, rfl⟩
end
theorem en_new (d : Addr) (ob : Obj) (es : Array DictEntry) (ep : Nat) (lo : (d == sysModules) = false) (ex : ob.ExactDict) (gd : ob.data = .dict es ep) :
    Meets (Builtin.«enumerate.__new__» ⟨[.type "enumerate", .ref d], []⟩) (fun _ R s => s.heap.get? d = some ob ∧
      R (.ok (.ret (.ref (s.heap.push { cls := .type "dict_keyiterator", data := .fields #[.ref d, .int 0 0, .int es.size 0, .int ep 0] }).objs.size)))
        { s with heap := (s.heap.push { cls := .type "dict_keyiterator", data := .fields #[.ref d, .int 0 0, .int es.size 0, .int ep 0] }).push { cls := .type "enumerate", data := .fields #[.none, .bool false, .ref s.heap.objs.size, rawInt 0, .none, .none] } }) :=
  .of_wp fun prog w A R s h => by
    obtain ⟨hp, g, dr, tk, os⟩ := s
    obtain ⟨go, h⟩ := h
    have sub := sub_enumerate
    obtain ⟨cl, dd, dt, sl⟩ := ob
    have e1 : cl = .type "dict" := ex.1
    subst e1
    wp_walk using AutoSeq1.wpAny_loadPart' go
    refine wpAny_stack_any fun st => wpAny_pure ?_
    split
    · rename_i c _ _ _ _ _
      cases (c == Value.type "enumerate")
      · wp_walk using AutoSeq1.wpAny_loadPart' go, iter_keys lo go ex gd
        exact ⟨_, rfl, h⟩
      · wp_walk using AutoSeq1.wpAny_loadPart' go, iter_keys lo go ex gd
        exact ⟨_, rfl, h⟩
    · wp_walk using AutoSeq1.wpAny_loadPart' go, iter_keys lo go ex gd
      exact ⟨_, rfl, h⟩
end S
set_option Elab.async false
set_option linter.all false
set_option maxRecDepth 100000
set_option autoImplicit false
/-! S: for i, k in enumerate(d), d a dict -/
namespace S
open PySem L2 PyProof.Rows
/-- drawn from a dict's keys -/
theorem dr_keys {prog : Program} {w : World} {A : Around} (hh : A.handled = none) {it d : Addr} {ob : Obj} {es : Array DictEntry} {ep n : Nat} (ne : d ≠ it) (gd : ob.data = .dict es ep) (sz : es.size = n) :
    Draws prog w A it [it, d] n (fun i v => ∃ en, es[i]? = some en ∧ v = en.key) (fun i h => h.IsKeyIter it d i n ep ∧ h.get? d = some ob) where
  live := fun _ _ st => let ⟨o, ho, _⟩ := st.1; ⟨o, ho⟩
  frame := fun _ _ _ st k => ⟨st.1.at fun o e => k it (by simp) o e, k d (by simp) _ st.2⟩
  item := fun i s Q E hi st q => by
    have hi2 : i < es.size := by rw [sz]; exact hi
    exact nx_item st.1 st.2 gd sz (Array.getElem?_eq_getElem hi2) fun h' I1 sb => q _ h' s.toks ⟨_, Array.getElem?_eq_getElem hi2, rfl⟩ ⟨I1, (sb.2 d ne).trans st.2⟩ sb
  done := fun s Q E st q => nx_end hh st.1 st.2 gd sz (Nat.le_refl _) q
theorem call_enK {prog : Program} {w : World} {A : Around} {E : Value → Shared → Prop} {s : Shared} {d : Addr} {ob : Obj} {es : Array DictEntry} {ep : Nat} {Q : Value → Shared → Prop} (lo : (d == sysModules) = false) (go : s.heap.get? d = some ob) (ex : ob.ExactDict) (gd : ob.data = .dict es ep)
    (q : ∀ h', IsEnum h' (s.heap.objs.size + 1) s.heap.objs.size 0 .none → h'.IsKeyIter s.heap.objs.size d 0 es.size ep → h'.objs.size = s.heap.objs.size + 2 → (∀ b o, s.heap.get? b = some o → h'.get? b = some o) → Q (.ref (s.heap.objs.size + 1)) { s with heap := h' }) :
    wpAny (model prog w) A (call (.type "enumerate") [.ref d]) Q E s := by
  refine callType_new F.called_enumerate (by decide) (F.typeCall_enumerate_1 _)
    (F.newCall_enumerate_1 _) (fun obj => F.args_object_init_2 obj _) F.entry_enumerate_new (en_new d ob es ep lo ex gd) ⟨go, ?_⟩
  have z1 : (s.heap.push { cls := .type "dict_keyiterator", data := .fields #[.ref d, .int 0 0, .int es.size 0, .int ep 0] }).objs.size = s.heap.objs.size + 1 := Heap.size_push ..
  show _ ∧ _
  rw [z1]
  have he : IsEnum ((s.heap.push { cls := .type "dict_keyiterator", data := .fields #[.ref d, .int 0 0, .int es.size 0, .int ep 0] }).push { cls := .type "enumerate", data := .fields #[.none, .bool false, .ref s.heap.objs.size, rawInt 0, .none, .none] }) (s.heap.objs.size + 1) s.heap.objs.size 0 .none := by
    have := Heap.get?_push_size (s.heap.push { cls := .type "dict_keyiterator", data := .fields #[.ref d, .int 0 0, .int es.size 0, .int ep 0] })
      (o := { cls := .type "enumerate", data := .fields #[.none, .bool false, .ref s.heap.objs.size, rawInt 0, .none, .none] }) rfl
    rw [z1] at this
    exact this
  exact ⟨⟨_, he, rfl⟩, q _ he ⟨_, Heap.get?_push_of_some _ (Heap.get?_push_size _ rfl), rfl, rfl⟩ (by rw [Heap.size_push, z1]) fun b o x => Heap.get?_push_of_some _ (Heap.get?_push_of_some _ x)⟩
/-- each key in a new pair with its number; the dict is locked -/
def ItnK (d : Addr) (o : Obj) (kvs : List (Key × V)) : It :=
  ⟨fun i H => H d = some (.frz o (.dK kvs)) ∧ i < kvs.length, fun i H v H' => ∃ T k x, v = .ref T ∧ H T = none ∧ H' = upd H T (.tup [.int (i : Nat), kV k]) ∧ kvs[i]? = some (k, x), fun i H => H d = some (.frz o (.dK kvs)) ∧ kvs.length ≤ i⟩
theorem turn_enK {P : Program} {w : World} {K : PySem.W.Frag} {elts : List Expr} {kk : Nat} {tpos : Pos} {d : Addr} {o : Obj} {es : Array DictEntry} {ep : Nat} {kvs : List (Key × V)} (e it : Addr) (hod : o.data = .dict es ep) (sz : es.size = kvs.length) :
    Turn P w K (.Tuple elts kk tpos) (ItnK d o kvs) [e, it] e (fun i h => (∃ old, IsEnum h e it ((i : Nat) : Int) old) ∧ h.IsKeyIter it d i kvs.length ep ∧ e ≠ it) where
  mem := by simp
  obj := fun i h st b hb => by
    obtain ⟨⟨old, he⟩, ⟨oi, ho, hc, hd⟩, _⟩ := st
    have w : b = e ∨ b = it := by simpa using hb
    rcases w with z | z
    · rw [z]; exact ⟨_, he, fun v q => nomatch q⟩
    · rw [z]; exact ⟨oi, ho, fun v q => by rw [hd] at q; cases q⟩
  keep := fun i h h' st k => let ⟨⟨old, he⟩, hi, hne⟩ := st; ⟨⟨old, k e (by simp) _ he⟩, hi.at fun oi q => k it (by simp) oi q, hne⟩
  item := by
    intro X hP hw hK hc i pins s σ H E I hf st hg
    subst hP hw hK
    obtain ⟨⟨old, he⟩, hit, hne⟩ := st
    obtain ⟨hd, hi⟩ := hg
    obtain ⟨lo, gd, ex, es', ep', vs, hdt, hsz, kv, hm⟩ := I.frzK hd
    rw [hod] at hdt
    injection hdt with q1 q2
    subst q1 q2
    have ned : d ≠ it := fun z => by have := (hf it (by simp)).1; rw [← z, hd] at this; cases this
    have nde : d ≠ e := fun z => by have := (hf e (by simp)).1; rw [← z, hd] at this; cases this
    have le : e < s.heap.objs.size := Heap.lt_size he
    have li : it < s.heap.objs.size := by obtain ⟨_, q, _⟩ := hit; exact Heap.lt_size q
    refine wpAny_pyNext_enum_itemD (dr_keys (A := X.A.in1) (I.ok.hd hc) ned hod sz) he ⟨hit, gd⟩ hi hne (by simp [hne, Ne.symm nde]) fun u h' tk hu ho hs hT _ hk => ?_
    obtain ⟨en, hen, rfl⟩ := hu
    obtain ⟨⟨k, x⟩, hkx⟩ : ∃ p, kvs[i]? = some p := ⟨kvs[i], List.getElem?_eq_getElem hi⟩
    obtain ⟨y, hy, _⟩ := L2.kv_get kv hkx
    have isk : keyIs k en.key = true := by
      obtain ⟨od, es2, g1, _, g3, _, g5, _⟩ := hm
      rw [gd] at g1
      cases g1
      rw [hod] at g3
      injection g3 with g4 _
      subst g4
      exact (g5.get? (e := en) (by rw [Array.getElem?_toList]; exact hen) hy).1
    refine ⟨_, rfl, wpAny_letOwnedTupleGo_enum (s := { s with heap := h', toks := tk + 1 }) ho fun h2 he2 sb => ?_⟩
    have hT2 : h2.get? s.heap.objs.size = some { cls := .type "tuple", data := .seq #[.int i tk, en.key] } := (sb.2 _ (Nat.ne_of_gt le)).trans hT
    have new : ObjOk X.prog X.w (upd H s.heap.objs.size (.tup [.int (i : Nat), kV k])) h2 s.heap.objs.size (.tup [.int (i : Nat), kV k]) :=
      ⟨by show 2 ≤ sizeLine; decide, [.int i tk, en.key], .cons ⟨_, rfl⟩ (.cons (relV_key isk) .nil), ⟨_, hT2, rfl, _, rfl⟩⟩
    have I1 : Inv X pins σ (upd H s.heap.objs.size (.tup [.int (i : Nat), kV k])) { s with heap := h2, toks := tk + 1 } :=
      I.turnedNew (ch := [e, it]) (fun b ob hb q => (sb.2 b (fun z => hb (by simp [z]))).trans (hk b ob (fun z => hb (by simp [z])) (fun z => hb (by simp [z])) q)) hf (Nat.le_refl _) new
    refine ⟨.ref s.heap.objs.size, _, I1, rfl, ⟨_, k, x, rfl, I.hok.fresh (Nat.le_refl _), rfl, hkx⟩, ⟨⟨en.key, ?_⟩, hs.1.at fun oi q => (sb.2 it (Ne.symm hne)).trans q, hne⟩, fun b hb => ?_⟩
    · have e1 : ((i + 1 : Nat) : Int) = (i : Int) + 1 := by omega
      rw [e1]; exact he2
    · have w : b = e ∨ b = it := by simpa using hb
      have lb : b < s.heap.objs.size := by
        rcases w with z | z
        · rw [z]; exact le
        · rw [z]; exact li
      rw [upd_ne (Nat.ne_of_lt lb)]
      exact (hf b hb).1
  done := by
    intro X hP hw hK hc i pins s σ H E I hf st hg
    subst hP hw hK
    obtain ⟨⟨old, he⟩, hit, hne⟩ := st
    obtain ⟨hd, hi⟩ := hg
    obtain ⟨lo, gd, ex, es', ep', vs, hdt, hsz, kv, hm⟩ := I.frzK hd
    obtain ⟨f0, f1, f2, f3, f4, f5⟩ := hf it (by simp)
    have hT : s.TypeIs (.ref e) "enumerate" := ⟨_, he, rfl⟩
    unfold pyNext
    refine wpAny_bind (wpAny_attempt (wpAny_callSpecial?_slot (name := Str.ofString "__next__")
      hT F.slot_enumerate_next (wpAny_call_entry F.slot_enumerate_next hT F.entry_enumerate_next ?_ (F.args_enumerate_next_1 _))))
    show wpAny _ _ (field (.ref e) 2
      >>= _) _ _ _
    refine wpAny_bind (wpAny_field he rfl (x := .ref it) rfl ?_)
    refine wpAny_bind (nx_end (A := X.A.in1) (I.ok.hd hc) hit gd hod sz hi fun h' x eb hx => ?_)
    obtain ⟨ox, gx, cx⟩ := hx
    refine wpAny_bind (wpAny_isInstance (T := "StopIteration") (b := true) ⟨ox, gx, cx⟩ isSubtype_stop ?_)
    exact wpAny_pure ⟨rfl, I.turned (t' := s.toks) (fun b o hb q => eb b o hb q) f0 f1 f3 f4 f5⟩
  self := fun A i s Q E st h => let ⟨⟨_, he⟩, _⟩ := st; wpAny_pyIter_enum he h
def iEnK (ta : TA) : TI := fun σ H R => ta σ H fun vs H1 => ∃ d o kvs, vs = [.ref d] ∧ H1 d = some (.frz o (.dK kvs)) ∧ R (ItnK d o kvs) H1
section
variable {X : Cx} {e : Expr} {es : List Expr} {p pos tpos : Pos} {elts : List Expr} {kk : Nat} {td : TE} {w : WE} {ta : TA}
theorem pi_enK (hg : Gl X "enumerate") (hm : X.mg "enumerate" = none) (ha : PA X [e] ta) (hs : starEach [e] X.env = [(false, eval e X.env)]) : PI X (.Tuple elts kk tpos) (.Call (.Name "enumerate" p) [e] [] pos) (iEnK ta) := by
  constructor
  intro pins s σ H R I h
  refine Call_ (ld_blt I hg hm boot_enumerate (PyProof.Rows.callWith_type1 (thn (ha.run pos pins s σ H _ I h) ?_) hs rfl))
  rintro us s1 ⟨vs, H1, I1, r1, d, o, kvs, ex, hd, q⟩
  subst ex
  cases r1 with
  | cons r rr =>
    cases rr
    cases r
    obtain ⟨lo, gd, xd, es', ep', vs', hdt, hsz, kv, hmm⟩ := I1.frzK hd
    refine call_enK lo gd xd hdt fun h' he hit hz hk => wpAny_pyIter_enum he ?_
    have I2 : Inv X pins σ H1 { s1 with heap := h' } := I1.kept (t' := s1.toks) hk
    rw [hsz] at hit
    refine ⟨s1.heap.objs.size + 1, [s1.heap.objs.size + 1, s1.heap.objs.size], _, _, H1, rfl, I2, turn_enK (s1.heap.objs.size + 1) s1.heap.objs.size hdt hsz, ⟨⟨.none, he⟩, hit, Nat.succ_ne_self _⟩, fun b hb => ?_, q⟩
    have w : b = s1.heap.objs.size + 1 ∨ b = s1.heap.objs.size := by simpa using hb
    have le : s1.heap.objs.size ≤ b := by
      rcases w with z | z
      · rw [z]; exact Nat.le_succ _
      · rw [z]; exact Nat.le_refl _
    exact I1.fpOk le (I1.hok.fresh le)
theorem ji_enumK (hg : Gl X "enumerate") (hm : X.mg "enumerate" = none) (h : JE X e td w) (hs : starEach [e] X.env = [(false, eval e X.env)] := by rfl) (hs2 : starEach [e] X.env = (false, eval e X.env) :: starEach [] X.env := by rfl) :
    JI X (.Tuple elts kk tpos) (.Call (.Name "enumerate" p) [e] [] pos) (iEnK (tCons (tLk td) tNil)) (wiDic (fun ks _ => enumD (ks.map kD)) w) := by
  refine ⟨pi_enK hg hm (pa_cons (pe_lk h.pe) pa_nil hs2) hs, fun S Ψ hw σ H G as A R r => ?_⟩
  refine go_lk (h.go S _ hw) σ H G as A _ (fun ks ds S1 d kvs o H1 G1 h1 st1 A1 ga hd hk hr => ?_) dic_of
  refine ⟨d, o, kvs, rfl, hd, r _ _ S1 H1 G1 h1 st1 A1 fun as' H2 G2 S2 σ2 st2 A2 i => ?_⟩
  have hd2 := st2.frz ga hd
  have l := kvs_len hk hr
  have li : (enumD (ks.map kD)).length = ks.length := by unfold enumD; rw [List.length_map, List.length_zipIdx, List.length_map]
  have lk1 : ∀ i, i < (enumD (ks.map kD)).length → i < kvs.length := fun i h => by rw [li] at h; rw [l.1]; exact h
  have lk2 : ∀ i, (enumD (ks.map kD)).length ≤ i → kvs.length ≤ i := fun i h => by rw [li] at h; rw [l.1]; exact h
  refine ⟨fun hi => ⟨⟨hd2, lk1 i hi⟩, fun x H' ⟨T, k, v, e2, e3, e4, e5⟩ => ?_⟩, fun hi => ⟨hd2, lk2 i hi⟩⟩
  subst e2 e4
  obtain ⟨g0, d', g1, g2⟩ := kvs_at hk hr e5
  have gT := A2.own.nG e3
  refine ⟨upd G2 T (.tup [.int (i : Nat), kV k]), .tup [.int (i : Nat), kD k], ?_, Stp.new e3 gT, A2.new e3, T, _, rfl, upd_same, .int (i : Nat), [kV k], rfl, rfl, kV k, [], rfl, rp_kD _ _, rfl⟩
  unfold enumD
  rw [List.getElem?_map, List.getElem?_zipIdx, List.getElem?_map, g0]
  simp
end
end S
set_option Elab.async false
set_option linter.all false
set_option maxRecDepth 100000
set_option autoImplicit false
/-! S: the head's facts with what shows that nobody looks on; a law's end over them -/
namespace S
open PySem PySem.Spec PyProof.Rows L2
/-- what must be held of the heap so that a heap with it has no seer either -/
def seenS (K : PySem.W.Frag) : Bool := (K.lookup cStatics).isSome && ((K.lookup sysModules).isSome && ((K.lookup builtinsNs).isSome && ((K.lookup mainGlobals).isSome && (match PySem.W.nsIn K mainGlobals "__builtins__" with
  | some (some (.ref b)) => (K.lookup b).isSome
  | _ => false))))
theorem ns_move {K : PySem.W.Frag} {h base : Heap} {a : Addr} {m : Str → Option Value} (hK : K.In h) (bK : K.In base) (s : (K.lookup a).isSome = true) (n : h.Ns a m) : base.Ns a m := by
  obtain ⟨o, es, ep, e, r⟩ := n
  obtain ⟨o', e'⟩ := Option.isSome_iff_exists.mp s
  have e1 := hK _ _ e'
  rw [e] at e1
  cases e1
  exact ⟨o, es, ep, bK _ _ e', r⟩
theorem noSeer_move {K : PySem.W.Frag} {h base : Heap} (hK : K.In h) (bK : K.In base) (s : seenS K = true) (n : h.NoSeer) : base.NoSeer := by
  obtain ⟨s1, s⟩ := He.ba s
  obtain ⟨s2, s⟩ := He.ba s
  obtain ⟨s3, s⟩ := He.ba s
  obtain ⟨s4, s5⟩ := He.ba s
  refine ⟨?_, ?_, ?_, ?_⟩
  · obtain ⟨mc, a, b⟩ := n.statics; exact ⟨mc, ns_move hK bK s1 a, b⟩
  · obtain ⟨mc, a, b⟩ := n.mods; exact ⟨mc, ns_move hK bK s2 a, b⟩
  · obtain ⟨mc, a, b⟩ := n.imp; exact ⟨mc, ns_move hK bK s3 a, b⟩
  · obtain ⟨mg, bm, ob, a, b, c, d, e⟩ := n.main
    refine ⟨mg, bm, ob, ns_move hK bK s4 a, b, ?_, d, e⟩
    split at s5
    · rename_i b' e5
      have := PySem.W.mg_of hK a e5
      rw [b] at this
      cases this
      obtain ⟨o', e'⟩ := Option.isSome_iff_exists.mp s5
      have e1 := hK _ _ e'
      rw [c] at e1
      cases e1
      exact bK _ _ e'
    · cases s5
def isL (o : Obj) : Bool := match o.cls with
  | .type c => c == "list"
  | _ => false
/-- a part of the heap without lists -/
def frN (g : Addr → Option Obj) : List Addr → PySem.W.Frag
  | [] => []
  | a :: r => match g a with
    | some o => if isL o then frN g r else (a, o) :: frN g r
    | none => frN g r
theorem frN_at {g : Addr → Option Obj} {a : Addr} {o : Obj} : ∀ as : List Addr, (frN g as).lookup a = some o → g a = some o ∧ isL o = false
  | [], e => nomatch (show (none : Option Obj) = some o from e)
  | b :: r, e => by
    unfold frN at e
    cases hb : g b with
    | none => rw [hb] at e; exact frN_at r e
    | some ob =>
      rw [hb] at e
      simp only at e
      cases hl : isL ob with
      | true => rw [hl] at e; exact frN_at r e
      | false =>
        rw [hl] at e
        have e2 : (match a == b with | true => some ob | false => (frN g r).lookup a) = some o := e
        cases q : (a == b) with
        | true =>
          rw [q] at e2
          have eo : ob = o := Option.some.inj e2
          rw [← eo, beq_iff_eq.mp q]
          exact ⟨hb, hl⟩
        | false =>
          rw [q] at e2
          exact frN_at r e2
def asS (g : Addr → Option Obj) (n : Nat) : List Addr := cStatics :: sysModules :: builtinsNs :: He.asD g n
abbrev AlS : Type := Bool × He.AlD
def obsS (fa : List He.Fa) (fn : List He.DefD) (K : PySem.W.Frag) : AlS := (seenS K, He.obsD fa fn K)
def obsSG (n : Nat) (fa : List He.Fa) (fn : List He.DefD) (g : Addr → Option Obj) : AlS := obsS fa fn (frN g (asS g n))
/-- no list among what is held -/
def NoL (K : PySem.W.Frag) : Prop := ∀ a o, K.lookup a = some o → isL o = false
def hookS (n : Nat) (fa : List He.Fa) (fn : List He.DefD) : PySem.W.Hook where
  α := AlS
  obs := fun s => obsSG n fa fn s.heap.get?
  val := fun _ => (true, He.valD fn)
  says := fun _ h => ∃ K : PySem.W.Frag, K.In h ∧ NoL K ∧ seenS K = true ∧ He.SaysD fa fn K
  of := fun _ _ e => ⟨_, fun _ _ z => (frN_at _ z).1, fun _ _ z => (frN_at _ z).2, congrArg (fun z : AlS => z.1) e, congrArg (fun z : AlS => z.2) e⟩
  keeps := fun _ _ _ ⟨K, hK, c⟩ k => ⟨K, PySem.W.Frag.In.keeps hK k, c⟩
theorem obsSG_eq {n : Nat} {fa : List He.Fa} {fn : List He.DefD} {g : Addr → Option Obj} {s : Shared} (h : ∀ a, g a = s.heap.get? a) : obsSG n fa fn g = (hookS n fa fn).obs s := by
  have e : g = s.heap.get? := funext h
  rw [e] <;> rfl
/-- a law's end, where also nobody looks on -/
theorem walk_ofS {l : PySem.W.OpenLaw} {n k : Nat} {q : Program} {loose : List Str} {XP : (Str → Option Value) → Heap → Prop} {YP : World → Heap → Prop} {d : DefRec} {CX : CXT} {x : Str}
    (hn : l.most = some n) (hn2 : n ≤ sizeLine) (hdf : d.params.defaults = []) (hr : Room k callerA) (hi : importsNone q = true)
    (F : ∀ (w : World) (mg : Str → Option Value) (fa : Addr) (h : Heap), YP w h → h.Ns mainGlobals mg → h.NoSeer → mg d.name = some (.ref fa) →
      ∃ (K : PySem.W.Frag) (fd : FuncData) (sp : Sp), K.In h ∧ (∀ (s : Shared) (u : Value), BindsTo s fd ⟨[u], []⟩ [(x, u)]) ∧
        (∀ (H : Hp) (a : Addr) (ns : List Int), ns.length ≤ n → Only H → SqL K H a (ns.map V.int) → sp [.ref a] H (fun v _ => v = .bl true) fun _ _ _ => False) ∧
        ∀ base : Heap, K.In base → base.Ns mainGlobals mg → FnOk l.prog w K mg base CX k fa fd [x] sp)
    (hCX : ∀ (H : Hp) (s : Shared) (e : Value) (s' : Shared), CX [] H s (fun _ _ _ => False) e s' → False) :
    PySem.W.WalkO q loose XP YP l.row.toRowW d [] (fun f vs => PySem.call f vs) := by
  refine Att.attach_call hn hdf fun wo sa sb mm mv fo ob pv cv dv ar us zs GG YY ha1 ha2 ha3 ha4 ha5 ha6 ha7 ha8 => ?_
  obtain ⟨K, fd, sp, kx, hb, hs, hf⟩ := F wo mm fo _ YY GG.T.g (GG.T.seer hi) ha4
  refine law_call kx GG.T.g GG.T.b GG.T.builtins GG.T.nolimit ha8 ha5 ha6 (Nat.le_trans ha7 hn2) hr hf hb ?_ ?_
  · exact fun H hO hS => hs H ar zs ha7 hO hS
  · exact fun H e s' => hCX H sb e s'
/-- the law's own def -/
theorem mk_law {P : Program} {w : World} {K : PySem.W.Frag} {mg : Str → Option Value} {base : Heap} {x : Str} {st : Stmt} {N ps : List Str} {k : Nat} {ct : Ct} {f : Addr} {fd : FuncData} (F : FunD K x x (defArgs st) (defBody st) (defScope st) [] [] f fd) (Sc : FnScope N ps (defScope st)) (len : ∀ os args Φ, ct os args Φ → args.length = ps.length)
    (hb : ∀ (f : Addr) (cdv : Value) (A : Around) (outer : List Env) (s : Shared) (H : Hp) (E : XK), Room k (A.deeper (envOfC x (defScope st) s.heap.objs.size f cdv)) →
      ∃ t ws, JSs (cxOf CX0 P w K mg base N x (defScope st) f cdv A outer s H E).nox (defBody st) t ws ∧ ∀ os args Φ, ct os args Φ → ws (KEnd os.length Φ) ⟨os.map some, slots N args⟩) : FnOk P w K mg base CX0 (k + 1) f fd ps (SpD ct) := by
  refine F.ok Sc (fun vs H Q E hs => ?_) (fun cdv A outer s H vs Q E hr hs => ?_)
  · obtain ⟨os, args, G, as, Φ, o, r, hc, _⟩ := hs
    rw [r.length]; exact len os args Φ hc
  · obtain ⟨t, ws, J, h⟩ := hb f cdv A outer s H E hr
    exact ⟨t, PSs.nox J.pe, GoS.fn J.go h H vs Q E hs⟩
/-- how the law is called: its script, a list that nobody changes -/
theorem law_start {K : PySem.W.Frag} {ct : Ct} {n : Nat} (nl : NoL K) (h : ∀ (zs : List Int) (Φ : D → List D → Prop), zs.length ≤ n → Φ (.bl true) [] → ct [] [.v (.lst (zs.map D.int))] Φ)
    (H : Hp) (a : Addr) (ns : List Int) (hl : ns.length ≤ n) (hS : SqL K H a (ns.map V.int)) : SpD ct [.ref a] H (fun v _ => v = .bl true) fun _ _ _ => False := by
  have hR : Rd H a (.lst (ns.map V.int)) := by
    rcases hS with z | ⟨o, its, m, h1, h2, _⟩
    · exact z
    · have := nl a o h1
      unfold isL at this
      rw [h2] at this
      cases this
  have rp : ∀ (G : Hp) (zs : List Int), Rps G (zs.map D.int) (zs.map V.int) := fun G zs => by
    induction zs with
    | nil => rfl
    | cons z zs ih => exact ⟨_, _, rfl, rfl, ih⟩
  refine ⟨[], [.v (.lst (ns.map D.int))], fun b => if b = a then some (.lst (ns.map V.int)) else none, [], fun d os' => d = .bl true, ⟨fun b u e => ?_, rfl, List.nodup_nil, fun b hb => (nomatch hb), fun k d e => (by simp at e)⟩, ⟨_, [], rfl, ⟨a, _, rfl, if_pos rfl, rp _ ns⟩, rfl⟩, h ns _ hl rfl, fun d os' v H' G' hd st o r => ?_⟩
  · by_cases hb : b = a
    · rw [if_pos hb] at e; cases e; rw [hb]; exact hR
    · rw [if_neg hb] at e; cases e
  · subst hd; exact r
end S
set_option Elab.async false
set_option linter.all false
set_option maxRecDepth 100000
set_option autoImplicit false
/-! N: numbers as the text writes them, and their size -/
namespace S
open PySem L2
/-- a number: an int, or a pair in lowest terms -/
def qD (q : Rat) : D := if q.den = 1 then .int q.num else .tup [.int q.num, .int q.den]
theorem qD_int {q : Rat} (h : q.den = 1) : qD q = .int q.num := by unfold qD; rw [if_pos h]
theorem qD_tup {q : Rat} (h : q.den ≠ 1) : qD q = .tup [.int q.num, .int q.den] := by unfold qD; rw [if_neg h]
theorem qD_inj {a b : Rat} (h : qD a = qD b) : a = b := by
  by_cases ha : a.den = 1
  · by_cases hb : b.den = 1
    · rw [qD_int ha, qD_int hb] at h
      injection h with h1
      exact Rat.ext h1 (ha.trans hb.symm)
    · rw [qD_int ha, qD_tup hb] at h; cases h
  · by_cases hb : b.den = 1
    · rw [qD_tup ha, qD_int hb] at h; cases h
    · rw [qD_tup ha, qD_tup hb] at h
      injection h with h1
      injection h1 with h2 h3
      injection h2 with h2
      injection h3 with h3 _
      injection h3 with h3
      exact Rat.ext h2 (by omega)
theorem okE_qD {n : Nat} (q : Rat) (h : 1 ≤ n) : okE n (qD q) = true := by
  match n, h with
  | n + 1, _ =>
    unfold qD
    split
    · rfl
    · show okEs n [D.int q.num, D.int q.den] = true
      unfold okEs okEs okEs
      cases n <;> rfl
def D.intB : D → Bool
  | .int _ => true
  | _ => false
/-- sizes -/
def B (n : Nat) (q : Rat) : Prop := q.num.natAbs < 2 ^ n ∧ q.den < 2 ^ n
theorem two_le {n m : Nat} (h : n ≤ m) : 2 ^ n ≤ 2 ^ m := Nat.pow_le_pow_right (by decide) h
theorem B.mono {n m : Nat} {q : Rat} (b : B n q) (h : n ≤ m) : B m q := ⟨Nat.lt_of_lt_of_le b.1 (two_le h), Nat.lt_of_lt_of_le b.2 (two_le h)⟩
theorem mkRat_num_le (t : Int) (b : Nat) : (mkRat t b).num.natAbs ≤ t.natAbs := by
  rw [Rat.num_mkRat]
  split
  · simp
  · rw [Int.natAbs_ediv_of_dvd]
    · exact Nat.div_le_self _ _
    · exact Int.dvd_natAbs.mp (Int.ofNat_dvd.mpr (Nat.gcd_dvd_right _ _))
theorem mkRat_den_le {t : Int} {b : Nat} (h : 0 < b) : (mkRat t b).den ≤ b := by
  rw [Rat.den_mkRat]
  split
  · omega
  · exact Nat.div_le_self _ _
theorem B_mk {n : Nat} {t : Int} {b : Nat} (h0 : 0 < b) (h1 : t.natAbs < 2 ^ n) (h2 : b < 2 ^ n) : B n (mkRat t b) := ⟨Nat.lt_of_le_of_lt (mkRat_num_le t b) h1, Nat.lt_of_le_of_lt (mkRat_den_le h0) h2⟩
theorem mul_lt2 {a b n m : Nat} (ha : a < 2 ^ n) (hb : b < 2 ^ m) : a * b < 2 ^ (n + m) := by
  rw [Nat.pow_add]
  exact Nat.mul_lt_mul'' ha hb
theorem imul_lt2 {i : Int} {j : Int} {n m : Nat} (ha : i.natAbs < 2 ^ n) (hb : j.natAbs < 2 ^ m) : (i * j).natAbs < 2 ^ (n + m) := by
  rw [Int.natAbs_mul]; exact mul_lt2 ha hb
theorem iadd_lt2 {i : Int} {j : Int} {n : Nat} (ha : i.natAbs < 2 ^ n) (hb : j.natAbs < 2 ^ n) : (i + j).natAbs < 2 ^ (n + 1) := by
  rw [Nat.pow_succ]
  omega
theorem nat_lt2 {i : Nat} {n : Nat} (h : i < 2 ^ n) : (i : Int).natAbs < 2 ^ n := by simpa using h
theorem B_add {n m : Nat} {a b : Rat} (ha : B n a) (hb : B m b) : B (n + m + 1) (a + b) := by
  rw [Rat.add_def']
  refine B_mk (Nat.mul_pos a.den_pos b.den_pos) (iadd_lt2 (imul_lt2 ha.1 (nat_lt2 hb.2)) ?_) (Nat.lt_of_lt_of_le (mul_lt2 ha.2 hb.2) (two_le (by omega)))
  rw [Nat.add_comm n m]
  exact imul_lt2 hb.1 (nat_lt2 ha.2)
theorem B_mul {n m : Nat} {a b : Rat} (ha : B n a) (hb : B m b) : B (n + m) (a * b) := by
  rw [Rat.mul_def']
  exact B_mk (Nat.mul_pos a.den_pos b.den_pos) (imul_lt2 ha.1 hb.1) (mul_lt2 ha.2 hb.2)
theorem B_inv {n : Nat} {a : Rat} (ha : B n a) : B n a⁻¹ := by
  have one : 1 < 2 ^ n := Nat.lt_of_le_of_lt a.den_pos ha.2
  refine ⟨?_, ?_⟩
  · rw [Rat.num_inv, Int.natAbs_mul]
    have h : a.num.sign.natAbs ≤ 1 := by
      rw [Int.natAbs_sign]; split <;> omega
    calc a.num.sign.natAbs * (a.den : Int).natAbs ≤ 1 * (a.den : Int).natAbs := Nat.mul_le_mul_right _ h
      _ < 2 ^ n := by simpa using ha.2
  · rw [Rat.den_inv]
    split
    · exact one
    · exact ha.1
theorem B_div {n m : Nat} {a b : Rat} (ha : B n a) (hb : B m b) : B (n + m) (a / b) := by
  rw [Rat.div_def]
  exact B_mul ha (B_inv hb)
theorem log_lt {i : Nat} {n : Nat} (h : i < 2 ^ n) : i.log2 ≤ n := by
  by_cases z : i = 0
  · subst z; simp
  · exact Nat.le_of_lt ((Nat.log2_lt z).mpr h)
theorem cmul_of {i j : Int} {n m : Nat} (ha : i.natAbs < 2 ^ n) (hb : j.natAbs < 2 ^ m) (h : n + m < 100000000) : CMulD i j := by
  have h1 := log_lt ha
  have h2 := log_lt hb
  unfold CMulD
  omega
/-- products, sums of fractions -/
theorem mkRat_one (t : Int) : mkRat t 1 = (t : Rat) := by
  refine Rat.ext ?_ ?_
  · rw [Rat.num_mkRat]; simp
  · rw [Rat.den_mkRat]; simp
theorem mkRat_den_mul (t : Int) (b : Nat) (a : Rat) (hb : b ≠ 0) : mkRat t b + a = mkRat (t * a.den + a.num * b) (b * a.den) := by
  conv => lhs; rw [← Rat.mkRat_self a]
  exact Rat.mkRat_add_mkRat t a.num hb a.den_nz
theorem mkRat_same (t : Int) (b : Nat) (u : Int) (hb : b ≠ 0) : mkRat t b + mkRat u b = mkRat (t + u) b := by
  rw [Rat.mkRat_add_mkRat t u hb hb, ← Int.add_mul, Rat.mkRat_mul_right hb]
theorem div_mk {a b : Rat} (hb : 0 < b) : a / b = mkRat (a.num * b.den) (a.den * b.num.toNat) := by
  have hn : 0 < b.num := by
    have h1 : 0 ≤ b.num := Rat.num_nonneg.mpr (Rat.le_of_lt hb)
    have h2 : b.num ≠ 0 := fun z => by rw [Rat.num_eq_zero.mp z] at hb; exact Rat.lt_irrefl hb
    omega
  have e : b⁻¹ = mkRat b.den b.num.toNat := by
    rw [Rat.inv_def]
    have : b.num = (b.num.toNat : Int) := by omega
    conv => lhs; rw [this]
    rw [Rat.divInt_ofNat]
  have hm : b.num.toNat ≠ 0 := by omega
  rw [Rat.div_def, e]
  conv => lhs; rw [← Rat.mkRat_self a]
  exact Rat.mkRat_mul_mkRat _ _ _ _
theorem num_pos {b : Rat} (hb : 0 < b) : 0 < b.num := by
  have h1 : 0 ≤ b.num := Rat.num_nonneg.mpr (Rat.le_of_lt hb)
  have h2 : b.num ≠ 0 := fun z => by rw [Rat.num_eq_zero.mp z] at hb; exact Rat.lt_irrefl hb
  omega
/-- lowest terms by the divisor -/
theorem qD_mk (t : Int) (b : Nat) (hb : 0 < b) : qD (mkRat t b) = if b / t.natAbs.gcd b = 1 then .int (t / (t.natAbs.gcd b : Nat)) else .tup [.int (t / (t.natAbs.gcd b : Nat)), .int ((b : Int) / (t.natAbs.gcd b : Nat))] := by
  have h1 : (mkRat t b).num = t / (t.natAbs.gcd b : Nat) := by
    rw [Rat.num_mkRat, if_neg (by omega), Nat.gcd_comm]
  have h2 : (mkRat t b).den = b / t.natAbs.gcd b := by
    rw [Rat.den_mkRat, if_neg (by omega), Nat.gcd_comm]
  unfold qD
  rw [h1, h2]
  split
  · rfl
  · rw [Int.natCast_ediv]
end S
set_option Elab.async false
set_option linter.all false
set_option maxRecDepth 100000
set_option autoImplicit false
/-! I: the readings taken step by step, from the front -/
namespace S
open PySem L2
section
variable {S : Ab} {Φ : PhE} {Ψ : PhT} {Ξ : PhA} {Kn : KN} {w wa wb wc we : WE} {wt wu : WT} {wr : WA} {w1 w2 ws : WS} {wg : WG} {d : D} {P : Ab → Prop} {i j : Nat}
-- statements
theorem i_seq (h : w1 { Kn with nx := w2 Kn } S) : wSeq w1 w2 Kn S := h
theorem i_next (h : Kn.nx S) : wNext Kn S := h
theorem i_ret (h : w S Kn.rt) : wRet w Kn S := h
theorem i_retN (h : Kn.rt .non S) : wRetN Kn S := h
theorem i_drop (h : w S fun _ S1 => Kn.nx S1) : wDrop w Kn S := h
def kIf (w1 w2 : WS) (Kn : KN) : PhT := fun c S1 => (c = true → w1 Kn S1) ∧ (c = false → w2 Kn S1)
theorem i_ifS (h : wt S (kIf w1 w2 Kn)) : wIfS wt w1 w2 Kn S := h
theorem i_kIf {c : Bool} (h1 : c = true → w1 Kn S) (h2 : c = false → w2 Kn S) : kIf w1 w2 Kn c S := ⟨h1, h2⟩
theorem i_kIfT {c : Bool} (e : c = true) (h : w1 Kn S) : kIf w1 w2 Kn c S := ⟨fun _ => h, fun z => absurd z (by rw [e]; decide)⟩
theorem i_kIfF {c : Bool} (e : c = false) (h : w2 Kn S) : kIf w1 w2 Kn c S := ⟨fun z => absurd z (by rw [e]; decide), fun _ => h⟩
theorem i_asg (h : w S fun d S1 => wg d S1 Kn.nx) : wAsg w wg Kn S := h
theorem i_gname (h : P (S.set i d)) : wgName i d S P := h
theorem i_gtup {n : Nat} {gs : List D → Ab → (Ab → Prop) → Prop} {ds : List D} (h1 : ds.length = n) (h : gs ds S P) : wgTup n gs (.tup ds) S P := ⟨h1, h⟩
theorem i_gcons {gs : List D → Ab → (Ab → Prop) → Prop} {ds : List D} (h : wg d S fun S1 => gs ds S1 P) : wgCons wg gs (d :: ds) S P := h
theorem i_gnil (h : P S) : wgNil [] S P := h
theorem i_own (h : w S fun d S1 => Kn.nx (S1.own i d)) : wOwn w i Kn S := h
theorem i_par (h : wa S fun d1 S1 => wb S1 fun d2 S2 => Kn.nx ((S2.set i d1).set j d2)) : wPar i j wa wb Kn S := h
theorem i_parN (h : wa S fun d1 S1 => wb ⟨S1.os ++ [some d1], S1.ρ⟩ fun d2 S2 => Kn.nx ((S2.setO i S1.os.length).set j d2)) : wParN i j wa wb Kn S := h
theorem i_parNN (h : wa S fun d1 S1 => wb ⟨S1.os ++ [some d1], S1.ρ⟩ fun d2 S2 => Kn.nx (Ab.setO ⟨S2.os ++ [some d2], S2.ρ.set i (some (.o S1.os.length))⟩ j S2.os.length)) : wParNN i j wa wb Kn S := h
theorem i_setC {c : Int} (h : w S fun d S1 => ∃ k ds n, S1.atO i = some (k, .lst ds) ∧ ixN ds.length c = some n ∧ Kn.nx (S1.put k (.lst (ds.set n d)))) : wSetC i c w Kn S := h
theorem i_setC1 {k n : Nat} {ds : List D} {c : Int} (h1 : S.atO i = some (k, .lst ds)) (h2 : ixN ds.length c = some n) (h3 : Kn.nx (S.put k (.lst (ds.set n d)))) : ∃ k ds n, S.atO i = some (k, .lst ds) ∧ ixN ds.length c = some n ∧ Kn.nx (S.put k (.lst (ds.set n d))) := ⟨k, ds, n, h1, h2, h3⟩
theorem i_wmSeq {w1 : WS} {wm : WM} {F : D → Ab → Prop} (h : w1 { nx := wm F, rt := fun _ _ => False } S) : wmSeq w1 wm F S := h
theorem i_wmRet {F : D → Ab → Prop} (h : w S F) : wmRet w F S := h
-- ends
theorem i_end0 {F : D → List D → Prop} (h : F d []) : (KEnd 0 F).rt d S := ⟨[], rfl, h⟩
theorem i_end0' {F : D → List D → Prop} (h : F d []) : (KEnd ([] : List D).length F).rt d S := ⟨[], rfl, h⟩
theorem i_end0n {F : D → List D → Prop} (h : F .non []) : (KEnd ([] : List D).length F).nx S := ⟨[], rfl, h⟩
theorem i_end1 {F : D → List D → Prop} {d0 d1 : D} (e : S.os[0]? = some (some d1)) (h : F d [d1]) : (KEnd [d0].length F).rt d S := by
  refine ⟨[d1], ?_, h⟩
  cases hs : S.os with
  | nil => rw [hs] at e; cases e
  | cons x xs =>
    rw [hs] at e
    have e : some x = some (some d1) := e
    cases e
    simp
theorem i_endM {F : D → List D → Prop} (h : F d []) : KM ([] : List D).length F d S := ⟨[], rfl, h⟩
-- expressions
theorem i_var (e : S.ρ[i]? = some (some (.v d))) (h : Φ d S) : wVar i S Φ := by unfold wVar; rw [e]; exact h
theorem i_varO {k : Nat} (e : S.ρ[i]? = some (some (.o k))) (e2 : S.os[k]? = some (some d)) (h : Φ d ⟨S.os.set k none, S.ρ.set i (some (.v d))⟩) : wVar i S Φ := by
  unfold wVar; rw [e]
  show (match S.os[k]? with | some (some d) => Φ d ⟨S.os.set k none, S.ρ.set i (some (.v d))⟩ | _ => False)
  rw [e2]; exact h
theorem i_c (h : Φ d S) : wC d S Φ := h
theorem i_op {f : F2} (h : wa S fun x S1 => wb S1 fun y S2 => f x y S2 Φ) : wOp f wa wb S Φ := h
theorem i_fI {C : Int → Int → Prop} {g : Int → Int → D} {x y : Int} (h1 : C x y) (h : Φ (g x y) S) : fI C g (.int x) (.int y) S Φ := ⟨h1, h⟩
theorem i_fI0 {g : Int → Int → D} {x y : Int} (h : Φ (g x y) S) : fI0 g (.int x) (.int y) S Φ := h
def kTest (Ψ : PhT) : PhE := fun d S1 => match d with
  | .bl k => Ψ k S1
  | _ => False
theorem i_test (h : w S (kTest Ψ)) : wTest w S Ψ := h
theorem i_kTest {b : Bool} (h : Ψ b S) : kTest Ψ (.bl b) S := h
def kAnd (wu : WT) (Ψ : PhT) : PhT := fun c S1 => match c with
  | true => wu S1 Ψ
  | false => Ψ false S1
def kOr (wu : WT) (Ψ : PhT) : PhT := fun c S1 => match c with
  | true => Ψ true S1
  | false => wu S1 Ψ
theorem i_and (h : wt S (kAnd wu Ψ)) : wAnd wt wu S Ψ := h
theorem i_or (h : wt S (kOr wu Ψ)) : wOr wt wu S Ψ := h
theorem i_kAndT {c : Bool} (e : c = true) (h : wu S Ψ) : kAnd wu Ψ c S := by rw [e]; exact h
theorem i_kAndF {c : Bool} (e : c = false) (h : Ψ false S) : kAnd wu Ψ c S := by rw [e]; exact h
theorem i_kOrT {c : Bool} (e : c = true) (h : Ψ true S) : kOr wu Ψ c S := by rw [e]; exact h
theorem i_kOrF {c : Bool} (e : c = false) (h : wu S Ψ) : kOr wu Ψ c S := by rw [e]; exact h
theorem i_not (h : wt S fun c S1 => Ψ (!c) S1) : wNot wt S Ψ := h
def kAndV (wb : WE) (Φ : PhE) : PhE := fun x S1 => match x with
  | .bl true => wb S1 Φ
  | .bl false => Φ (.bl false) S1
  | _ => False
def kOrV (wb : WE) (Φ : PhE) : PhE := fun x S1 => match x with
  | .bl true => Φ (.bl true) S1
  | .bl false => wb S1 Φ
  | _ => False
def kNotV (Φ : PhE) : PhE := fun x S1 => match x with
  | .bl c => Φ (.bl (!c)) S1
  | _ => False
theorem i_andV (h : wa S (kAndV wb Φ)) : wAndV wa wb S Φ := h
theorem i_orV (h : wa S (kOrV wb Φ)) : wOrV wa wb S Φ := h
theorem i_notV (h : wa S (kNotV Φ)) : wNotV wa S Φ := h
theorem i_kNotV {c : Bool} (h : Φ (.bl (!c)) S) : kNotV Φ (.bl c) S := h
theorem i_kAndVT {c : Bool} (e : c = true) (h : wb S Φ) : kAndV wb Φ (.bl c) S := by rw [e]; exact h
theorem i_kAndVF {c : Bool} (e : c = false) (h : Φ (.bl false) S) : kAndV wb Φ (.bl c) S := by rw [e]; exact h
theorem i_kOrVT {c : Bool} (e : c = true) (h : Φ (.bl true) S) : kOrV wb Φ (.bl c) S := by rw [e]; exact h
theorem i_kOrVF {c : Bool} (e : c = false) (h : wb S Φ) : kOrV wb Φ (.bl c) S := by rw [e]; exact h
def kIfE (wa wb : WE) (Φ : PhE) : PhT := fun c S1 => (c = true → wa S1 Φ) ∧ (c = false → wb S1 Φ)
theorem i_ifE (h : wt S (kIfE wa wb Φ)) : wIf wt wa wb S Φ := h
theorem i_kIfET {c : Bool} (e : c = true) (h : wa S Φ) : kIfE wa wb Φ c S := ⟨fun _ => h, fun z => absurd z (by rw [e]; decide)⟩
theorem i_kIfEF {c : Bool} (e : c = false) (h : wb S Φ) : kIfE wa wb Φ c S := ⟨fun z => absurd z (by rw [e]; decide), fun _ => h⟩
theorem i_kIfE {c : Bool} (h1 : c = true → wa S Φ) (h2 : c = false → wb S Φ) : kIfE wa wb Φ c S := ⟨h1, h2⟩
-- arguments
theorem i_nil (h : Ξ [] S) : wNil S Ξ := h
theorem i_cons (h : w S fun d S1 => wr S1 fun ds S2 => Ξ (.v d :: ds) S2) : wCons w wr S Ξ := h
theorem i_consO {k : Nat} (e : S.ρ[i]? = some (some (.o k))) (h : wr S fun ds S2 => Ξ (.o k :: ds) S2) : wConsO i wr S Ξ := by unfold wConsO; rw [e]; exact h
def kTup (Φ : PhE) : PhA := fun ds S1 => match argsD ds with
  | some xs => xs.length ≤ 16777216 ∧ Φ (.tup xs) S1
  | none => False
def kLst (Φ : PhE) : PhA := fun ds S1 => match argsD ds with
  | some xs => xs.length ≤ 16777216 ∧ Φ (.lst xs) S1
  | none => False
theorem i_tup (h : wr S (kTup Φ)) : wTup wr S Φ := h
theorem i_lst (h : wr S (kLst Φ)) : wLst wr S Φ := h
theorem i_kTup {ds : List Arg} {xs : List D} (e : argsD ds = some xs) (l : xs.length ≤ 16777216) (h : Φ (.tup xs) S) : kTup Φ ds S := by unfold kTup; rw [e]; exact ⟨l, h⟩
theorem i_kLst {ds : List Arg} {xs : List D} (e : argsD ds = some xs) (l : xs.length ≤ 16777216) (h : Φ (.lst xs) S) : kLst Φ ds S := by unfold kLst; rw [e]; exact ⟨l, h⟩
-- calls
def kCall (ct : Ct) (dd : List D) (Φ : PhE) : PhA := fun args S1 => (argsD args).isSome = true ∧ ct [] (args ++ dd.map Arg.v) fun d _ => Φ d S1
theorem i_call {ct : Ct} {dd : List D} (h : wr S (kCall ct dd Φ)) : wCall ct dd wr S Φ := h
theorem i_kCall {ct : Ct} {args : List Arg} (e : (argsD args).isSome = true) (h : ct [] args fun d _ => Φ d S) : kCall ct [] Φ args S := ⟨e, by rw [List.map_nil, List.append_nil]; exact h⟩
theorem i_kCallD {ct : Ct} {args : List Arg} {dd : List D} (e : (argsD args).isSome = true) (h : ct [] (args ++ dd.map Arg.v) fun d _ => Φ d S) : kCall ct dd Φ args S := ⟨e, h⟩
def kCallO (ct : Ct) (j : Nat) (Φ : PhE) : PhA := fun args S1 => ∃ d args', S1.os[j]? = some (some d) ∧ renum j args = some args' ∧ ct [d] (args' ++ ([] : List D).map Arg.v) fun r os' => ∃ d', os' = [d'] ∧ Φ r ⟨S1.os.set j (some d'), S1.ρ⟩
theorem i_callX {ct : Ct} (j : Nat) (h : wr S (kCallO ct j Φ)) : wCallX ct wr S Φ := ⟨j, h⟩
theorem i_kCallO {ct : Ct} {args args' : List Arg} (e1 : S.os[j]? = some (some d)) (e2 : renum j args = some args') (h : ct [d] args' fun r os' => ∃ d', os' = [d'] ∧ Φ r ⟨S.os.set j (some d'), S.ρ⟩) : kCallO ct j Φ args S := ⟨d, args', e1, e2, by rw [List.map_nil, List.append_nil]; exact h⟩
def kCB (f : List D → WE) (Φ : PhE) : PhA := fun args S1 => match argsD args with
  | some xs => f xs S1 Φ
  | none => False
theorem i_cb {f : List D → WE} (h : wr S (kCB f Φ)) : wCB f wr S Φ := h
theorem i_kCB {f : List D → WE} {args : List Arg} {xs : List D} (e : argsD args = some xs) (h : f xs S Φ) : kCB f Φ args S := by unfold kCB; rw [e]; exact h
theorem i_abs {x : Int} (h : Φ (.int (if x < 0 then -x else x)) S) : fAbs [.int x] S Φ := h
theorem i_absN {x : Int} (h : Φ (.int (x.natAbs : Nat)) S) : fAbs [.int x] S Φ := by
  show Φ (.int (if x < 0 then -x else x)) S
  have e : (if x < 0 then -x else x) = ((x.natAbs : Nat) : Int) := by split <;> omega
  rw [e]; exact h
theorem i_int {x : Int} (h : Φ (.int x) S) : fInt [.int x] S Φ := h
theorem i_intB {x : Bool} (h : Φ (.int (if x then 1 else 0)) S) : fInt [.bl x] S Φ := h
theorem i_ixT {ds : List D} {x : Int} (e : atI ds x = some d) (h : Φ d S) : fIx (.tup ds) (.int x) S Φ := ⟨d, e, h⟩
theorem i_ixL {ds : List D} {x : Int} (e : atI ds x = some d) (h : Φ d S) : fIx (.lst ds) (.int x) S Φ := ⟨d, e, h⟩
theorem i_lenL {ds : List D} (h : Φ (.int ds.length) S) : fLen [.lst ds] S Φ := h
theorem i_lenT {ds : List D} (h : Φ (.int ds.length) S) : fLen [.tup ds] S Φ := h
theorem i_lenD {ks : List Key} {ds : List D} (h : Φ (.int ds.length) S) : fLen [.dic ks ds] S Φ := h
theorem i_lenS {z : Str} (l : z.length ≤ 16777216) (h : Φ (.int z.length) S) : fLen [.str z] S Φ := ⟨l, h⟩
def kIsi (T : String) (Φ : PhE) : PhE := fun d S1 => ∃ b, d.isI T = some b ∧ Φ (.bl b) S1
theorem i_isi {T : String} (h : w S (kIsi T Φ)) : wIsi T w S Φ := h
theorem i_kIsi {T : String} {b : Bool} (e : d.isI T = some b) (h : Φ (.bl b) S) : kIsi T Φ d S := ⟨b, e, h⟩
theorem i_isN (h : w S fun d S1 => Φ (.bl d.isNon) S1) : wIsN false w S Φ := h
theorem i_notN (h : w S fun d S1 => Φ (.bl (!d.isNon)) S1) : wIsN true w S Φ := h
theorem i_eqI {x y : Int} (h : Φ (.bl (decide (x = y))) S) : fEq (.int x) (.int y) S Φ := by
  refine ⟨rfl, ?_⟩
  have e : decide (D.int x = D.int y) = decide (x = y) := by
    by_cases z : x = y
    · subst z; simp
    · rw [decide_eq_false z, decide_eq_false (fun q => z (by injection q))]
  rw [e]; exact h
theorem i_neI {x y : Int} (h : Φ (.bl (decide (x ≠ y))) S) : fNe (.int x) (.int y) S Φ := by
  refine ⟨rfl, ?_⟩
  have e : (!decide (D.int x = D.int y)) = decide (x ≠ y) := by
    by_cases z : x = y
    · subst z; simp
    · rw [decide_eq_true z, decide_eq_false (fun q => z (by injection q))]; rfl
  rw [e]; exact h
theorem i_eqS {x y : Str} (o1 : PyData.canLay0 (.str x) = true) (o2 : PyData.canLay0 (.str y) = true) (h : Φ (.bl (decide (x = y))) S) : fEq (.str x) (.str y) S Φ := by
  refine ⟨by show (okE 60 (.str x) && okE 60 (.str y)) = true; rw [Bool.and_eq_true]; exact ⟨o1, o2⟩, ?_⟩
  have e : decide (D.str x = D.str y) = decide (x = y) := by
    by_cases z : x = y
    · subst z; simp
    · rw [decide_eq_false z, decide_eq_false (fun q => z (by injection q))]
  rw [e]; exact h
theorem lay_s {x : Str} (h : PyData.strOk x = true) : PyData.canLay0 (.str x) = true := by simp [PyData.canLay0, h]
theorem okE2 {x y : D} (h1 : okE 60 x = true) (h2 : okE 60 y = true) : cmpOk x y = true := by
  unfold cmpOk
  split
  · rfl
  · rw [h1, h2]; rfl
theorem i_eq {x y : D} (h1 : okE 60 x = true) (h2 : okE 60 y = true) (h : Φ (.bl (decide (x = y))) S) : fEq x y S Φ := ⟨okE2 h1 h2, h⟩
theorem i_ne {x y : D} (h1 : okE 60 x = true) (h2 : okE 60 y = true) (h : Φ (.bl (!decide (x = y))) S) : fNe x y S Φ := ⟨okE2 h1 h2, h⟩
theorem i_eqQ {a b : Rat} (h : Φ (.bl (decide (a = b))) S) : fEq (qD a) (qD b) S Φ := by
  refine i_eq (okE_qD a (by decide)) (okE_qD b (by decide)) ?_
  have e : decide (qD a = qD b) = decide (a = b) := by
    by_cases z : a = b
    · subst z; simp
    · rw [decide_eq_false z, decide_eq_false (fun q => z (qD_inj q))]
  rw [e]; exact h
theorem i_neQ {a b : Rat} (h : Φ (.bl (decide (a ≠ b))) S) : fNe (qD a) (qD b) S Φ := by
  refine i_ne (okE_qD a (by decide)) (okE_qD b (by decide)) ?_
  have e : (!decide (qD a = qD b)) = decide (a ≠ b) := by
    by_cases z : a = b
    · subst z; simp
    · rw [decide_eq_true z, decide_eq_false (fun q => z (qD_inj q))]; rfl
  rw [e]; exact h
theorem qD_z (z : Int) : qD (z : Rat) = .int z := by rw [qD_int (Rat.den_intCast z), Rat.num_intCast]
theorem i_eqQi {a : Rat} {z : Int} (h : Φ (.bl (decide (a = (z : Rat)))) S) : fEq (qD a) (.int z) S Φ := by
  rw [← qD_z z]; exact i_eqQ h
theorem i_neQi {a : Rat} {z : Int} (h : Φ (.bl (decide (a ≠ (z : Rat)))) S) : fNe (qD a) (.int z) S Φ := by
  rw [← qD_z z]; exact i_neQ h
theorem i_dictD {ks : List Key} {ds : List D} (h : Φ (.dic ks ds) S) : fDictD [.dic ks ds] S Φ := h
theorem i_max2 {x y : Int} (h : Φ (.int (if y > x then y else x)) S) : fMax2 [.int x, .int y] S Φ := h
theorem i_min2 {x y : Int} (h : Φ (.int (if y < x then y else x)) S) : fMin2 [.int x, .int y] S Φ := h
-- own objects
theorem i_ixC {k : Nat} {ds : List D} {c : Int} (e : S.atO i = some (k, .lst ds)) (e2 : atI ds c = some d) (h : Φ d S) : wIxC i c S Φ := ⟨k, ds, d, e, e2, h⟩
theorem i_lenO {k : Nat} {ds : List D} (e : S.atO i = some (k, .lst ds)) (h : Φ (.int ds.length) S) : wLenO i S Φ := ⟨k, _, ds.length, e, rfl, trivial, h⟩
-- walks
def kFor (wg : WG) (wb : WS) (Kn : KN) : List D → Ab → Prop := fun items S1 => ∃ IV : Nat → Ab → Prop, IV 0 S1 ∧
  (∀ i d S', items[i]? = some d → IV i S' → wg d S' fun S2 => wb { nx := IV (i + 1), rt := Kn.rt, bk := Kn.nx, ct := IV (i + 1) } S2) ∧ ∀ S', IV items.length S' → Kn.nx S'
theorem i_for {wI : WI} {wb : WS} (h : wI S (kFor wg wb Kn)) : wFor wI wg wb Kn S := h
theorem i_kFor {wb : WS} {items : List D} (IV : Nat → Ab → Prop) (h0 : IV 0 S) (h1 : ∀ i d S', items[i]? = some d → IV i S' → wg d S' fun S2 => wb { nx := IV (i + 1), rt := Kn.rt, bk := Kn.nx, ct := IV (i + 1) } S2) (h2 : ∀ S', IV items.length S' → Kn.nx S') : kFor wg wb Kn items S := ⟨IV, h0, h1, h2⟩
def kWL (Ψ' : List D → Ab → Prop) : PhE := fun d S1 => match d with
  | .lst ds => Ψ' ds S1
  | _ => False
theorem i_wiL {Ψ' : List D → Ab → Prop} (h : w S (kWL Ψ')) : wiL w S Ψ' := h
theorem i_kWL {Ψ' : List D → Ab → Prop} {ds : List D} (h : Ψ' ds S) : kWL Ψ' (.lst ds) S := h
theorem i_wiDic {f : List Key → List D → List D} {Ψ' : List D → Ab → Prop} (h : w S (mDic f Ψ')) : wiDic f w S Ψ' := h
theorem i_mDic {f : List Key → List D → List D} {Ψ' : List D → Ab → Prop} {ks : List Key} {ds : List D} (h : Ψ' (f ks ds) S) : mDic f Ψ' (.dic ks ds) S := h
def kWS (Ψ' : List D → Ab → Prop) : PhE := fun d S1 => match d with
  | .str x => Ψ' (signsD x) S1
  | _ => False
theorem i_wiS {Ψ' : List D → Ab → Prop} (h : w S (kWS Ψ')) : wiS w S Ψ' := h
theorem i_kWS {Ψ' : List D → Ab → Prop} {x : Str} (h : Ψ' (signsD x) S) : kWS Ψ' (.str x) S := h
def kR1 (Ψ' : List D → Ab → Prop) : PhA := fun args S1 => match argsD args with
  | some [.int j] => (-(2 ^ 62) ≤ j ∧ j < 2 ^ 62) ∧ Ψ' (rgD 0 j.toNat) S1
  | _ => False
theorem i_wiR1 {Ψ' : List D → Ab → Prop} (h : wr S (kR1 Ψ')) : wiR1 wr S Ψ' := h
theorem i_kR1 {Ψ' : List D → Ab → Prop} {j : Int} (l : -(2 ^ 62) ≤ j ∧ j < 2 ^ 62) (h : Ψ' (rgD 0 j.toNat) S) : kR1 Ψ' [.v (.int j)] S := ⟨l, h⟩
def kEn (Ψ' : List D → Ab → Prop) : PhA := fun args S1 => match argsD args with
  | some [.lst ds] => Ψ' (enumD ds) S1
  | _ => False
theorem i_wiEnum {Ψ' : List D → Ab → Prop} (h : wr S (kEn Ψ')) : wiEnum wr S Ψ' := h
theorem i_kEn {Ψ' : List D → Ab → Prop} {ds : List D} (h : Ψ' (enumD ds) S) : kEn Ψ' [.v (.lst ds)] S := h
def kEnK (Ψ' : List D → Ab → Prop) : PhA := fun args S1 => match argsD args with
  | some [.dic ks _] => Ψ' (enumD (ks.map kD)) S1
  | _ => False
theorem i_wiEnumK {Ψ' : List D → Ab → Prop} (h : wr S (kEnK Ψ')) : wiEnumK wr S Ψ' := h
theorem i_kEnK {Ψ' : List D → Ab → Prop} {ks : List Key} {ds : List D} (h : Ψ' (enumD (ks.map kD)) S) : kEnK Ψ' [.v (.dic ks ds)] S := h
theorem i_while {wb : WS} (IV : Nat → Ab → Prop) (h0 : ∃ m, IV m S) (h1 : ∀ m S', IV m S' → wt S' fun c S1 =>
  (c = true → wb { nx := fun S2 => ∃ m', m' < m ∧ IV m' S2, rt := Kn.rt, bk := Kn.nx, ct := fun S2 => ∃ m', m' < m ∧ IV m' S2 } S1) ∧ (c = false → Kn.nx S1)) : wWhile wt wb Kn S := ⟨IV, h0, h1⟩
-- comprehensions
def kLc (vs : List Nat) (wg : WG) (wt : WT) (we : WE) (Φ : PhE) : List D → Ab → Prop := fun items S1 => ∃ IV : Nat → List (Option D) → List D → Prop, IV 0 S1.os [] ∧
  (∀ (i : Nat) (d : D) (os : List (Option D)) (acc : List D), items[i]? = some d → IV i os acc → acc.length < 16777216 ∧ wg d ⟨os, wipeA S1.ρ vs⟩ fun S2 => wt S2 fun b S3 =>
    (b = true → we S3 fun y S4 => IV (i + 1) S4.os (acc ++ [y])) ∧ (b = false → IV (i + 1) S3.os acc)) ∧ ∀ os acc, IV items.length os acc → Φ (.lst acc) ⟨os, S1.ρ⟩
theorem i_lc {vs : List Nat} {wI : WI} (h : wI S (kLc vs wg wt we Φ)) : wLc vs wI wg wt we S Φ := h
def IVm (os0 : List (Option D)) (items : List D) (f : D → D) (i : Nat) (os : List (Option D)) (acc : List D) : Prop := os = os0 ∧ acc = (items.take i).map f
theorem i_ivm {os0 os os' : List (Option D)} {items acc : List D} {f : D → D} {y : D} (hd : items[i]? = some d) (h : IVm os0 items f i os acc) (e : os' = os0) (ey : y = f d) : IVm os0 items f (i + 1) os' (acc ++ [y]) := by
  refine ⟨e, ?_⟩
  rw [h.2, ey, List.take_succ, hd]
  simp
/-- each item gives one value, nothing else changes -/
theorem i_kLcM {vs : List Nat} {items : List D} (f : D → D) (hl : items.length < 16777216) (h : ∀ (i : Nat) (d : D) (acc : List D), items[i]? = some d → IVm S.os items f i S.os acc → wg d ⟨S.os, wipeA S.ρ vs⟩ fun S2 => wt S2 fun b S3 =>
    (b = true → we S3 fun y S4 => IVm S.os items f (i + 1) S4.os (acc ++ [y])) ∧ (b = false → IVm S.os items f (i + 1) S3.os acc)) (k : Φ (.lst (items.map f)) S) : kLc vs wg wt we Φ items S := by
  refine ⟨IVm S.os items f, ⟨rfl, by simp⟩, fun i d os acc hd hi => ?_, fun os acc ⟨e1, e2⟩ => ?_⟩
  · obtain ⟨e1, e2⟩ := id hi
    subst e1
    have hi' : i < items.length := (List.getElem?_eq_some_iff.mp hd).1
    exact ⟨by rw [e2, List.length_map, List.length_take]; omega, h i d acc hd hi⟩
  · subst e1
    rw [e2, List.take_length]
    exact k
def IVf (os0 : List (Option D)) (items : List D) (f : D → Option D) (i : Nat) (os : List (Option D)) (acc : List D) : Prop := os = os0 ∧ acc = (items.take i).filterMap f
theorem i_ivfT {os0 os os' : List (Option D)} {items acc : List D} {f : D → Option D} {y : D} (hd : items[i]? = some d) (h : IVf os0 items f i os acc) (e : os' = os0) (ey : f d = some y) : IVf os0 items f (i + 1) os' (acc ++ [y]) := by
  refine ⟨e, ?_⟩
  rw [h.2, List.take_succ, hd]
  simp [ey]
theorem i_ivfF {os0 os os' : List (Option D)} {items acc : List D} {f : D → Option D} (hd : items[i]? = some d) (h : IVf os0 items f i os acc) (e : os' = os0) (ey : f d = none) : IVf os0 items f (i + 1) os' acc := by
  refine ⟨e, ?_⟩
  rw [h.2, List.take_succ, hd]
  simp [ey]
theorem i_kLcF {vs : List Nat} {items : List D} (f : D → Option D) (hl : items.length < 16777216) (h : ∀ (i : Nat) (d : D) (acc : List D), items[i]? = some d → IVf S.os items f i S.os acc → wg d ⟨S.os, wipeA S.ρ vs⟩ fun S2 => wt S2 fun b S3 =>
    (b = true → we S3 fun y S4 => IVf S.os items f (i + 1) S4.os (acc ++ [y])) ∧ (b = false → IVf S.os items f (i + 1) S3.os acc)) (k : Φ (.lst (items.filterMap f)) S) : kLc vs wg wt we Φ items S := by
  refine ⟨IVf S.os items f, ⟨rfl, by simp⟩, fun i d os acc hd hi => ?_, fun os acc ⟨e1, e2⟩ => ?_⟩
  · obtain ⟨e1, e2⟩ := id hi
    subst e1
    have hi' : i < items.length := (List.getElem?_eq_some_iff.mp hd).1
    refine ⟨?_, h i d acc hd hi⟩
    rw [e2]
    exact Nat.lt_of_le_of_lt (List.length_filterMap_le _ _) (by rw [List.length_take]; omega)
  · subst e1
    rw [e2, List.take_length]
    exact k
theorem i_bt {A B : Prop} {b : Bool} (e : b = true) (h : A) : (b = true → A) ∧ (b = false → B) := ⟨fun _ => h, fun z => absurd z (by rw [e]; decide)⟩
theorem i_bf {A B : Prop} {b : Bool} (e : b = false) (h : B) : (b = true → A) ∧ (b = false → B) := ⟨fun z => absurd z (by rw [e]; decide), fun _ => h⟩
theorem i_tf {A B : Prop} (h : A) : (true = true → A) ∧ (true = false → B) := ⟨fun _ => h, fun z => absurd z (by decide)⟩
theorem i_ff {A B : Prop} (h : B) : (false = true → A) ∧ (false = false → B) := ⟨fun z => absurd z (by decide), fun _ => h⟩
def kDc (vs : List Nat) (wg : WG) (wt : WT) (wk wv : WE) (Φ : PhE) : List D → Ab → Prop := fun items S1 => ∃ IV : Nat → List (Option D) → List (Key × D) → Prop, IV 0 S1.os [] ∧
  (∀ (i : Nat) (d : D) (os : List (Option D)) (acc : List (Key × D)), items[i]? = some d → IV i os acc → acc.length < 16777216 ∧ wg d ⟨os, wipeA S1.ρ vs⟩ fun S2 => wt S2 fun b S3 =>
    (b = true → wk S3 fun y S4 => wv S4 fun z S5 => ∃ k, keyD y = some k ∧ IV (i + 1) S5.os (dput acc k z)) ∧ (b = false → IV (i + 1) S3.os acc)) ∧ ∀ os acc, IV items.length os acc → Φ (dk acc) ⟨os, S1.ρ⟩
theorem i_dc {vs : List Nat} {wI : WI} {wk wv : WE} (h : wI S (kDc vs wg wt wk wv Φ)) : wDc vs wI wg wt wk wv S Φ := h
def IVd (os0 : List (Option D)) (items : List D) (f : D → Key × D) (i : Nat) (os : List (Option D)) (acc : List (Key × D)) : Prop := os = os0 ∧ acc = (items.take i).map f
theorem dput_new {acc : List (Key × D)} {k : Key} {z : D} (h : ∀ p ∈ acc, p.1 ≠ k) : dput acc k z = acc ++ [(k, z)] := by
  unfold dput
  rw [if_neg]
  intro w
  obtain ⟨p, hp, e⟩ := List.any_eq_true.mp w
  exact h p hp (of_decide_eq_true e)
theorem i_ivd {os0 os os' : List (Option D)} {items : List D} {acc : List (Key × D)} {f : D → Key × D} {y z : D} (nd : (items.map fun d => (f d).1).Nodup) (hd : items[i]? = some d) (h : IVd os0 items f i os acc) (e : os' = os0) (ek : keyD y = some (f d).1) (ez : z = (f d).2) :
    ∃ k, keyD y = some k ∧ IVd os0 items f (i + 1) os' (dput acc k z) := by
  refine ⟨_, ek, e, ?_⟩
  have hn : ∀ p ∈ acc, p.1 ≠ (f d).1 := by
    intro p hp w
    rw [h.2] at hp
    obtain ⟨d2, h2, e2⟩ := List.mem_map.mp hp
    obtain ⟨j, hj⟩ := List.mem_iff_getElem?.mp h2
    rw [List.getElem?_take] at hj
    split at hj
    · rename_i hji
      have l1 := (List.getElem?_eq_some_iff.mp hj)
      have l2 := (List.getElem?_eq_some_iff.mp hd)
      obtain ⟨l1, q1⟩ := l1
      obtain ⟨l2, q2⟩ := l2
      have n2 := (List.pairwise_iff_getElem.mp nd) j i (by rw [List.length_map]; exact l1) (by rw [List.length_map]; exact l2) hji
      rw [List.getElem_map, List.getElem_map, q1, q2] at n2
      apply n2
      rw [e2, w]
    · cases hj
  rw [dput_new hn, h.2, ez, List.take_succ, hd]
  simp
theorem i_kDcM {vs : List Nat} {items : List D} {wk wv : WE} (f : D → Key × D) (hl : items.length < 16777216) (h : ∀ (i : Nat) (d : D) (acc : List (Key × D)), items[i]? = some d → IVd S.os items f i S.os acc → wg d ⟨S.os, wipeA S.ρ vs⟩ fun S2 => wt S2 fun b S3 =>
    (b = true → wk S3 fun y S4 => wv S4 fun z S5 => ∃ k, keyD y = some k ∧ IVd S.os items f (i + 1) S5.os (dput acc k z)) ∧ (b = false → IVd S.os items f (i + 1) S3.os acc)) (k : Φ (dk (items.map f)) S) : kDc vs wg wt wk wv Φ items S := by
  refine ⟨IVd S.os items f, ⟨rfl, by simp⟩, fun i d os acc hd hi => ?_, fun os acc ⟨e1, e2⟩ => ?_⟩
  · obtain ⟨e1, e2⟩ := id hi
    subst e1
    have hi' : i < items.length := (List.getElem?_eq_some_iff.mp hd).1
    exact ⟨by rw [e2, List.length_map, List.length_take]; omega, h i d acc hd hi⟩
  · subst e1
    rw [e2, List.take_length]
    exact k
theorem i_yes (h : Ψ true S) : wYes S Ψ := h
-- slices, sums of lists
def kSl (wl wh : WO) (Φ : PhE) : PhE := fun d S1 => wl S1 fun lo S2 => wh S2 fun hi S3 => match d with
  | .lst ds => Φ (.lst (cutD ds lo hi)) S3
  | _ => False
theorem i_sl {wl wh : WO} (h : w S (kSl wl wh Φ)) : wSlL w wl wh S Φ := h
theorem i_kSl {wl wh : WO} {ds : List D} (h : wl S fun lo S2 => wh S2 fun hi S3 => Φ (.lst (cutD ds lo hi)) S3) : kSl wl wh Φ (.lst ds) S := h
theorem i_oN {Θ : Option Int → Ab → Prop} (h : Θ none S) : woN S Θ := h
def kO (Θ : Option Int → Ab → Prop) : PhE := fun d S1 => match d with
  | .int i => Θ (some i) S1
  | _ => False
theorem i_oS {Θ : Option Int → Ab → Prop} (h : w S (kO Θ)) : woS w S Θ := h
theorem i_kO {Θ : Option Int → Ab → Prop} {x : Int} (h : Θ (some x) S) : kO Θ (.int x) S := h
theorem i_cat {xs ys : List D} (l : xs.length + ys.length ≤ 16777216) (h : Φ (.lst (xs ++ ys)) S) : fCat (.lst xs) (.lst ys) S Φ := ⟨l, h⟩
theorem i_catS {x y : Str} (l : x.length + y.length ≤ 16777216) (h : Φ (.str (x ++ y)) S) : fCatS (.str x) (.str y) S Φ := ⟨l, h⟩
def kRep : D → PhE → PhE := fun x Φ y S2 => match x, y with
  | .lst ds, .int k => (-(2 ^ 63) ≤ k ∧ k < 2 ^ 63 ∧ ds.length * k.toNat ≤ 16777216) ∧ Φ (.lst (List.replicate k.toNat ds).flatten) S2
  | _, _ => False
theorem i_rep (h : wa S fun x S1 => wb S1 (kRep x Φ)) : wRep wa wb S Φ := h
theorem i_kRep {ds : List D} {k : Int} (l : -(2 ^ 63) ≤ k ∧ k < 2 ^ 63 ∧ ds.length * k.toNat ≤ 16777216) (h : Φ (.lst (List.replicate k.toNat ds).flatten) S) : kRep (.lst ds) Φ (.int k) S := ⟨l, h⟩
-- own lists
def kApp (i k : Nat) (Φ : PhE) : PhE := fun d S1 => ∃ ds1, S1.atO i = some (k, .lst ds1) ∧ ds1.length < 16777216 ∧ Φ .non (S1.put k (.lst (ds1 ++ [d])))
theorem i_app {k : Nat} {ds : List D} (e : S.atO i = some (k, .lst ds)) (h : w S (kApp i k Φ)) : wApp i w S Φ := ⟨k, ds, e, h⟩
theorem i_kApp {k : Nat} {ds : List D} (e : S.atO i = some (k, .lst ds)) (l : ds.length < 16777216) (h : Φ .non (S.put k (.lst (ds ++ [d])))) : kApp i k Φ d S := ⟨ds, e, l, h⟩
-- chains, signs
def kCh (f' : F2) (wc : WE) (y : D) (Φ : PhE) : PhE := fun z S3 => match z with
  | .bl true => wc S3 fun u S4 => f' y u S4 Φ
  | .bl false => Φ (.bl false) S3
  | _ => False
theorem i_chain {f f' : F2} (h : wa S fun x S1 => wb S1 fun y S2 => f x y S2 (kCh f' wc y Φ)) : wChain f f' wa wb wc S Φ := h
theorem i_kChT {f' : F2} {y : D} {c : Bool} (e : c = true) (h : wc S fun u S4 => f' y u S4 Φ) : kCh f' wc y Φ (.bl c) S := by rw [e]; exact h
theorem i_sign {c : Nat} {z : Str} (h : Φ (.bl (decide (c ∈ z.cps.toList))) S) : fSign (.str ⟨#[c]⟩) (.str z) S Φ := ⟨c, rfl, h⟩
theorem i_notIn {x : Str} {ds : List D} {is : List Str} (e : strsD ds = some is) (h : Φ (.bl (!decide (x ∈ is))) S) : fInT true (.str x) (.tup ds) S Φ := ⟨is, e, h⟩
theorem i_dget {kvs : List (Key × D)} {y : D} {k : Key} (e : keyD y = some k) (e2 : dget kvs k = some d) (h : Φ d S) : fDg (dk kvs) y S Φ := ⟨kvs, k, d, rfl, e, e2, h⟩
theorem i_all {ds : List D} {bs : List Bool} (e : blsD ds = some bs) (h : Φ (.bl (bs.all id)) S) : fAllL [.lst ds] S Φ := ⟨bs, e, h⟩
theorem i_dic0 (h : Φ (.dic [] []) S) : wDic0 S Φ := h
def kIxV (i : Nat) (S : Ab) (Φ : PhE) : PhE := fun c S1 => ∃ k ds d j, S1.atO i = some (k, .lst ds) ∧ c = .int j ∧ atI ds j = some d ∧ ((∀ (k : Nat) (e : D), S.atO i = some (k, e) → ∃ e1, S1.atO i = some (k, e1)) ∧ Φ d S1)
theorem i_ixV {k0 : Nat} {d0 : D} (e : S.atO i = some (k0, d0)) (h : wb S (kIxV i S Φ)) : wIxV i wb S Φ := ⟨⟨k0, d0, e⟩, h⟩
theorem i_kIxV {S1 : Ab} {k : Nat} {x : Int} {d0 : D} {ds : List D} (e0 : S.atO i = some (k, d0)) (e1 : S1.atO i = some (k, .lst ds)) (e2 : atI ds x = some d) (h : Φ d S1) : kIxV i S Φ (.int x) S1 :=
  ⟨k, ds, d, x, e1, rfl, e2, fun k' e he => ⟨_, by rw [e0] at he; cases he; exact e1⟩, h⟩
def kDput1 (i : Nat) (wk : WE) (Kn : KN) : PhE := fun d S1 => (∃ k e, S1.atO i = some (k, e)) ∧ wk S1 fun y S2 => ∃ k kvs key, (∀ (k1 : Nat) (e : D), S1.atO i = some (k1, e) → k1 = k) ∧ S2.atO i = some (k, dk kvs) ∧ keyD y = some key ∧ kvs.length < 16777216 ∧ Kn.nx (S2.put k (dk (dput kvs key d)))
def kDput2 (i : Nat) (d : D) (S1 : Ab) (Kn : KN) : PhE := fun y S2 => ∃ k kvs key, (∀ (k1 : Nat) (e : D), S1.atO i = some (k1, e) → k1 = k) ∧ S2.atO i = some (k, dk kvs) ∧ keyD y = some key ∧ kvs.length < 16777216 ∧ Kn.nx (S2.put k (dk (dput kvs key d)))
theorem i_dputO {wk : WE} (h : w S (kDput1 i wk Kn)) : wDputO i w wk Kn S := h
theorem i_kDput1 {wk : WE} {k : Nat} {e0 : D} (e : S.atO i = some (k, e0)) (h : wk S (kDput2 i d S Kn)) : kDput1 i wk Kn d S := ⟨⟨k, e0, e⟩, h⟩
theorem i_kDput2 {S1 : Ab} {k : Nat} {e0 y : D} {kvs : List (Key × D)} {key : Key} (e1 : S1.atO i = some (k, e0)) (e2 : S.atO i = some (k, dk kvs)) (ek : keyD y = some key) (l : kvs.length < 16777216) (h : Kn.nx (S.put k (dk (dput kvs key d)))) : kDput2 i d S1 Kn y S :=
  ⟨k, kvs, key, fun k1 e he => by rw [e1] at he; cases he; rfl, e2, ek, l, h⟩
def kPop (i : Nat) (S : Ab) (Φ : PhE) : PhE := fun c S1 => ∃ k ds j d, (∀ (k1 : Nat) (e : D), S.atO i = some (k1, e) → k1 = k) ∧ S1.atO i = some (k, .lst ds) ∧ c = .int (j : Nat) ∧ j < 2 ^ 62 ∧ ds[j]? = some d ∧ Φ d (S1.put k (.lst (ds.eraseIdx j)))
theorem i_pop {k : Nat} {ds : List D} (e : S.atO i = some (k, .lst ds)) (h : w S (kPop i S Φ)) : wPopO i w S Φ := ⟨⟨k, ds, e⟩, h⟩
theorem i_kPop {S1 : Ab} {k j : Nat} {e0 : D} {ds : List D} (e1 : S1.atO i = some (k, e0)) (e2 : S.atO i = some (k, .lst ds)) (l : j < 2 ^ 62) (ej : ds[j]? = some d) (h : Φ d (S.put k (.lst (ds.eraseIdx j)))) : kPop i S1 Φ (.int (j : Nat)) S :=
  ⟨k, ds, j, d, fun k1 e he => by rw [e1] at he; cases he; rfl, e2, rfl, l, ej, h⟩
def kNe (i : Nat) (S : Ab) (Φ : PhE) : PhE := fun y S1 => ∃ k ds, (∀ (k1 : Nat) (e : D), S.atO i = some (k1, e) → k1 = k) ∧ S1.atO i = some (k, .lst ds) ∧ okE 60 (.lst ds) = true ∧ okE 60 y = true ∧ Φ (.bl (!decide (D.lst ds = y))) S1
theorem i_neO {k : Nat} {ds : List D} (e : S.atO i = some (k, .lst ds)) (h : w S (kNe i S Φ)) : wNeO i w S Φ := ⟨⟨k, ds, e⟩, h⟩
theorem i_kNe0 {S1 : Ab} {k : Nat} {e0 : D} {ds : List D} (e1 : S1.atO i = some (k, e0)) (e2 : S.atO i = some (k, .lst ds)) (o : okE 60 (.lst ds) = true) (h : Φ (.bl (decide (ds ≠ []))) S) : kNe i S1 Φ (.lst []) S := by
  refine ⟨k, ds, fun k1 e he => by rw [e1] at he; cases he; rfl, e2, o, rfl, ?_⟩
  have e : (!decide (D.lst ds = D.lst [])) = decide (ds ≠ []) := by
    by_cases z : ds = []
    · subst z; simp
    · rw [decide_eq_false (fun q => z (by injection q)), decide_eq_true z]; rfl
  rw [e]; exact h
def kExt (i : Nat) (S : Ab) (Φ : PhE) : PhE := fun c S1 => ∃ k ds es, (∀ (k1 : Nat) (e : D), S.atO i = some (k1, e) → k1 = k) ∧ S1.atO i = some (k, .lst ds) ∧ c = .tup es ∧ ds.length + es.length ≤ 16777216 ∧ Φ .non (S1.put k (.lst (ds ++ es)))
theorem i_ext {k : Nat} {ds : List D} (e : S.atO i = some (k, .lst ds)) (h : w S (kExt i S Φ)) : wExtO i w S Φ := ⟨⟨k, ds, e⟩, h⟩
theorem i_kExt {S1 : Ab} {k : Nat} {e0 : D} {ds es : List D} (e1 : S1.atO i = some (k, e0)) (e2 : S.atO i = some (k, .lst ds)) (l : ds.length + es.length ≤ 16777216) (h : Φ .non (S.put k (.lst (ds ++ es)))) : kExt i S1 Φ (.tup es) S :=
  ⟨k, ds, es, fun k1 e he => by rw [e1] at he; cases he; rfl, e2, rfl, l, h⟩
def kLV (Φ : PhE) : PhE := fun d S1 => match d with
  | .dic ks ds => Φ (.lst ds) S1
  | _ => False
theorem i_lv (h : w S (kLV Φ)) : wListVals w S Φ := h
theorem i_kLV {ks : List Key} {ds : List D} (h : Φ (.lst ds) S) : kLV Φ (.dic ks ds) S := h
theorem i_listDK {ks : List Key} {ds : List D} (h : Φ (.lst (ks.map kD)) S) : fListDK [.dic ks ds] S Φ := h
theorem i_listL {ds : List D} (h : Φ (.lst ds) S) : fListOf [.lst ds] S Φ := h
theorem i_maxL {ds : List D} {is : List Int} (e : intsD ds = some is) (l : 0 < is.length) (h : ∀ m, m ∈ is → (∀ y, y ∈ is → y ≤ m) → Φ (.int m) S) : fMaxL [.lst ds] S Φ := ⟨is, e, l, h⟩
theorem i_maxT {ds : List D} {is : List Int} (e : intsD ds = some is) (l : 0 < is.length) (h : ∀ m, m ∈ is → (∀ y, y ∈ is → y ≤ m) → Φ (.int m) S) : fMaxT [.tup ds] S Φ := ⟨is, e, l, h⟩
theorem i_dictP {ds : List D} {kvs : List (Key × D)} (e : pairsD ds = some kvs) (h : Φ (dk (dmerge [] kvs)) S) : fDictP [.lst ds] S Φ := ⟨kvs, e, h⟩
theorem i_deq {neg : Bool} {ks ls : List (Key × D)} (o1 : okD ks = true) (o2 : okD ls = true) (h : Φ (.bl (if neg then !dEq ks ls else dEq ks ls)) S) : fDEq neg (dk ks) (dk ls) S Φ := ⟨ks, ls, rfl, rfl, o1, o2, h⟩
end
end S
set_option Elab.async false
set_option linter.all false
set_option maxRecDepth 100000
set_option autoImplicit false
/-! M: classes, issues, prices behind issues, as numbers -/
namespace S
open PySem L2
def sumL (qs : List Rat) : Rat := qs.foldl (· + ·) 0
theorem foldl_add (qs : List Rat) : ∀ a : Rat, qs.foldl (· + ·) a = a + sumL qs := by
  induction qs with
  | nil => intro a; exact (Rat.add_zero a).symm
  | cons q qs ih =>
    intro a
    unfold sumL
    rw [List.foldl_cons, List.foldl_cons, ih, ih (0 + q), Rat.zero_add, Rat.add_assoc]
theorem sumL_nil : sumL [] = 0 := rfl
theorem sumL_cons (q : Rat) (qs : List Rat) : sumL (q :: qs) = q + sumL qs := by
  show (q :: qs).foldl (· + ·) 0 = _
  rw [List.foldl_cons, foldl_add, Rat.zero_add]
theorem sumL_append (xs ys : List Rat) : sumL (xs ++ ys) = sumL xs + sumL ys := by
  induction xs with
  | nil => rw [List.nil_append, sumL_nil, Rat.zero_add]
  | cons x xs ih => rw [List.cons_append, sumL_cons, sumL_cons, ih, Rat.add_assoc]
theorem sumL_snoc (xs : List Rat) (q : Rat) : sumL (xs ++ [q]) = sumL xs + q := by rw [sumL_append, sumL_cons, sumL_nil, Rat.add_zero]
theorem add_pos {a b : Rat} (ha : 0 ≤ a) (hb : 0 < b) : 0 < a + b := by
  have h : a + 0 < a + b := Rat.add_lt_add_left.mpr hb
  rw [Rat.add_zero] at h
  exact Rat.not_le.mp fun z => absurd h (Rat.not_lt.mpr (Rat.le_trans z ha))
theorem sumL_nonneg {qs : List Rat} (h : ∀ q ∈ qs, 0 ≤ q) : 0 ≤ sumL qs := by
  induction qs with
  | nil => exact Rat.le_refl
  | cons q qs ih =>
    rw [sumL_cons]
    exact Rat.add_nonneg (h q List.mem_cons_self) (ih fun x hx => h x (List.mem_cons_of_mem _ hx))
theorem div_pos {a b : Rat} (ha : 0 < a) (hb : 0 < b) : 0 < a / b := by
  rw [Rat.div_def]
  exact Rat.mul_pos ha (Rat.inv_pos.mpr hb)
theorem B_sum {n : Nat} : ∀ {qs : List Rat}, (∀ q ∈ qs, B n q) → B (qs.length * (n + 1) + 1) (sumL qs)
  | [], _ => by rw [List.length_nil, Nat.zero_mul]; exact ⟨by decide, by decide⟩
  | q :: qs, h => by
    rw [sumL_cons]
    refine (B_add (h q List.mem_cons_self) (B_sum fun x hx => h x (List.mem_cons_of_mem _ hx))).mono ?_
    rw [List.length_cons, Nat.succ_mul]
    omega
/-- a class: its name, what was paid, its price at the beginning -/
structure Cl where
  nm : Str
  paid : Rat
  begun : Rat
def LET : List Nat := ("abcdefghijklmnopqrstuvwxyz" : Str).cps.toList
def nameOk (x : Str) : Bool := decide (1 ≤ x.length) && decide (x.length ≤ 8) && x.cps.toList.all (fun c => decide (c ∈ LET))
def clD (cs : List Cl) : D := dk (cs.map fun c => (Sum.inr c.nm, .tup [qD c.paid, qD c.begun]))
def isD (is : List (Rat × Rat)) : D := .lst (is.map fun p => .tup [qD p.1, qD p.2])
def prD (ns : List Str) (f : Str → Rat) : D := dk (ns.map fun n => (Sum.inr n, qD (f n)))
structure ClOk (n : Nat) (c : Cl) : Prop where
  nm : nameOk c.nm = true
  p0 : 0 < c.paid
  b0 : 0 < c.begun
  pB : B n c.paid
  bB : B n c.begun
structure CsOk (n : Nat) (cs : List Cl) : Prop where
  ne : 1 ≤ cs.length
  le : cs.length ≤ 3
  nd : (cs.map (·.nm)).Nodup
  ok : ∀ c ∈ cs, ClOk n c
structure IsOk (n : Nat) (is : List (Rat × Rat)) : Prop where
  le : is.length ≤ 100
  ok : ∀ p ∈ is, 0 < p.1 ∧ 0 < p.2 ∧ B n p.1 ∧ B n p.2
def begF (cs : List Cl) (x : Str) : Rat := match cs.find? (fun c => decide (c.nm = x)) with
  | some c => c.begun
  | none => 0
theorem begF_of {cs : List Cl} (nd : (cs.map (·.nm)).Nodup) {c : Cl} (h : c ∈ cs) : begF cs c.nm = c.begun := by
  have e : cs.find? (fun d => decide (d.nm = c.nm)) = some c := by
    induction cs with
    | nil => cases h
    | cons d ds ih =>
      rw [List.map_cons, List.nodup_cons] at nd
      rw [List.find?_cons]
      rcases List.mem_cons.mp h with z | z
      · rw [← z]; simp
      · have : d.nm ≠ c.nm := fun w => nd.1 (by rw [w]; exact List.mem_map_of_mem (f := (·.nm)) z)
        rw [decide_eq_false this]
        exact ih nd.2 z
  unfold begF
  rw [e]
def convB (kind : Str) : Bool := decide (kind = "converted")
def fullB (kind : Str) : Bool := decide (kind = "full")
def aheadQ (kind : Str) (cs : List Cl) (f : Str → Rat) (s : Rat) : Rat := s + sumL (cs.map fun c => c.paid / (if convB kind then f c.nm else c.begun))
def minQ (p c : Rat) : Rat := if c < p then c else p
def fallenQ (kind : Str) (p m c a : Rat) : Rat := if c < p ∧ fullB kind = false then (a * p + m) / (a + m / c) else minQ p c
def stepQ (kind : Str) (cs : List Cl) (st : (Str → Rat) × Rat) (i : Rat × Rat) : (Str → Rat) × Rat := (fun n => fallenQ kind (st.1 n) i.1 i.2 (aheadQ kind cs st.1 st.2), st.2 + i.1 / i.2)
def runQ (kind : Str) (cs : List Cl) (com : Rat) (is : List (Rat × Rat)) : (Str → Rat) × Rat := is.foldl (stepQ kind cs) (begF cs, com)
theorem fallen_pos {kind : Str} {p m c a : Rat} (hp : 0 < p) (hm : 0 < m) (hc : 0 < c) (ha : 0 < a) : 0 < fallenQ kind p m c a := by
  unfold fallenQ minQ
  split
  · exact div_pos (add_pos (Rat.le_of_lt (Rat.mul_pos ha hp)) hm) (add_pos (Rat.le_of_lt ha) (div_pos hm hc))
  · split <;> assumption
/-- what a step's start must be -/
structure StOk (n : Nat) (cs : List Cl) (st : (Str → Rat) × Rat) : Prop where
  s0 : 0 < st.2
  sB : B n st.2
  f0 : ∀ c ∈ cs, 0 < st.1 c.nm
  fB : ∀ c ∈ cs, B n (st.1 c.nm)
theorem ahead_pos {kind : Str} {n m : Nat} {cs : List Cl} {st : (Str → Rat) × Rat} (C : CsOk m cs) (h : StOk n cs st) : 0 < aheadQ kind cs st.1 st.2 := by
  unfold aheadQ
  rw [Rat.add_comm]
  refine add_pos (sumL_nonneg fun q hq => ?_) h.s0
  obtain ⟨c, hc, rfl⟩ := List.mem_map.mp hq
  refine Rat.le_of_lt (div_pos (C.ok c hc).p0 ?_)
  split
  · exact h.f0 c hc
  · exact (C.ok c hc).b0
theorem ahead_B {kind : Str} {n : Nat} {cs : List Cl} {st : (Str → Rat) × Rat} (C : CsOk n cs) (h : StOk n cs st) : B (7 * n + 5) (aheadQ kind cs st.1 st.2) := by
  unfold aheadQ
  have e : B (cs.length * (n + n + 1) + 1) (sumL (cs.map fun c => c.paid / (if convB kind then st.1 c.nm else c.begun))) := by
    have := B_sum (n := n + n) (qs := cs.map fun c => c.paid / (if convB kind then st.1 c.nm else c.begun)) fun q hq => by
      obtain ⟨c, hc, rfl⟩ := List.mem_map.mp hq
      refine B_div (C.ok c hc).pB ?_
      split
      · exact h.fB c hc
      · exact (C.ok c hc).bB
    rw [List.length_map] at this
    exact this
  refine (B_add h.sB e).mono ?_
  have hl := C.le
  have : cs.length * (n + n + 1) ≤ 3 * (n + n + 1) := Nat.mul_le_mul_right _ hl
  omega
theorem items_kv : ∀ kvs : List (Key × D), itemsD (kvs.map (·.1)) (kvs.map (·.2)) = kvs.map fun p => D.tup [kD p.1, p.2]
  | [] => rfl
  | p :: kvs => by
    have ih := items_kv kvs
    unfold itemsD at ih ⊢
    rw [List.map_cons, List.map_cons, List.zip_cons_cons, List.map_cons, List.map_cons, ih]
theorem items_cl (cs : List Cl) : itemsD ((cs.map fun c => ((Sum.inr c.nm : Key), D.tup [qD c.paid, qD c.begun])).map (·.1)) ((cs.map fun c => ((Sum.inr c.nm : Key), D.tup [qD c.paid, qD c.begun])).map (·.2)) = cs.map fun c => D.tup [.str c.nm, .tup [qD c.paid, qD c.begun]] := by
  rw [items_kv, List.map_map]
  rfl
theorem i_itemsCl {Ψ : List D → Ab → Prop} {cs : List Cl} {S : Ab} (h : Ψ (cs.map fun c => D.tup [.str c.nm, .tup [qD c.paid, qD c.begun]]) S) : mDic itemsD Ψ (clD cs) S := by
  show Ψ (itemsD _ _) S
  rw [items_cl]
  exact h
theorem i_keysCl {Ψ : List D → Ab → Prop} {cs : List Cl} {S : Ab} (h : Ψ (cs.map fun c => D.str c.nm) S) : mDic (fun ks _ => ks.map kD) Ψ (clD cs) S := by
  show Ψ (((cs.map fun c => ((Sum.inr c.nm : Key), D.tup [qD c.paid, qD c.begun])).map (·.1)).map kD) S
  rw [List.map_map, List.map_map]
  exact h
theorem i_valsCl {Ψ : List D → Ab → Prop} {cs : List Cl} {S : Ab} (h : Ψ (cs.map fun c => D.tup [qD c.paid, qD c.begun]) S) : mDic (fun _ ds => ds) Ψ (clD cs) S := by
  show Ψ ((cs.map fun c => ((Sum.inr c.nm : Key), D.tup [qD c.paid, qD c.begun])).map (·.2)) S
  rw [List.map_map]
  exact h
theorem i_itemsPr {Ψ : List D → Ab → Prop} {ns : List Str} {f : Str → Rat} {S : Ab} (h : Ψ (ns.map fun n => D.tup [.str n, qD (f n)]) S) : mDic itemsD Ψ (prD ns f) S := by
  show Ψ (itemsD ((ns.map fun n => ((Sum.inr n : Key), qD (f n))).map (·.1)) ((ns.map fun n => ((Sum.inr n : Key), qD (f n))).map (·.2))) S
  rw [items_kv, List.map_map]
  exact h
theorem dget_map {α : Type} {k : α → Str} {v : α → D} : ∀ {xs : List α}, (xs.map k).Nodup → ∀ {x : α}, x ∈ xs → dget (xs.map fun x => ((Sum.inr (k x) : Key), v x)) (Sum.inr (k x)) = some (v x)
  | [], _, _, h => by cases h
  | y :: ys, nd, x, h => by
    rw [List.map_cons, List.nodup_cons] at nd
    unfold dget
    rw [List.map_cons, List.find?_cons]
    rcases List.mem_cons.mp h with z | z
    · subst z; simp
    · have ne : (Sum.inr (k y) : Key) ≠ Sum.inr (k x) := fun w => nd.1 (by rw [Sum.inr.inj w]; exact List.mem_map_of_mem z)
      rw [decide_eq_false ne]
      exact dget_map nd.2 z
theorem dget_cl {cs : List Cl} (nd : (cs.map (·.nm)).Nodup) {c : Cl} (h : c ∈ cs) : dget (cs.map fun c => ((Sum.inr c.nm : Key), D.tup [qD c.paid, qD c.begun])) (Sum.inr c.nm) = some (.tup [qD c.paid, qD c.begun]) := dget_map (k := fun c : Cl => c.nm) (v := fun c => D.tup [qD c.paid, qD c.begun]) nd h
theorem dget_pr {ns : List Str} (nd : ns.Nodup) {f : Str → Rat} {n : Str} (h : n ∈ ns) : dget (ns.map fun n => ((Sum.inr n : Key), qD (f n))) (Sum.inr n) = some (qD (f n)) := dget_map (k := fun n : Str => n) (v := fun n => qD (f n)) (by simpa using nd) h
theorem i_dgetCl {Φ : PhE} {cs : List Cl} {c : Cl} {S : Ab} (nd : (cs.map (·.nm)).Nodup) (h : c ∈ cs) (k : Φ (.tup [qD c.paid, qD c.begun]) S) : fDg (clD cs) (.str c.nm) S Φ := ⟨_, _, _, rfl, rfl, dget_cl nd h, k⟩
theorem i_dgetPr {Φ : PhE} {ns : List Str} {f : Str → Rat} {n : Str} {S : Ab} (nd : ns.Nodup) (h : n ∈ ns) (k : Φ (qD (f n)) S) : fDg (prD ns f) (.str n) S Φ := ⟨_, _, _, rfl, rfl, dget_pr nd h, k⟩
theorem blsD_map {α : Type} (f : α → Bool) : ∀ xs : List α, blsD (xs.map fun x => D.bl (f x)) = some (xs.map f)
  | [] => rfl
  | x :: xs => by
    show (blsD (xs.map fun x => D.bl (f x))).map (f x :: ·) = _
    rw [blsD_map f xs]
    rfl
theorem find_nm {cs : List Cl} (nd : (cs.map (·.nm)).Nodup) {c : Cl} (h : c ∈ cs) : cs.find? (fun d => decide (d.nm = c.nm)) = some c := by
  induction cs with
  | nil => cases h
  | cons d ds ih =>
    rw [List.map_cons, List.nodup_cons] at nd
    rw [List.find?_cons]
    rcases List.mem_cons.mp h with z | z
    · rw [← z]; simp
    · have : d.nm ≠ c.nm := fun w => nd.1 (by rw [w]; exact List.mem_map_of_mem (f := (·.nm)) z)
      rw [decide_eq_false this]
      exact ih nd.2 z
/-- all that a row needs: n: the sizes of what is given, N: those on the way -/
structure RunOk (kind : Str) (cs : List Cl) (com : Rat) (is : List (Rat × Rat)) (n N : Nat) : Prop where
  hk : kind = "full" ∨ kind = "issued" ∨ kind = "converted"
  C : CsOk n cs
  I : IsOk n is
  c0 : 0 < com
  cB : B n com
  le : n ≤ N
  hN : N < 1140000
  st : ∀ j, j ≤ is.length → StOk N cs (runQ kind cs com (is.take j))
theorem CsOk.mono {n N : Nat} {cs : List Cl} (h : CsOk n cs) (l : n ≤ N) : CsOk N cs := ⟨h.ne, h.le, h.nd, fun c hc => let o := h.ok c hc; ⟨o.nm, o.p0, o.b0, o.pB.mono l, o.bB.mono l⟩⟩
theorem run_snoc {kind : Str} {cs : List Cl} {com : Rat} {is : List (Rat × Rat)} {j : Nat} {p : Rat × Rat} (h : is[j]? = some p) : runQ kind cs com (is.take (j + 1)) = stepQ kind cs (runQ kind cs com (is.take j)) p := by
  unfold runQ
  rw [List.take_succ, h, Option.toList_some, List.foldl_append]
  rfl
theorem nodup_inr {ns : List Str} (nd : ns.Nodup) : (ns.map fun x => (Sum.inr x : Key)).Nodup := List.Pairwise.map _ (fun a b h e => h (Sum.inr.inj e)) nd
def Fund (d : D) : Prop := ∃ a b : Int, d = .lst [.int a, .int b] ∧ 0 ≤ a ∧ 0 ≤ b ∧ b < 2 ^ 40
theorem natAbs_lt2 {i : Int} {n : Nat} (h0 : 0 ≤ i) (h : i < 2 ^ n) : i.natAbs < 2 ^ n := by
  have e : ((2 ^ n : Nat) : Int) = (2 : Int) ^ n := by rw [Int.natCast_pow]; rfl
  omega
theorem B_int {i : Int} {n : Nat} (hn : 1 ≤ n) (h0 : 0 ≤ i) (h : i < 2 ^ n) : B n (i : Rat) := by
  refine ⟨?_, ?_⟩
  · rw [Rat.num_intCast]; exact natAbs_lt2 h0 h
  · rw [Rat.den_intCast]; exact Nat.one_lt_two_pow (by omega)
theorem B_mkI {t : Int} {b : Nat} {n : Nat} (h0 : 0 < b) (h1 : 0 ≤ t) (h2 : t < 2 ^ n) (h3 : (b : Int) < 2 ^ n) : B n (mkRat t b) := by
  refine B_mk h0 (natAbs_lt2 h1 h2) ?_
  have e : ((2 ^ n : Nat) : Int) = (2 : Int) ^ n := by rw [Int.natCast_pow]; rfl
  omega
theorem mkRat_pos {t : Int} {b : Nat} (ht : 0 < t) (hb : 0 < b) : 0 < mkRat t b := by
  rw [Rat.mkRat_eq_div]
  exact div_pos (Rat.intCast_pos.mpr ht) (Rat.natCast_pos.mpr hb)
theorem atI_pos {α : Type} {xs : List α} {k : Int} (h0 : 0 ≤ k) (h : k < (xs.length : Int)) : atI xs k = xs[k.toNat]? := by
  unfold atI ixN
  rw [if_pos h0, if_pos h]
  rfl
def NML : List Str := ["b", "a", "abcdefgh", "aa", "abcdefga", "c", "d", "ef", "e", "ba", "x", "common"]
theorem nml_nodup : NML.Nodup := by decide +kernel
theorem nml_ok : (NML.all nameOk) = true := by decide +kernel
theorem nml_cut (r : Int) (h0 : 0 ≤ r) (h1 : r < 3) : cutD (NML.map D.str) none (some (1 + r)) = (NML.take (1 + r).toNat).map D.str := by
  have w : r = 0 ∨ r = 1 ∨ r = 2 := by omega
  rcases w with rfl | rfl | rfl <;> rfl
/-- what classes are drawn -/
structure Drawn (cs : List Cl) : Prop where
  C : CsOk 110 cs
  nm : cs.map (·.nm) = NML.take cs.length
  l3 : cs.length ≤ 3
theorem clD_snoc (cs : List Cl) (c : Cl) (h : c.nm ∉ cs.map (·.nm)) : dput (cs.map fun c => ((Sum.inr c.nm : Key), D.tup [qD c.paid, qD c.begun])) (Sum.inr c.nm) (.tup [qD c.paid, qD c.begun]) = (cs ++ [c]).map fun c => ((Sum.inr c.nm : Key), D.tup [qD c.paid, qD c.begun]) := by
  rw [dput_new, List.map_append]
  · rfl
  · intro p hp e
    obtain ⟨x, hx, rfl⟩ := List.mem_map.mp hp
    exact h (by rw [← Sum.inr.inj e]; exact List.mem_map_of_mem hx)
theorem get3 {a b c : D} {r : Int} (h0 : 0 ≤ r) (h1 : r < 3) : ∃ d, atI [a, b, c] r = some d ∧ (d = a ∨ d = b ∨ d = c) := by
  have w : r = 0 ∨ r = 1 ∨ r = 2 := by omega
  rcases w with rfl | rfl | rfl
  · exact ⟨a, rfl, .inl rfl⟩
  · exact ⟨b, rfl, .inr (.inl rfl)⟩
  · exact ⟨c, rfl, .inr (.inr rfl)⟩
/-- a number as drawn: above 0, not long -/
def Nm (n : Nat) (d : D) : Prop := ∃ q : Rat, d = qD q ∧ 0 < q ∧ B n q
theorem Nm.int {n : Nat} {z : Int} (hn : 1 ≤ n) (h0 : 0 < z) (h1 : z < 2 ^ n) : Nm n (.int z) := ⟨(z : Rat), (qD_z z).symm, Rat.intCast_pos.mpr h0, B_int hn (by omega) h1⟩
theorem Nm.mk {n : Nat} {t : Int} {b : Nat} (h0 : 0 < t) (h1 : t < 2 ^ n) (h2 : 0 < b) (h3 : (b : Int) < 2 ^ n) : Nm n (qD (mkRat t b)) := ⟨_, rfl, mkRat_pos h0 h2, B_mkI h2 (by omega) h1 h3⟩
theorem Nm.get3 {n : Nat} {a b c : D} {r : Int} (ha : Nm n a) (hb : Nm n b) (hc : Nm n c) (h0 : 0 ≤ r) (h1 : r < 3) : ∃ q : Rat, atI [a, b, c] r = some (qD q) ∧ 0 < q ∧ B n q := by
  obtain ⟨d, e, w⟩ := S.get3 (a := a) (b := b) (c := c) h0 h1
  rcases w with rfl | rfl | rfl
  · obtain ⟨q, rfl, q0, qB⟩ := ha; exact ⟨q, e, q0, qB⟩
  · obtain ⟨q, rfl, q0, qB⟩ := hb; exact ⟨q, e, q0, qB⟩
  · obtain ⟨q, rfl, q0, qB⟩ := hc; exact ⟨q, e, q0, qB⟩
theorem okE_isD (is : List (Rat × Rat)) : okE 60 (isD is) = true := by
  show okEs 59 (is.map fun p => D.tup [qD p.1, qD p.2]) = true
  induction is with
  | nil => rfl
  | cons p is ih =>
    rw [List.map_cons]
    show (okE 59 (D.tup [qD p.1, qD p.2]) && okEs 59 _) = true
    rw [ih, Bool.and_true]
    show (okE 58 (qD p.1) && (okE 58 (qD p.2) && okEs 58 [])) = true
    rw [okE_qD p.1 (by decide), okE_qD p.2 (by decide)]
    rfl
structure IsDr (n : Nat) (is : List (Rat × Rat)) : Prop where
  l3 : is.length ≤ 3
  ok : ∀ p ∈ is, 0 < p.1 ∧ 0 < p.2 ∧ B n p.1 ∧ B n p.2
def mxQ (q : Rat) : Int := if q.num ≤ (q.den : Int) then (q.den : Int) else q.num
def mxD : D → D
  | .int i => .int (if i ≤ 1 then 1 else i)
  | .tup [.int a, .int b] => .int (if a ≤ b then b else a)
  | _ => .non
theorem mxD_q (q : Rat) : mxD (qD q) = .int (mxQ q) := by
  by_cases h : q.den = 1
  · rw [qD_int h]
    show D.int _ = _
    unfold mxQ
    rw [h]
    rfl
  · rw [qD_tup h]
    rfl
theorem mx_eq {q : Rat} {m : Int} (h1 : m ∈ [q.num, (q.den : Int)]) (h2 : ∀ y, y ∈ [q.num, (q.den : Int)] → y ≤ m) : m = mxQ q := by
  have a := h2 q.num (by simp)
  have b := h2 (q.den : Int) (by simp)
  unfold mxQ
  simp only [List.mem_cons, List.not_mem_nil, or_false] at h1
  split <;> omega
theorem mx_B {q : Rat} {z : Int} {n : Nat} (h0 : 0 < q) (h : mxQ q ≤ z) (hz : z < 2 ^ n) : B n q := by
  have np := num_pos h0
  unfold mxQ at h
  have e : ((2 ^ n : Nat) : Int) = (2 : Int) ^ n := by rw [Int.natCast_pow]; rfl
  have hd := q.den_pos
  refine ⟨?_, ?_⟩ <;> split at h <;> omega
theorem intsD_map {α : Type} (f : α → Int) : ∀ xs : List α, intsD (xs.map fun x => D.int (f x)) = some (xs.map f)
  | [] => rfl
  | x :: xs => by
    show (intsD (xs.map fun x => D.int (f x))).map (f x :: ·) = _
    rw [intsD_map f xs]
    rfl
theorem erase_map {α β : Type} (f : α → β) : ∀ (xs : List α) (j : Nat), (xs.map f).eraseIdx j = (xs.eraseIdx j).map f
  | [], _ => rfl
  | x :: xs, 0 => rfl
  | x :: xs, j + 1 => by
    rw [List.map_cons, List.eraseIdx_cons_succ, List.eraseIdx_cons_succ, List.map_cons, erase_map f xs j]
theorem erase_perm {α : Type} : ∀ (xs : List α) (j : Nat) (h : j < xs.length), (xs[j] :: xs.eraseIdx j).Perm xs
  | [], _, h => absurd h (Nat.not_lt_zero _)
  | x :: xs, 0, _ => .refl _
  | x :: xs, j + 1, h => by
    have h' : j < xs.length := by simpa using h
    rw [List.eraseIdx_cons_succ, List.getElem_cons_succ]
    exact (List.Perm.swap _ _ _).trans ((erase_perm xs j h').cons x)
theorem i_lvCl {Φ : PhE} {cs : List Cl} {S : Ab} (h : Φ (.lst (cs.map fun c => D.tup [qD c.paid, qD c.begun])) S) : kLV Φ (clD cs) S := by
  show Φ (.lst ((cs.map fun c => ((Sum.inr c.nm : Key), D.tup [qD c.paid, qD c.begun])).map (·.2))) S
  rw [List.map_map]
  exact h
def flatP : List (Rat × Rat) → List Rat
  | [] => []
  | p :: ps => p.1 :: p.2 :: flatP ps
theorem flatP_length : ∀ ps, (flatP ps).length = 2 * ps.length
  | [] => rfl
  | p :: ps => by show (flatP ps).length + 1 + 1 = 2 * (ps.length + 1); rw [flatP_length ps]; omega
theorem flatP_snoc (p : Rat × Rat) : ∀ ps, flatP (ps ++ [p]) = flatP ps ++ [p.1, p.2]
  | [] => rfl
  | q :: ps => by
    rw [List.cons_append]
    show q.1 :: q.2 :: flatP (ps ++ [p]) = q.1 :: q.2 :: (flatP ps ++ [p.1, p.2])
    rw [flatP_snoc p ps]
theorem flatP_mem {p : Rat × Rat} : ∀ {ps}, p ∈ ps → p.1 ∈ flatP ps ∧ p.2 ∈ flatP ps
  | [], h => by cases h
  | q :: ps, h => by
    show p.1 ∈ q.1 :: q.2 :: flatP ps ∧ p.2 ∈ q.1 :: q.2 :: flatP ps
    rcases List.mem_cons.mp h with rfl | h
    · simp
    · obtain ⟨a, b⟩ := flatP_mem h
      simp [a, b]
theorem cut_none0 (xs : List D) : cutD xs none (some 0) = [] := by
  unfold cutD
  have e : HT.sIx xs.length xs.length (some 0) = 0 := by unfold HT.sIx; simp
  rw [e]
  simp
end S
set_option Elab.async false
set_option linter.all false
set_option maxRecDepth 100000
set_option autoImplicit false
/-! M: the laws of rows of issues, in plain numbers -/
namespace S
open PySem L2
/-! ### sizes along a row -/
def szS (n k : Nat) : Nat := n + k * (2 * n + 1)
def szF (conv : Bool) (n : Nat) : Nat → Nat
  | 0 => n
  | k + 1 => 2 * (szS n k + 3 * (n + (if conv then szF conv n k else n) + 1) + 2) + szF conv n k + 3 * n + 2
theorem szF_le {conv : Bool} {n k : Nat} : szF conv n k ≤ szF conv n (k + 1) := by
  show _ ≤ 2 * _ + szF conv n k + 3 * n + 2
  omega
theorem szF_mono {conv : Bool} {n : Nat} {j k : Nat} (h : j ≤ k) : szF conv n j ≤ szF conv n k := by
  induction h with
  | refl => exact Nat.le_refl _
  | step _ ih => exact Nat.le_trans ih szF_le
theorem szS_mono {n j k : Nat} (h : j ≤ k) : szS n j ≤ szS n k := by
  unfold szS
  have := Nat.mul_le_mul_right (2 * n + 1) h
  omega
theorem szF_n {conv : Bool} {n k : Nat} : n ≤ szF conv n k := szF_mono (Nat.zero_le k)
structure StB (kind : Str) (n k : Nat) (cs : List Cl) (st : (Str → Rat) × Rat) : Prop where
  s0 : 0 < st.2
  sB : B (szS n k) st.2
  f0 : ∀ c ∈ cs, 0 < st.1 c.nm
  fB : ∀ c ∈ cs, B (szF (convB kind) n k) (st.1 c.nm)
theorem min_B {n : Nat} {p c : Rat} (h1 : B n p) (h2 : B n c) : B n (minQ p c) := by
  unfold minQ; split <;> assumption
theorem step_B {kind : Str} {n k : Nat} {cs : List Cl} {st : (Str → Rat) × Rat} {p : Rat × Rat} (C : CsOk n cs) (h : StB kind n k cs st) (hp : 0 < p.1 ∧ 0 < p.2 ∧ B n p.1 ∧ B n p.2) : StB kind n (k + 1) cs (stepQ kind cs st p) := by
  obtain ⟨m0, c0, mB, cB⟩ := hp
  have aB : B (szS n k + 3 * (n + (if convB kind then szF (convB kind) n k else n) + 1) + 2) (aheadQ kind cs st.1 st.2) := by
    unfold aheadQ
    have e := B_sum (n := n + (if convB kind then szF (convB kind) n k else n)) (qs := cs.map fun c => c.paid / (if convB kind then st.1 c.nm else c.begun)) fun q hq => by
      obtain ⟨c, hc, rfl⟩ := List.mem_map.mp hq
      refine B_div (C.ok c hc).pB ?_
      split
      · rename_i hk; exact h.fB c hc
      · exact (C.ok c hc).bB
    rw [List.length_map] at e
    refine (B_add h.sB e).mono ?_
    have : cs.length * (n + (if convB kind then szF (convB kind) n k else n) + 1) ≤ 3 * (n + (if convB kind then szF (convB kind) n k else n) + 1) := Nat.mul_le_mul_right _ C.le
    omega
  have a0 : 0 < aheadQ kind cs st.1 st.2 := ahead_pos (n := max (szS n k) (szF (convB kind) n k)) C ⟨h.s0, h.sB.mono (Nat.le_max_left _ _), h.f0, fun c hc => (h.fB c hc).mono (Nat.le_max_right _ _)⟩
  refine ⟨?_, ?_, fun c hc => ?_, fun c hc => ?_⟩
  · exact add_pos (Rat.le_of_lt h.s0) (div_pos m0 c0)
  · refine (B_add h.sB (B_div mB cB)).mono ?_
    unfold szS
    have : (k + 1) * (2 * n + 1) = k * (2 * n + 1) + (2 * n + 1) := Nat.succ_mul _ _
    omega
  · exact fallen_pos (h.f0 c hc) m0 c0 a0
  · show B _ (fallenQ kind (st.1 c.nm) p.1 p.2 _)
    have hn : n ≤ szF (convB kind) n k := szF_n
    unfold fallenQ
    split
    · refine (B_div (B_add (B_mul aB (h.fB c hc)) mB) (B_add aB (B_div mB cB))).mono ?_
      show _ ≤ 2 * _ + szF (convB kind) n k + 3 * n + 2
      generalize szS n k + 3 * (n + (if convB kind then szF (convB kind) n k else n) + 1) + 2 = a
      omega
    · exact (min_B (h.fB c hc) (cB.mono hn)).mono szF_le
theorem run_B {kind : Str} {n : Nat} {cs : List Cl} {com : Rat} {is : List (Rat × Rat)} (C : CsOk n cs) (I : IsOk n is) (c0 : 0 < com) (cB : B n com) : ∀ j, j ≤ is.length → StB kind n j cs (runQ kind cs com (is.take j))
  | 0, _ => by
    rw [List.take_zero]
    refine ⟨c0, by unfold szS; rw [Nat.zero_mul]; exact cB, fun c hc => ?_, fun c hc => ?_⟩
    · show 0 < begF cs c.nm
      rw [begF_of C.nd hc]; exact (C.ok c hc).b0
    · show B n (begF cs c.nm)
      rw [begF_of C.nd hc]; exact (C.ok c hc).bB
  | j + 1, h => by
    have hj : j < is.length := h
    rw [run_snoc (List.getElem?_eq_getElem hj)]
    exact step_B C (run_B C I c0 cB j (by omega)) (I.ok _ (List.getElem_mem hj))
theorem run_ok {kind : Str} {n N : Nat} {cs : List Cl} {com : Rat} {is : List (Rat × Rat)} (hk : kind = "full" ∨ kind = "issued" ∨ kind = "converted") (C : CsOk n cs) (I : IsOk n is) (c0 : 0 < com) (cB : B n com)
    (hS : szS n is.length ≤ N) (hF : szF (convB kind) n is.length ≤ N) (hN : N < 1140000) : RunOk kind cs com is n N :=
  ⟨hk, C, I, c0, cB, Nat.le_trans (szF_n (conv := convB kind) (k := is.length)) hF, hN, fun j hj => by
    have h := run_B (kind := kind) C I c0 cB j hj
    exact ⟨h.s0, h.sB.mono (Nat.le_trans (szS_mono hj) hS), h.f0, fun c hc => (h.fB c hc).mono (Nat.le_trans (szF_mono hj) hF)⟩⟩
/-! ### all shares -/
def shQ (is : List (Rat × Rat)) : Rat := sumL (is.map fun p => p.1 / p.2)
theorem fold_s {kind : Str} {cs : List Cl} : ∀ (is : List (Rat × Rat)) (st : (Str → Rat) × Rat), (is.foldl (stepQ kind cs) st).2 = st.2 + shQ is
  | [], st => by unfold shQ; rw [List.map_nil, sumL_nil, Rat.add_zero]; rfl
  | p :: is, st => by
    rw [List.foldl_cons, fold_s is]
    unfold shQ
    rw [List.map_cons, sumL_cons]
    show st.2 + p.1 / p.2 + _ = _
    rw [Rat.add_assoc]
theorem run_s {kind : Str} {cs : List Cl} {com : Rat} {is : List (Rat × Rat)} : (runQ kind cs com is).2 = com + shQ is := fold_s is _
/-! ### the mean -/
def K0 (cs : List Cl) : Rat := sumL (cs.map fun c => c.paid / c.begun)
theorem mean_fold {cs : List Cl} {x : Str} {M : Rat} (K0p : 0 ≤ K0 cs) : ∀ (is : List (Rat × Rat)) (st : (Str → Rat) × Rat), 0 < st.2 → (∀ p ∈ is, 0 < p.1 ∧ 0 < p.2 ∧ p.2 < M) →
    (st.2 + K0 cs) * st.1 x + sumL (is.map (·.1)) = M * ((st.2 + K0 cs) + shQ is) → (is.foldl (stepQ "issued" cs) st).1 x = M
  | [], st, h0, _, h => by
    have a0 : 0 < st.2 + K0 cs := by rw [Rat.add_comm]; exact add_pos K0p h0
    unfold shQ at h
    rw [List.map_nil, List.map_nil, sumL_nil, Rat.add_zero, Rat.add_zero] at h
    show st.1 x = M
    generalize hA : st.2 + K0 cs = A at *
    generalize st.1 x = f at *
    have hA0 : A ≠ 0 := fun z => by rw [z] at a0; exact Rat.lt_irrefl a0
    have h2 : A * f = A * M := by rw [h, Rat.mul_comm]
    have h3 : f = A⁻¹ * (A * f) := by rw [← Rat.mul_assoc, Rat.inv_mul_cancel A hA0, Rat.one_mul]
    rw [h3, h2, ← Rat.mul_assoc, Rat.inv_mul_cancel A hA0, Rat.one_mul]
  | p :: is, st, h0, hp, h => by
    have a0 : 0 < st.2 + K0 cs := by rw [Rat.add_comm]; exact add_pos K0p h0
    obtain ⟨m0, c0, cM⟩ := hp p List.mem_cons_self
    have hahead : aheadQ "issued" cs st.1 st.2 = st.2 + K0 cs := rfl
    have hi : 0 < st.2 + p.1 / p.2 := add_pos (Rat.le_of_lt h0) (div_pos m0 c0)
    -- what is behind p counts at most the mean
    have rest : ∀ js : List (Rat × Rat), (∀ q ∈ js, 0 < q.1 ∧ 0 < q.2 ∧ q.2 < M) → sumL (js.map (·.1)) ≤ M * shQ js := by
      intro js
      induction js with
      | nil => intro _; unfold shQ; rw [List.map_nil, List.map_nil, sumL_nil, Rat.mul_zero]; exact Rat.le_refl
      | cons q js ih =>
        intro hq
        obtain ⟨q0, q1, q2⟩ := hq q List.mem_cons_self
        have := ih fun z hz => hq z (List.mem_cons_of_mem _ hz)
        unfold shQ at *
        rw [List.map_cons, List.map_cons, sumL_cons, sumL_cons, Rat.mul_add]
        have one : q.1 ≤ M * (q.1 / q.2) := by
          have e : q.2 * (q.1 / q.2) = q.1 := by rw [Rat.mul_comm, Rat.div_mul_cancel (fun z => by rw [z] at q1; exact Rat.lt_irrefl q1)]
          have l := Rat.mul_le_mul_of_nonneg_right (Rat.le_of_lt q2) (Rat.le_of_lt (div_pos q0 q1))
          rw [e] at l
          exact l
        exact Rat.le_trans (Rat.add_le_add_right.mpr one) (Rat.add_le_add_left.mpr this)
    have lt : p.2 < st.1 x := by
      have r := rest is fun q hq => hp q (List.mem_cons_of_mem _ hq)
      have e : p.2 * (p.1 / p.2) = p.1 := by rw [Rat.mul_comm, Rat.div_mul_cancel (fun z => by rw [z] at c0; exact Rat.lt_irrefl c0)]
      have l : p.1 < M * (p.1 / p.2) := by
        have := Rat.mul_lt_mul_of_pos_right cM (div_pos m0 c0)
        rw [e] at this
        exact this
      unfold shQ at h r
      rw [List.map_cons, List.map_cons, sumL_cons, sumL_cons] at h
      generalize st.2 + K0 cs = A at *
      generalize st.1 x = f at *
      generalize sumL (List.map (fun x => x.1) is) = s1 at *
      generalize sumL (List.map (fun p => p.1 / p.2) is) = s2 at *
      generalize p.1 / p.2 = u at *
      generalize p.1 = m at *
      generalize p.2 = c at *
      have h2 : A * M < A * f := by grind
      have h3 : M < f := Rat.lt_of_mul_lt_mul_left h2 (Rat.le_of_lt a0)
      grind
    rw [List.foldl_cons]
    refine mean_fold K0p is _ hi (fun q hq => hp q (List.mem_cons_of_mem _ hq)) ?_
    show (st.2 + p.1 / p.2 + K0 cs) * fallenQ "issued" (st.1 x) p.1 p.2 (aheadQ "issued" cs st.1 st.2) + _ = M * ((st.2 + p.1 / p.2 + K0 cs) + shQ is)
    rw [hahead]
    have ef : fallenQ "issued" (st.1 x) p.1 p.2 (st.2 + K0 cs) = ((st.2 + K0 cs) * st.1 x + p.1) / ((st.2 + K0 cs) + p.1 / p.2) := by
      unfold fallenQ
      rw [if_pos ⟨lt, rfl⟩]
    rw [ef]
    unfold shQ at h ⊢
    rw [List.map_cons, List.map_cons, sumL_cons, sumL_cons] at h
    have d0 : (st.2 + K0 cs) + p.1 / p.2 ≠ 0 := fun z => by
      have := add_pos (Rat.le_of_lt a0) (div_pos m0 c0)
      rw [z] at this; exact Rat.lt_irrefl this
    generalize hu : p.1 / p.2 = u at *
    generalize sumL (List.map (fun x => x.1) is) = s1 at *
    generalize sumL (List.map (fun p => p.1 / p.2) is) = s2 at *
    generalize st.1 x = f at *
    generalize K0 cs = k at *
    generalize st.2 = s at *
    have e1 : s + u + k = (s + k) + u := by grind
    rw [e1, Rat.mul_comm, Rat.div_mul_cancel d0]
    grind
end S
set_option Elab.async false
set_option linter.all false
set_option maxRecDepth 100000
set_option autoImplicit false
/-! M: the least price; rows in two parts; factors; other names; classes beside -/
namespace S
open PySem L2
theorem minQ_comm (p a b : Rat) : minQ (minQ p a) b = minQ (minQ p b) a := by
  unfold minQ
  by_cases h1 : a < p <;> by_cases h2 : b < p <;> simp only [h1, h2, if_true, if_false] <;> (repeat' split) <;> grind
def leastQ (p : Rat) (is : List (Rat × Rat)) : Rat := is.foldl (fun p i => minQ p i.2) p
theorem least_perm {p : Rat} {is js : List (Rat × Rat)} (h : is.Perm js) : leastQ p is = leastQ p js := by
  unfold leastQ
  induction h generalizing p with
  | nil => rfl
  | cons x _ ih => rw [List.foldl_cons, List.foldl_cons]; exact ih
  | swap x y l => rw [List.foldl_cons, List.foldl_cons, List.foldl_cons, List.foldl_cons, minQ_comm]
  | trans _ _ ih1 ih2 => rw [ih1, ih2]
theorem full_fold {cs : List Cl} {x : Str} : ∀ (is : List (Rat × Rat)) (st : (Str → Rat) × Rat), (is.foldl (stepQ "full" cs) st).1 x = leastQ (st.1 x) is
  | [], st => rfl
  | p :: is, st => by
    rw [List.foldl_cons, full_fold is]
    unfold leastQ
    rw [List.foldl_cons]
    show is.foldl _ (fallenQ "full" (st.1 x) p.1 p.2 _) = _
    have e : fallenQ "full" (st.1 x) p.1 p.2 (aheadQ "full" cs st.1 st.2) = minQ (st.1 x) p.2 := by
      unfold fallenQ
      rw [if_neg (fun z => by have := z.2; cases this)]
    rw [e]
/-- two runs that go alike on some names -/
theorem agree_fold {kind : Str} {cs cs' : List Cl} (hnm : cs'.map (·.nm) = cs.map (·.nm)) (ha : ∀ st st' : (Str → Rat) × Rat, st.2 = st'.2 → (∀ c ∈ cs, st.1 c.nm = st'.1 c.nm) → fullB kind = true ∨ aheadQ kind cs st.1 st.2 = aheadQ kind cs' st'.1 st'.2) :
    ∀ (is : List (Rat × Rat)) (st st' : (Str → Rat) × Rat), st.2 = st'.2 → (∀ c ∈ cs, st.1 c.nm = st'.1 c.nm) →
      (is.foldl (stepQ kind cs) st).2 = (is.foldl (stepQ kind cs') st').2 ∧ ∀ c ∈ cs, (is.foldl (stepQ kind cs) st).1 c.nm = (is.foldl (stepQ kind cs') st').1 c.nm
  | [], st, st', h1, h2 => ⟨h1, h2⟩
  | p :: is, st, st', h1, h2 => by
    rw [List.foldl_cons, List.foldl_cons]
    refine agree_fold hnm ha is _ _ ?_ fun c hc => ?_
    · show st.2 + _ = st'.2 + _
      rw [h1]
    · show fallenQ kind (st.1 c.nm) p.1 p.2 _ = fallenQ kind (st'.1 c.nm) p.1 p.2 _
      rw [h2 c hc]
      rcases ha st st' h1 h2 with z | z
      · unfold fallenQ
        rw [if_neg (fun w => by rw [z] at w; exact absurd w.2 (by decide)), if_neg (fun w => by rw [z] at w; exact absurd w.2 (by decide))]
      · rw [z]
/-- the same with factors -/
theorem scale_fold {kind : Str} {cs cs' : List Cl} {one two : Rat} (o0 : 0 < one) (t0 : 0 < two) (g : Rat × Rat → Rat × Rat) (hg : ∀ p, g p = (p.1 * (one * two), p.2 * one))
    (ha : ∀ st st' : (Str → Rat) × Rat, st'.2 = st.2 * two → (∀ c ∈ cs, st'.1 c.nm = st.1 c.nm * one) → aheadQ kind cs' st'.1 st'.2 = aheadQ kind cs st.1 st.2 * two) (apos : ∀ st : (Str → Rat) × Rat, 0 < st.2 → (∀ c ∈ cs, 0 < st.1 c.nm) → 0 < aheadQ kind cs st.1 st.2) :
    ∀ (is : List (Rat × Rat)) (st st' : (Str → Rat) × Rat), (∀ p ∈ is, 0 < p.1 ∧ 0 < p.2) → 0 < st.2 → (∀ c ∈ cs, 0 < st.1 c.nm) → st'.2 = st.2 * two → (∀ c ∈ cs, st'.1 c.nm = st.1 c.nm * one) →
      ((is.map g).foldl (stepQ kind cs') st').2 = (is.foldl (stepQ kind cs) st).2 * two ∧ ∀ c ∈ cs, ((is.map g).foldl (stepQ kind cs') st').1 c.nm = (is.foldl (stepQ kind cs) st).1 c.nm * one
  | [], st, st', _, _, _, h1, h2 => ⟨h1, h2⟩
  | p :: is, st, st', hp, s0, f0, h1, h2 => by
    obtain ⟨m0, c0⟩ := hp p List.mem_cons_self
    have a0 := apos st s0 f0
    have hA := ha st st' h1 h2
    rw [List.map_cons, List.foldl_cons, List.foldl_cons]
    have on : one ≠ 0 := fun z => by rw [z] at o0; exact Rat.lt_irrefl o0
    have cn : p.2 ≠ 0 := fun z => by rw [z] at c0; exact Rat.lt_irrefl c0
    have u2 : (g p).1 / (g p).2 = p.1 / p.2 * two := by
      rw [hg]
      show p.1 * (one * two) / (p.2 * one) = _
      rw [Rat.div_def, Rat.div_def, Rat.inv_mul_rev]
      have := Rat.mul_inv_cancel one on
      generalize one⁻¹ = oi at *
      generalize (p.2)⁻¹ = ci at *
      grind
    refine scale_fold o0 t0 g hg ha apos is _ _ (fun q hq => hp q (List.mem_cons_of_mem _ hq)) (add_pos (Rat.le_of_lt s0) (div_pos m0 c0)) (fun c hc => fallen_pos (f0 c hc) m0 c0 a0) ?_ fun c hc => ?_
    · show st'.2 + (g p).1 / (g p).2 = (st.2 + p.1 / p.2) * two
      rw [u2, h1, Rat.add_mul]
    · show fallenQ kind (st'.1 c.nm) (g p).1 (g p).2 (aheadQ kind cs' st'.1 st'.2) = fallenQ kind (st.1 c.nm) p.1 p.2 (aheadQ kind cs st.1 st.2) * one
      rw [hA, h2 c hc]
      have lt : (g p).2 < st.1 c.nm * one ↔ p.2 < st.1 c.nm := by rw [hg]; exact Rat.mul_lt_mul_right o0
      unfold fallenQ minQ
      rw [u2]
      by_cases z : p.2 < st.1 c.nm ∧ fullB kind = false
      · rw [if_pos z, if_pos ⟨lt.mpr z.1, z.2⟩]
        have d0 : aheadQ kind cs st.1 st.2 + p.1 / p.2 ≠ 0 := fun w => by
          have := add_pos (Rat.le_of_lt a0) (div_pos m0 c0)
          rw [w] at this; exact Rat.lt_irrefl this
        have t1 : two ≠ 0 := fun w => by rw [w] at t0; exact Rat.lt_irrefl t0
        have e1 : (g p).1 = p.1 * (one * two) := by rw [hg]
        rw [e1]
        generalize aheadQ kind cs st.1 st.2 = a at *
        generalize p.1 / p.2 = u at *
        generalize p.1 = m at *
        generalize st.1 c.nm = f at *
        rw [Rat.div_def, Rat.div_def, ← Rat.add_mul, Rat.inv_mul_rev]
        have := Rat.mul_inv_cancel two t1
        generalize (a + u)⁻¹ = di at *
        generalize two⁻¹ = ti at *
        grind
      · rw [if_neg z, if_neg (fun w => z ⟨lt.mp w.1, w.2⟩)]
        by_cases y : p.2 < st.1 c.nm
        · rw [if_pos y, if_pos (lt.mpr y), hg]
        · rw [if_neg y, if_neg (fun w => y (lt.mp w))]
theorem ahead_pos' {kind : Str} {cs : List Cl} (C : ∀ c ∈ cs, 0 < c.paid ∧ 0 < c.begun) {st : (Str → Rat) × Rat} (s0 : 0 < st.2) (f0 : ∀ c ∈ cs, 0 < st.1 c.nm) : 0 < aheadQ kind cs st.1 st.2 := by
  unfold aheadQ
  rw [Rat.add_comm]
  refine add_pos (sumL_nonneg fun q hq => ?_) s0
  obtain ⟨c, hc, rfl⟩ := List.mem_map.mp hq
  refine Rat.le_of_lt (div_pos (C c hc).1 ?_)
  split
  · exact f0 c hc
  · exact (C c hc).2
theorem sumL_mul (qs : List Rat) (t : Rat) : sumL (qs.map fun q => q * t) = sumL qs * t := by
  induction qs with
  | nil => rw [List.map_nil, sumL_nil, Rat.zero_mul]
  | cons q qs ih => rw [List.map_cons, sumL_cons, sumL_cons, ih, Rat.add_mul]
theorem sumL_perm {xs ys : List Rat} (h : xs.Perm ys) : sumL xs = sumL ys := by
  induction h with
  | nil => rfl
  | cons x _ ih => rw [sumL_cons, sumL_cons, ih]
  | swap x y l => rw [sumL_cons, sumL_cons, sumL_cons, sumL_cons, ← Rat.add_assoc, ← Rat.add_assoc, Rat.add_comm y x]
  | trans _ _ ih1 ih2 => rw [ih1, ih2]
/-! ### comprehensions over what a list of things gives -/
def IVx {α : Type} (os0 : List (Option D)) (xs : List α) (h : α → D) (i : Nat) (os : List (Option D)) (acc : List D) : Prop := os = os0 ∧ acc = (xs.take i).map h
theorem i_ivx {α : Type} {os0 os os' : List (Option D)} {xs : List α} {h : α → D} {i : Nat} {acc : List D} {x : α} {y : D} (hx : xs[i]? = some x) (H : IVx os0 xs h i os acc) (e : os' = os0) (ey : y = h x) : IVx os0 xs h (i + 1) os' (acc ++ [y]) := by
  refine ⟨e, ?_⟩
  rw [H.2, ey, List.take_succ, hx]
  simp
theorem i_kLcX {α : Type} {S : Ab} {Φ : PhE} {wg : WG} {wt : WT} {we : WE} {vs : List Nat} {xs : List α} {g : α → D} (h : α → D) (hl : xs.length < 16777216) (H : ∀ (i : Nat) (x : α) (acc : List D), xs[i]? = some x → IVx S.os xs h i S.os acc → wg (g x) ⟨S.os, wipeA S.ρ vs⟩ fun S2 => wt S2 fun b S3 =>
    (b = true → we S3 fun y S4 => IVx S.os xs h (i + 1) S4.os (acc ++ [y])) ∧ (b = false → IVx S.os xs h (i + 1) S3.os acc)) (k : Φ (.lst (xs.map h)) S) : kLc vs wg wt we Φ (xs.map g) S := by
  refine ⟨IVx S.os xs h, ⟨rfl, by simp⟩, fun i d os acc hd hi => ?_, fun os acc ⟨e1, e2⟩ => ?_⟩
  · obtain ⟨e1, e2⟩ := id hi
    subst e1
    rw [List.getElem?_map] at hd
    obtain ⟨x, hx, rfl⟩ := Option.map_eq_some_iff.mp hd
    have hi' : i < xs.length := (List.getElem?_eq_some_iff.mp hx).1
    exact ⟨by rw [e2, List.length_map, List.length_take]; omega, H i x acc hx hi⟩
  · subst e1
    rw [e2, List.length_map, List.take_length]
    exact k
def IVy {α : Type} (os0 : List (Option D)) (xs : List α) (h : α → Option D) (i : Nat) (os : List (Option D)) (acc : List D) : Prop := os = os0 ∧ acc = (xs.take i).filterMap h
theorem i_ivyT {α : Type} {os0 os os' : List (Option D)} {xs : List α} {h : α → Option D} {i : Nat} {acc : List D} {x : α} {y : D} (hx : xs[i]? = some x) (H : IVy os0 xs h i os acc) (e : os' = os0) (ey : h x = some y) : IVy os0 xs h (i + 1) os' (acc ++ [y]) := by
  refine ⟨e, ?_⟩
  rw [H.2, List.take_succ, hx]
  simp [ey]
theorem i_ivyF {α : Type} {os0 os os' : List (Option D)} {xs : List α} {h : α → Option D} {i : Nat} {acc : List D} {x : α} (hx : xs[i]? = some x) (H : IVy os0 xs h i os acc) (e : os' = os0) (ey : h x = none) : IVy os0 xs h (i + 1) os' acc := by
  refine ⟨e, ?_⟩
  rw [H.2, List.take_succ, hx]
  simp [ey]
theorem i_kLcY {α : Type} {S : Ab} {Φ : PhE} {wg : WG} {wt : WT} {we : WE} {vs : List Nat} {xs : List α} {g : α → D} (h : α → Option D) (hl : xs.length < 16777216) (H : ∀ (i : Nat) (x : α) (acc : List D), xs[i]? = some x → IVy S.os xs h i S.os acc → wg (g x) ⟨S.os, wipeA S.ρ vs⟩ fun S2 => wt S2 fun b S3 =>
    (b = true → we S3 fun y S4 => IVy S.os xs h (i + 1) S4.os (acc ++ [y])) ∧ (b = false → IVy S.os xs h (i + 1) S3.os acc)) (k : Φ (.lst (xs.filterMap h)) S) : kLc vs wg wt we Φ (xs.map g) S := by
  refine ⟨IVy S.os xs h, ⟨rfl, by simp⟩, fun i d os acc hd hi => ?_, fun os acc ⟨e1, e2⟩ => ?_⟩
  · obtain ⟨e1, e2⟩ := id hi
    subst e1
    rw [List.getElem?_map] at hd
    obtain ⟨x, hx, rfl⟩ := Option.map_eq_some_iff.mp hd
    have hi' : i < xs.length := (List.getElem?_eq_some_iff.mp hx).1
    refine ⟨?_, H i x acc hx hi⟩
    rw [e2]
    exact Nat.lt_of_le_of_lt (List.length_filterMap_le _ _) (by rw [List.length_take]; omega)
  · subst e1
    rw [e2, List.length_map, List.take_length]
    exact k
theorem okEs_qs (n : Nat) (h : 1 ≤ n) : ∀ qs : List Rat, okEs n (qs.map qD) = true
  | [] => rfl
  | q :: qs => by
    rw [List.map_cons]
    show (okE n (qD q) && okEs n (qs.map qD)) = true
    rw [okE_qD q h, okEs_qs n h qs]
    rfl
theorem okE_lst (qs : List Rat) : okE 60 (.lst (qs.map qD)) = true := okEs_qs 59 (by decide) qs
theorem filt_ge (M : Rat) (is : List (Rat × Rat)) : is.filterMap (fun p => if p.2 < M then none else some (qD p.2)) = ((is.filter fun p => decide (¬ p.2 < M)).map (·.2)).map qD := by
  induction is with
  | nil => rfl
  | cons p is ih =>
    by_cases z : p.2 < M
    · simp [z, ih]
    · simp [z, ih]
theorem least_B {n : Nat} : ∀ (is : List (Rat × Rat)) {p : Rat}, B n p → (∀ q ∈ is, B n q.2) → B n (leastQ p is)
  | [], _, h, _ => h
  | q :: is, _, h, k => least_B is (min_B h (k q List.mem_cons_self)) fun z hz => k z (List.mem_cons_of_mem _ hz)
theorem least_snoc {p : Rat} {is : List (Rat × Rat)} {j : Nat} {q : Rat × Rat} (h : is[j]? = some q) : leastQ p (is.take (j + 1)) = minQ (leastQ p (is.take j)) q.2 := by
  unfold leastQ
  rw [List.take_succ, h, Option.toList_some, List.foldl_append]
  rfl
theorem cut_take {xs : List D} {k : Nat} (h : k ≤ xs.length) : cutD xs none (some (k : Int)) = xs.take k := by
  unfold cutD
  have e : HT.sIx xs.length xs.length (some (k : Int)) = k := by rw [HT.sIx_nat]; omega
  have e0 : HT.sIx xs.length 0 none = 0 := rfl
  rw [e, e0]
  simp
theorem cut_drop {xs : List D} {k : Nat} (h : k ≤ xs.length) : cutD xs (some (k : Int)) none = xs.drop k := by
  unfold cutD
  have e : HT.sIx xs.length 0 (some (k : Int)) = k := by rw [HT.sIx_nat]; omega
  have e0 : HT.sIx xs.length xs.length none = xs.length := rfl
  rw [e, e0]
  rw [← List.length_drop, List.take_length]
theorem RunOk.take {kind : Str} {cs : List Cl} {com : Rat} {is : List (Rat × Rat)} {n N : Nat} (R : RunOk kind cs com is n N) (j : Nat) : RunOk kind cs com (is.take j) n N := by
  refine ⟨R.hk, R.C, ⟨?_, fun p hp => R.I.ok p (List.mem_of_mem_take hp)⟩, R.c0, R.cB, R.le, R.hN, fun i hi => ?_⟩
  · have := R.I.le; rw [List.length_take]; omega
  · rw [List.length_take] at hi
    rw [List.take_take]
    exact R.st _ (by omega)
theorem okD_pr (ns : List Str) (f : Str → Rat) : okD (ns.map fun n => ((Sum.inr n : Key), qD (f n))) = true := by
  unfold okD
  rw [List.map_map]
  have e : ns.map ((fun p : Key × D => p.2) ∘ fun n => ((Sum.inr n : Key), qD (f n))) = (ns.map f).map qD := by rw [List.map_map]; rfl
  rw [e]
  exact okEs_qs 40 (by decide) _
theorem find_pr {ns : List Str} {f : Str → Rat} {x : Str} (nd : ns.Nodup) (h : x ∈ ns) : (ns.map fun n => ((Sum.inr n : Key), qD (f n))).find? (fun q => decide (q.1 = Sum.inr x)) = some (Sum.inr x, qD (f x)) := by
  induction ns with
  | nil => cases h
  | cons n ns ih =>
    rw [List.nodup_cons] at nd
    rw [List.map_cons, List.find?_cons]
    rcases List.mem_cons.mp h with z | z
    · subst z; simp
    · have ne : (Sum.inr n : Key) ≠ Sum.inr x := fun w => nd.1 (by rw [Sum.inr.inj w]; exact z)
      rw [decide_eq_false ne]
      exact ih nd.2 z
theorem dEq_pr {ms ns : List Str} {f g : Str → Rat} (hp : ms.Perm ns) (nd : ns.Nodup) (h : ∀ x ∈ ns, f x = g x) : dEq (ms.map fun n => ((Sum.inr n : Key), qD (f n))) (ns.map fun n => ((Sum.inr n : Key), qD (g n))) = true := by
  unfold dEq
  rw [Bool.and_eq_true]
  refine ⟨by rw [List.length_map, List.length_map, hp.length_eq]; exact beq_self_eq_true _, List.all_eq_true.mpr fun p hpm => ?_⟩
  obtain ⟨x, hx, rfl⟩ := List.mem_map.mp hpm
  have hx2 := hp.mem_iff.mp hx
  show (match (ms.map fun n => ((Sum.inr n : Key), qD (f n))).find? (fun q => decide (q.1 = Sum.inr x)), (ns.map fun n => ((Sum.inr n : Key), qD (g n))).find? (fun q => decide (q.1 = Sum.inr x)) with
    | some x, some y => decide (x.2 = y.2)
    | _, _ => false) = true
  rw [find_pr (hp.symm.nodup nd) hx, find_pr nd hx2]
  show decide (qD (f x) = qD (g x)) = true
  rw [h x hx2]
  simp
end S
set_option Elab.async false
set_option linter.all false
set_option maxRecDepth 100000
set_option autoImplicit false
/-! M: the sizes that the law's rows reach -/
namespace S
open PySem L2
structure Plan (kind : Str) (cs : List Cl) (com : Rat) (js : List (Rat × Rat)) (n N : Nat) : Prop where
  n3 : n ≤ 300
  R : RunOk kind cs com js n N
  pass : ∀ j, j ≤ js.length → ∃ M, szS (szF (convB kind) n j + 133) (js.length - j) ≤ M ∧ szF (convB kind) (szF (convB kind) n j + 133) (js.length - j) ≤ M ∧ M < 1140000
  scal : ∃ M, szS (n + 16) js.length ≤ M ∧ szF (convB kind) (n + 16) js.length ≤ M ∧ M < 1140000
/-- one row's sizes, by its greatest length -/
theorem plan_of {kind : Str} {cs : List Cl} {com : Rat} {js : List (Rat × Rat)} {n L : Nat} (hk : kind = "full" ∨ kind = "issued" ∨ kind = "converted") (C : CsOk n cs) (I : IsOk n js) (c0 : 0 < com) (cB : B n com) (hn : n ≤ 300) (hL : js.length ≤ L)
    (h1 : szF (convB kind) n L ≤ 500000 ∧ szS n L ≤ 500000) (h2 : szF (convB kind) (n + 16) L ≤ 500000 ∧ szS (n + 16) L ≤ 500000)
    (h3 : ∀ j, j ≤ L → szF (convB kind) (szF (convB kind) n j + 133) (L - j) ≤ 1130000 ∧ szS (szF (convB kind) n j + 133) (L - j) ≤ 1130000) : Plan kind cs com js n 500000 := by
  refine ⟨hn, run_ok hk C I c0 cB (Nat.le_trans (szS_mono hL) h1.2) (Nat.le_trans (szF_mono hL) h1.1) (by decide), fun j hj => ?_, 500000, Nat.le_trans (szS_mono hL) h2.2, Nat.le_trans (szF_mono hL) h2.1, by decide⟩
  obtain ⟨a, b⟩ := h3 j (by omega)
  exact ⟨1130000, Nat.le_trans (szS_mono (by omega)) b, Nat.le_trans (szF_mono (by omega)) a, by decide⟩
theorem le4 {P : Nat → Prop} (h0 : P 0) (h1 : P 1) (h2 : P 2) (h3 : P 3) (h4 : P 4) : ∀ j, j ≤ 4 → P j
  | 0, _ => h0
  | 1, _ => h1
  | 2, _ => h2
  | 3, _ => h3
  | 4, _ => h4
  | j + 5, h => by omega
theorem le1 {P : Nat → Prop} (h0 : P 0) (h1 : P 1) : ∀ j, j ≤ 1 → P j
  | 0, _ => h0
  | 1, _ => h1
  | j + 2, h => by omega
theorem plan_flat {kind : Str} {cs : List Cl} {com : Rat} {js : List (Rat × Rat)} (hk : kind = "full" ∨ kind = "issued") (C : CsOk 300 cs) (I : IsOk 300 js) (c0 : 0 < com) (cB : B 300 com) (hL : js.length ≤ 4) : Plan kind cs com js 300 500000 := by
  have e : convB kind = false := by rcases hk with rfl | rfl <;> decide
  refine plan_of (L := 4) (hk.elim .inl fun z => .inr (.inl z)) C I c0 cB (by decide) hL ?_ ?_ ?_
  · rw [e]; decide
  · rw [e]; decide
  · rw [e]
    exact le4 (by decide) (by decide) (by decide) (by decide) (by decide)
theorem plan_one {cs : List Cl} {com : Rat} {js : List (Rat × Rat)} (C : CsOk 300 cs) (I : IsOk 300 js) (c0 : 0 < com) (cB : B 300 com) (hL : js.length ≤ 1) : Plan "converted" cs com js 300 500000 := by
  refine plan_of (L := 1) (.inr (.inr rfl)) C I c0 cB (by decide) hL ?_ ?_ ?_
  · decide
  · decide
  · exact le1 (by decide) (by decide)
theorem plan_short {cs : List Cl} {com : Rat} {js : List (Rat × Rat)} (C : CsOk 10 cs) (I : IsOk 10 js) (c0 : 0 < com) (cB : B 10 com) (hL : js.length ≤ 4) : Plan "converted" cs com js 10 500000 := by
  refine plan_of (L := 4) (.inr (.inr rfl)) C I c0 cB (by decide) hL ?_ ?_ ?_
  · decide
  · decide
  · exact le4 (by decide) (by decide) (by decide) (by decide) (by decide)
theorem i_kIfEV {Φ : PhE} {S : Ab} {i j : Nat} {a b : D} {c : Bool} (ea : S.ρ[i]? = some (some (.v a))) (eb : S.ρ[j]? = some (some (.v b))) (h : Φ (if c = true then a else b) S) : kIfE (wVar i) (wVar j) Φ c S := by
  refine ⟨fun z => i_var ea ?_, fun z => i_var eb ?_⟩
  · rw [if_pos z] at h; exact h
  · rw [if_neg (by rw [z]; decide)] at h; exact h
theorem i_enKCl {Ψ : List D → Ab → Prop} {cs : List Cl} {S : Ab} (h : Ψ (enumD (cs.map fun c => D.str c.nm)) S) : mDic (fun ks _ => enumD (ks.map kD)) Ψ (clD cs) S := by
  show Ψ (enumD (((cs.map fun c => ((Sum.inr c.nm : Key), D.tup [qD c.paid, qD c.begun])).map (·.1)).map kD)) S
  rw [List.map_map, List.map_map]
  exact h
end S
set_option Elab.async false
set_option linter.all false
set_option maxRecDepth 100000
set_option autoImplicit false
/-! M: other names, classes beside, comprehensions that draw -/
namespace S
open PySem L2 PyProof.Rows
theorem i_kLcG {S : Ab} {Φ : PhE} {wg : WG} {wt : WT} {we : WE} {vs : List Nat} {items : List D} (IV : Nat → List (Option D) → List D → Prop) (h0 : IV 0 S.os [])
    (h1 : ∀ (i : Nat) (d : D) (os : List (Option D)) (acc : List D), items[i]? = some d → IV i os acc → acc.length < 16777216 ∧ wg d ⟨os, wipeA S.ρ vs⟩ fun S2 => wt S2 fun b S3 =>
      (b = true → we S3 fun y S4 => IV (i + 1) S4.os (acc ++ [y])) ∧ (b = false → IV (i + 1) S3.os acc)) (h2 : ∀ os acc, IV items.length os acc → Φ (.lst acc) ⟨os, S.ρ⟩) : kLc vs wg wt we Φ items S := ⟨IV, h0, h1, h2⟩
/-- the same classes by other names -/
theorem rename_fold {kind : Str} (nn : Str → Str) {cs cs' : List Cl} (hcs : cs' = cs.map fun c => ⟨nn c.nm, c.paid, c.begun⟩) : ∀ (is : List (Rat × Rat)) (st st' : (Str → Rat) × Rat), st.2 = st'.2 → (∀ c ∈ cs, st.1 c.nm = st'.1 (nn c.nm)) →
    (is.foldl (stepQ kind cs) st).2 = (is.foldl (stepQ kind cs') st').2 ∧ ∀ c ∈ cs, (is.foldl (stepQ kind cs) st).1 c.nm = (is.foldl (stepQ kind cs') st').1 (nn c.nm)
  | [], st, st', h1, h2 => ⟨h1, h2⟩
  | p :: is, st, st', h1, h2 => by
    have ea : aheadQ kind cs st.1 st.2 = aheadQ kind cs' st'.1 st'.2 := by
      unfold aheadQ
      rw [h1, hcs, List.map_map]
      congr 2
      refine List.map_congr_left fun c hc => ?_
      show c.paid / (if convB kind then st.1 c.nm else c.begun) = c.paid / (if convB kind then st'.1 (nn c.nm) else c.begun)
      rw [h2 c hc]
    rw [List.foldl_cons, List.foldl_cons]
    refine rename_fold nn hcs is _ _ ?_ fun c hc => ?_
    · show st.2 + _ = st'.2 + _
      rw [h1]
    · show fallenQ kind (st.1 c.nm) p.1 p.2 _ = fallenQ kind (st'.1 (nn c.nm)) p.1 p.2 _
      rw [h2 c hc, ea]
/-- one class less, its shares among the common ones -/
theorem beside_fold {kind : Str} (hk : convB kind = false) {cb : Cl} {cs : List Cl} {k : Rat} (ek : k = cb.paid / cb.begun) : ∀ (is : List (Rat × Rat)) (st st' : (Str → Rat) × Rat), st'.2 = st.2 + k → (∀ c ∈ cs, st.1 c.nm = st'.1 c.nm) →
    ∀ c ∈ cs, (is.foldl (stepQ kind (cb :: cs)) st).1 c.nm = (is.foldl (stepQ kind cs) st').1 c.nm
  | [], st, st', h1, h2 => h2
  | p :: is, st, st', h1, h2 => by
    have ea : aheadQ kind (cb :: cs) st.1 st.2 = aheadQ kind cs st'.1 st'.2 := by
      unfold aheadQ
      rw [h1, hk, List.map_cons, sumL_cons, ek, ← Rat.add_assoc]
      rfl
    rw [List.foldl_cons, List.foldl_cons]
    refine beside_fold hk ek is _ _ ?_ fun c hc => ?_
    · show st'.2 + _ = st.2 + _ + k
      rw [h1, Rat.add_assoc, Rat.add_assoc, Rat.add_comm k]
    · show fallenQ kind (st.1 c.nm) p.1 p.2 _ = fallenQ kind (st'.1 c.nm) p.1 p.2 _
      rw [h2 c hc, ea]
/-- the new names, in their order -/
def QN : List Str := ["qa", "qb", "qc"]
theorem qn_nodup (k : Nat) : (QN.take k).Nodup := List.Nodup.sublist (List.take_sublist _ _) (by decide +kernel)
theorem qn_mem {x : Str} {k : Nat} (h : x ∈ QN.take k) : x = "qa" ∨ x = "qb" ∨ x = "qc" := by
  have := List.mem_of_mem_take h
  simpa [QN] using this
theorem qn_sorted {ns : List Str} {k : Nat} (h1 : 1 ≤ k) (h3 : k ≤ 3) (hp : ns.Perm (QN.take k)) (hs : sortedS ns = true) : ns = QN.take k := by
  have nd : ns.Nodup := hp.symm.nodup (qn_nodup k)
  have hl := hp.length_eq
  have hm : ∀ x ∈ ns, x = "qa" ∨ x = "qb" ∨ x = "qc" := fun x hx => qn_mem (hp.mem_iff.mp hx)
  have w : k = 1 ∨ k = 2 ∨ k = 3 := by omega
  rcases w with rfl | rfl | rfl
  · match ns, hl with
    | [x], _ =>
      have := hp.mem_iff.mp (List.mem_cons_self (a := x) (l := []))
      have e : x = "qa" := by simpa [QN] using this
      rw [e]; rfl
  · match ns, hl with
    | [x, y], _ =>
      have mx : x = "qa" ∨ x = "qb" := by
        have := hp.mem_iff.mp (show x ∈ [x, y] by simp)
        simpa [QN] using this
      have my : y = "qa" ∨ y = "qb" := by
        have := hp.mem_iff.mp (show y ∈ [x, y] by simp)
        simpa [QN] using this
      rcases mx with rfl | rfl <;> rcases my with rfl | rfl <;> first
        | rfl
        | exact absurd hs (by decide +kernel)
        | exact absurd nd (by decide +kernel)
  · match ns, hl with
    | [x, y, z], _ =>
      have mx := hm x (by simp)
      have my := hm y (by simp)
      have mz := hm z (by simp)
      rcases mx with rfl | rfl | rfl <;> rcases my with rfl | rfl | rfl <;> rcases mz with rfl | rfl | rfl <;> first
        | rfl
        | exact absurd hs (by decide +kernel)
        | exact absurd nd (by decide +kernel)
end S
set_option Elab.async false
set_option linter.all false
set_option maxRecDepth 100000
set_option autoImplicit false
/-! M: classes by other names, one class less: what the walk asks -/
namespace S
open PySem L2 PyProof.Rows
def nnQ (x : Str) : Str := if x = "b" then "qa" else if x = "a" then "qb" else "qc"
def rnm (c : Cl) : Cl := ⟨nnQ c.nm, c.paid, c.begun⟩
theorem enum_cl (cs : List Cl) : enumD (cs.map fun c => D.str c.nm) = cs.zipIdx.map fun p => D.tup [.int (p.2 : Nat), .str p.1.nm] := by
  unfold enumD
  rw [List.zipIdx_map, List.map_map]
  rfl
theorem rnm_nm {cs : List Cl} (h : cs.map (·.nm) = NML.take cs.length) (l3 : cs.length ≤ 3) : (cs.map rnm).map (·.nm) = QN.take cs.length := by
  have e : (cs.map rnm).map (·.nm) = (cs.map (·.nm)).map nnQ := by rw [List.map_map, List.map_map]; rfl
  rw [e, h]
  have w : cs.length = 0 ∨ cs.length = 1 ∨ cs.length = 2 ∨ cs.length = 3 := by omega
  rcases w with z | z | z | z <;> rw [z] <;> decide +kernel
theorem nm_at {cs : List Cl} (h : cs.map (·.nm) = NML.take cs.length) (l3 : cs.length ≤ 3) {i : Nat} {c : Cl} (hc : cs[i]? = some c) : NML[i]? = some c.nm ∧ i < 3 := by
  have hi : i < cs.length := (List.getElem?_eq_some_iff.mp hc).1
  have e := congrArg (fun l => l[i]?) h
  simp only [List.getElem?_map, hc, Option.map_some] at e
  rw [List.getElem?_take_of_lt hi] at e
  exact ⟨e.symm, by omega⟩
theorem rnm_ok {n : Nat} {cs : List Cl} (C : CsOk n cs) (h : cs.map (·.nm) = NML.take cs.length) (l3 : cs.length ≤ 3) : CsOk n (cs.map rnm) := by
  have hn := rnm_nm h l3
  refine ⟨by rw [List.length_map]; exact C.ne, by rw [List.length_map]; exact C.le, by rw [hn]; exact qn_nodup _, fun d hd => ?_⟩
  obtain ⟨c, hc, rfl⟩ := List.mem_map.mp hd
  have o := C.ok c hc
  have hm : nnQ c.nm ∈ QN.take cs.length := by
    rw [← hn]
    exact List.mem_map_of_mem (f := (·.nm)) hd
  refine ⟨?_, o.p0, o.b0, o.pB, o.bB⟩
  rcases qn_mem hm with e | e | e <;> (show nameOk (nnQ c.nm) = true; rw [e]; decide +kernel)
theorem rnm_run {kind : Str} {cs : List Cl} {com : Rat} {n N : Nat} {is : List (Rat × Rat)} (R : RunOk kind cs com is n N) (h : cs.map (·.nm) = NML.take cs.length) (l3 : cs.length ≤ 3) :
    RunOk kind (cs.map rnm) com is n N ∧ ∀ j, ∀ c ∈ cs, (runQ kind cs com (is.take j)).1 c.nm = (runQ kind (cs.map rnm) com (is.take j)).1 (nnQ c.nm) := by
  have C2 := rnm_ok R.C h l3
  have key : ∀ js : List (Rat × Rat), (runQ kind cs com js).2 = (runQ kind (cs.map rnm) com js).2 ∧ ∀ c ∈ cs, (runQ kind cs com js).1 c.nm = (runQ kind (cs.map rnm) com js).1 (nnQ c.nm) := fun js => by
    refine rename_fold nnQ rfl js _ _ rfl fun c hc => ?_
    show begF cs c.nm = begF (cs.map rnm) (nnQ c.nm)
    rw [begF_of R.C.nd hc, show nnQ c.nm = (rnm c).nm from rfl, begF_of C2.nd (List.mem_map_of_mem hc)]
    rfl
  refine ⟨⟨R.hk, C2, R.I, R.c0, R.cB, R.le, R.hN, fun j hj => ?_⟩, fun j => (key _).2⟩
  have s := R.st j hj
  obtain ⟨k1, k2⟩ := key (is.take j)
  refine ⟨by rw [← k1]; exact s.s0, by rw [← k1]; exact s.sB, fun d hd => ?_, fun d hd => ?_⟩
  · obtain ⟨c, hc, rfl⟩ := List.mem_map.mp hd
    show 0 < (runQ kind (cs.map rnm) com (is.take j)).1 (nnQ c.nm)
    rw [← k2 c hc]; exact s.f0 c hc
  · obtain ⟨c, hc, rfl⟩ := List.mem_map.mp hd
    show B N ((runQ kind (cs.map rnm) com (is.take j)).1 (nnQ c.nm))
    rw [← k2 c hc]; exact s.fB c hc
theorem pairs_map {α : Type} (k : α → Str) (v : α → D) : ∀ xs : List α, pairsD (xs.map fun x => D.tup [.str (k x), v x]) = some (xs.map fun x => ((Sum.inr (k x) : Key), v x))
  | [] => rfl
  | x :: xs => by
    rw [List.map_cons, List.map_cons]
    unfold pairsD
    rw [pairs_map k v xs]
    rfl
theorem merge_nd : ∀ (xs acc : List (Key × D)), (acc.map (·.1) ++ xs.map (·.1)).Nodup → dmerge acc xs = acc ++ xs
  | [], acc, _ => by unfold dmerge; simp
  | p :: r, acc, h => by
    unfold dmerge
    have hn : ∀ q ∈ acc, q.1 ≠ p.1 := fun q hq e => by
      rw [List.map_cons, List.nodup_append] at h
      exact h.2.2 q.1 (List.mem_map_of_mem hq) p.1 List.mem_cons_self e
    rw [dput_new hn, merge_nd r _ (by simpa [List.append_assoc] using h)]
    simp
theorem merge_map {α : Type} {k : α → Str} {v : α → D} {xs : List α} (nd : (xs.map k).Nodup) : dmerge [] (xs.map fun x => ((Sum.inr (k x) : Key), v x)) = xs.map fun x => ((Sum.inr (k x) : Key), v x) := by
  rw [merge_nd]
  · simp
  · have := nodup_inr nd
    simp only [List.map_nil, List.nil_append, List.map_map] at this ⊢
    exact this
theorem i_lvPr {Φ : PhE} {ns : List Str} {f : Str → Rat} {S : Ab} (h : Φ (.lst (ns.map fun n => qD (f n))) S) : kLV Φ (prD ns f) S := by
  show Φ (.lst ((ns.map fun n => ((Sum.inr n : Key), qD (f n))).map (·.2))) S
  rw [List.map_map]
  exact h
theorem dEq_nil {α : Type} (k : α → Str) (v : α → D) (xs : List α) : dEq (xs.map fun x => ((Sum.inr (k x) : Key), v x)) [] = decide (xs = []) := by
  cases xs with
  | nil => simp [dEq]
  | cons x xs => simp [dEq]
theorem okD_cl (cs : List Cl) : okD (cs.map fun c => ((Sum.inr c.nm : Key), D.tup [qD c.paid, qD c.begun])) = true := by
  unfold okD
  rw [List.map_map]
  induction cs with
  | nil => rfl
  | cons c cs ih =>
    rw [List.map_cons]
    show (okE 40 (D.tup [qD c.paid, qD c.begun]) && okEs 40 _) = true
    rw [ih, Bool.and_true]
    show (okE 39 (qD c.paid) && (okE 39 (qD c.begun) && okEs 39 [])) = true
    rw [okE_qD c.paid (by decide), okE_qD c.begun (by decide)]
    rfl
theorem i_listDKCl {Φ : PhE} {cs : List Cl} {S : Ab} (h : Φ (.lst (cs.map fun c => D.str c.nm)) S) : fListDK [clD cs] S Φ := by
  show Φ (.lst (((cs.map fun c => ((Sum.inr c.nm : Key), D.tup [qD c.paid, qD c.begun])).map (·.1)).map kD)) S
  rw [List.map_map, List.map_map]
  exact h
/-- one class less -/
theorem less_run {kind : Str} (hk : convB kind = false) {cb : Cl} {cs : List Cl} {com : Rat} (nd : ((cb :: cs).map (·.nm)).Nodup) (is : List (Rat × Rat)) :
    ∀ c ∈ cs, (runQ kind (cb :: cs) com is).1 c.nm = (runQ kind cs (com + cb.paid / cb.begun) is).1 c.nm := by
  have nd2 : (cs.map (·.nm)).Nodup := (List.nodup_cons.mp nd).2
  refine beside_fold hk rfl is _ _ rfl fun c hc => ?_
  show begF (cb :: cs) c.nm = begF cs c.nm
  rw [begF_of nd (List.mem_cons_of_mem _ hc), begF_of nd2 hc]
end S
set_option Elab.async false
set_option linter.all false
set_option maxRecDepth 100000
set_option maxHeartbeats 0
namespace K73
open PySem PySem.Spec PyProof.Rows L2
/-! the text by places -/
def top (i : Nat) : Stmt := PySem.Challenge.pw_salesplit_k73_whole_rows_of_issues.main.body.getD i (.Pass ⟨0, 0, 0, 0⟩)
abbrev s_InvalidIssue____init__ : Stmt := inClass (top 5) 0
abbrev s_is_int : Stmt := top 7
abbrev s_common_divisor : Stmt := top 8
abbrev s_is_number : Stmt := top 9
abbrev s_pair_of : Stmt := top 10
abbrev s_number_of : Stmt := top 11
abbrev s_less : Stmt := top 12
abbrev s_require_number : Stmt := top 13
abbrev s_require_positive : Stmt := top 14
abbrev s_plus : Stmt := top 15
abbrev s_times : Stmt := top 16
abbrev s_over : Stmt := top 17
abbrev s_is_less : Stmt := top 18
abbrev s_total : Stmt := top 19
abbrev s_least_of : Stmt := top 20
abbrev s_is_name : Stmt := top 24
abbrev s_is_positive : Stmt := top 25
abbrev s_is_positive_pair : Stmt := top 31
abbrev s_are_classes : Stmt := top 32
abbrev s_require_adjusting : Stmt := top 33
abbrev s_shares_by : Stmt := top 34
abbrev s_fallen : Stmt := top 35
abbrev s_prices_behind : Stmt := top 36
abbrev s_adjusted_prices : Stmt := top 37
abbrev s_converted_shares : Stmt := top 38
abbrev s__law_fund : Stmt := top 40
abbrev s__law_pick : Stmt := top 41
abbrev s__law_made : Stmt := top 42
abbrev s__law_pair : Stmt := top 43
abbrev s__law_sum : Stmt := top 44
abbrev s__law_times : Stmt := top 45
abbrev s__law_over : Stmt := top 46
abbrev s__law_less : Stmt := top 47
abbrev s__law_some : Stmt := top 48
abbrev s__law_classes : Stmt := top 49
abbrev s__law_issues : Stmt := top 50
abbrev s__law_mixed : Stmt := top 51
abbrev s__law_mean_right : Stmt := top 52
abbrev s__law_few : Stmt := top 53
abbrev s__law_passed_on_right : Stmt := top 54
abbrev s__law_scaled_right : Stmt := top 55
abbrev s__law_right : Stmt := top 56
abbrev s_law : Stmt := top 57
def d_is_int : He.DefD := ⟨("is_int", none), "is_int", "is_int", defArgs s_is_int, defBody s_is_int, defScope s_is_int, [], []⟩
def d_common_divisor : He.DefD := ⟨("common_divisor", none), "common_divisor", "common_divisor", defArgs s_common_divisor, defBody s_common_divisor, defScope s_common_divisor, [], []⟩
def d_is_number : He.DefD := ⟨("is_number", none), "is_number", "is_number", defArgs s_is_number, defBody s_is_number, defScope s_is_number, [], []⟩
def d_pair_of : He.DefD := ⟨("pair_of", none), "pair_of", "pair_of", defArgs s_pair_of, defBody s_pair_of, defScope s_pair_of, [], []⟩
def d_number_of : He.DefD := ⟨("number_of", none), "number_of", "number_of", defArgs s_number_of, defBody s_number_of, defScope s_number_of, [], []⟩
def d_less : He.DefD := ⟨("less", none), "less", "less", defArgs s_less, defBody s_less, defScope s_less, [], []⟩
def d_require_number : He.DefD := ⟨("require_number", none), "require_number", "require_number", defArgs s_require_number, defBody s_require_number, defScope s_require_number, [.non], []⟩
def d_require_positive : He.DefD := ⟨("require_positive", none), "require_positive", "require_positive", defArgs s_require_positive, defBody s_require_positive, defScope s_require_positive, [], []⟩
def d_plus : He.DefD := ⟨("plus", none), "plus", "plus", defArgs s_plus, defBody s_plus, defScope s_plus, [], []⟩
def d_times : He.DefD := ⟨("times", none), "times", "times", defArgs s_times, defBody s_times, defScope s_times, [], []⟩
def d_over : He.DefD := ⟨("over", none), "over", "over", defArgs s_over, defBody s_over, defScope s_over, [], []⟩
def d_is_less : He.DefD := ⟨("is_less", none), "is_less", "is_less", defArgs s_is_less, defBody s_is_less, defScope s_is_less, [], []⟩
def d_total : He.DefD := ⟨("total", none), "total", "total", defArgs s_total, defBody s_total, defScope s_total, [], []⟩
def d_least_of : He.DefD := ⟨("least_of", none), "least_of", "least_of", defArgs s_least_of, defBody s_least_of, defScope s_least_of, [], []⟩
def d_is_name : He.DefD := ⟨("is_name", none), "is_name", "is_name", defArgs s_is_name, defBody s_is_name, defScope s_is_name, [], []⟩
def d_is_positive : He.DefD := ⟨("is_positive", none), "is_positive", "is_positive", defArgs s_is_positive, defBody s_is_positive, defScope s_is_positive, [], []⟩
def d_is_positive_pair : He.DefD := ⟨("is_positive_pair", none), "is_positive_pair", "is_positive_pair", defArgs s_is_positive_pair, defBody s_is_positive_pair, defScope s_is_positive_pair, [], []⟩
def d_are_classes : He.DefD := ⟨("are_classes", none), "are_classes", "are_classes", defArgs s_are_classes, defBody s_are_classes, defScope s_are_classes, [], []⟩
def d_require_adjusting : He.DefD := ⟨("require_adjusting", none), "require_adjusting", "require_adjusting", defArgs s_require_adjusting, defBody s_require_adjusting, defScope s_require_adjusting, [], []⟩
def d_shares_by : He.DefD := ⟨("shares_by", none), "shares_by", "shares_by", defArgs s_shares_by, defBody s_shares_by, defScope s_shares_by, [], []⟩
def d_fallen : He.DefD := ⟨("fallen", none), "fallen", "fallen", defArgs s_fallen, defBody s_fallen, defScope s_fallen, [], []⟩
def d_prices_behind : He.DefD := ⟨("prices_behind", none), "prices_behind", "prices_behind", defArgs s_prices_behind, defBody s_prices_behind, defScope s_prices_behind, [], []⟩
def d_adjusted_prices : He.DefD := ⟨("adjusted_prices", none), "adjusted_prices", "adjusted_prices", defArgs s_adjusted_prices, defBody s_adjusted_prices, defScope s_adjusted_prices, [], []⟩
def d_converted_shares : He.DefD := ⟨("converted_shares", none), "converted_shares", "converted_shares", defArgs s_converted_shares, defBody s_converted_shares, defScope s_converted_shares, [], []⟩
def d__law_fund : He.DefD := ⟨("_law_fund", none), "_law_fund", "_law_fund", defArgs s__law_fund, defBody s__law_fund, defScope s__law_fund, [], []⟩
def d__law_pick : He.DefD := ⟨("_law_pick", none), "_law_pick", "_law_pick", defArgs s__law_pick, defBody s__law_pick, defScope s__law_pick, [], []⟩
def d__law_made : He.DefD := ⟨("_law_made", none), "_law_made", "_law_made", defArgs s__law_made, defBody s__law_made, defScope s__law_made, [], []⟩
def d__law_pair : He.DefD := ⟨("_law_pair", none), "_law_pair", "_law_pair", defArgs s__law_pair, defBody s__law_pair, defScope s__law_pair, [], []⟩
def d__law_sum : He.DefD := ⟨("_law_sum", none), "_law_sum", "_law_sum", defArgs s__law_sum, defBody s__law_sum, defScope s__law_sum, [], []⟩
def d__law_times : He.DefD := ⟨("_law_times", none), "_law_times", "_law_times", defArgs s__law_times, defBody s__law_times, defScope s__law_times, [], []⟩
def d__law_over : He.DefD := ⟨("_law_over", none), "_law_over", "_law_over", defArgs s__law_over, defBody s__law_over, defScope s__law_over, [], []⟩
def d__law_less : He.DefD := ⟨("_law_less", none), "_law_less", "_law_less", defArgs s__law_less, defBody s__law_less, defScope s__law_less, [], []⟩
def d__law_some : He.DefD := ⟨("_law_some", none), "_law_some", "_law_some", defArgs s__law_some, defBody s__law_some, defScope s__law_some, [], []⟩
def d__law_classes : He.DefD := ⟨("_law_classes", none), "_law_classes", "_law_classes", defArgs s__law_classes, defBody s__law_classes, defScope s__law_classes, [], []⟩
def d__law_issues : He.DefD := ⟨("_law_issues", none), "_law_issues", "_law_issues", defArgs s__law_issues, defBody s__law_issues, defScope s__law_issues, [], []⟩
def d__law_mixed : He.DefD := ⟨("_law_mixed", none), "_law_mixed", "_law_mixed", defArgs s__law_mixed, defBody s__law_mixed, defScope s__law_mixed, [], []⟩
def d__law_mean_right : He.DefD := ⟨("_law_mean_right", none), "_law_mean_right", "_law_mean_right", defArgs s__law_mean_right, defBody s__law_mean_right, defScope s__law_mean_right, [], []⟩
def d__law_few : He.DefD := ⟨("_law_few", none), "_law_few", "_law_few", defArgs s__law_few, defBody s__law_few, defScope s__law_few, [], []⟩
def d__law_passed_on_right : He.DefD := ⟨("_law_passed_on_right", none), "_law_passed_on_right", "_law_passed_on_right", defArgs s__law_passed_on_right, defBody s__law_passed_on_right, defScope s__law_passed_on_right, [], []⟩
def d__law_scaled_right : He.DefD := ⟨("_law_scaled_right", none), "_law_scaled_right", "_law_scaled_right", defArgs s__law_scaled_right, defBody s__law_scaled_right, defScope s__law_scaled_right, [], []⟩
def d__law_right : He.DefD := ⟨("_law_right", none), "_law_right", "_law_right", defArgs s__law_right, defBody s__law_right, defScope s__law_right, [], []⟩
def d_law : He.DefD := ⟨("law", none), "law", "law", defArgs s_law, defBody s_law, defScope s_law, [], []⟩
def fn : List He.DefD := [d_is_int, d_common_divisor, d_is_number, d_pair_of, d_number_of, d_less, d_require_number, d_require_positive, d_plus, d_times, d_over, d_is_less, d_total, d_least_of, d_is_name, d_is_positive, d_is_positive_pair, d_are_classes, d_require_adjusting, d_shares_by, d_fallen, d_prices_behind, d_adjusted_prices, d_converted_shares, d__law_fund, d__law_pick, d__law_made, d__law_pair, d__law_sum, d__law_times, d__law_over, d__law_less, d__law_some, d__law_classes, d__law_issues, d__law_mixed, d__law_mean_right, d__law_few, d__law_passed_on_right, d__law_scaled_right, d__law_right, d_law]
def fa : List He.Fa := [.glo "is_int",
  .glo "common_divisor",
  .glo "is_number",
  .glo "pair_of",
  .glo "number_of",
  .glo "less",
  .glo "require_number",
  .glo "require_positive",
  .glo "plus",
  .glo "times",
  .glo "over",
  .glo "is_less",
  .glo "total",
  .glo "least_of",
  .str "LETTERS" "abcdefghijklmnopqrstuvwxyz",
  .int "MOST_LETTERS" 8,
  .glo "is_name",
  .glo "is_positive",
  .str "FULL" "full",
  .str "ISSUED" "issued",
  .str "CONVERTED" "converted",
  .int "MOST_CLASSES" 12,
  .glo "is_positive_pair",
  .glo "are_classes",
  .glo "require_adjusting",
  .glo "shares_by",
  .glo "fallen",
  .glo "prices_behind",
  .glo "adjusted_prices",
  .glo "converted_shares",
  .glo "_law_fund",
  .glo "_law_pick",
  .glo "_law_made",
  .glo "_law_pair",
  .glo "_law_sum",
  .glo "_law_times",
  .glo "_law_over",
  .glo "_law_less",
  .glo "_law_some",
  .glo "_law_classes",
  .glo "_law_issues",
  .glo "_law_mixed",
  .glo "_law_mean_right",
  .glo "_law_few",
  .glo "_law_passed_on_right",
  .glo "_law_scaled_right",
  .glo "_law_right",
  .glo "law",
  .free "ValueError",
  .free "abs",
  .free "all",
  .free "bool",
  .free "dict",
  .free "enumerate",
  .free "int",
  .free "isinstance",
  .free "len",
  .free "list",
  .free "max",
  .free "min",
  .free "range",
  .free "sorted",
  .free "str",
  .free "super",
  .free "tuple"]
/-- names -/
def loose0 : List PySem.Str := ["SaleError", "InvalidNumber", "InvalidClasses", "InvalidKind", "InvalidIssue", "is_int", "common_divisor", "is_number", "pair_of", "number_of", "less", "require_number", "require_positive", "plus", "times", "over", "is_less", "total", "least_of", "LETTERS", "MOST_LETTERS", "is_name", "is_positive", "FULL", "ISSUED", "CONVERTED", "MOST_CLASSES", "is_positive_pair", "are_classes", "require_adjusting"]
def loose1 : List PySem.Str := ["shares_by", "fallen", "prices_behind", "adjusted_prices", "converted_shares", "_law_fund", "_law_pick", "_law_made", "_law_pair", "_law_sum", "_law_times", "_law_over", "_law_less", "_law_some", "_law_classes", "_law_issues", "_law_mixed", "_law_mean_right", "_law_few", "_law_passed_on_right", "_law_scaled_right", "_law_right"]
def loose : List PySem.Str := loose0 ++ loose1
abbrev R : PySem.W.OpenRow := PySem.W.OpenLaw.row PySem.Challenge.rw_salesplit_k73_whole_rows_of_issues
abbrev hk : PySem.W.Hook := S.hookS 4 fa fn
def ob (s : PySem.W.SharedT) : S.AlS := S.obsSG 4 fa fn (HandSHeadRun.getT s)
theorem ob_eq (s : PySem.W.SharedT) : ob s = hk.obs s.abs := S.obsSG_eq (HandSHeadRun.getT_eq s)
theorem run (w : World) : HandSHeadRun.RunEq R (PySem.W.view R.prog [57]) hk ob 4000 loose w := by
  intro os
  kernel_rfl
end K73
set_option Elab.async false
set_option linter.all false
set_option maxRecDepth 100000
set_option autoImplicit false
set_option maxHeartbeats 0
namespace K73
open PySem L2 S PyProof.Rows
local macro_rules | `(tactic| walk_at "s") => `(tactic| first
  | (with_reducible apply i_seq)
  | (with_reducible apply i_asg)
  | (with_reducible apply i_gname)
  | (with_reducible apply i_op)
  | (with_reducible apply i_c)
  | ((with_reducible apply i_var); focus (rfl))
  | (with_reducible apply i_cons)
  | (with_reducible apply i_nil)
  | (with_reducible apply i_next)
  | (with_reducible apply i_ret)
  | (with_reducible apply i_drop)
  | (with_reducible apply i_ifS)
  | (with_reducible apply i_test)
  | (with_reducible apply i_kTest)
  | (with_reducible apply i_and)
  | (with_reducible apply i_or)
  | (with_reducible apply i_not)
  | (with_reducible apply i_andV)
  | (with_reducible apply i_orV)
  | (with_reducible apply i_notV)
  | (with_reducible apply i_kNotV)
  | (with_reducible apply i_ifE)
  | (with_reducible apply i_tup)
  | (with_reducible apply i_lst)
  | (with_reducible apply i_call)
  | (with_reducible apply i_cb)
  | (with_reducible apply i_isi)
  | (with_reducible apply i_isN)
  | (with_reducible apply i_notN)
  | ((with_reducible apply i_bt); focus (rfl))
  | ((with_reducible apply i_bf); focus (rfl))
  | ((with_reducible apply i_kIfT); focus (rfl))
  | ((with_reducible apply i_kIfF); focus (rfl))
  | ((with_reducible apply i_kAndT); focus (rfl))
  | ((with_reducible apply i_kAndF); focus (rfl))
  | ((with_reducible apply i_kOrT); focus (rfl))
  | ((with_reducible apply i_kOrF); focus (rfl))
  | ((with_reducible apply i_kAndVT); focus (rfl))
  | ((with_reducible apply i_kAndVF); focus (rfl))
  | ((with_reducible apply i_kOrVT); focus (rfl))
  | ((with_reducible apply i_kOrVF); focus (rfl))
  | ((with_reducible apply i_kIfET); focus (rfl))
  | ((with_reducible apply i_kIfEF); focus (rfl))
  | ((with_reducible apply i_kIsi); focus (rfl))
  | ((with_reducible apply i_kTup); (focus rfl); (focus (exact Nat.le_of_ble_eq_true rfl)))
  | ((with_reducible apply i_kLst); (focus rfl); (focus (exact Nat.le_of_ble_eq_true rfl)))
  | ((with_reducible apply i_kCall); focus (rfl))
  | ((with_reducible apply i_kCallD); focus (rfl))
  | ((with_reducible apply i_kCallO); (focus rfl); (focus rfl))
  | ((with_reducible apply i_kCB); focus (rfl))
  | ((with_reducible apply i_gtup); focus (rfl))
  | ((with_reducible apply i_glst); focus (rfl))
  | (with_reducible apply i_fI0)
  | (with_reducible apply i_absN)
  | (with_reducible apply i_int)
  | (with_reducible apply i_intB)
  | (with_reducible apply i_eqI)
  | (with_reducible apply i_neI)
  | (with_reducible apply i_eqQ)
  | (with_reducible apply i_neQ)
  | (with_reducible apply i_eqQi)
  | (with_reducible apply i_neQi)
  | (with_reducible apply i_gcons)
  | (with_reducible apply i_gnil)
  | (with_reducible apply i_own)
  | (with_reducible apply i_par)
  | (with_reducible apply i_parN)
  | (with_reducible apply i_parNN)
  | (with_reducible apply i_setC)
  | (with_reducible apply i_lenL)
  | (with_reducible apply i_lenT)
  | (with_reducible apply i_lenD)
  | (with_reducible apply i_for)
  | (with_reducible apply i_forC)
  | (with_reducible apply i_wiL)
  | (with_reducible apply i_kWL)
  | (with_reducible apply i_wiDic)
  | (with_reducible apply i_mDic)
  | (with_reducible apply i_wiS)
  | (with_reducible apply i_kWS)
  | (with_reducible apply i_lc)
  | (with_reducible apply i_dc)
  | (with_reducible apply i_yes)
  | (with_reducible apply i_sl)
  | (with_reducible apply i_kSl)
  | (with_reducible apply i_oN)
  | (with_reducible apply i_oS)
  | (with_reducible apply i_kO)
  | (with_reducible apply i_rep)
  | (with_reducible apply i_chain)
  | (with_reducible apply i_sign)
  | (with_reducible apply i_wmSeq)
  | (with_reducible apply i_wmRet)
  | (with_reducible apply i_wiR1)
  | (with_reducible apply i_wiEnum)
  | (with_reducible apply i_kEn)
  | (with_reducible apply i_wiEnumK)
  | (with_reducible apply i_kEnK)
  | (with_reducible apply i_retN)
  | ((with_reducible apply i_ixT); focus (rfl))
  | ((with_reducible apply i_ixL); focus (rfl))
  | ((with_reducible apply i_kChT); focus (rfl))
  | ((with_reducible apply i_consO); focus (rfl))
  | (with_reducible apply i_dic0)
  | (with_reducible apply i_dputO)
  | ((with_reducible apply i_kDput1); focus (rfl))
  | ((with_reducible apply i_ixV); focus (rfl))
  | ((with_reducible apply i_pop); focus (rfl))
  | ((with_reducible apply i_neO); focus (rfl))
  | ((with_reducible apply i_ext); focus (rfl))
  | (with_reducible apply i_lv)
  | (with_reducible apply i_kLV)
  | (with_reducible apply i_listL)
  | ((with_reducible apply i_lenO); focus (rfl))
  | ((with_reducible apply i_ixC); (focus rfl); (focus rfl))
  | ((with_reducible apply i_end1); focus (rfl))
  | (with_reducible apply i_max2)
  | (with_reducible apply i_min2)
  | (with_reducible apply i_end0')
  | (with_reducible apply i_end0n)
  | (with_reducible apply i_endM))
local macro_rules | `(tactic| walk_at "ss") => `(tactic| repeat walk_at "s")

structure Txt (P : Program) (K : PySem.W.Frag) (mg : Str → Option Value) (base : Heap) : Prop where
  ns : base.NoSeer
  tr : P.given.tree = none
  g_is_int : Given K mg "is_int" s_is_int []
  g_common_divisor : Given K mg "common_divisor" s_common_divisor []
  g_is_number : Given K mg "is_number" s_is_number []
  g_pair_of : Given K mg "pair_of" s_pair_of []
  g_number_of : Given K mg "number_of" s_number_of []
  g_less : Given K mg "less" s_less []
  g_require_number : Given K mg "require_number" s_require_number [.non]
  g_require_positive : Given K mg "require_positive" s_require_positive []
  g_plus : Given K mg "plus" s_plus []
  g_times : Given K mg "times" s_times []
  g_over : Given K mg "over" s_over []
  g_is_less : Given K mg "is_less" s_is_less []
  g_total : Given K mg "total" s_total []
  g_least_of : Given K mg "least_of" s_least_of []
  g_is_name : Given K mg "is_name" s_is_name []
  g_is_positive : Given K mg "is_positive" s_is_positive []
  g_is_positive_pair : Given K mg "is_positive_pair" s_is_positive_pair []
  g_are_classes : Given K mg "are_classes" s_are_classes []
  g_require_adjusting : Given K mg "require_adjusting" s_require_adjusting []
  g_shares_by : Given K mg "shares_by" s_shares_by []
  g_fallen : Given K mg "fallen" s_fallen []
  g_prices_behind : Given K mg "prices_behind" s_prices_behind []
  g_adjusted_prices : Given K mg "adjusted_prices" s_adjusted_prices []
  g_converted_shares : Given K mg "converted_shares" s_converted_shares []
  g__law_fund : Given K mg "_law_fund" s__law_fund []
  g__law_pick : Given K mg "_law_pick" s__law_pick []
  g__law_made : Given K mg "_law_made" s__law_made []
  g__law_pair : Given K mg "_law_pair" s__law_pair []
  g__law_sum : Given K mg "_law_sum" s__law_sum []
  g__law_times : Given K mg "_law_times" s__law_times []
  g__law_over : Given K mg "_law_over" s__law_over []
  g__law_less : Given K mg "_law_less" s__law_less []
  g__law_some : Given K mg "_law_some" s__law_some []
  g__law_classes : Given K mg "_law_classes" s__law_classes []
  g__law_issues : Given K mg "_law_issues" s__law_issues []
  g__law_mixed : Given K mg "_law_mixed" s__law_mixed []
  g__law_mean_right : Given K mg "_law_mean_right" s__law_mean_right []
  g__law_few : Given K mg "_law_few" s__law_few []
  g__law_passed_on_right : Given K mg "_law_passed_on_right" s__law_passed_on_right []
  g__law_scaled_right : Given K mg "_law_scaled_right" s__law_scaled_right []
  g__law_right : Given K mg "_law_right" s__law_right []
  g_law : Given K mg "law" s_law []
  c_CONVERTED : ∃ t, mg "CONVERTED" = some (.str "converted" t)
  c_FULL : ∃ t, mg "FULL" = some (.str "full" t)
  c_ISSUED : ∃ t, mg "ISSUED" = some (.str "issued" t)
  c_LETTERS : ∃ t, mg "LETTERS" = some (.str "abcdefghijklmnopqrstuvwxyz" t)
  c_MOST_CLASSES : ∃ t, mg "MOST_CLASSES" = some (.int 12 t)
  c_MOST_LETTERS : ∃ t, mg "MOST_LETTERS" = some (.int 8 t)
  b_abs : mg "abs" = none
  b_all : mg "all" = none
  b_bool : mg "bool" = none
  b_dict : mg "dict" = none
  b_enumerate : mg "enumerate" = none
  b_int : mg "int" = none
  b_isinstance : mg "isinstance" = none
  b_len : mg "len" = none
  b_list : mg "list" = none
  b_max : mg "max" = none
  b_min : mg "min" = none
  b_range : mg "range" = none
  b_sorted : mg "sorted" = none
  b_str : mg "str" = none
  b_tuple : mg "tuple" = none
abbrev N_is_int : List Str := ["value"]
theorem sc_is_int : FnScope N_is_int ["value"] (defScope s_is_int) := ⟨rfl, rfl, rfl, by decide +kernel, rfl, by decide +kernel, by decide +kernel⟩
abbrev N_common_divisor : List Str := ["one", "other"]
theorem sc_common_divisor : FnScope N_common_divisor ["one", "other"] (defScope s_common_divisor) := ⟨rfl, rfl, rfl, by decide +kernel, rfl, by decide +kernel, by decide +kernel⟩
abbrev N_is_number : List Str := ["value"]
theorem sc_is_number : FnScope N_is_number ["value"] (defScope s_is_number) := ⟨rfl, rfl, rfl, by decide +kernel, rfl, by decide +kernel, by decide +kernel⟩
abbrev N_pair_of : List Str := ["one"]
theorem sc_pair_of : FnScope N_pair_of ["one"] (defScope s_pair_of) := ⟨rfl, rfl, rfl, by decide +kernel, rfl, by decide +kernel, by decide +kernel⟩
abbrev N_number_of : List Str := ["top", "bottom", "divisor"]
theorem sc_number_of : FnScope N_number_of ["top", "bottom"] (defScope s_number_of) := ⟨rfl, rfl, rfl, by decide +kernel, rfl, by decide +kernel, by decide +kernel⟩
abbrev N_less : List Str := ["one", "other", "first", "second"]
theorem sc_less : FnScope N_less ["one", "other"] (defScope s_less) := ⟨rfl, rfl, rfl, by decide +kernel, rfl, by decide +kernel, by decide +kernel⟩
abbrev N_require_number : List Str := ["value", "least"]
theorem sc_require_number : FnScope N_require_number ["value", "least"] (defScope s_require_number) := ⟨rfl, rfl, rfl, by decide +kernel, rfl, by decide +kernel, by decide +kernel⟩
abbrev N_require_positive : List Str := ["value"]
theorem sc_require_positive : FnScope N_require_positive ["value"] (defScope s_require_positive) := ⟨rfl, rfl, rfl, by decide +kernel, rfl, by decide +kernel, by decide +kernel⟩
abbrev N_plus : List Str := ["one", "other"]
theorem sc_plus : FnScope N_plus ["one", "other"] (defScope s_plus) := ⟨rfl, rfl, rfl, by decide +kernel, rfl, by decide +kernel, by decide +kernel⟩
abbrev N_times : List Str := ["one", "other", "first", "second"]
theorem sc_times : FnScope N_times ["one", "other"] (defScope s_times) := ⟨rfl, rfl, rfl, by decide +kernel, rfl, by decide +kernel, by decide +kernel⟩
abbrev N_over : List Str := ["one", "other", "first", "second"]
theorem sc_over : FnScope N_over ["one", "other"] (defScope s_over) := ⟨rfl, rfl, rfl, by decide +kernel, rfl, by decide +kernel, by decide +kernel⟩
abbrev N_is_less : List Str := ["one", "other"]
theorem sc_is_less : FnScope N_is_less ["one", "other"] (defScope s_is_less) := ⟨rfl, rfl, rfl, by decide +kernel, rfl, by decide +kernel, by decide +kernel⟩
abbrev N_total : List Str := ["numbers", "top", "bottom", "one", "first"]
theorem sc_total : FnScope N_total ["numbers"] (defScope s_total) := ⟨rfl, rfl, rfl, by decide +kernel, rfl, by decide +kernel, by decide +kernel⟩
abbrev N_least_of : List Str := ["numbers", "found", "one"]
theorem sc_least_of : FnScope N_least_of ["numbers"] (defScope s_least_of) := ⟨rfl, rfl, rfl, by decide +kernel, rfl, by decide +kernel, by decide +kernel⟩
abbrev N_is_name : List Str := ["value", "letter"]
theorem sc_is_name : FnScope N_is_name ["value"] (defScope s_is_name) := ⟨rfl, rfl, rfl, by decide +kernel, rfl, by decide +kernel, by decide +kernel⟩
abbrev N_is_positive : List Str := ["value"]
theorem sc_is_positive : FnScope N_is_positive ["value"] (defScope s_is_positive) := ⟨rfl, rfl, rfl, by decide +kernel, rfl, by decide +kernel, by decide +kernel⟩
abbrev N_is_positive_pair : List Str := ["value"]
theorem sc_is_positive_pair : FnScope N_is_positive_pair ["value"] (defScope s_is_positive_pair) := ⟨rfl, rfl, rfl, by decide +kernel, rfl, by decide +kernel, by decide +kernel⟩
abbrev N_are_classes : List Str := ["value", "name", "one"]
theorem sc_are_classes : FnScope N_are_classes ["value"] (defScope s_are_classes) := ⟨rfl, rfl, rfl, by decide +kernel, rfl, by decide +kernel, by decide +kernel⟩
abbrev N_require_adjusting : List Str := ["common", "classes", "issues", "kind", "index", "issue"]
theorem sc_require_adjusting : FnScope N_require_adjusting ["common", "classes", "issues", "kind"] (defScope s_require_adjusting) := ⟨rfl, rfl, rfl, by decide +kernel, rfl, by decide +kernel, by decide +kernel⟩
abbrev N_shares_by : List Str := ["classes", "prices", "name", "paid", "begun"]
theorem sc_shares_by : FnScope N_shares_by ["classes", "prices"] (defScope s_shares_by) := ⟨rfl, rfl, rfl, by decide +kernel, rfl, by decide +kernel, by decide +kernel⟩
abbrev N_fallen : List Str := ["price", "issue", "ahead", "kind", "money", "cheaper"]
theorem sc_fallen : FnScope N_fallen ["price", "issue", "ahead", "kind"] (defScope s_fallen) := ⟨rfl, rfl, rfl, by decide +kernel, rfl, by decide +kernel, by decide +kernel⟩
abbrev N_prices_behind : List Str := ["common", "classes", "issues", "kind", "begun", "prices", "shares", "issue", "ahead", "name", "price"]
theorem sc_prices_behind : FnScope N_prices_behind ["common", "classes", "issues", "kind"] (defScope s_prices_behind) := ⟨rfl, rfl, rfl, by decide +kernel, rfl, by decide +kernel, by decide +kernel⟩
abbrev N_adjusted_prices : List Str := ["common", "classes", "issues", "kind"]
theorem sc_adjusted_prices : FnScope N_adjusted_prices ["common", "classes", "issues", "kind"] (defScope s_adjusted_prices) := ⟨rfl, rfl, rfl, by decide +kernel, rfl, by decide +kernel, by decide +kernel⟩
abbrev N_converted_shares : List Str := ["common", "classes", "issues", "kind", "prices", "shares"]
theorem sc_converted_shares : FnScope N_converted_shares ["common", "classes", "issues", "kind"] (defScope s_converted_shares) := ⟨rfl, rfl, rfl, by decide +kernel, rfl, by decide +kernel, by decide +kernel⟩
abbrev N__law_fund : List Str := ["script", "k", "cell"]
theorem sc__law_fund : FnScope N__law_fund ["script", "k"] (defScope s__law_fund) := ⟨rfl, rfl, rfl, by decide +kernel, rfl, by decide +kernel, by decide +kernel⟩
abbrev N__law_pick : List Str := ["fund", "many", "found"]
theorem sc__law_pick : FnScope N__law_pick ["fund", "many"] (defScope s__law_pick) := ⟨rfl, rfl, rfl, by decide +kernel, rfl, by decide +kernel, by decide +kernel⟩
abbrev N__law_made : List Str := ["top", "bottom", "one", "two"]
theorem sc__law_made : FnScope N__law_made ["top", "bottom"] (defScope s__law_made) := ⟨rfl, rfl, rfl, by decide +kernel, rfl, by decide +kernel, by decide +kernel⟩
abbrev N__law_pair : List Str := ["one"]
theorem sc__law_pair : FnScope N__law_pair ["one"] (defScope s__law_pair) := ⟨rfl, rfl, rfl, by decide +kernel, rfl, by decide +kernel, by decide +kernel⟩
abbrev N__law_sum : List Str := ["numbers", "top", "bottom", "one", "more", "under"]
theorem sc__law_sum : FnScope N__law_sum ["numbers"] (defScope s__law_sum) := ⟨rfl, rfl, rfl, by decide +kernel, rfl, by decide +kernel, by decide +kernel⟩
abbrev N__law_times : List Str := ["one", "two"]
theorem sc__law_times : FnScope N__law_times ["one", "two"] (defScope s__law_times) := ⟨rfl, rfl, rfl, by decide +kernel, rfl, by decide +kernel, by decide +kernel⟩
abbrev N__law_over : List Str := ["one", "two"]
theorem sc__law_over : FnScope N__law_over ["one", "two"] (defScope s__law_over) := ⟨rfl, rfl, rfl, by decide +kernel, rfl, by decide +kernel, by decide +kernel⟩
abbrev N__law_less : List Str := ["one", "two"]
theorem sc__law_less : FnScope N__law_less ["one", "two"] (defScope s__law_less) := ⟨rfl, rfl, rfl, by decide +kernel, rfl, by decide +kernel, by decide +kernel⟩
abbrev N__law_some : List Str := ["fund", "way", "great"]
theorem sc__law_some : FnScope N__law_some ["fund"] (defScope s__law_some) := ⟨rfl, rfl, rfl, by decide +kernel, rfl, by decide +kernel, by decide +kernel⟩
abbrev N__law_classes : List Str := ["fund", "most", "found", "prices", "names", "name", "paid"]
theorem sc__law_classes : FnScope N__law_classes ["fund", "most"] (defScope s__law_classes) := ⟨rfl, rfl, rfl, by decide +kernel, rfl, by decide +kernel, by decide +kernel⟩
abbrev N__law_issues : List Str := ["fund", "classes", "most", "found", "prices", "turn", "near", "some", "money", "name"]
theorem sc__law_issues : FnScope N__law_issues ["fund", "classes", "most"] (defScope s__law_issues) := ⟨rfl, rfl, rfl, by decide +kernel, rfl, by decide +kernel, by decide +kernel⟩
abbrev N__law_mixed : List Str := ["fund", "items", "rest", "found"]
theorem sc__law_mixed : FnScope N__law_mixed ["fund", "items"] (defScope s__law_mixed) := ⟨rfl, rfl, rfl, by decide +kernel, rfl, by decide +kernel, by decide +kernel⟩
abbrev N__law_mean_right : List Str := ["fund", "common", "classes", "issues", "ahead", "money", "shares", "rows", "name", "begin", "worth", "mean", "least", "one", "price", "paid", "row"]
theorem sc__law_mean_right : FnScope N__law_mean_right ["fund", "common", "classes", "issues"] (defScope s__law_mean_right) := ⟨rfl, rfl, rfl, by decide +kernel, rfl, by decide +kernel, by decide +kernel⟩
abbrev N__law_few : List Str := ["common", "classes", "issues", "others", "least", "bound", "some", "one", "part"]
theorem sc__law_few : FnScope N__law_few ["common", "classes", "issues", "others", "least", "bound"] (defScope s__law_few) := ⟨rfl, rfl, rfl, by decide +kernel, rfl, by decide +kernel, by decide +kernel⟩
abbrev N__law_passed_on_right : List Str := ["common", "classes", "issues", "kind", "at", "now", "more", "later", "name", "whole", "paid", "begin", "money", "price", "one"]
theorem sc__law_passed_on_right : FnScope N__law_passed_on_right ["common", "classes", "issues", "kind", "at"] (defScope s__law_passed_on_right) := ⟨rfl, rfl, rfl, by decide +kernel, rfl, by decide +kernel, by decide +kernel⟩
abbrev N__law_scaled_right : List Str := ["common", "classes", "issues", "kind", "factors", "prices", "shares", "one", "two", "some", "row", "name", "money", "price", "found"]
theorem sc__law_scaled_right : FnScope N__law_scaled_right ["common", "classes", "issues", "kind", "factors", "prices", "shares"] (defScope s__law_scaled_right) := ⟨rfl, rfl, rfl, by decide +kernel, rfl, by decide +kernel, by decide +kernel⟩
abbrev N__law_right : List Str := ["fund", "classes", "common", "last", "many", "few", "one", "two", "kind", "issues", "prices", "shares", "parts", "renamed", "rest", "more", "found", "side", "money", "price", "k", "name"]
theorem sc__law_right : FnScope N__law_right ["fund"] (defScope s__law_right) := ⟨rfl, rfl, rfl, by decide +kernel, rfl, by decide +kernel, by decide +kernel⟩
abbrev N_law : List Str := ["script", "k", "fund", "turn"]
theorem sc_law : FnScope N_law ["script"] (defScope s_law) := ⟨rfl, rfl, rfl, by decide +kernel, rfl, by decide +kernel, by decide +kernel⟩
section
variable {P : Program} {w : World} {K : PySem.W.Frag} {mg : Str → Option Value} {base : Heap}
abbrev ct_is_int : Ct := fun os args Φ => ∃ d t, os = [] ∧ args = [.v d] ∧ d.tyOf = some t ∧ Φ (.bl (D.intB d)) []
theorem ok_is_int (T : Txt P K mg base)  : DefOk P w K mg base 37 "is_int" ["value"] [] ct_is_int := by
  refine mk_def T.g_is_int sc_is_int (by rintro os args Φ ⟨d, t, rfl, rfl, _⟩; rfl) (fun _ _ _ _ _ _ us hl => match us, hl with | [_], _ => rfl) (fun f cdv A outer s H E hr => ?b)
  case b =>
    have nd := (sc_is_int).nd
    have hu1 : (A.deeper (envOfC "is_int" (defScope s_is_int) s.heap.objs.size f cdv)).units + 1 < cLine := by have := hr.un; omega
    have hu64 : (A.deeper (envOfC "is_int" (defScope s_is_int) s.heap.objs.size f cdv)).units + 64 < cLine := by have := hr.un; omega
    have hu65 : (A.deeper (envOfC "is_int" (defScope s_is_int) s.heap.objs.size f cdv)).units + 65 < cLine := by have := hr.un; omega
    refine ⟨_, _,
      (jss_one (js_ret (je_and (jy_isi (K := K) rfl (T := "int") rfl T.b_isinstance rfl T.b_int (by decide +kernel) (by decide) (by decide) (je_var 0)) (je_one (je_not (jy_isi (K := K) rfl (T := "bool") rfl T.b_isinstance rfl T.b_bool (by decide +kernel) (by decide) (by decide) (je_var 0))))))), ?_⟩
    rintro os args Φ ⟨d, t, rfl, rfl, ht, hΦ⟩
    cases d with
    | ins _ _ _ => cases ht
    | _ =>
      walk_at "ss"
      exact hΦ
abbrev ct_common_divisor : Ct := fun os args Φ => ∃ a b : Nat, os = [] ∧ args = [.v (.int a), .v (.int b)] ∧ Φ (.int (Nat.gcd a b)) []
theorem ok_common_divisor (T : Txt P K mg base)  : DefOk P w K mg base 37 "common_divisor" ["one", "other"] [] ct_common_divisor := by
  refine mk_def T.g_common_divisor sc_common_divisor (by rintro os args Φ ⟨a, b, rfl, rfl, _⟩; rfl) (fun _ _ _ _ _ _ us hl => match us, hl with | [_, _], _ => rfl) (fun f cdv A outer s H E hr => ?b)
  case b =>
    have nd := (sc_common_divisor).nd
    have hu1 : (A.deeper (envOfC "common_divisor" (defScope s_common_divisor) s.heap.objs.size f cdv)).units + 1 < cLine := by have := hr.un; omega
    have hu64 : (A.deeper (envOfC "common_divisor" (defScope s_common_divisor) s.heap.objs.size f cdv)).units + 64 < cLine := by have := hr.un; omega
    have hu65 : (A.deeper (envOfC "common_divisor" (defScope s_common_divisor) s.heap.objs.size f cdv)).units + 65 < cLine := by have := hr.un; omega
    refine ⟨_, _,
      (jss_cons (js_while PassesOwn.never (jt_gt (je_var 1) je_int) (jss_one (js_par (i := 0) (j := 1) rfl nd rfl rfl (by decide) rfl rfl (je_var 1) (je_mod (je_var 0) (je_var 1)) (by rfl))))
      (jss_one (js_ret (je_var 0)))), ?_⟩
    rintro os args Φ ⟨a, b, rfl, rfl, hΦ⟩
    walk_at "ss"
    refine i_while (fun m S => ∃ x y : Nat, S = ⟨[], [some (.v (.int x)), some (.v (.int y))]⟩ ∧ m = y ∧ Nat.gcd x y = Nat.gcd a b) ⟨b, a, b, rfl, rfl, rfl⟩ ?_
    rintro m S ⟨x, y, rfl, rfl, hg⟩
    walk_at "ss"
    refine ⟨fun hc => ?_, fun hc => ?_⟩
    · have hy : 0 < m := by simpa using hc
      walk_at "ss"
      refine i_fI (by show (0 : Int) < m; omega) ?_
      walk_at "ss"
      refine ⟨x % m, Nat.mod_lt _ hy, m, x % m, rfl, rfl, ?_⟩
      rw [← hg, Nat.gcd_comm x m, Nat.gcd_rec m x, Nat.gcd_comm]
    · have hy : m = 0 := by simpa using hc
      subst hy
      rw [Nat.gcd_zero_right] at hg
      walk_at "ss"
      rw [hg]
      exact hΦ
abbrev ct_is_number : Ct := fun os args Φ => ∃ q, os = [] ∧ args = [.v (qD q)] ∧ Φ (.bl true) []
theorem ok_is_number (T : Txt P K mg base) (F_is_int : DefOk P w K mg base 37 "is_int" ["value"] [] ct_is_int) (F_common_divisor : DefOk P w K mg base 37 "common_divisor" ["one", "other"] [] ct_common_divisor) : DefOk P w K mg base 38 "is_number" ["value"] [] ct_is_number := by
  refine mk_def T.g_is_number sc_is_number (by rintro os args Φ ⟨q, rfl, rfl, _⟩; rfl) (fun _ _ _ _ _ _ us hl => match us, hl with | [_], _ => rfl) (fun f cdv A outer s H E hr => ?b)
  case b =>
    have nd := (sc_is_number).nd
    have hu1 : (A.deeper (envOfC "is_number" (defScope s_is_number) s.heap.objs.size f cdv)).units + 1 < cLine := by have := hr.un; omega
    have hu64 : (A.deeper (envOfC "is_number" (defScope s_is_number) s.heap.objs.size f cdv)).units + 64 < cLine := by have := hr.un; omega
    have hu65 : (A.deeper (envOfC "is_number" (defScope s_is_number) s.heap.objs.size f cdv)).units + 65 < cLine := by have := hr.un; omega
    refine ⟨_, _,
      (jss_cons (js_if (jt_not (jt_val (jy_isi (K := K) rfl (T := "tuple") rfl T.b_isinstance rfl T.b_tuple (by decide +kernel) (by decide) (by decide) (je_var 0)))) (jss_one (js_ret (jc F_is_int (hr.mono (by decide)) rfl (ja_cons (je_var 0) ja_nil)))) jss_nil)
      (jss_cons (js_if (JW.pt (jw_or (jyt_ne (K := K) rfl hu64 (jy_len (K := K) rfl rfl T.b_len (ja_cons (je_var 0) ja_nil)) je_int) (jw_or (jt_not (jt_val (jc F_is_int (hr.mono (by decide)) rfl (ja_cons (jy_ix (K := K) rfl (je_var 0) je_int) ja_nil)))) (jw_or1 (jt_not (jt_val (jc F_is_int (hr.mono (by decide)) rfl (ja_cons (jy_ix (K := K) rfl (je_var 0) je_int) ja_nil)))))))) (jss_one (js_ret je_bl)) jss_nil)
      (jss_one (js_ret (je_and (jc_ge (jy_ix (K := K) rfl (je_var 0) je_int) je_int) (je_one (jy_eq (K := K) rfl hu64 (jc F_common_divisor (hr.mono (by decide)) rfl (ja_cons (je_abs rfl T.b_abs (ja_cons (jy_ix (K := K) rfl (je_var 0) je_int) ja_nil)) (ja_cons (jy_ix (K := K) rfl (je_var 0) je_int) ja_nil))) je_int))))))), ?_⟩
    rintro os args Φ ⟨q, rfl, rfl, hΦ⟩
    by_cases hd : q.den = 1
    · rw [qD_int hd]
      walk_at "ss"
      refine ⟨_, "int", rfl, rfl, rfl, ?_⟩
      walk_at "ss"
      exact hΦ
    · rw [qD_tup hd]
      have hd2 := q.den_pos
      walk_at "ss"
      refine ⟨_, "int", rfl, rfl, rfl, ?_⟩
      walk_at "ss"
      refine ⟨_, "int", rfl, rfl, rfl, ?_⟩
      walk_at "ss"
      refine i_kAndVT (by exact decide_eq_true (by omega)) ?_
      walk_at "ss"
      refine ⟨q.num.natAbs, q.den, rfl, rfl, ?_⟩
      rw [show q.num.natAbs.gcd q.den = 1 from q.reduced]
      walk_at "ss"
      exact hΦ
abbrev ct_pair_of : Ct := fun os args Φ => ∃ q, os = [] ∧ args = [.v (qD q)] ∧ Φ (.tup [.int q.num, .int q.den]) []
theorem ok_pair_of (T : Txt P K mg base)  : DefOk P w K mg base 37 "pair_of" ["one"] [] ct_pair_of := by
  refine mk_def T.g_pair_of sc_pair_of (by rintro os args Φ ⟨q, rfl, rfl, _⟩; rfl) (fun _ _ _ _ _ _ us hl => match us, hl with | [_], _ => rfl) (fun f cdv A outer s H E hr => ?b)
  case b =>
    have nd := (sc_pair_of).nd
    have hu1 : (A.deeper (envOfC "pair_of" (defScope s_pair_of) s.heap.objs.size f cdv)).units + 1 < cLine := by have := hr.un; omega
    have hu64 : (A.deeper (envOfC "pair_of" (defScope s_pair_of) s.heap.objs.size f cdv)).units + 64 < cLine := by have := hr.un; omega
    have hu65 : (A.deeper (envOfC "pair_of" (defScope s_pair_of) s.heap.objs.size f cdv)).units + 65 < cLine := by have := hr.un; omega
    refine ⟨_, _,
      (jss_one (js_ret (je_if (jt_val (jy_isi (K := K) rfl (T := "tuple") rfl T.b_isinstance rfl T.b_tuple (by decide +kernel) (by decide) (by decide) (je_var 0))) (je_var 0) (je_new (jn_tup (ja_cons (je_var 0) (ja_cons je_int ja_nil))))))), ?_⟩
    rintro os args Φ ⟨q, rfl, rfl, hΦ⟩
    by_cases hd : q.den = 1
    · rw [qD_int hd]
      rw [hd] at hΦ
      walk_at "ss"
      exact hΦ
    · rw [qD_tup hd]
      walk_at "ss"
      exact hΦ
abbrev ct_number_of : Ct := fun os args Φ => ∃ (t : Int) (b : Nat), os = [] ∧ args = [.v (.int t), .v (.int b)] ∧ 0 < b ∧ Φ (qD (mkRat t b)) []
theorem ok_number_of (T : Txt P K mg base) (F_common_divisor : DefOk P w K mg base 37 "common_divisor" ["one", "other"] [] ct_common_divisor) : DefOk P w K mg base 38 "number_of" ["top", "bottom"] [] ct_number_of := by
  refine mk_def T.g_number_of sc_number_of (by rintro os args Φ ⟨t, b, rfl, rfl, _⟩; rfl) (fun _ _ _ _ _ _ us hl => match us, hl with | [_, _], _ => rfl) (fun f cdv A outer s H E hr => ?b)
  case b =>
    have nd := (sc_number_of).nd
    have hu1 : (A.deeper (envOfC "number_of" (defScope s_number_of) s.heap.objs.size f cdv)).units + 1 < cLine := by have := hr.un; omega
    have hu64 : (A.deeper (envOfC "number_of" (defScope s_number_of) s.heap.objs.size f cdv)).units + 64 < cLine := by have := hr.un; omega
    have hu65 : (A.deeper (envOfC "number_of" (defScope s_number_of) s.heap.objs.size f cdv)).units + 65 < cLine := by have := hr.un; omega
    have SO : SeerOk (cxOf CX0 P w K mg base N_number_of "number_of" (defScope s_number_of) f cdv A outer s H E).nox := seer_cx (k := 37) (by decide) T.ns T.tr rfl rfl hr
    refine ⟨_, _,
      (jss_cons (js_if (jyt_eq (K := K) rfl hu64 (je_var 1) je_int) (jss_one (js_ret (je_var 0))) jss_nil)
      (jss_cons (js_set 2 nd rfl (by first | exact Or.inl rfl | exact Or.inr rfl) (jc F_common_divisor (hr.mono (by decide)) rfl (ja_cons (je_abs rfl T.b_abs (ja_cons (je_var 0) ja_nil)) (ja_cons (je_abs rfl T.b_abs (ja_cons (je_var 1) ja_nil)) ja_nil))))
      (jss_cons (js_if (jt_lt (je_var 1) je_int) (jss_one (js_set 2 nd rfl (by first | exact Or.inl rfl | exact Or.inr rfl) (je_sub je_int (je_var 2)))) jss_nil)
      (jss_cons (js_par (i := 0) (j := 1) rfl nd rfl rfl (by decide) rfl rfl (je_fdivP SO (je_var 0) (je_var 2)) (je_fdivP SO (je_var 1) (je_var 2)) (by rfl))
      (jss_one (js_ret (je_if (jyt_eq (K := K) rfl hu64 (je_var 1) je_int) (je_var 0) (je_new (jn_tup (ja_cons (je_var 0) (ja_cons (je_var 1) ja_nil))))))))))), ?_⟩
    rintro os args Φ ⟨t, b, rfl, rfl, hb, hΦ⟩
    have hg : 0 < t.natAbs.gcd b := Nat.gcd_pos_of_pos_right _ hb
    rw [qD_mk t b hb] at hΦ
    walk_at "ss"
    refine i_kIf (fun hc => ?_) (fun hc => ?_)
    · have hb1 : b = 1 := by have := of_decide_eq_true hc; omega
      subst hb1
      rw [Nat.gcd_one_right, if_pos (by decide)] at hΦ
      walk_at "ss"
      simpa using hΦ
    · walk_at "ss"
      refine ⟨t.natAbs, b, rfl, rfl, ?_⟩
      walk_at "ss"
      refine i_fI (show (0 : Int) < (t.natAbs.gcd b : Nat) by omega) ?_
      walk_at "ss"
      refine i_fI (show (0 : Int) < (t.natAbs.gcd b : Nat) by omega) ?_
      walk_at "ss"
      have e : ((b : Int) / ((t.natAbs.gcd b : Nat) : Int) = 1) ↔ b / t.natAbs.gcd b = 1 := by rw [← Int.natCast_ediv]; omega
      by_cases h1 : b / t.natAbs.gcd b = 1
      · rw [if_pos h1] at hΦ
        refine i_kIfET (decide_eq_true (e.mpr h1)) ?_
        walk_at "ss"
        exact hΦ
      · rw [if_neg h1] at hΦ
        refine i_kIfEF (decide_eq_false fun z => h1 (e.mp z)) ?_
        walk_at "ss"
        exact hΦ
abbrev ct_less : Ct := fun os args Φ => ∃ (a b : Rat) (n m : Nat), os = [] ∧ args = [.v (qD a), .v (qD b)] ∧ B n a ∧ B m b ∧ n + m < 100000000 ∧ Φ (.bl (decide (a < b))) []
theorem ok_less (T : Txt P K mg base) (F_pair_of : DefOk P w K mg base 37 "pair_of" ["one"] [] ct_pair_of) : DefOk P w K mg base 38 "less" ["one", "other"] [] ct_less := by
  refine mk_def T.g_less sc_less (by rintro os args Φ ⟨a, b, n, m, rfl, rfl, _⟩; rfl) (fun _ _ _ _ _ _ us hl => match us, hl with | [_, _], _ => rfl) (fun f cdv A outer s H E hr => ?b)
  case b =>
    have nd := (sc_less).nd
    have hu1 : (A.deeper (envOfC "less" (defScope s_less) s.heap.objs.size f cdv)).units + 1 < cLine := by have := hr.un; omega
    have hu64 : (A.deeper (envOfC "less" (defScope s_less) s.heap.objs.size f cdv)).units + 64 < cLine := by have := hr.un; omega
    have hu65 : (A.deeper (envOfC "less" (defScope s_less) s.heap.objs.size f cdv)).units + 65 < cLine := by have := hr.un; omega
    refine ⟨_, _,
      (jss_cons (js_par (i := 2) (j := 3) rfl nd rfl rfl (by decide) rfl rfl (jc F_pair_of (hr.mono (by decide)) rfl (ja_cons (je_var 0) ja_nil)) (jc F_pair_of (hr.mono (by decide)) rfl (ja_cons (je_var 1) ja_nil)) (by rfl))
      (jss_one (js_ret (jc_lt (je_mul (jy_ix (K := K) rfl (je_var 2) je_int) (jy_ix (K := K) rfl (je_var 3) je_int)) (je_mul (jy_ix (K := K) rfl (je_var 3) je_int) (jy_ix (K := K) rfl (je_var 2) je_int)))))), ?_⟩
    rintro os args Φ ⟨a, b, n, m, rfl, rfl, ha, hb, hn, hΦ⟩
    walk_at "ss"
    refine ⟨a, rfl, rfl, ?_⟩
    walk_at "ss"
    refine ⟨b, rfl, rfl, ?_⟩
    walk_at "ss"
    refine i_fI (cmul_of ha.1 (nat_lt2 hb.2) hn) ?_
    walk_at "ss"
    refine i_fI (cmul_of hb.1 (nat_lt2 ha.2) (by omega)) ?_
    walk_at "ss"
    rw [show decide (a.num * (b.den : Int) < b.num * (a.den : Int)) = decide (a < b) from decide_eq_decide.mpr (Rat.lt_iff a b).symm]
    exact hΦ
abbrev ct_require_number : Ct := fun os args Φ => ∃ q, os = [] ∧ args = [.v (qD q), .v .non] ∧ Φ .non []
theorem ok_require_number (T : Txt P K mg base) (F_less : DefOk P w K mg base 38 "less" ["one", "other"] [] ct_less) (F_is_number : DefOk P w K mg base 38 "is_number" ["value"] [] ct_is_number) : DefOk P w K mg base 39 "require_number" ["value", "least"] [.non] ct_require_number := by
  refine mk_def1 T.g_require_number sc_require_number (by rintro os args Φ ⟨q, rfl, rfl, _⟩; rfl) 1 rfl (fun _ _ _ _ _ _ _ us its hu hi => match us, hu, its, hi with | [_], _, [_], _ => ⟨_, rfl, rfl⟩) (fun f cdv A outer s H E hr => ?b)
  case b =>
    have nd := (sc_require_number).nd
    have hu1 : (A.deeper (envOfC "require_number" (defScope s_require_number) s.heap.objs.size f cdv)).units + 1 < cLine := by have := hr.un; omega
    have hu64 : (A.deeper (envOfC "require_number" (defScope s_require_number) s.heap.objs.size f cdv)).units + 64 < cLine := by have := hr.un; omega
    have hu65 : (A.deeper (envOfC "require_number" (defScope s_require_number) s.heap.objs.size f cdv)).units + 65 < cLine := by have := hr.un; omega
    refine ⟨_, _,
      (jss_one (js_if (JW.pt (jw_or (jt_not (jt_val (jc F_is_number (hr.mono (by decide)) rfl (ja_cons (je_var 0) ja_nil)))) (jw_or1 (JW.pt (jw_and (jt_notN (je_var 1)) (jw_and1 (jt_val (jc F_less (hr.mono (by decide)) rfl (ja_cons (je_var 0) (ja_cons (je_var 1) ja_nil)))))))))) (jss_one js_never) jss_nil)), ?_⟩
    rintro os args Φ ⟨q, rfl, rfl, hΦ⟩
    walk_at "ss"
    refine ⟨q, rfl, rfl, ?_⟩
    walk_at "ss"
    exact hΦ
abbrev ct_require_positive : Ct := fun os args Φ => ∃ (q : Rat) (n : Nat), os = [] ∧ args = [.v (qD q)] ∧ B n q ∧ n < 99999999 ∧ 0 < q ∧ Φ .non []
theorem ok_require_positive (T : Txt P K mg base) (F_less : DefOk P w K mg base 38 "less" ["one", "other"] [] ct_less) (F_is_number : DefOk P w K mg base 38 "is_number" ["value"] [] ct_is_number) : DefOk P w K mg base 39 "require_positive" ["value"] [] ct_require_positive := by
  refine mk_def T.g_require_positive sc_require_positive (by rintro os args Φ ⟨q, n, rfl, rfl, _⟩; rfl) (fun _ _ _ _ _ _ us hl => match us, hl with | [_], _ => rfl) (fun f cdv A outer s H E hr => ?b)
  case b =>
    have nd := (sc_require_positive).nd
    have hu1 : (A.deeper (envOfC "require_positive" (defScope s_require_positive) s.heap.objs.size f cdv)).units + 1 < cLine := by have := hr.un; omega
    have hu64 : (A.deeper (envOfC "require_positive" (defScope s_require_positive) s.heap.objs.size f cdv)).units + 64 < cLine := by have := hr.un; omega
    have hu65 : (A.deeper (envOfC "require_positive" (defScope s_require_positive) s.heap.objs.size f cdv)).units + 65 < cLine := by have := hr.un; omega
    refine ⟨_, _,
      (jss_one (js_if (JW.pt (jw_or (jt_not (jt_val (jc F_is_number (hr.mono (by decide)) rfl (ja_cons (je_var 0) ja_nil)))) (jw_or1 (jt_not (jt_val (jc F_less (hr.mono (by decide)) rfl (ja_cons je_int (ja_cons (je_var 0) ja_nil)))))))) (jss_one js_never) jss_nil)), ?_⟩
    rintro os args Φ ⟨q, n, rfl, rfl, hq, hn, h0, hΦ⟩
    walk_at "ss"
    refine ⟨q, rfl, rfl, ?_⟩
    walk_at "ss"
    refine ⟨0, q, 1, n, rfl, rfl, ⟨by decide, by decide⟩, hq, by omega, ?_⟩
    rw [decide_eq_true h0]
    walk_at "ss"
    exact hΦ
end
end K73
set_option Elab.async false
set_option linter.all false
set_option maxRecDepth 100000
set_option autoImplicit false
set_option maxHeartbeats 0
namespace K73
open PySem L2 S PyProof.Rows
local macro_rules | `(tactic| walk_at "s") => `(tactic| first
  | (with_reducible apply i_seq)
  | (with_reducible apply i_asg)
  | (with_reducible apply i_gname)
  | (with_reducible apply i_op)
  | (with_reducible apply i_c)
  | ((with_reducible apply i_var); focus (rfl))
  | (with_reducible apply i_cons)
  | (with_reducible apply i_nil)
  | (with_reducible apply i_next)
  | (with_reducible apply i_ret)
  | (with_reducible apply i_drop)
  | (with_reducible apply i_ifS)
  | (with_reducible apply i_test)
  | (with_reducible apply i_kTest)
  | (with_reducible apply i_and)
  | (with_reducible apply i_or)
  | (with_reducible apply i_not)
  | (with_reducible apply i_andV)
  | (with_reducible apply i_orV)
  | (with_reducible apply i_notV)
  | (with_reducible apply i_kNotV)
  | (with_reducible apply i_ifE)
  | (with_reducible apply i_tup)
  | (with_reducible apply i_lst)
  | (with_reducible apply i_call)
  | (with_reducible apply i_cb)
  | (with_reducible apply i_isi)
  | (with_reducible apply i_isN)
  | (with_reducible apply i_notN)
  | ((with_reducible apply i_bt); focus (rfl))
  | ((with_reducible apply i_bf); focus (rfl))
  | ((with_reducible apply i_kIfT); focus (rfl))
  | ((with_reducible apply i_kIfF); focus (rfl))
  | ((with_reducible apply i_kAndT); focus (rfl))
  | ((with_reducible apply i_kAndF); focus (rfl))
  | ((with_reducible apply i_kOrT); focus (rfl))
  | ((with_reducible apply i_kOrF); focus (rfl))
  | ((with_reducible apply i_kAndVT); focus (rfl))
  | ((with_reducible apply i_kAndVF); focus (rfl))
  | ((with_reducible apply i_kOrVT); focus (rfl))
  | ((with_reducible apply i_kOrVF); focus (rfl))
  | ((with_reducible apply i_kIfET); focus (rfl))
  | ((with_reducible apply i_kIfEF); focus (rfl))
  | ((with_reducible apply i_kIsi); focus (rfl))
  | ((with_reducible apply i_kTup); (focus rfl); (focus (exact Nat.le_of_ble_eq_true rfl)))
  | ((with_reducible apply i_kLst); (focus rfl); (focus (exact Nat.le_of_ble_eq_true rfl)))
  | ((with_reducible apply i_kCall); focus (rfl))
  | ((with_reducible apply i_kCallD); focus (rfl))
  | ((with_reducible apply i_kCallO); (focus rfl); (focus rfl))
  | ((with_reducible apply i_kCB); focus (rfl))
  | ((with_reducible apply i_gtup); focus (rfl))
  | ((with_reducible apply i_glst); focus (rfl))
  | (with_reducible apply i_fI0)
  | (with_reducible apply i_absN)
  | (with_reducible apply i_int)
  | (with_reducible apply i_intB)
  | (with_reducible apply i_eqI)
  | (with_reducible apply i_neI)
  | (with_reducible apply i_eqQ)
  | (with_reducible apply i_neQ)
  | (with_reducible apply i_eqQi)
  | (with_reducible apply i_neQi)
  | (with_reducible apply i_gcons)
  | (with_reducible apply i_gnil)
  | (with_reducible apply i_own)
  | (with_reducible apply i_par)
  | (with_reducible apply i_parN)
  | (with_reducible apply i_parNN)
  | (with_reducible apply i_setC)
  | (with_reducible apply i_lenL)
  | (with_reducible apply i_lenT)
  | (with_reducible apply i_lenD)
  | (with_reducible apply i_for)
  | (with_reducible apply i_forC)
  | (with_reducible apply i_wiL)
  | (with_reducible apply i_kWL)
  | (with_reducible apply i_wiDic)
  | (with_reducible apply i_mDic)
  | (with_reducible apply i_wiS)
  | (with_reducible apply i_kWS)
  | (with_reducible apply i_lc)
  | (with_reducible apply i_dc)
  | (with_reducible apply i_yes)
  | (with_reducible apply i_sl)
  | (with_reducible apply i_kSl)
  | (with_reducible apply i_oN)
  | (with_reducible apply i_oS)
  | (with_reducible apply i_kO)
  | (with_reducible apply i_rep)
  | (with_reducible apply i_chain)
  | (with_reducible apply i_sign)
  | (with_reducible apply i_wmSeq)
  | (with_reducible apply i_wmRet)
  | (with_reducible apply i_wiR1)
  | (with_reducible apply i_wiEnum)
  | (with_reducible apply i_kEn)
  | (with_reducible apply i_wiEnumK)
  | (with_reducible apply i_kEnK)
  | (with_reducible apply i_retN)
  | ((with_reducible apply i_ixT); focus (rfl))
  | ((with_reducible apply i_ixL); focus (rfl))
  | ((with_reducible apply i_kChT); focus (rfl))
  | ((with_reducible apply i_consO); focus (rfl))
  | (with_reducible apply i_dic0)
  | (with_reducible apply i_dputO)
  | ((with_reducible apply i_kDput1); focus (rfl))
  | ((with_reducible apply i_ixV); focus (rfl))
  | ((with_reducible apply i_pop); focus (rfl))
  | ((with_reducible apply i_neO); focus (rfl))
  | ((with_reducible apply i_ext); focus (rfl))
  | (with_reducible apply i_lv)
  | (with_reducible apply i_kLV)
  | (with_reducible apply i_listL)
  | ((with_reducible apply i_lenO); focus (rfl))
  | ((with_reducible apply i_ixC); (focus rfl); (focus rfl))
  | ((with_reducible apply i_end1); focus (rfl))
  | (with_reducible apply i_max2)
  | (with_reducible apply i_min2)
  | (with_reducible apply i_end0')
  | (with_reducible apply i_end0n)
  | (with_reducible apply i_endM))
local macro_rules | `(tactic| walk_at "ss") => `(tactic| repeat walk_at "s")

section
variable {P : Program} {w : World} {K : PySem.W.Frag} {mg : Str → Option Value} {base : Heap}
abbrev ct_total : Ct := fun os args Φ => ∃ (qs : List Rat) (n : Nat), os = [] ∧ args = [.v (.lst (qs.map qD))] ∧ (∀ q ∈ qs, B n q) ∧ (qs.length + 1) * (n + 1) < 90000000 ∧ Φ (qD (sumL qs)) []
theorem ok_total (T : Txt P K mg base) (F_pair_of : DefOk P w K mg base 37 "pair_of" ["one"] [] ct_pair_of) (F_number_of : DefOk P w K mg base 38 "number_of" ["top", "bottom"] [] ct_number_of) : DefOk P w K mg base 39 "total" ["numbers"] [] ct_total := by
  refine mk_def T.g_total sc_total (by rintro os args Φ ⟨qs, n, rfl, rfl, _⟩; rfl) (fun _ _ _ _ _ _ us hl => match us, hl with | [_], _ => rfl) (fun f cdv A outer s H E hr => ?b)
  case b =>
    have nd := (sc_total).nd
    have hu1 : (A.deeper (envOfC "total" (defScope s_total) s.heap.objs.size f cdv)).units + 1 < cLine := by have := hr.un; omega
    have hu64 : (A.deeper (envOfC "total" (defScope s_total) s.heap.objs.size f cdv)).units + 64 < cLine := by have := hr.un; omega
    have hu65 : (A.deeper (envOfC "total" (defScope s_total) s.heap.objs.size f cdv)).units + 65 < cLine := by have := hr.un; omega
    refine ⟨_, _,
      (jss_cons (js_asg (je_new (jn_tup (ja_cons je_int (ja_cons je_int ja_nil)))) (jx_tup (n := 2) rfl (jgs_cons (jg_name 1 nd rfl (by first | exact Or.inl rfl | exact Or.inr rfl)) (jgs_cons (jg_name 2 nd rfl (by first | exact Or.inl rfl | exact Or.inr rfl)) jgs_nil))))
      (jss_cons (js_for PassesOwn.never rfl (ji_list (je_var 0)) (jg_name 3 nd rfl (by first | exact Or.inl rfl | exact Or.inr rfl)) (jss_cons (js_set 4 nd rfl (by first | exact Or.inl rfl | exact Or.inr rfl) (jc F_pair_of (hr.mono (by decide)) rfl (ja_cons (je_var 3) ja_nil)))
      (jss_one (js_if (jyt_eq (K := K) rfl hu64 (jy_ix (K := K) rfl (je_var 4) je_int) (je_var 2)) (jss_one (js_set 1 nd rfl (by first | exact Or.inl rfl | exact Or.inr rfl) (je_add (je_var 1) (jy_ix (K := K) rfl (je_var 4) je_int)))) (jss_one (js_par (i := 1) (j := 2) rfl nd rfl rfl (by decide) rfl rfl (je_add (je_mul (je_var 1) (jy_ix (K := K) rfl (je_var 4) je_int)) (je_mul (jy_ix (K := K) rfl (je_var 4) je_int) (je_var 2))) (je_mul (je_var 2) (jy_ix (K := K) rfl (je_var 4) je_int)) (by rfl)))))))
      (jss_one (js_ret (jc F_number_of (hr.mono (by decide)) rfl (ja_cons (je_var 1) (ja_cons (je_var 2) ja_nil))))))), ?_⟩
    rintro os args Φ ⟨qs, n, rfl, rfl, hq, hn, hΦ⟩
    walk_at "ss"
    refine i_kFor (fun i S => ∃ (t : Int) (b : Nat) (x y : Option _root_.S.Arg), S = ⟨[], [some (.v (.lst (qs.map qD))), some (.v (.int t)), some (.v (.int b)), x, y]⟩ ∧ 0 < b ∧ mkRat t b = sumL (qs.take i) ∧ t.natAbs < 2 ^ (i * (n + 1) + 1) ∧ b < 2 ^ (i * (n + 1) + 1)) ?h0 ?h1 ?h2
    case h0 =>
      refine ⟨0, 1, none, none, rfl, by decide, by rw [mkRat_one]; rfl, ?_, ?_⟩
      · rw [Nat.zero_mul]; decide
      · rw [Nat.zero_mul]; decide
    case h1 =>
      rintro i d S hd ⟨t, b, x, y, rfl, hb, hs, h1, h2⟩
      rw [List.getElem?_map] at hd
      obtain ⟨q, hqi, rfl⟩ := Option.map_eq_some_iff.mp hd
      have hi : i < qs.length := (List.getElem?_eq_some_iff.mp hqi).1
      have bq := hq q (List.mem_of_getElem? hqi)
      have nq : n < n + 1 := Nat.lt_succ_self n
      have hin : i * (n + 1) + 1 + n < 90000000 := by
        have h3 : (i + 2) * (n + 1) ≤ (qs.length + 1) * (n + 1) := Nat.mul_le_mul_right _ (by omega)
        have h4 : (i + 2) * (n + 1) = i * (n + 1) + 2 * (n + 1) := Nat.add_mul _ _ _
        omega
      have hst : sumL (qs.take (i + 1)) = sumL (qs.take i) + q := by rw [List.take_succ, hqi, Option.toList_some, sumL_snoc]
      have hexp : (i + 1) * (n + 1) + 1 = i * (n + 1) + 1 + n + 1 := by rw [Nat.succ_mul]; omega
      walk_at "ss"
      refine ⟨q, rfl, rfl, ?_⟩
      walk_at "ss"
      refine i_kIf (fun hc => ?_) (fun hc => ?_)
      · have hb1 : q.den = b := by have := of_decide_eq_true hc; omega
        walk_at "ss"
        refine ⟨t + q.num, b, _, _, rfl, hb, ?_, ?_, ?_⟩
        · rw [hst, ← hs]
          conv => rhs; rhs; rw [← Rat.mkRat_self q, hb1]
          exact (mkRat_same t b q.num (by omega)).symm
        · rw [hexp]
          exact iadd_lt2 (Nat.lt_of_lt_of_le h1 (two_le (by omega))) (Nat.lt_of_lt_of_le bq.1 (two_le (by omega)))
        · exact Nat.lt_of_lt_of_le h2 (two_le (by omega))
      · walk_at "ss"
        refine i_fI (cmul_of h1 (nat_lt2 bq.2) (by omega)) ?_
        walk_at "ss"
        refine i_fI (cmul_of bq.1 (nat_lt2 h2) (by omega)) ?_
        walk_at "ss"
        refine i_fI (cmul_of (nat_lt2 h2) (nat_lt2 bq.2) (by omega)) ?_
        walk_at "ss"
        refine ⟨t * (q.den : Int) + q.num * (b : Int), b * q.den, some (.v (qD q)), some (.v (.tup [.int q.num, .int q.den])), ?_, Nat.mul_pos hb q.den_pos, ?_, ?_, ?_⟩
        · rw [Int.natCast_mul]; rfl
        · rw [hst, ← hs]
          exact (mkRat_den_mul t b q (by omega)).symm
        · rw [hexp]
          refine iadd_lt2 (imul_lt2 h1 (nat_lt2 bq.2)) ?_
          rw [Nat.add_comm _ n]
          exact imul_lt2 bq.1 (nat_lt2 h2)
        · exact Nat.lt_of_lt_of_le (mul_lt2 h2 bq.2) (two_le (by omega))
    case h2 =>
      rintro S ⟨t, b, x, y, rfl, hb, hs, h1, h2⟩
      rw [List.length_map, List.take_length] at hs
      walk_at "ss"
      refine ⟨t, b, rfl, rfl, hb, ?_⟩
      rw [hs]
      walk_at "ss"
      exact hΦ
abbrev ct_plus : Ct := fun os args Φ => ∃ (a b : Rat) (n m : Nat), os = [] ∧ args = [.v (qD a), .v (qD b)] ∧ B n a ∧ B m b ∧ n + m < 25000000 ∧ Φ (qD (a + b)) []
theorem ok_plus (T : Txt P K mg base) (F_require_number : DefOk P w K mg base 39 "require_number" ["value", "least"] [.non] ct_require_number) (F_total : DefOk P w K mg base 39 "total" ["numbers"] [] ct_total) : DefOk P w K mg base 40 "plus" ["one", "other"] [] ct_plus := by
  refine mk_def T.g_plus sc_plus (by rintro os args Φ ⟨a, b, n, m, rfl, rfl, _⟩; rfl) (fun _ _ _ _ _ _ us hl => match us, hl with | [_, _], _ => rfl) (fun f cdv A outer s H E hr => ?b)
  case b =>
    have nd := (sc_plus).nd
    have hu1 : (A.deeper (envOfC "plus" (defScope s_plus) s.heap.objs.size f cdv)).units + 1 < cLine := by have := hr.un; omega
    have hu64 : (A.deeper (envOfC "plus" (defScope s_plus) s.heap.objs.size f cdv)).units + 64 < cLine := by have := hr.un; omega
    have hu65 : (A.deeper (envOfC "plus" (defScope s_plus) s.heap.objs.size f cdv)).units + 65 < cLine := by have := hr.un; omega
    refine ⟨_, _,
      (jss_cons (js_expr (jcD .non (fun _ => rfl) F_require_number (hr.mono (by decide)) rfl (ja_cons (je_var 0) ja_nil)))
      (jss_cons (js_expr (jcD .non (fun _ => rfl) F_require_number (hr.mono (by decide)) rfl (ja_cons (je_var 1) ja_nil)))
      (jss_one (js_ret (jc F_total (hr.mono (by decide)) rfl (ja_cons (je_new (jn_lst (ja_cons (je_var 0) (ja_cons (je_var 1) ja_nil)))) ja_nil)))))), ?_⟩
    rintro os args Φ ⟨a, b, n, m, rfl, rfl, ha, hb, hn, hΦ⟩
    walk_at "ss"
    refine ⟨a, rfl, rfl, ?_⟩
    walk_at "ss"
    refine ⟨b, rfl, rfl, ?_⟩
    walk_at "ss"
    refine ⟨[a, b], n + m, rfl, rfl, ?_, ?_, ?_⟩
    · intro q hq
      simp only [List.mem_cons, List.not_mem_nil, or_false] at hq
      rcases hq with rfl | rfl
      · exact ha.mono (by omega)
      · exact hb.mono (by omega)
    · show 3 * (n + m + 1) < _
      omega
    · rw [sumL_cons, sumL_cons, sumL_nil, Rat.add_zero]
      walk_at "ss"
      exact hΦ
abbrev ct_times : Ct := fun os args Φ => ∃ (a b : Rat) (n m : Nat), os = [] ∧ args = [.v (qD a), .v (qD b)] ∧ B n a ∧ B m b ∧ n + m < 90000000 ∧ Φ (qD (a * b)) []
theorem ok_times (T : Txt P K mg base) (F_require_number : DefOk P w K mg base 39 "require_number" ["value", "least"] [.non] ct_require_number) (F_pair_of : DefOk P w K mg base 37 "pair_of" ["one"] [] ct_pair_of) (F_number_of : DefOk P w K mg base 38 "number_of" ["top", "bottom"] [] ct_number_of) : DefOk P w K mg base 40 "times" ["one", "other"] [] ct_times := by
  refine mk_def T.g_times sc_times (by rintro os args Φ ⟨a, b, n, m, rfl, rfl, _⟩; rfl) (fun _ _ _ _ _ _ us hl => match us, hl with | [_, _], _ => rfl) (fun f cdv A outer s H E hr => ?b)
  case b =>
    have nd := (sc_times).nd
    have hu1 : (A.deeper (envOfC "times" (defScope s_times) s.heap.objs.size f cdv)).units + 1 < cLine := by have := hr.un; omega
    have hu64 : (A.deeper (envOfC "times" (defScope s_times) s.heap.objs.size f cdv)).units + 64 < cLine := by have := hr.un; omega
    have hu65 : (A.deeper (envOfC "times" (defScope s_times) s.heap.objs.size f cdv)).units + 65 < cLine := by have := hr.un; omega
    refine ⟨_, _,
      (jss_cons (js_expr (jcD .non (fun _ => rfl) F_require_number (hr.mono (by decide)) rfl (ja_cons (je_var 0) ja_nil)))
      (jss_cons (js_expr (jcD .non (fun _ => rfl) F_require_number (hr.mono (by decide)) rfl (ja_cons (je_var 1) ja_nil)))
      (jss_cons (js_par (i := 2) (j := 3) rfl nd rfl rfl (by decide) rfl rfl (jc F_pair_of (hr.mono (by decide)) rfl (ja_cons (je_var 0) ja_nil)) (jc F_pair_of (hr.mono (by decide)) rfl (ja_cons (je_var 1) ja_nil)) (by rfl))
      (jss_one (js_ret (jc F_number_of (hr.mono (by decide)) rfl (ja_cons (je_mul (jy_ix (K := K) rfl (je_var 2) je_int) (jy_ix (K := K) rfl (je_var 3) je_int)) (ja_cons (je_mul (jy_ix (K := K) rfl (je_var 2) je_int) (jy_ix (K := K) rfl (je_var 3) je_int)) ja_nil)))))))), ?_⟩
    rintro os args Φ ⟨a, b, n, m, rfl, rfl, ha, hb, hn, hΦ⟩
    walk_at "ss"
    refine ⟨a, rfl, rfl, ?_⟩
    walk_at "ss"
    refine ⟨b, rfl, rfl, ?_⟩
    walk_at "ss"
    refine ⟨a, rfl, rfl, ?_⟩
    walk_at "ss"
    refine ⟨b, rfl, rfl, ?_⟩
    walk_at "ss"
    refine i_fI (cmul_of ha.1 hb.1 (by omega)) ?_
    walk_at "ss"
    refine i_fI (cmul_of (nat_lt2 ha.2) (nat_lt2 hb.2) (by omega)) ?_
    walk_at "ss"
    refine ⟨a.num * b.num, a.den * b.den, rfl, by rw [Int.natCast_mul], Nat.mul_pos a.den_pos b.den_pos, ?_⟩
    rw [← Rat.mul_def']
    walk_at "ss"
    exact hΦ
abbrev ct_over : Ct := fun os args Φ => ∃ (a b : Rat) (n m : Nat), os = [] ∧ args = [.v (qD a), .v (qD b)] ∧ B n a ∧ B m b ∧ n + m < 90000000 ∧ 0 < b ∧ Φ (qD (a / b)) []
theorem ok_over (T : Txt P K mg base) (F_require_number : DefOk P w K mg base 39 "require_number" ["value", "least"] [.non] ct_require_number) (F_pair_of : DefOk P w K mg base 37 "pair_of" ["one"] [] ct_pair_of) (F_number_of : DefOk P w K mg base 38 "number_of" ["top", "bottom"] [] ct_number_of) : DefOk P w K mg base 40 "over" ["one", "other"] [] ct_over := by
  refine mk_def T.g_over sc_over (by rintro os args Φ ⟨a, b, n, m, rfl, rfl, _⟩; rfl) (fun _ _ _ _ _ _ us hl => match us, hl with | [_, _], _ => rfl) (fun f cdv A outer s H E hr => ?b)
  case b =>
    have nd := (sc_over).nd
    have hu1 : (A.deeper (envOfC "over" (defScope s_over) s.heap.objs.size f cdv)).units + 1 < cLine := by have := hr.un; omega
    have hu64 : (A.deeper (envOfC "over" (defScope s_over) s.heap.objs.size f cdv)).units + 64 < cLine := by have := hr.un; omega
    have hu65 : (A.deeper (envOfC "over" (defScope s_over) s.heap.objs.size f cdv)).units + 65 < cLine := by have := hr.un; omega
    refine ⟨_, _,
      (jss_cons (js_expr (jcD .non (fun _ => rfl) F_require_number (hr.mono (by decide)) rfl (ja_cons (je_var 0) ja_nil)))
      (jss_cons (js_expr (jcD .non (fun _ => rfl) F_require_number (hr.mono (by decide)) rfl (ja_cons (je_var 1) ja_nil)))
      (jss_cons (js_if (jyt_eq (K := K) rfl hu64 (je_var 1) je_int) (jss_one js_never) jss_nil)
      (jss_cons (js_par (i := 2) (j := 3) rfl nd rfl rfl (by decide) rfl rfl (jc F_pair_of (hr.mono (by decide)) rfl (ja_cons (je_var 0) ja_nil)) (jc F_pair_of (hr.mono (by decide)) rfl (ja_cons (je_var 1) ja_nil)) (by rfl))
      (jss_one (js_ret (jc F_number_of (hr.mono (by decide)) rfl (ja_cons (je_mul (jy_ix (K := K) rfl (je_var 2) je_int) (jy_ix (K := K) rfl (je_var 3) je_int)) (ja_cons (je_mul (jy_ix (K := K) rfl (je_var 2) je_int) (jy_ix (K := K) rfl (je_var 3) je_int)) ja_nil))))))))), ?_⟩
    rintro os args Φ ⟨a, b, n, m, rfl, rfl, ha, hb, hn, h0, hΦ⟩
    walk_at "ss"
    refine ⟨a, rfl, rfl, ?_⟩
    walk_at "ss"
    refine ⟨b, rfl, rfl, ?_⟩
    walk_at "ss"
    have np := num_pos h0
    refine i_kIfF (by exact decide_eq_false (fun z => by rw [z] at h0; exact absurd h0 (by decide))) ?_
    walk_at "ss"
    refine ⟨a, rfl, rfl, ?_⟩
    walk_at "ss"
    refine ⟨b, rfl, rfl, ?_⟩
    walk_at "ss"
    refine i_fI (cmul_of ha.1 (nat_lt2 hb.2) (by omega)) ?_
    walk_at "ss"
    refine i_fI (cmul_of (nat_lt2 ha.2) hb.1 (by omega)) ?_
    walk_at "ss"
    refine ⟨a.num * (b.den : Int), a.den * b.num.toNat, rfl, ?_, Nat.mul_pos a.den_pos (by omega), ?_⟩
    · rw [Int.natCast_mul, Int.toNat_of_nonneg (by omega)]
    · rw [← div_mk h0]
      walk_at "ss"
      exact hΦ
abbrev ct_is_less : Ct := fun os args Φ => ∃ (a b : Rat) (n m : Nat), os = [] ∧ args = [.v (qD a), .v (qD b)] ∧ B n a ∧ B m b ∧ n + m < 90000000 ∧ Φ (.bl (decide (a < b))) []
theorem ok_is_less (T : Txt P K mg base) (F_require_number : DefOk P w K mg base 39 "require_number" ["value", "least"] [.non] ct_require_number) (F_less : DefOk P w K mg base 38 "less" ["one", "other"] [] ct_less) : DefOk P w K mg base 40 "is_less" ["one", "other"] [] ct_is_less := by
  refine mk_def T.g_is_less sc_is_less (by rintro os args Φ ⟨a, b, n, m, rfl, rfl, _⟩; rfl) (fun _ _ _ _ _ _ us hl => match us, hl with | [_, _], _ => rfl) (fun f cdv A outer s H E hr => ?b)
  case b =>
    have nd := (sc_is_less).nd
    have hu1 : (A.deeper (envOfC "is_less" (defScope s_is_less) s.heap.objs.size f cdv)).units + 1 < cLine := by have := hr.un; omega
    have hu64 : (A.deeper (envOfC "is_less" (defScope s_is_less) s.heap.objs.size f cdv)).units + 64 < cLine := by have := hr.un; omega
    have hu65 : (A.deeper (envOfC "is_less" (defScope s_is_less) s.heap.objs.size f cdv)).units + 65 < cLine := by have := hr.un; omega
    refine ⟨_, _,
      (jss_cons (js_expr (jcD .non (fun _ => rfl) F_require_number (hr.mono (by decide)) rfl (ja_cons (je_var 0) ja_nil)))
      (jss_cons (js_expr (jcD .non (fun _ => rfl) F_require_number (hr.mono (by decide)) rfl (ja_cons (je_var 1) ja_nil)))
      (jss_one (js_ret (jc F_less (hr.mono (by decide)) rfl (ja_cons (je_var 0) (ja_cons (je_var 1) ja_nil))))))), ?_⟩
    rintro os args Φ ⟨a, b, n, m, rfl, rfl, ha, hb, hn, hΦ⟩
    walk_at "ss"
    refine ⟨a, rfl, rfl, ?_⟩
    walk_at "ss"
    refine ⟨b, rfl, rfl, ?_⟩
    walk_at "ss"
    refine ⟨a, b, n, m, rfl, rfl, ha, hb, by omega, ?_⟩
    walk_at "ss"
    exact hΦ
abbrev ct_least_of : Ct := fun os args Φ => ∃ (a b : Rat) (n m : Nat), os = [] ∧ args = [.v (.lst [qD a, qD b])] ∧ B n a ∧ B m b ∧ n + m < 25000000 ∧ Φ (qD (minQ a b)) []
theorem ok_least_of (T : Txt P K mg base) (F_less : DefOk P w K mg base 38 "less" ["one", "other"] [] ct_less) : DefOk P w K mg base 39 "least_of" ["numbers"] [] ct_least_of := by
  refine mk_def T.g_least_of sc_least_of (by rintro os args Φ ⟨a, b, n, m, rfl, rfl, _⟩; rfl) (fun _ _ _ _ _ _ us hl => match us, hl with | [_], _ => rfl) (fun f cdv A outer s H E hr => ?b)
  case b =>
    have nd := (sc_least_of).nd
    have hu1 : (A.deeper (envOfC "least_of" (defScope s_least_of) s.heap.objs.size f cdv)).units + 1 < cLine := by have := hr.un; omega
    have hu64 : (A.deeper (envOfC "least_of" (defScope s_least_of) s.heap.objs.size f cdv)).units + 64 < cLine := by have := hr.un; omega
    have hu65 : (A.deeper (envOfC "least_of" (defScope s_least_of) s.heap.objs.size f cdv)).units + 65 < cLine := by have := hr.un; omega
    refine ⟨_, _,
      (jss_cons (js_set 1 nd rfl (by first | exact Or.inl rfl | exact Or.inr rfl) (jy_ix (K := K) rfl (je_var 0) je_int))
      (jss_cons (js_for PassesOwn.never rfl (ji_list (je_new (jyn_slice (K := K) rfl (je_var 0) (jo_some je_int) jo_none))) (jg_name 2 nd rfl (by first | exact Or.inl rfl | exact Or.inr rfl)) (jss_one (js_if (jt_val (jc F_less (hr.mono (by decide)) rfl (ja_cons (je_var 2) (ja_cons (je_var 1) ja_nil)))) (jss_one (js_set 1 nd rfl (by first | exact Or.inl rfl | exact Or.inr rfl) (je_var 2))) jss_nil)))
      (jss_one (js_ret (je_var 1))))), ?_⟩
    rintro os args Φ ⟨a, b, n, m, rfl, rfl, ha, hb, hn, hΦ⟩
    walk_at "ss"
    rw [show S.cutD [qD a, qD b] (some 1) none = [qD b] from rfl]
    refine i_kFor (fun i S => ∃ x : Option _root_.S.Arg, S = ⟨[], [some (.v (.lst [qD a, qD b])), some (.v (qD (if i = 0 then a else minQ a b))), x]⟩) ⟨none, rfl⟩ ?h1 ?h2
    case h1 =>
      rintro i d S hd ⟨x, rfl⟩
      match i, hd with
      | 0, hd =>
        have hd : qD b = d := by simpa using hd
        subst hd
        walk_at "ss"
        refine ⟨b, a, m, n, rfl, rfl, hb, ha, by omega, ?_⟩
        walk_at "ss"
        refine i_kIf (fun hc => ?_) (fun hc => ?_)
        · walk_at "ss"
          refine ⟨some (.v (qD b)), ?_⟩
          have e : (if 0 + 1 = 0 then a else minQ a b) = b := by rw [if_neg (by decide)]; unfold minQ; rw [if_pos (of_decide_eq_true hc)]
          rw [e]
          rfl
        · walk_at "ss"
          refine ⟨some (.v (qD b)), ?_⟩
          have e : (if 0 + 1 = 0 then a else minQ a b) = a := by rw [if_neg (by decide)]; unfold minQ; rw [if_neg (of_decide_eq_false hc)]
          rw [e]
          rfl
      | i + 1, hd => simp at hd
    case h2 =>
      rintro S ⟨x, rfl⟩
      walk_at "ss"
      exact hΦ
end
end K73
set_option Elab.async false
set_option linter.all false
set_option maxRecDepth 100000
set_option autoImplicit false
set_option maxHeartbeats 0
namespace K73
open PySem L2 S PyProof.Rows
local macro_rules | `(tactic| walk_at "s") => `(tactic| first
  | (with_reducible apply i_seq)
  | (with_reducible apply i_asg)
  | (with_reducible apply i_gname)
  | (with_reducible apply i_op)
  | (with_reducible apply i_c)
  | ((with_reducible apply i_var); focus (rfl))
  | (with_reducible apply i_cons)
  | (with_reducible apply i_nil)
  | (with_reducible apply i_next)
  | (with_reducible apply i_ret)
  | (with_reducible apply i_drop)
  | (with_reducible apply i_ifS)
  | (with_reducible apply i_test)
  | (with_reducible apply i_kTest)
  | (with_reducible apply i_and)
  | (with_reducible apply i_or)
  | (with_reducible apply i_not)
  | (with_reducible apply i_andV)
  | (with_reducible apply i_orV)
  | (with_reducible apply i_notV)
  | (with_reducible apply i_kNotV)
  | (with_reducible apply i_ifE)
  | (with_reducible apply i_tup)
  | (with_reducible apply i_lst)
  | (with_reducible apply i_call)
  | (with_reducible apply i_cb)
  | (with_reducible apply i_isi)
  | (with_reducible apply i_isN)
  | (with_reducible apply i_notN)
  | ((with_reducible apply i_bt); focus (rfl))
  | ((with_reducible apply i_bf); focus (rfl))
  | ((with_reducible apply i_kIfT); focus (rfl))
  | ((with_reducible apply i_kIfF); focus (rfl))
  | ((with_reducible apply i_kAndT); focus (rfl))
  | ((with_reducible apply i_kAndF); focus (rfl))
  | ((with_reducible apply i_kOrT); focus (rfl))
  | ((with_reducible apply i_kOrF); focus (rfl))
  | ((with_reducible apply i_kAndVT); focus (rfl))
  | ((with_reducible apply i_kAndVF); focus (rfl))
  | ((with_reducible apply i_kOrVT); focus (rfl))
  | ((with_reducible apply i_kOrVF); focus (rfl))
  | ((with_reducible apply i_kIfET); focus (rfl))
  | ((with_reducible apply i_kIfEF); focus (rfl))
  | ((with_reducible apply i_kIsi); focus (rfl))
  | ((with_reducible apply i_kTup); (focus rfl); (focus (exact Nat.le_of_ble_eq_true rfl)))
  | ((with_reducible apply i_kLst); (focus rfl); (focus (exact Nat.le_of_ble_eq_true rfl)))
  | ((with_reducible apply i_kCall); focus (rfl))
  | ((with_reducible apply i_kCallD); focus (rfl))
  | ((with_reducible apply i_kCallO); (focus rfl); (focus rfl))
  | ((with_reducible apply i_kCB); focus (rfl))
  | ((with_reducible apply i_gtup); focus (rfl))
  | ((with_reducible apply i_glst); focus (rfl))
  | (with_reducible apply i_fI0)
  | (with_reducible apply i_absN)
  | (with_reducible apply i_int)
  | (with_reducible apply i_intB)
  | (with_reducible apply i_eqI)
  | (with_reducible apply i_neI)
  | (with_reducible apply i_eqQ)
  | (with_reducible apply i_neQ)
  | (with_reducible apply i_eqQi)
  | (with_reducible apply i_neQi)
  | (with_reducible apply i_gcons)
  | (with_reducible apply i_gnil)
  | (with_reducible apply i_own)
  | (with_reducible apply i_par)
  | (with_reducible apply i_parN)
  | (with_reducible apply i_parNN)
  | (with_reducible apply i_setC)
  | (with_reducible apply i_lenL)
  | (with_reducible apply i_lenT)
  | (with_reducible apply i_lenD)
  | (with_reducible apply i_for)
  | (with_reducible apply i_forC)
  | (with_reducible apply i_wiL)
  | (with_reducible apply i_kWL)
  | (with_reducible apply i_wiDic)
  | (with_reducible apply i_mDic)
  | (with_reducible apply i_wiS)
  | (with_reducible apply i_kWS)
  | (with_reducible apply i_lc)
  | (with_reducible apply i_dc)
  | (with_reducible apply i_yes)
  | (with_reducible apply i_sl)
  | (with_reducible apply i_kSl)
  | (with_reducible apply i_oN)
  | (with_reducible apply i_oS)
  | (with_reducible apply i_kO)
  | (with_reducible apply i_rep)
  | (with_reducible apply i_chain)
  | (with_reducible apply i_sign)
  | (with_reducible apply i_wmSeq)
  | (with_reducible apply i_wmRet)
  | (with_reducible apply i_wiR1)
  | (with_reducible apply i_wiEnum)
  | (with_reducible apply i_kEn)
  | (with_reducible apply i_wiEnumK)
  | (with_reducible apply i_kEnK)
  | (with_reducible apply i_retN)
  | ((with_reducible apply i_ixT); focus (rfl))
  | ((with_reducible apply i_ixL); focus (rfl))
  | ((with_reducible apply i_kChT); focus (rfl))
  | ((with_reducible apply i_consO); focus (rfl))
  | (with_reducible apply i_dic0)
  | (with_reducible apply i_dputO)
  | ((with_reducible apply i_kDput1); focus (rfl))
  | ((with_reducible apply i_ixV); focus (rfl))
  | ((with_reducible apply i_pop); focus (rfl))
  | ((with_reducible apply i_neO); focus (rfl))
  | ((with_reducible apply i_ext); focus (rfl))
  | (with_reducible apply i_lv)
  | (with_reducible apply i_kLV)
  | (with_reducible apply i_listL)
  | ((with_reducible apply i_lenO); focus (rfl))
  | ((with_reducible apply i_ixC); (focus rfl); (focus rfl))
  | ((with_reducible apply i_end1); focus (rfl))
  | (with_reducible apply i_max2)
  | (with_reducible apply i_min2)
  | (with_reducible apply i_end0')
  | (with_reducible apply i_end0n)
  | (with_reducible apply i_endM))
local macro_rules | `(tactic| walk_at "ss") => `(tactic| repeat walk_at "s")

section
variable {P : Program} {w : World} {K : PySem.W.Frag} {mg : Str → Option Value} {base : Heap}
abbrev ct_is_name : Ct := fun os args Φ => ∃ x : Str, os = [] ∧ args = [.v (.str x)] ∧ nameOk x = true ∧ Φ (.bl true) []
theorem ok_is_name (T : Txt P K mg base)  : DefOk P w K mg base 37 "is_name" ["value"] [] ct_is_name := by
  refine mk_def T.g_is_name sc_is_name (by rintro os args Φ ⟨x, rfl, rfl, _⟩; rfl) (fun _ _ _ _ _ _ us hl => match us, hl with | [_], _ => rfl) (fun f cdv A outer s H E hr => ?b)
  case b =>
    have nd := (sc_is_name).nd
    have hu1 : (A.deeper (envOfC "is_name" (defScope s_is_name) s.heap.objs.size f cdv)).units + 1 < cLine := by have := hr.un; omega
    have hu64 : (A.deeper (envOfC "is_name" (defScope s_is_name) s.heap.objs.size f cdv)).units + 64 < cLine := by have := hr.un; omega
    have hu65 : (A.deeper (envOfC "is_name" (defScope s_is_name) s.heap.objs.size f cdv)).units + 65 < cLine := by have := hr.un; omega
    refine ⟨_, _,
      (jss_cons (js_if (JW.pt (jw_or (jt_not (jt_val (jy_isi (K := K) rfl (T := "str") rfl T.b_isinstance rfl T.b_str (by decide +kernel) (by decide) (by decide) (je_var 0)))) (jw_or1 (jt_not (jt_lele je_int (jy_len (K := K) rfl rfl T.b_len (ja_cons (je_var 0) ja_nil)) (je_gint rfl T.c_MOST_LETTERS)))))) (jss_one (js_ret je_bl)) jss_nil)
      (jss_one (js_ret (jy_all (K := K) rfl rfl rfl T.b_all (ja_cons (je_new (jn_lc rfl nd (ji_str (je_var 0)) (blkOk_by (own := [("letter", 1)]) (N := N_is_name) (sc := defScope s_is_name) (by decide +kernel)) (fun _ _ _ _ _ => (jg_name 1 nd rfl (by first | exact Or.inl rfl | exact Or.inr rfl))) (gw_name (by decide)) mg_name (fun _ _ _ _ _ => jts_nil) (fun _ _ _ _ _ => (je_sign (je_var 1) (je_gstr rfl T.c_LETTERS))))) ja_nil))))), ?_⟩
    rintro os args Φ ⟨x, rfl, rfl, hx, hΦ⟩
    unfold nameOk at hx
    rw [Bool.and_eq_true, Bool.and_eq_true] at hx
    have l1 : 1 ≤ x.length := of_decide_eq_true hx.1.1
    have l2 : x.length ≤ 8 := of_decide_eq_true hx.1.2
    walk_at "ss"
    refine i_lenS (by omega) ?_
    walk_at "ss"
    refine i_kChT (by exact decide_eq_true (by omega)) ?_
    walk_at "ss"
    rw [show decide ((x.length : Int) ≤ 8) = true from decide_eq_true (by omega)]
    walk_at "ss"
    refine i_kLcM (fun _ => .bl true) ?hl ?hb ?hk
    case hl =>
      show (signsD x).length < 16777216
      unfold signsD
      rw [List.length_map]
      have e : x.cps.toList.length = x.length := by simp [Str.length]
      omega
    case hb =>
      intro i d acc hd hi
      have hd' := hd
      unfold signsD at hd
      rw [List.getElem?_map] at hd
      obtain ⟨c, hc, rfl⟩ := Option.map_eq_some_iff.mp hd
      have hm := List.all_eq_true.mp hx.2 c (List.mem_of_getElem? hc)
      walk_at "ss"
      refine i_ivm hd' hi rfl ?_
      show D.bl (decide (c ∈ LET)) = .bl true
      rw [hm]
    case hk =>
      walk_at "ss"
      refine i_all (bs := (signsD x).map fun _ => true) ?_ ?_
      · exact blsD_map (fun _ => true) _
      · have e : ((signsD x).map fun _ => true).all id = true := by rw [List.all_map]; simp
        rw [e]
        walk_at "ss"
        exact hΦ
abbrev ct_is_positive : Ct := fun os args Φ => ∃ (q : Rat) (n : Nat), os = [] ∧ args = [.v (qD q)] ∧ B n q ∧ n < 10000000 ∧ 0 < q ∧ Φ (.bl true) []
theorem ok_is_positive (T : Txt P K mg base) (F_less : DefOk P w K mg base 38 "less" ["one", "other"] [] ct_less) (F_is_number : DefOk P w K mg base 38 "is_number" ["value"] [] ct_is_number) : DefOk P w K mg base 39 "is_positive" ["value"] [] ct_is_positive := by
  refine mk_def T.g_is_positive sc_is_positive (by rintro os args Φ ⟨q, n, rfl, rfl, _⟩; rfl) (fun _ _ _ _ _ _ us hl => match us, hl with | [_], _ => rfl) (fun f cdv A outer s H E hr => ?b)
  case b =>
    have nd := (sc_is_positive).nd
    have hu1 : (A.deeper (envOfC "is_positive" (defScope s_is_positive) s.heap.objs.size f cdv)).units + 1 < cLine := by have := hr.un; omega
    have hu64 : (A.deeper (envOfC "is_positive" (defScope s_is_positive) s.heap.objs.size f cdv)).units + 64 < cLine := by have := hr.un; omega
    have hu65 : (A.deeper (envOfC "is_positive" (defScope s_is_positive) s.heap.objs.size f cdv)).units + 65 < cLine := by have := hr.un; omega
    refine ⟨_, _,
      (jss_one (js_ret (je_and (jc F_is_number (hr.mono (by decide)) rfl (ja_cons (je_var 0) ja_nil)) (je_one (jc F_less (hr.mono (by decide)) rfl (ja_cons je_int (ja_cons (je_var 0) ja_nil))))))), ?_⟩
    rintro os args Φ ⟨q, n, rfl, rfl, hq, hn, h0, hΦ⟩
    walk_at "ss"
    refine ⟨q, rfl, rfl, ?_⟩
    walk_at "ss"
    refine ⟨0, q, 1, n, rfl, rfl, ⟨by decide, by decide⟩, hq, by omega, ?_⟩
    rw [decide_eq_true h0]
    walk_at "ss"
    exact hΦ
abbrev ct_is_positive_pair : Ct := fun os args Φ => ∃ (a b : Rat) (n : Nat), os = [] ∧ args = [.v (.tup [qD a, qD b])] ∧ B n a ∧ B n b ∧ n < 10000000 ∧ 0 < a ∧ 0 < b ∧ Φ (.bl true) []
theorem ok_is_positive_pair (T : Txt P K mg base) (F_is_positive : DefOk P w K mg base 39 "is_positive" ["value"] [] ct_is_positive) : DefOk P w K mg base 40 "is_positive_pair" ["value"] [] ct_is_positive_pair := by
  refine mk_def T.g_is_positive_pair sc_is_positive_pair (by rintro os args Φ ⟨a, b, n, rfl, rfl, _⟩; rfl) (fun _ _ _ _ _ _ us hl => match us, hl with | [_], _ => rfl) (fun f cdv A outer s H E hr => ?b)
  case b =>
    have nd := (sc_is_positive_pair).nd
    have hu1 : (A.deeper (envOfC "is_positive_pair" (defScope s_is_positive_pair) s.heap.objs.size f cdv)).units + 1 < cLine := by have := hr.un; omega
    have hu64 : (A.deeper (envOfC "is_positive_pair" (defScope s_is_positive_pair) s.heap.objs.size f cdv)).units + 64 < cLine := by have := hr.un; omega
    have hu65 : (A.deeper (envOfC "is_positive_pair" (defScope s_is_positive_pair) s.heap.objs.size f cdv)).units + 65 < cLine := by have := hr.un; omega
    refine ⟨_, _,
      (jss_one (js_ret (je_and (jy_isi (K := K) rfl (T := "tuple") rfl T.b_isinstance rfl T.b_tuple (by decide +kernel) (by decide) (by decide) (je_var 0)) (je_and (jy_eq (K := K) rfl hu64 (jy_len (K := K) rfl rfl T.b_len (ja_cons (je_var 0) ja_nil)) je_int) (je_and (jc F_is_positive (hr.mono (by decide)) rfl (ja_cons (jy_ix (K := K) rfl (je_var 0) je_int) ja_nil)) (je_one (jc F_is_positive (hr.mono (by decide)) rfl (ja_cons (jy_ix (K := K) rfl (je_var 0) je_int) ja_nil)))))))), ?_⟩
    rintro os args Φ ⟨a, b, n, rfl, rfl, ha, hb, hn, a0, b0, hΦ⟩
    walk_at "ss"
    refine ⟨a, n, rfl, rfl, ha, hn, a0, ?_⟩
    walk_at "ss"
    refine ⟨b, n, rfl, rfl, hb, hn, b0, ?_⟩
    walk_at "ss"
    exact hΦ
abbrev ct_are_classes : Ct := fun os args Φ => ∃ (cs : List Cl) (n : Nat), os = [] ∧ args = [.v (clD cs)] ∧ CsOk n cs ∧ n < 10000000 ∧ Φ (.bl true) []
theorem ok_are_classes (T : Txt P K mg base) (F_is_positive_pair : DefOk P w K mg base 40 "is_positive_pair" ["value"] [] ct_is_positive_pair) (F_is_name : DefOk P w K mg base 37 "is_name" ["value"] [] ct_is_name) : DefOk P w K mg base 41 "are_classes" ["value"] [] ct_are_classes := by
  refine mk_def T.g_are_classes sc_are_classes (by rintro os args Φ ⟨cs, n, rfl, rfl, _⟩; rfl) (fun _ _ _ _ _ _ us hl => match us, hl with | [_], _ => rfl) (fun f cdv A outer s H E hr => ?b)
  case b =>
    have nd := (sc_are_classes).nd
    have hu1 : (A.deeper (envOfC "are_classes" (defScope s_are_classes) s.heap.objs.size f cdv)).units + 1 < cLine := by have := hr.un; omega
    have hu64 : (A.deeper (envOfC "are_classes" (defScope s_are_classes) s.heap.objs.size f cdv)).units + 64 < cLine := by have := hr.un; omega
    have hu65 : (A.deeper (envOfC "are_classes" (defScope s_are_classes) s.heap.objs.size f cdv)).units + 65 < cLine := by have := hr.un; omega
    refine ⟨_, _,
      (jss_cons (js_if (JW.pt (jw_or (jt_not (jt_val (jy_isi (K := K) rfl (T := "dict") rfl T.b_isinstance rfl T.b_dict (by decide +kernel) (by decide) (by decide) (je_var 0)))) (jw_or1 (jt_not (jt_lele je_int (jy_len (K := K) rfl rfl T.b_len (ja_cons (je_var 0) ja_nil)) (je_gint rfl T.c_MOST_CLASSES)))))) (jss_one (js_ret je_bl)) jss_nil)
      (jss_one (js_ret (jy_all (K := K) rfl rfl rfl T.b_all (ja_cons (je_new (jn_lc rfl nd (ji_items (je_var 0)) (blkOk_by (own := [("name", 1), ("one", 2)]) (N := N_are_classes) (sc := defScope s_are_classes) (by decide +kernel)) (fun _ _ _ _ _ => (jx_tup (n := 2) rfl (jgs_cons (jg_name 1 nd rfl (by first | exact Or.inl rfl | exact Or.inr rfl)) (jgs_cons (jg_name 2 nd rfl (by first | exact Or.inl rfl | exact Or.inr rfl)) jgs_nil)))) (gw_tup (gw_cons mg_name (gw_name (by decide)) (gw_cons mg_name (gw_name (by decide)) gw_nil))) (mg_tup (mg_cons mg_name (mg_cons mg_name mg_nil))) (fun _ _ _ _ _ => jts_nil) (fun _ _ _ _ _ => (je_and (jc F_is_name (hr.mono (by decide)) rfl (ja_cons (je_var 1) ja_nil)) (je_one (jc F_is_positive_pair (hr.mono (by decide)) rfl (ja_cons (je_var 2) ja_nil))))))) ja_nil))))), ?_⟩
    rintro os args Φ ⟨cs, n, rfl, rfl, C, hn, hΦ⟩
    have l1 := C.ne
    have l2 := C.le
    walk_at "ss"
    refine i_lenD ?_
    walk_at "ss"
    refine i_kChT (by exact decide_eq_true (by rw [List.length_map, List.length_map]; omega)) ?_
    walk_at "ss"
    rw [show decide ((((cs.map fun c => ((Sum.inr c.nm : Key), D.tup [qD c.paid, qD c.begun])).map (·.2)).length : Int) ≤ 12) = true from decide_eq_true (by rw [List.length_map, List.length_map]; omega)]
    walk_at "ss"
    refine i_itemsCl ?_
    refine i_kLcM (fun _ => .bl true) ?hl ?hb ?hk
    case hl => rw [List.length_map]; omega
    case hb =>
      intro i d acc hd hi
      have hd' := hd
      rw [List.getElem?_map] at hd
      obtain ⟨c, hc, rfl⟩ := Option.map_eq_some_iff.mp hd
      have ok := C.ok c (List.mem_of_getElem? hc)
      walk_at "ss"
      refine ⟨c.nm, rfl, rfl, ok.nm, ?_⟩
      walk_at "ss"
      refine ⟨c.paid, c.begun, n, rfl, rfl, ok.pB, ok.bB, hn, ok.p0, ok.b0, ?_⟩
      walk_at "ss"
      exact i_ivm hd' hi rfl rfl
    case hk =>
      walk_at "ss"
      refine i_all (bs := cs.map fun _ => true) ?_ ?_
      · rw [List.map_map]
        exact blsD_map (fun _ => true) _
      · have e : (cs.map fun _ => true).all id = true := by rw [List.all_map]; simp
        rw [e]
        walk_at "ss"
        exact hΦ
abbrev ct_require_adjusting : Ct := fun os args Φ => ∃ (com : Rat) (cs : List Cl) (is : List (Rat × Rat)) (kind : Str) (n : Nat), os = [] ∧ args = [.v (qD com), .v (clD cs), .v (isD is), .v (.str kind)] ∧ 0 < com ∧ B n com ∧ CsOk n cs ∧ IsOk n is ∧ n < 10000000 ∧ (kind = "full" ∨ kind = "issued" ∨ kind = "converted") ∧ Φ .non []
theorem ok_require_adjusting (T : Txt P K mg base) (F_require_positive : DefOk P w K mg base 39 "require_positive" ["value"] [] ct_require_positive) (F_are_classes : DefOk P w K mg base 41 "are_classes" ["value"] [] ct_are_classes) (F_is_positive_pair : DefOk P w K mg base 40 "is_positive_pair" ["value"] [] ct_is_positive_pair) : DefOk P w K mg base 42 "require_adjusting" ["common", "classes", "issues", "kind"] [] ct_require_adjusting := by
  refine mk_def T.g_require_adjusting sc_require_adjusting (by rintro os args Φ ⟨com, cs, is, kind, n, rfl, rfl, _⟩; rfl) (fun _ _ _ _ _ _ us hl => match us, hl with | [_, _, _, _], _ => rfl) (fun f cdv A outer s H E hr => ?b)
  case b =>
    have nd := (sc_require_adjusting).nd
    have hu1 : (A.deeper (envOfC "require_adjusting" (defScope s_require_adjusting) s.heap.objs.size f cdv)).units + 1 < cLine := by have := hr.un; omega
    have hu64 : (A.deeper (envOfC "require_adjusting" (defScope s_require_adjusting) s.heap.objs.size f cdv)).units + 64 < cLine := by have := hr.un; omega
    have hu65 : (A.deeper (envOfC "require_adjusting" (defScope s_require_adjusting) s.heap.objs.size f cdv)).units + 65 < cLine := by have := hr.un; omega
    refine ⟨_, _,
      (jss_cons (js_expr (jc F_require_positive (hr.mono (by decide)) rfl (ja_cons (je_var 0) ja_nil)))
      (jss_cons (js_if (jt_not (jt_val (jc F_are_classes (hr.mono (by decide)) rfl (ja_cons (je_var 1) ja_nil)))) (jss_one js_never) jss_nil)
      (jss_cons (js_if (jt_not (jt_val (jy_isi (K := K) rfl (T := "list") rfl T.b_isinstance rfl T.b_list (by decide +kernel) (by decide) (by decide) (je_var 2)))) (jss_one js_never) jss_nil)
      (jss_cons (js_for PassesOwn.never rfl (ji_enum rfl T.b_enumerate (ja_cons (je_var 2) ja_nil)) (jx_tup (n := 2) rfl (jgs_cons (jg_name 4 nd rfl (by first | exact Or.inl rfl | exact Or.inr rfl)) (jgs_cons (jg_name 5 nd rfl (by first | exact Or.inl rfl | exact Or.inr rfl)) jgs_nil))) (jss_one (js_if (jt_not (jt_val (jc F_is_positive_pair (hr.mono (by decide)) rfl (ja_cons (je_var 5) ja_nil)))) (jss_one js_never) jss_nil)))
      (jss_one (js_if (JW.pt (jw_or (jt_not (jt_val (jy_isi (K := K) rfl (T := "str") rfl T.b_isinstance rfl T.b_str (by decide +kernel) (by decide) (by decide) (je_var 3)))) (jw_or1 (jyt_notInT (K := K) rfl (je_var 3) (je_new (jn_tup (ja_cons (je_gstr rfl T.c_FULL) (ja_cons (je_gstr rfl T.c_ISSUED) (ja_cons (je_gstr rfl T.c_CONVERTED) ja_nil))))))))) (jss_one js_never) jss_nil)))))), ?_⟩
    rintro os args Φ ⟨com, cs, is, kind, n, rfl, rfl, c0, cB, C, I, hn, hk, hΦ⟩
    walk_at "ss"
    refine ⟨com, n, rfl, rfl, cB, by omega, c0, ?_⟩
    walk_at "ss"
    refine ⟨cs, n, rfl, rfl, C, hn, ?_⟩
    walk_at "ss"
    refine i_kFor (fun i S => ∃ (x y : Option _root_.S.Arg), S = ⟨[], [some (.v (qD com)), some (.v (clD cs)), some (.v (isD is)), some (.v (.str kind)), x, y]⟩) ⟨none, none, rfl⟩ ?h1 ?h2
    case h1 =>
      rintro i d S hd ⟨x, y, rfl⟩
      unfold enumD at hd
      rw [List.getElem?_map] at hd
      obtain ⟨⟨e, j⟩, he, rfl⟩ := Option.map_eq_some_iff.mp hd
      have he2 := List.mem_of_getElem? he
      rw [List.mem_zipIdx_iff_getElem?] at he2
      rw [List.getElem?_map] at he2
      obtain ⟨p, hp, e3⟩ := Option.map_eq_some_iff.mp he2
      have ok := I.ok p (List.mem_of_getElem? hp)
      have e3 : D.tup [qD p.1, qD p.2] = e := e3
      subst e3
      walk_at "ss"
      refine ⟨p.1, p.2, n, rfl, rfl, ok.2.2.1, ok.2.2.2, hn, ok.1, ok.2.1, ?_⟩
      walk_at "ss"
      exact ⟨_, _, rfl⟩
    case h2 =>
      rintro S ⟨x, y, rfl⟩
      walk_at "ss"
      refine i_notIn (is := ["full", "issued", "converted"]) rfl ?_
      walk_at "ss"
      refine i_kIfF ?_ ?_
      · rcases hk with rfl | rfl | rfl <;> decide
      · walk_at "ss"
        exact hΦ
end
end K73
set_option Elab.async false
set_option linter.all false
set_option maxRecDepth 100000
set_option autoImplicit false
set_option maxHeartbeats 0
namespace K73
open PySem L2 S PyProof.Rows
local macro_rules | `(tactic| walk_at "s") => `(tactic| first
  | (with_reducible apply i_seq)
  | (with_reducible apply i_asg)
  | (with_reducible apply i_gname)
  | (with_reducible apply i_op)
  | (with_reducible apply i_c)
  | ((with_reducible apply i_var); focus (rfl))
  | (with_reducible apply i_cons)
  | (with_reducible apply i_nil)
  | (with_reducible apply i_next)
  | (with_reducible apply i_ret)
  | (with_reducible apply i_drop)
  | (with_reducible apply i_ifS)
  | (with_reducible apply i_test)
  | (with_reducible apply i_kTest)
  | (with_reducible apply i_and)
  | (with_reducible apply i_or)
  | (with_reducible apply i_not)
  | (with_reducible apply i_andV)
  | (with_reducible apply i_orV)
  | (with_reducible apply i_notV)
  | (with_reducible apply i_kNotV)
  | (with_reducible apply i_ifE)
  | (with_reducible apply i_tup)
  | (with_reducible apply i_lst)
  | (with_reducible apply i_call)
  | (with_reducible apply i_cb)
  | (with_reducible apply i_isi)
  | (with_reducible apply i_isN)
  | (with_reducible apply i_notN)
  | ((with_reducible apply i_bt); focus (rfl))
  | ((with_reducible apply i_bf); focus (rfl))
  | ((with_reducible apply i_kIfT); focus (rfl))
  | ((with_reducible apply i_kIfF); focus (rfl))
  | ((with_reducible apply i_kAndT); focus (rfl))
  | ((with_reducible apply i_kAndF); focus (rfl))
  | ((with_reducible apply i_kOrT); focus (rfl))
  | ((with_reducible apply i_kOrF); focus (rfl))
  | ((with_reducible apply i_kAndVT); focus (rfl))
  | ((with_reducible apply i_kAndVF); focus (rfl))
  | ((with_reducible apply i_kOrVT); focus (rfl))
  | ((with_reducible apply i_kOrVF); focus (rfl))
  | ((with_reducible apply i_kIfET); focus (rfl))
  | ((with_reducible apply i_kIfEF); focus (rfl))
  | ((with_reducible apply i_kIsi); focus (rfl))
  | ((with_reducible apply i_kTup); (focus rfl); (focus (exact Nat.le_of_ble_eq_true rfl)))
  | ((with_reducible apply i_kLst); (focus rfl); (focus (exact Nat.le_of_ble_eq_true rfl)))
  | ((with_reducible apply i_kCall); focus (rfl))
  | ((with_reducible apply i_kCallD); focus (rfl))
  | ((with_reducible apply i_kCallO); (focus rfl); (focus rfl))
  | ((with_reducible apply i_kCB); focus (rfl))
  | ((with_reducible apply i_gtup); focus (rfl))
  | ((with_reducible apply i_glst); focus (rfl))
  | (with_reducible apply i_fI0)
  | (with_reducible apply i_absN)
  | (with_reducible apply i_int)
  | (with_reducible apply i_intB)
  | (with_reducible apply i_eqI)
  | (with_reducible apply i_neI)
  | (with_reducible apply i_eqQ)
  | (with_reducible apply i_neQ)
  | (with_reducible apply i_eqQi)
  | (with_reducible apply i_neQi)
  | (with_reducible apply i_gcons)
  | (with_reducible apply i_gnil)
  | (with_reducible apply i_own)
  | (with_reducible apply i_par)
  | (with_reducible apply i_parN)
  | (with_reducible apply i_parNN)
  | (with_reducible apply i_setC)
  | (with_reducible apply i_lenL)
  | (with_reducible apply i_lenT)
  | (with_reducible apply i_lenD)
  | (with_reducible apply i_for)
  | (with_reducible apply i_forC)
  | (with_reducible apply i_wiL)
  | (with_reducible apply i_kWL)
  | (with_reducible apply i_wiDic)
  | (with_reducible apply i_mDic)
  | (with_reducible apply i_wiS)
  | (with_reducible apply i_kWS)
  | (with_reducible apply i_lc)
  | (with_reducible apply i_dc)
  | (with_reducible apply i_yes)
  | (with_reducible apply i_sl)
  | (with_reducible apply i_kSl)
  | (with_reducible apply i_oN)
  | (with_reducible apply i_oS)
  | (with_reducible apply i_kO)
  | (with_reducible apply i_rep)
  | (with_reducible apply i_chain)
  | (with_reducible apply i_sign)
  | (with_reducible apply i_wmSeq)
  | (with_reducible apply i_wmRet)
  | (with_reducible apply i_wiR1)
  | (with_reducible apply i_wiEnum)
  | (with_reducible apply i_kEn)
  | (with_reducible apply i_wiEnumK)
  | (with_reducible apply i_kEnK)
  | (with_reducible apply i_retN)
  | ((with_reducible apply i_ixT); focus (rfl))
  | ((with_reducible apply i_ixL); focus (rfl))
  | ((with_reducible apply i_kChT); focus (rfl))
  | ((with_reducible apply i_consO); focus (rfl))
  | (with_reducible apply i_dic0)
  | (with_reducible apply i_dputO)
  | ((with_reducible apply i_kDput1); focus (rfl))
  | ((with_reducible apply i_ixV); focus (rfl))
  | ((with_reducible apply i_pop); focus (rfl))
  | ((with_reducible apply i_neO); focus (rfl))
  | ((with_reducible apply i_ext); focus (rfl))
  | (with_reducible apply i_lv)
  | (with_reducible apply i_kLV)
  | (with_reducible apply i_listL)
  | ((with_reducible apply i_lenO); focus (rfl))
  | ((with_reducible apply i_ixC); (focus rfl); (focus rfl))
  | ((with_reducible apply i_end1); focus (rfl))
  | (with_reducible apply i_max2)
  | (with_reducible apply i_min2)
  | (with_reducible apply i_end0')
  | (with_reducible apply i_end0n)
  | (with_reducible apply i_endM))
local macro_rules | `(tactic| walk_at "ss") => `(tactic| repeat walk_at "s")

section
variable {P : Program} {w : World} {K : PySem.W.Frag} {mg : Str → Option Value} {base : Heap}
abbrev ct_shares_by : Ct := fun os args Φ => ∃ (cs : List Cl) (ns : List Str) (f : Str → Rat) (n : Nat), os = [] ∧ args = [.v (clD cs), .v (prD ns f)] ∧ CsOk n cs ∧ ns.Nodup ∧ (∀ c ∈ cs, c.nm ∈ ns ∧ 0 < f c.nm ∧ B n (f c.nm)) ∧ n < 2000000 ∧ Φ (qD (sumL (cs.map fun c => c.paid / f c.nm))) []
theorem ok_shares_by (T : Txt P K mg base) (F_total : DefOk P w K mg base 39 "total" ["numbers"] [] ct_total) (F_over : DefOk P w K mg base 40 "over" ["one", "other"] [] ct_over) : DefOk P w K mg base 41 "shares_by" ["classes", "prices"] [] ct_shares_by := by
  refine mk_def T.g_shares_by sc_shares_by (by rintro os args Φ ⟨cs, ns, f, n, rfl, rfl, _⟩; rfl) (fun _ _ _ _ _ _ us hl => match us, hl with | [_, _], _ => rfl) (fun f cdv A outer s H E hr => ?b)
  case b =>
    have nd := (sc_shares_by).nd
    have hu1 : (A.deeper (envOfC "shares_by" (defScope s_shares_by) s.heap.objs.size f cdv)).units + 1 < cLine := by have := hr.un; omega
    have hu64 : (A.deeper (envOfC "shares_by" (defScope s_shares_by) s.heap.objs.size f cdv)).units + 64 < cLine := by have := hr.un; omega
    have hu65 : (A.deeper (envOfC "shares_by" (defScope s_shares_by) s.heap.objs.size f cdv)).units + 65 < cLine := by have := hr.un; omega
    refine ⟨_, _,
      (jss_one (js_ret (jc F_total (hr.mono (by decide)) rfl (ja_cons (je_new (jn_lc rfl nd (ji_items (je_var 0)) (blkOk_by (own := [("name", 2), ("paid", 3), ("begun", 4)]) (N := N_shares_by) (sc := defScope s_shares_by) (by decide +kernel)) (fun _ _ _ _ _ => (jx_tup (n := 2) rfl (jgs_cons (jg_name 2 nd rfl (by first | exact Or.inl rfl | exact Or.inr rfl)) (jgs_cons (jx_tup (n := 2) rfl (jgs_cons (jg_name 3 nd rfl (by first | exact Or.inl rfl | exact Or.inr rfl)) (jgs_cons (jg_name 4 nd rfl (by first | exact Or.inl rfl | exact Or.inr rfl)) jgs_nil))) jgs_nil)))) (gw_tup (gw_cons mg_name (gw_name (by decide)) (gw_cons (mg_tup (mg_cons mg_name (mg_cons mg_name mg_nil))) (gw_tup (gw_cons mg_name (gw_name (by decide)) (gw_cons mg_name (gw_name (by decide)) gw_nil))) gw_nil))) (mg_tup (mg_cons mg_name (mg_cons (mg_tup (mg_cons mg_name (mg_cons mg_name mg_nil))) mg_nil))) (fun _ _ _ _ _ => jts_nil) (fun _ _ _ _ _ => (jc F_over (hr.mono (by decide)) rfl (ja_cons (je_var 3) (ja_cons (je_dget hu1 (je_var 1) (je_var 2)) ja_nil)))))) ja_nil)))), ?_⟩
    rintro os args Φ ⟨cs, ns, f, n, rfl, rfl, C, nd2, hf, hn, hΦ⟩
    have l2 := C.le
    walk_at "ss"
    refine i_itemsCl ?_
    refine i_kLcM (fun d => match d with | .tup [.str x, .tup [_, _]] => qD (match cs.find? (fun c => decide (c.nm = x)) with | some c => c.paid / f c.nm | none => 0) | _ => .non) ?hl ?hb ?hk
    case hl => rw [List.length_map]; omega
    case hb =>
      intro i d acc hd hi
      have hd' := hd
      rw [List.getElem?_map] at hd
      obtain ⟨c, hc, rfl⟩ := Option.map_eq_some_iff.mp hd
      have hcm := List.mem_of_getElem? hc
      have ok := C.ok c hcm
      obtain ⟨h1, h2, h3⟩ := hf c hcm
      walk_at "ss"
      refine i_dgetPr nd2 h1 ?_
      walk_at "ss"
      refine ⟨c.paid, f c.nm, n, n, rfl, rfl, ok.pB, h3, by omega, h2, ?_⟩
      walk_at "ss"
      refine i_ivm hd' hi rfl ?_
      show qD (c.paid / f c.nm) = qD (match cs.find? (fun d => decide (d.nm = c.nm)) with | some c => c.paid / f c.nm | none => 0)
      rw [find_nm C.nd hcm]
    case hk =>
      rw [List.map_map]
      have e : cs.map ((fun d => match d with | .tup [.str x, .tup [_, _]] => qD (match cs.find? (fun c => decide (c.nm = x)) with | some c => c.paid / f c.nm | none => 0) | _ => .non) ∘ fun c => D.tup [.str c.nm, .tup [qD c.paid, qD c.begun]]) = (cs.map fun c => c.paid / f c.nm).map qD := by
        rw [List.map_map]
        refine List.map_congr_left fun c hc => ?_
        show qD (match cs.find? (fun d => decide (d.nm = c.nm)) with | some c => c.paid / f c.nm | none => 0) = qD (c.paid / f c.nm)
        rw [find_nm C.nd hc]
      rw [e]
      walk_at "ss"
      refine ⟨_, n + n, rfl, rfl, ?_, ?_, ?_⟩
      · intro q hq
        obtain ⟨c, hc, rfl⟩ := List.mem_map.mp hq
        exact B_div (C.ok c hc).pB (hf c hc).2.2
      · rw [List.length_map]
        have : (cs.length + 1) * (n + n + 1) ≤ 4 * (n + n + 1) := Nat.mul_le_mul_right _ (by omega)
        omega
      · walk_at "ss"
        exact hΦ
abbrev ct_fallen : Ct := fun os args Φ => ∃ (p m c a : Rat) (kind : Str) (n : Nat), os = [] ∧ args = [.v (qD p), .v (.tup [qD m, qD c]), .v (qD a), .v (.str kind)] ∧ B n p ∧ B n m ∧ B n c ∧ B n a ∧ 0 < p ∧ 0 < m ∧ 0 < c ∧ 0 < a ∧ n < 8000000 ∧ PyData.canLay0 (.str kind) = true ∧ Φ (qD (fallenQ kind p m c a)) []
theorem ok_fallen (T : Txt P K mg base) (F_is_less : DefOk P w K mg base 40 "is_less" ["one", "other"] [] ct_is_less) (F_least_of : DefOk P w K mg base 39 "least_of" ["numbers"] [] ct_least_of) (F_over : DefOk P w K mg base 40 "over" ["one", "other"] [] ct_over) (F_plus : DefOk P w K mg base 40 "plus" ["one", "other"] [] ct_plus) (F_times : DefOk P w K mg base 40 "times" ["one", "other"] [] ct_times) : DefOk P w K mg base 41 "fallen" ["price", "issue", "ahead", "kind"] [] ct_fallen := by
  refine mk_def T.g_fallen sc_fallen (by rintro os args Φ ⟨p, m, c, a, kind, n, rfl, rfl, _⟩; rfl) (fun _ _ _ _ _ _ us hl => match us, hl with | [_, _, _, _], _ => rfl) (fun f cdv A outer s H E hr => ?b)
  case b =>
    have nd := (sc_fallen).nd
    have hu1 : (A.deeper (envOfC "fallen" (defScope s_fallen) s.heap.objs.size f cdv)).units + 1 < cLine := by have := hr.un; omega
    have hu64 : (A.deeper (envOfC "fallen" (defScope s_fallen) s.heap.objs.size f cdv)).units + 64 < cLine := by have := hr.un; omega
    have hu65 : (A.deeper (envOfC "fallen" (defScope s_fallen) s.heap.objs.size f cdv)).units + 65 < cLine := by have := hr.un; omega
    refine ⟨_, _,
      (jss_cons (js_asg (je_var 1) (jx_tup (n := 2) rfl (jgs_cons (jg_name 4 nd rfl (by first | exact Or.inl rfl | exact Or.inr rfl)) (jgs_cons (jg_name 5 nd rfl (by first | exact Or.inl rfl | exact Or.inr rfl)) jgs_nil))))
      (jss_cons (js_if (JW.pt (jw_or (jt_not (jt_val (jc F_is_less (hr.mono (by decide)) rfl (ja_cons (je_var 5) (ja_cons (je_var 0) ja_nil))))) (jw_or1 (jyt_eq (K := K) rfl hu64 (je_var 3) (je_gstr rfl T.c_FULL))))) (jss_one (js_ret (jc F_least_of (hr.mono (by decide)) rfl (ja_cons (je_new (jn_lst (ja_cons (je_var 0) (ja_cons (je_var 5) ja_nil)))) ja_nil)))) jss_nil)
      (jss_one (js_ret (jc F_over (hr.mono (by decide)) rfl (ja_cons (jc F_plus (hr.mono (by decide)) rfl (ja_cons (jc F_times (hr.mono (by decide)) rfl (ja_cons (je_var 2) (ja_cons (je_var 0) ja_nil))) (ja_cons (je_var 4) ja_nil))) (ja_cons (jc F_plus (hr.mono (by decide)) rfl (ja_cons (je_var 2) (ja_cons (jc F_over (hr.mono (by decide)) rfl (ja_cons (je_var 4) (ja_cons (je_var 5) ja_nil))) ja_nil))) ja_nil))))))), ?_⟩
    rintro os args Φ ⟨p, m, c, a, kind, n, rfl, rfl, Bp, Bm, Bc, Ba, p0, m0, c0, a0, hn, hk, hΦ⟩
    walk_at "ss"
    refine ⟨c, p, n, n, rfl, rfl, Bc, Bp, by omega, ?_⟩
    walk_at "ss"
    have go_least : ¬(c < p ∧ fullB kind = false) → Φ (qD (minQ p c)) [] := fun h => by
      have e : fallenQ kind p m c a = minQ p c := by unfold fallenQ; rw [if_neg h]
      rw [← e]; exact hΦ
    by_cases h1 : c < p
    · refine i_kOrF (by rw [decide_eq_true h1]; rfl) ?_
      walk_at "ss"
      refine i_eqS hk (lay_s (by decide +kernel)) ?_
      walk_at "ss"
      refine i_kIf (fun hc => ?_) (fun hc => ?_)
      · walk_at "ss"
        refine ⟨p, c, n, n, rfl, rfl, Bp, Bc, by omega, ?_⟩
        walk_at "ss"
        exact go_least fun z => by have := z.2; unfold fullB at this; rw [hc] at this; cases this
      · have e : fallenQ kind p m c a = (a * p + m) / (a + m / c) := by unfold fallenQ; rw [if_pos ⟨h1, hc⟩]
        rw [e] at hΦ
        have B1 := B_mul Ba Bp
        have B2 := B_add B1 Bm
        have B3 := B_div Bm Bc
        have B4 := B_add Ba B3
        walk_at "ss"
        refine ⟨a, p, n, n, rfl, rfl, Ba, Bp, by omega, ?_⟩
        walk_at "ss"
        refine ⟨a * p, m, n + n, n, rfl, rfl, B1, Bm, by omega, ?_⟩
        walk_at "ss"
        refine ⟨m, c, n, n, rfl, rfl, Bm, Bc, by omega, c0, ?_⟩
        walk_at "ss"
        refine ⟨a, m / c, n, n + n, rfl, rfl, Ba, B3, by omega, ?_⟩
        walk_at "ss"
        refine ⟨a * p + m, a + m / c, _, _, rfl, rfl, B2, B4, by omega, add_pos (Rat.le_of_lt a0) (div_pos m0 c0), ?_⟩
        walk_at "ss"
        exact hΦ
    · refine i_kOrT (by rw [decide_eq_false h1]; rfl) ?_
      walk_at "ss"
      refine ⟨p, c, n, n, rfl, rfl, Bp, Bc, by omega, ?_⟩
      walk_at "ss"
      exact go_least fun z => h1 z.1
abbrev ct_prices_behind : Ct := fun os args Φ => ∃ (com : Rat) (cs : List Cl) (is : List (Rat × Rat)) (kind : Str) (n N : Nat), os = [] ∧ args = [.v (qD com), .v (clD cs), .v (isD is), .v (.str kind)] ∧ RunOk kind cs com is n N ∧ ∀ ns : List Str, ns.Perm (cs.map (·.nm)) → sortedS ns = true → Φ (.tup [prD ns (runQ kind cs com is).1, qD (runQ kind cs com is).2]) []
theorem ok_prices_behind (T : Txt P K mg base) (F_plus : DefOk P w K mg base 40 "plus" ["one", "other"] [] ct_plus) (F_shares_by : DefOk P w K mg base 41 "shares_by" ["classes", "prices"] [] ct_shares_by) (F_fallen : DefOk P w K mg base 41 "fallen" ["price", "issue", "ahead", "kind"] [] ct_fallen) (F_over : DefOk P w K mg base 40 "over" ["one", "other"] [] ct_over) : DefOk P w K mg base 42 "prices_behind" ["common", "classes", "issues", "kind"] [] ct_prices_behind := by
  refine mk_def T.g_prices_behind sc_prices_behind (by rintro os args Φ ⟨com, cs, is, kind, n, N, rfl, rfl, _⟩; rfl) (fun _ _ _ _ _ _ us hl => match us, hl with | [_, _, _, _], _ => rfl) (fun f cdv A outer s H E hr => ?b)
  case b =>
    have nd := (sc_prices_behind).nd
    have hu1 : (A.deeper (envOfC "prices_behind" (defScope s_prices_behind) s.heap.objs.size f cdv)).units + 1 < cLine := by have := hr.un; omega
    have hu64 : (A.deeper (envOfC "prices_behind" (defScope s_prices_behind) s.heap.objs.size f cdv)).units + 64 < cLine := by have := hr.un; omega
    have hu65 : (A.deeper (envOfC "prices_behind" (defScope s_prices_behind) s.heap.objs.size f cdv)).units + 65 < cLine := by have := hr.un; omega
    refine ⟨_, _,
      (jss_cons (js_setDc 4 rfl nd rfl rfl (by rfl) (ji_list (je_new (jn_sortedD rfl rfl T.b_sorted (ja_cons (je_var 1) ja_nil)))) (blkOk_by (own := [("name", 9)]) (N := N_prices_behind) (sc := defScope s_prices_behind) (by decide +kernel)) (fun _ _ _ _ _ => (jg_name 9 nd rfl (by first | exact Or.inl rfl | exact Or.inr rfl))) (gw_name (by decide)) mg_name (fun _ _ _ _ _ => jts_nil) (fun _ _ _ _ _ => (je_var 9)) (fun _ _ _ _ _ => (jy_ix (K := K) rfl (je_dget hu1 (je_var 1) (je_var 9)) je_int)))
      (jss_cons (js_par (i := 5) (j := 6) rfl nd rfl rfl (by decide) rfl rfl (je_var 4) (je_var 0) (by rfl))
      (jss_cons (js_for PassesOwn.never rfl (ji_list (je_var 2)) (jg_name 7 nd rfl (by first | exact Or.inl rfl | exact Or.inr rfl)) (jss_cons (js_set 8 nd rfl (by first | exact Or.inl rfl | exact Or.inr rfl) (jc F_plus (hr.mono (by decide)) rfl (ja_cons (je_var 6) (ja_cons (jc F_shares_by (hr.mono (by decide)) rfl (ja_cons (je_var 1) (ja_cons (je_if (jyt_eq (K := K) rfl hu64 (je_var 3) (je_gstr rfl T.c_CONVERTED)) (je_var 5) (je_var 4)) ja_nil))) ja_nil))))
      (jss_cons (js_setDc 5 rfl nd rfl rfl (by rfl) (ji_items (je_var 5)) (blkOk_by (own := [("name", 9), ("price", 10)]) (N := N_prices_behind) (sc := defScope s_prices_behind) (by decide +kernel)) (fun _ _ _ _ _ => (jx_tup (n := 2) rfl (jgs_cons (jg_name 9 nd rfl (by first | exact Or.inl rfl | exact Or.inr rfl)) (jgs_cons (jg_name 10 nd rfl (by first | exact Or.inl rfl | exact Or.inr rfl)) jgs_nil)))) (gw_tup (gw_cons mg_name (gw_name (by decide)) (gw_cons mg_name (gw_name (by decide)) gw_nil))) (mg_tup (mg_cons mg_name (mg_cons mg_name mg_nil))) (fun _ _ _ _ _ => jts_nil) (fun _ _ _ _ _ => (je_var 9)) (fun _ _ _ _ _ => (jc F_fallen (hr.mono (by decide)) rfl (ja_cons (je_var 10) (ja_cons (je_var 7) (ja_cons (je_var 8) (ja_cons (je_var 3) ja_nil)))))))
      (jss_one (js_set 6 nd rfl (by first | exact Or.inl rfl | exact Or.inr rfl) (jc F_plus (hr.mono (by decide)) rfl (ja_cons (je_var 6) (ja_cons (jc F_over (hr.mono (by decide)) rfl (ja_cons (jy_ix (K := K) rfl (je_var 7) je_int) (ja_cons (jy_ix (K := K) rfl (je_var 7) je_int) ja_nil))) ja_nil))))))))
      (jss_one (js_ret (je_new (jn_tup (ja_cons (je_var 5) (ja_cons (je_var 6) ja_nil))))))))), ?_⟩
    rintro os args Φ ⟨com, cs, is, kind, n, N, rfl, rfl, R, hΦ⟩
    have C := R.C
    have l2 := C.le
    have hN := R.hN
    have hl := R.le
    walk_at "ss"
    refine ⟨cs.map (·.nm), by rw [List.map_map, List.map_map]; rfl, by rw [List.length_map]; omega, fun ns hp hso => ?_⟩
    have nd2 : ns.Nodup := hp.symm.nodup C.nd
    have mem : ∀ c ∈ cs, c.nm ∈ ns := fun c hc => hp.symm.mem_iff.mp (List.mem_map_of_mem hc)
    have mem' : ∀ x ∈ ns, ∃ c ∈ cs, c.nm = x := fun x hx => List.mem_map.mp (hp.mem_iff.mp hx)
    have lns : ns.length ≤ 3 := by rw [hp.length_eq, List.length_map]; exact l2
    walk_at "ss"
    have hkl : PyData.canLay0 (.str kind) = true := by rcases R.hk with rfl | rfl | rfl <;> exact lay_s (by decide +kernel)
    refine i_kDcM (fun d => match d with | .str x => (Sum.inr x, qD (begF cs x)) | _ => (Sum.inl 0, .non)) (by rw [List.length_map]; omega) ?hb ?hk
    case hb =>
      intro i d acc hd hi
      have hd' := hd
      rw [List.getElem?_map] at hd
      obtain ⟨x, hx, rfl⟩ := Option.map_eq_some_iff.mp hd
      obtain ⟨c, hc, rfl⟩ := mem' x (List.mem_of_getElem? hx)
      walk_at "ss"
      refine i_dgetCl C.nd hc ?_
      walk_at "ss"
      exact i_ivd (by rw [List.map_map]; exact nodup_inr nd2) hd' hi rfl rfl (by show qD c.begun = qD (begF cs c.nm); rw [begF_of C.nd hc])
    case hk =>
      rw [List.map_map]
      show wgName 4 (prD ns (begF cs)) _ _
      walk_at "ss"
      refine i_kFor (fun i S => ∃ (x y z u : Option _root_.S.Arg), S = ⟨[], [some (.v (qD com)), some (.v (clD cs)), some (.v (isD is)), some (.v (.str kind)), some (.v (prD ns (begF cs))), some (.v (prD ns (runQ kind cs com (is.take i)).1)), some (.v (qD (runQ kind cs com (is.take i)).2)), x, y, z, u]⟩) ⟨none, none, none, none, rfl⟩ ?h1 ?h2
      case h1 =>
        rintro i d S hd ⟨x, y, z, u, rfl⟩
        rw [List.getElem?_map] at hd
        obtain ⟨p, hpi, rfl⟩ := Option.map_eq_some_iff.mp hd
        have hi : i < is.length := (List.getElem?_eq_some_iff.mp hpi).1
        obtain ⟨m0, p0, mB, pB⟩ := R.I.ok p (List.mem_of_getElem? hpi)
        have st := R.st i (by omega)
        have st2 := R.st (i + 1) (by omega)
        rw [run_snoc hpi] at st2 ⊢
        generalize hF : runQ kind cs com (is.take i) = F at st st2 ⊢
        have CN := C.mono R.le
        have aB : B (7 * N + 5) (aheadQ kind cs F.1 F.2) := ahead_B CN st
        have a0 : 0 < aheadQ kind cs F.1 F.2 := ahead_pos C st
        have conv : convB kind = decide (kind = "converted") := rfl
        walk_at "ss"
        refine i_eqS hkl (lay_s (by decide +kernel)) ?_
        walk_at "ss"
        have go : ∀ g : Str → Rat, (∀ c ∈ cs, g c.nm = if convB kind then F.1 c.nm else c.begun) → (∀ c ∈ cs, c.nm ∈ ns ∧ 0 < g c.nm ∧ B N (g c.nm)) ∧ F.2 + sumL (cs.map fun c => c.paid / g c.nm) = aheadQ kind cs F.1 F.2 ∧ B (6 * N + 4) (sumL (cs.map fun c => c.paid / g c.nm)) := by
          intro g hg
          have h3 : ∀ c ∈ cs, c.nm ∈ ns ∧ 0 < g c.nm ∧ B N (g c.nm) := fun c hc => by
            refine ⟨mem c hc, ?_⟩
            rw [hg c hc]
            split
            · exact ⟨st.f0 c hc, st.fB c hc⟩
            · exact ⟨(CN.ok c hc).b0, (CN.ok c hc).bB⟩
          refine ⟨h3, ?_, ?_⟩
          · unfold aheadQ
            have e : (cs.map fun c => c.paid / g c.nm) = cs.map fun c => c.paid / (if convB kind then F.1 c.nm else c.begun) := List.map_congr_left fun c hc => by rw [hg c hc]
            rw [e]
          · have := B_sum (n := N + N) (qs := cs.map fun c => c.paid / g c.nm) fun q hq => by
              obtain ⟨c, hc, rfl⟩ := List.mem_map.mp hq
              exact B_div (CN.ok c hc).pB (h3 c hc).2.2
            rw [List.length_map] at this
            refine this.mono ?_
            have : cs.length * (N + N + 1) ≤ 3 * (N + N + 1) := Nat.mul_le_mul_right _ l2
            omega
        have BD : B (n + n) (p.1 / p.2) := B_div mB pB
        refine i_kIfE (fun hc => ?_) (fun hc => ?_)
        · obtain ⟨k1, k2, k3⟩ := go (F.1) (fun c hc' => by rw [conv, hc]; rfl)
          walk_at "ss"
          refine ⟨cs, ns, F.1, N, rfl, rfl, CN, nd2, k1, by omega, ?_⟩
          walk_at "ss"
          refine ⟨F.2, _, N, 6 * N + 4, rfl, rfl, st.sB, k3, by omega, ?_⟩
          rw [k2]
          walk_at "ss"
          refine i_itemsPr ?_
          refine i_kDcM (fun d => match d with | .tup [.str x, _] => (Sum.inr x, qD (fallenQ kind (F.1 x) p.1 p.2 (aheadQ kind cs F.1 F.2))) | _ => (Sum.inl 0, .non)) (by rw [List.length_map]; omega) ?hb2 ?hk2
          case hb2 =>
            intro j d acc hd hj
            have hd' := hd
            rw [List.getElem?_map] at hd
            obtain ⟨x, hx, rfl⟩ := Option.map_eq_some_iff.mp hd
            obtain ⟨c, hc, rfl⟩ := mem' x (List.mem_of_getElem? hx)
            walk_at "ss"
            refine ⟨F.1 c.nm, p.1, p.2, _, kind, 7 * N + 5, rfl, rfl, (st.fB c hc).mono (by omega), mB.mono (by omega), pB.mono (by omega), aB, st.f0 c hc, m0, p0, a0, by omega, hkl, ?_⟩
            walk_at "ss"
            exact i_ivd (by rw [List.map_map]; exact nodup_inr nd2) hd' hj rfl rfl rfl
          case hk2 =>
            rw [List.map_map]
            show wgName 5 (prD ns (stepQ kind cs F p).1) _ _
            walk_at "ss"
            refine ⟨p.1, p.2, n, n, rfl, rfl, mB, pB, by omega, p0, ?_⟩
            walk_at "ss"
            refine ⟨F.2, p.1 / p.2, N, n + n, rfl, rfl, st.sB, BD, by omega, ?_⟩
            walk_at "ss"
            exact ⟨_, _, _, _, rfl⟩
        · obtain ⟨k1, k2, k3⟩ := go (begF cs) (fun c hc' => by rw [conv, hc]; exact begF_of C.nd hc')
          walk_at "ss"
          refine ⟨cs, ns, begF cs, N, rfl, rfl, CN, nd2, k1, by omega, ?_⟩
          walk_at "ss"
          refine ⟨F.2, _, N, 6 * N + 4, rfl, rfl, st.sB, k3, by omega, ?_⟩
          rw [k2]
          walk_at "ss"
          refine i_itemsPr ?_
          refine i_kDcM (fun d => match d with | .tup [.str x, _] => (Sum.inr x, qD (fallenQ kind (F.1 x) p.1 p.2 (aheadQ kind cs F.1 F.2))) | _ => (Sum.inl 0, .non)) (by rw [List.length_map]; omega) ?hb2 ?hk2
          case hb2 =>
            intro j d acc hd hj
            have hd' := hd
            rw [List.getElem?_map] at hd
            obtain ⟨x, hx, rfl⟩ := Option.map_eq_some_iff.mp hd
            obtain ⟨c, hc, rfl⟩ := mem' x (List.mem_of_getElem? hx)
            walk_at "ss"
            refine ⟨F.1 c.nm, p.1, p.2, _, kind, 7 * N + 5, rfl, rfl, (st.fB c hc).mono (by omega), mB.mono (by omega), pB.mono (by omega), aB, st.f0 c hc, m0, p0, a0, by omega, hkl, ?_⟩
            walk_at "ss"
            exact i_ivd (by rw [List.map_map]; exact nodup_inr nd2) hd' hj rfl rfl rfl
          case hk2 =>
            rw [List.map_map]
            show wgName 5 (prD ns (stepQ kind cs F p).1) _ _
            walk_at "ss"
            refine ⟨p.1, p.2, n, n, rfl, rfl, mB, pB, by omega, p0, ?_⟩
            walk_at "ss"
            refine ⟨F.2, p.1 / p.2, N, n + n, rfl, rfl, st.sB, BD, by omega, ?_⟩
            walk_at "ss"
            exact ⟨_, _, _, _, rfl⟩
      case h2 =>
        rintro S ⟨x, y, z, u, rfl⟩
        rw [show (is.map fun p => D.tup [qD p.1, qD p.2]).length = is.length from List.length_map _, List.take_length]
        walk_at "ss"
        exact hΦ ns hp hso
abbrev ct_adjusted_prices : Ct := fun os args Φ => ∃ (com : Rat) (cs : List Cl) (is : List (Rat × Rat)) (kind : Str) (n N : Nat), os = [] ∧ args = [.v (qD com), .v (clD cs), .v (isD is), .v (.str kind)] ∧ RunOk kind cs com is n N ∧ ∀ ns : List Str, ns.Perm (cs.map (·.nm)) → sortedS ns = true → Φ (prD ns (runQ kind cs com is).1) []
theorem ok_adjusted_prices (T : Txt P K mg base) (F_require_adjusting : DefOk P w K mg base 42 "require_adjusting" ["common", "classes", "issues", "kind"] [] ct_require_adjusting) (F_prices_behind : DefOk P w K mg base 42 "prices_behind" ["common", "classes", "issues", "kind"] [] ct_prices_behind) : DefOk P w K mg base 43 "adjusted_prices" ["common", "classes", "issues", "kind"] [] ct_adjusted_prices := by
  refine mk_def T.g_adjusted_prices sc_adjusted_prices (by rintro os args Φ ⟨com, cs, is, kind, n, N, rfl, rfl, _⟩; rfl) (fun _ _ _ _ _ _ us hl => match us, hl with | [_, _, _, _], _ => rfl) (fun f cdv A outer s H E hr => ?b)
  case b =>
    have nd := (sc_adjusted_prices).nd
    have hu1 : (A.deeper (envOfC "adjusted_prices" (defScope s_adjusted_prices) s.heap.objs.size f cdv)).units + 1 < cLine := by have := hr.un; omega
    have hu64 : (A.deeper (envOfC "adjusted_prices" (defScope s_adjusted_prices) s.heap.objs.size f cdv)).units + 64 < cLine := by have := hr.un; omega
    have hu65 : (A.deeper (envOfC "adjusted_prices" (defScope s_adjusted_prices) s.heap.objs.size f cdv)).units + 65 < cLine := by have := hr.un; omega
    refine ⟨_, _,
      (jss_cons (js_expr (jc F_require_adjusting (hr.mono (by decide)) rfl (ja_cons (je_var 0) (ja_cons (je_var 1) (ja_cons (je_var 2) (ja_cons (je_var 3) ja_nil))))))
      (jss_one (js_ret (je_new (jn_dictD rfl T.b_dict (ja_cons (jy_ix (K := K) rfl (jc F_prices_behind (hr.mono (by decide)) rfl (ja_cons (je_var 0) (ja_cons (je_var 1) (ja_cons (je_var 2) (ja_cons (je_var 3) ja_nil))))) je_int) ja_nil)))))), ?_⟩
    rintro os args Φ ⟨com, cs, is, kind, n, N, rfl, rfl, R, hΦ⟩
    have hN := R.hN
    have hl := R.le
    walk_at "ss"
    refine ⟨com, cs, is, kind, n, rfl, rfl, R.c0, R.cB, R.C, R.I, by omega, R.hk, ?_⟩
    walk_at "ss"
    refine ⟨com, cs, is, kind, n, N, rfl, rfl, R, fun ns hp hso => ?_⟩
    walk_at "ss"
    refine i_dictD ?_
    walk_at "ss"
    exact hΦ ns hp hso
abbrev ct_converted_shares : Ct := fun os args Φ => ∃ (com : Rat) (cs : List Cl) (is : List (Rat × Rat)) (kind : Str) (n N : Nat), os = [] ∧ args = [.v (qD com), .v (clD cs), .v (isD is), .v (.str kind)] ∧ RunOk kind cs com is n N ∧ Φ (qD ((runQ kind cs com is).2 + sumL (cs.map fun c => c.paid / (runQ kind cs com is).1 c.nm))) []
theorem ok_converted_shares (T : Txt P K mg base) (F_require_adjusting : DefOk P w K mg base 42 "require_adjusting" ["common", "classes", "issues", "kind"] [] ct_require_adjusting) (F_prices_behind : DefOk P w K mg base 42 "prices_behind" ["common", "classes", "issues", "kind"] [] ct_prices_behind) (F_plus : DefOk P w K mg base 40 "plus" ["one", "other"] [] ct_plus) (F_shares_by : DefOk P w K mg base 41 "shares_by" ["classes", "prices"] [] ct_shares_by) : DefOk P w K mg base 43 "converted_shares" ["common", "classes", "issues", "kind"] [] ct_converted_shares := by
  refine mk_def T.g_converted_shares sc_converted_shares (by rintro os args Φ ⟨com, cs, is, kind, n, N, rfl, rfl, _⟩; rfl) (fun _ _ _ _ _ _ us hl => match us, hl with | [_, _, _, _], _ => rfl) (fun f cdv A outer s H E hr => ?b)
  case b =>
    have nd := (sc_converted_shares).nd
    have hu1 : (A.deeper (envOfC "converted_shares" (defScope s_converted_shares) s.heap.objs.size f cdv)).units + 1 < cLine := by have := hr.un; omega
    have hu64 : (A.deeper (envOfC "converted_shares" (defScope s_converted_shares) s.heap.objs.size f cdv)).units + 64 < cLine := by have := hr.un; omega
    have hu65 : (A.deeper (envOfC "converted_shares" (defScope s_converted_shares) s.heap.objs.size f cdv)).units + 65 < cLine := by have := hr.un; omega
    refine ⟨_, _,
      (jss_cons (js_expr (jc F_require_adjusting (hr.mono (by decide)) rfl (ja_cons (je_var 0) (ja_cons (je_var 1) (ja_cons (je_var 2) (ja_cons (je_var 3) ja_nil))))))
      (jss_cons (js_asg (jc F_prices_behind (hr.mono (by decide)) rfl (ja_cons (je_var 0) (ja_cons (je_var 1) (ja_cons (je_var 2) (ja_cons (je_var 3) ja_nil))))) (jx_tup (n := 2) rfl (jgs_cons (jg_name 4 nd rfl (by first | exact Or.inl rfl | exact Or.inr rfl)) (jgs_cons (jg_name 5 nd rfl (by first | exact Or.inl rfl | exact Or.inr rfl)) jgs_nil))))
      (jss_one (js_ret (jc F_plus (hr.mono (by decide)) rfl (ja_cons (je_var 5) (ja_cons (jc F_shares_by (hr.mono (by decide)) rfl (ja_cons (je_var 1) (ja_cons (je_var 4) ja_nil))) ja_nil))))))), ?_⟩
    rintro os args Φ ⟨com, cs, is, kind, n, N, rfl, rfl, R, hΦ⟩
    have hN := R.hN
    have hl := R.le
    have st := R.st is.length (Nat.le_refl _)
    rw [List.take_length] at st
    have C := R.C.mono R.le
    have l2 := C.le
    walk_at "ss"
    refine ⟨com, cs, is, kind, n, rfl, rfl, R.c0, R.cB, R.C, R.I, by omega, R.hk, ?_⟩
    walk_at "ss"
    refine ⟨com, cs, is, kind, n, N, rfl, rfl, R, fun ns hp hso => ?_⟩
    have nd2 : ns.Nodup := hp.symm.nodup C.nd
    have mem : ∀ c ∈ cs, c.nm ∈ ns := fun c hc => hp.symm.mem_iff.mp (List.mem_map_of_mem hc)
    have k3 : B (6 * N + 4) (sumL (cs.map fun c => c.paid / (runQ kind cs com is).1 c.nm)) := by
      have := B_sum (n := N + N) (qs := cs.map fun c => c.paid / (runQ kind cs com is).1 c.nm) fun q hq => by
        obtain ⟨c, hc, rfl⟩ := List.mem_map.mp hq
        exact B_div (C.ok c hc).pB (st.fB c hc)
      rw [List.length_map] at this
      refine this.mono ?_
      have : cs.length * (N + N + 1) ≤ 3 * (N + N + 1) := Nat.mul_le_mul_right _ l2
      omega
    walk_at "ss"
    refine ⟨cs, ns, _, N, rfl, rfl, C, nd2, fun c hc => ⟨mem c hc, st.f0 c hc, st.fB c hc⟩, by omega, ?_⟩
    walk_at "ss"
    refine ⟨_, _, N, 6 * N + 4, rfl, rfl, st.sB, k3, by omega, ?_⟩
    walk_at "ss"
    exact hΦ
end
end K73
set_option Elab.async false
set_option linter.all false
set_option maxRecDepth 100000
set_option autoImplicit false
set_option maxHeartbeats 0
namespace K73
open PySem L2 S PyProof.Rows
local macro_rules | `(tactic| walk_at "s") => `(tactic| first
  | (with_reducible apply i_seq)
  | (with_reducible apply i_asg)
  | (with_reducible apply i_gname)
  | (with_reducible apply i_op)
  | (with_reducible apply i_c)
  | ((with_reducible apply i_var); focus (rfl))
  | (with_reducible apply i_cons)
  | (with_reducible apply i_nil)
  | (with_reducible apply i_next)
  | (with_reducible apply i_ret)
  | (with_reducible apply i_drop)
  | (with_reducible apply i_ifS)
  | (with_reducible apply i_test)
  | (with_reducible apply i_kTest)
  | (with_reducible apply i_and)
  | (with_reducible apply i_or)
  | (with_reducible apply i_not)
  | (with_reducible apply i_andV)
  | (with_reducible apply i_orV)
  | (with_reducible apply i_notV)
  | (with_reducible apply i_kNotV)
  | (with_reducible apply i_ifE)
  | (with_reducible apply i_tup)
  | (with_reducible apply i_lst)
  | (with_reducible apply i_call)
  | (with_reducible apply i_cb)
  | (with_reducible apply i_isi)
  | (with_reducible apply i_isN)
  | (with_reducible apply i_notN)
  | ((with_reducible apply i_bt); focus (rfl))
  | ((with_reducible apply i_bf); focus (rfl))
  | ((with_reducible apply i_kIfT); focus (rfl))
  | ((with_reducible apply i_kIfF); focus (rfl))
  | ((with_reducible apply i_kAndT); focus (rfl))
  | ((with_reducible apply i_kAndF); focus (rfl))
  | ((with_reducible apply i_kOrT); focus (rfl))
  | ((with_reducible apply i_kOrF); focus (rfl))
  | ((with_reducible apply i_kAndVT); focus (rfl))
  | ((with_reducible apply i_kAndVF); focus (rfl))
  | ((with_reducible apply i_kOrVT); focus (rfl))
  | ((with_reducible apply i_kOrVF); focus (rfl))
  | ((with_reducible apply i_kIfET); focus (rfl))
  | ((with_reducible apply i_kIfEF); focus (rfl))
  | ((with_reducible apply i_kIsi); focus (rfl))
  | ((with_reducible apply i_kTup); (focus rfl); (focus (exact Nat.le_of_ble_eq_true rfl)))
  | ((with_reducible apply i_kLst); (focus rfl); (focus (exact Nat.le_of_ble_eq_true rfl)))
  | ((with_reducible apply i_kCall); focus (rfl))
  | ((with_reducible apply i_kCallD); focus (rfl))
  | ((with_reducible apply i_kCallO); (focus rfl); (focus rfl))
  | ((with_reducible apply i_kCB); focus (rfl))
  | ((with_reducible apply i_gtup); focus (rfl))
  | ((with_reducible apply i_glst); focus (rfl))
  | (with_reducible apply i_fI0)
  | (with_reducible apply i_absN)
  | (with_reducible apply i_int)
  | (with_reducible apply i_intB)
  | (with_reducible apply i_eqI)
  | (with_reducible apply i_neI)
  | (with_reducible apply i_eqQ)
  | (with_reducible apply i_neQ)
  | (with_reducible apply i_eqQi)
  | (with_reducible apply i_neQi)
  | (with_reducible apply i_gcons)
  | (with_reducible apply i_gnil)
  | (with_reducible apply i_own)
  | (with_reducible apply i_par)
  | (with_reducible apply i_parN)
  | (with_reducible apply i_parNN)
  | (with_reducible apply i_setC)
  | (with_reducible apply i_lenL)
  | (with_reducible apply i_lenT)
  | (with_reducible apply i_lenD)
  | (with_reducible apply i_for)
  | (with_reducible apply i_forC)
  | (with_reducible apply i_wiL)
  | (with_reducible apply i_kWL)
  | (with_reducible apply i_wiDic)
  | (with_reducible apply i_mDic)
  | (with_reducible apply i_wiS)
  | (with_reducible apply i_kWS)
  | (with_reducible apply i_lc)
  | (with_reducible apply i_dc)
  | (with_reducible apply i_yes)
  | (with_reducible apply i_sl)
  | (with_reducible apply i_kSl)
  | (with_reducible apply i_oN)
  | (with_reducible apply i_oS)
  | (with_reducible apply i_kO)
  | (with_reducible apply i_rep)
  | (with_reducible apply i_chain)
  | (with_reducible apply i_sign)
  | (with_reducible apply i_wmSeq)
  | (with_reducible apply i_wmRet)
  | (with_reducible apply i_wiR1)
  | (with_reducible apply i_wiEnum)
  | (with_reducible apply i_kEn)
  | (with_reducible apply i_wiEnumK)
  | (with_reducible apply i_kEnK)
  | (with_reducible apply i_retN)
  | ((with_reducible apply i_ixT); focus (rfl))
  | ((with_reducible apply i_ixL); focus (rfl))
  | ((with_reducible apply i_kChT); focus (rfl))
  | ((with_reducible apply i_consO); focus (rfl))
  | (with_reducible apply i_dic0)
  | (with_reducible apply i_dputO)
  | ((with_reducible apply i_kDput1); focus (rfl))
  | ((with_reducible apply i_ixV); focus (rfl))
  | ((with_reducible apply i_pop); focus (rfl))
  | ((with_reducible apply i_neO); focus (rfl))
  | ((with_reducible apply i_ext); focus (rfl))
  | (with_reducible apply i_lv)
  | (with_reducible apply i_kLV)
  | (with_reducible apply i_listL)
  | ((with_reducible apply i_lenO); focus (rfl))
  | ((with_reducible apply i_ixC); (focus rfl); (focus rfl))
  | ((with_reducible apply i_end1); focus (rfl))
  | (with_reducible apply i_max2)
  | (with_reducible apply i_min2)
  | (with_reducible apply i_end0')
  | (with_reducible apply i_end0n)
  | (with_reducible apply i_endM))
local macro_rules | `(tactic| walk_at "ss") => `(tactic| repeat walk_at "s")

section
variable {P : Program} {w : World} {K : PySem.W.Frag} {mg : Str → Option Value} {base : Heap}
abbrev ct__law_fund : Ct := fun os args Φ => ∃ (ns : List Int) (k : Int), os = [] ∧ args = [.v (.lst (ns.map D.int)), .v (.int k)] ∧ 0 ≤ k ∧ k < 100 ∧ ∀ d : D, Fund d → Φ d []
theorem ok__law_fund (T : Txt P K mg base)  : DefMk P w K mg base 37 "_law_fund" ["script", "k"] ct__law_fund := by
  refine mk_mk T.g__law_fund sc__law_fund (by rintro os args Φ ⟨ns, k, rfl, rfl, _⟩; rfl) (fun _ _ _ _ _ _ us hl => match us, hl with | [_, _], _ => rfl) (fun f cdv A outer s H E hr => ?b)
  case b =>
    have nd := (sc__law_fund).nd
    have hu1 : (A.deeper (envOfC "_law_fund" (defScope s__law_fund) s.heap.objs.size f cdv)).units + 1 < cLine := by have := hr.un; omega
    have hu64 : (A.deeper (envOfC "_law_fund" (defScope s__law_fund) s.heap.objs.size f cdv)).units + 64 < cLine := by have := hr.un; omega
    have hu65 : (A.deeper (envOfC "_law_fund" (defScope s__law_fund) s.heap.objs.size f cdv)).units + 65 < cLine := by have := hr.un; omega
    refine ⟨_, _,
      (jm_cons (js_set 2 nd rfl (by first | exact Or.inl rfl | exact Or.inr rfl) (je_if (jt_lt (je_var 1) (jy_len (K := K) rfl rfl T.b_len (ja_cons (je_var 0) ja_nil))) (je_abs rfl T.b_abs (ja_cons (jy_ix (K := K) rfl (je_var 0) (je_var 1)) ja_nil)) je_int))
      (jm_ret (jn_lst (ja_cons (je_max2 rfl rfl T.b_max (ja_cons je_int (ja_cons (je_sub (je_var 2) (je_pow je_int je_int)) ja_nil))) (ja_cons (je_add (je_add (je_mod (je_intc rfl T.b_int (ja_cons (je_var 2) ja_nil)) je_int) (je_mul je_int (je_var 1))) je_int) ja_nil))))), ?_⟩
    rintro os args Φ ⟨ns, k, rfl, rfl, k0, k1, hΦ⟩
    have fin : ∀ c : Int, 0 ≤ c → Φ (.lst [.int (if c - 10 ^ 18 > 0 then c - 10 ^ 18 else 0), .int (c % 2147483629 + 7 * k + 1)]) [] := fun c hc => by
      refine hΦ _ ⟨_, _, rfl, ?_, ?_, ?_⟩
      · split <;> omega
      · have := Int.emod_nonneg c (b := 2147483629) (by decide); omega
      · have := Int.emod_lt_of_pos c (b := 2147483629) (by decide); omega
    walk_at "ss"
    refine i_kIfE (fun hc => ?_) (fun hc => ?_)
    · have hl : k < (ns.length : Int) := by have := of_decide_eq_true hc; rw [List.length_map] at this; exact this
      have hk : k.toNat < ns.length := by omega
      walk_at "ss"
      refine i_ixL (d := .int ns[k.toNat]) ?_ ?_
      · rw [atI_pos k0 (by rw [List.length_map]; exact hl), List.getElem?_map, List.getElem?_eq_getElem hk]; rfl
      · walk_at "ss"
        refine i_fI (by refine ⟨by decide, by decide, by decide⟩) ?_
        walk_at "ss"
        refine i_fI (by show (0 : Int) < 2147483629; decide) ?_
        walk_at "ss"
        refine i_fI (cmul_of (n := 3) (m := 7) (by decide) (natAbs_lt2 k0 (by omega)) (by decide)) ?_
        walk_at "ss"
        exact fin _ (by omega)
    · walk_at "ss"
      refine i_fI (by refine ⟨by decide, by decide, by decide⟩) ?_
      walk_at "ss"
      refine i_fI (by show (0 : Int) < 2147483629; decide) ?_
      walk_at "ss"
      refine i_fI (cmul_of (n := 3) (m := 7) (by decide) (natAbs_lt2 k0 (by omega)) (by decide)) ?_
      walk_at "ss"
      exact fin 0 (by omega)
abbrev ct__law_pick : Ct := fun os args Φ => ∃ (d : D) (m : Int), os = [d] ∧ args = [.o 0, .v (.int m)] ∧ Fund d ∧ 0 < m ∧ m < 2 ^ 30 ∧ ∀ (r : Int) (d' : D), 0 ≤ r → r < m → Fund d' → Φ (.int r) [d']
theorem ok__law_pick (T : Txt P K mg base)  : DefOk P w K mg base 37 "_law_pick" ["fund", "many"] [] ct__law_pick := by
  refine mk_def T.g__law_pick sc__law_pick (by rintro os args Φ ⟨d, m, rfl, rfl, _⟩; rfl) (fun _ _ _ _ _ _ us hl => match us, hl with | [_, _], _ => rfl) (fun f cdv A outer s H E hr => ?b)
  case b =>
    have nd := (sc__law_pick).nd
    have hu1 : (A.deeper (envOfC "_law_pick" (defScope s__law_pick) s.heap.objs.size f cdv)).units + 1 < cLine := by have := hr.un; omega
    have hu64 : (A.deeper (envOfC "_law_pick" (defScope s__law_pick) s.heap.objs.size f cdv)).units + 64 < cLine := by have := hr.un; omega
    have hu65 : (A.deeper (envOfC "_law_pick" (defScope s__law_pick) s.heap.objs.size f cdv)).units + 65 < cLine := by have := hr.un; omega
    refine ⟨_, _,
      (jss_cons (js_if (jt_gt (je_ixC 0 (pv' 0)) je_int) (jss_cons (js_set 2 nd rfl (by first | exact Or.inl rfl | exact Or.inr rfl) (je_mod (je_intc rfl T.b_int (ja_cons (je_ixC 0 (pv' 0)) ja_nil)) (je_var 1)))
      (jss_cons (js_setC 0 (je_fdiv (je_ixC 0 (pv' 0)) (je_var 1)) (pv' 0))
      (jss_one (js_ret (je_var 2))))) jss_nil)
      (jss_cons (js_setC 0 (je_mod (je_intc rfl T.b_int (ja_cons (je_add (je_mul (je_ixC 0 (pv' 0)) je_int) je_int) ja_nil)) je_int) (pv' 0))
      (jss_one (js_ret (je_mod (je_intc rfl T.b_int (ja_cons (je_fdiv (je_ixC 0 (pv' 0)) je_int) ja_nil)) (je_var 1)))))), ?_⟩
    rintro os args Φ ⟨_, m, rfl, rfl, ⟨a, b, rfl, ha, hb, hb2⟩, m0, m1, hΦ⟩
    walk_at "ss"
    refine i_kIf (fun hc => ?_) (fun hc => ?_)
    · have a0 : 0 < a := of_decide_eq_true hc
      walk_at "ss"
      refine i_fI m0 ?_
      walk_at "ss"
      refine i_fI ⟨by omega, by omega⟩ ?_
      refine i_setC1 rfl rfl ?_
      walk_at "ss"
      refine hΦ _ _ (Int.emod_nonneg _ (by omega)) (Int.emod_lt_of_pos _ m0) ⟨a.fdiv m, b, rfl, ?_, hb, hb2⟩
      rw [Int.fdiv_eq_ediv_of_nonneg a (by omega)]
      exact Int.ediv_nonneg ha (by omega)
    · walk_at "ss"
      refine i_fI (cmul_of (natAbs_lt2 hb hb2) (m := 16) (by decide) (by decide)) ?_
      walk_at "ss"
      refine i_fI (by show (0 : Int) < 2147483647; decide) ?_
      refine i_setC1 rfl rfl ?_
      walk_at "ss"
      refine i_fI ⟨by decide, by decide⟩ ?_
      walk_at "ss"
      refine i_fI m0 ?_
      walk_at "ss"
      have h1 := Int.emod_nonneg (b * 48271 + 11) (b := 2147483647) (by decide)
      have h2 := Int.emod_lt_of_pos (b * 48271 + 11) (b := 2147483647) (by decide)
      exact hΦ _ _ (Int.emod_nonneg _ (by omega)) (Int.emod_lt_of_pos _ m0) ⟨a, (b * 48271 + 11) % 2147483647, rfl, ha, h1, by omega⟩
abbrev ct__law_made : Ct := fun os args Φ => ∃ (t : Int) (b : Nat), os = [] ∧ args = [.v (.int t), .v (.int b)] ∧ 0 < b ∧ Φ (qD (mkRat t b)) []
theorem ok__law_made (T : Txt P K mg base)  : DefOk P w K mg base 37 "_law_made" ["top", "bottom"] [] ct__law_made := by
  refine mk_def T.g__law_made sc__law_made (by rintro os args Φ ⟨t, b, rfl, rfl, _⟩; rfl) (fun _ _ _ _ _ _ us hl => match us, hl with | [_, _], _ => rfl) (fun f cdv A outer s H E hr => ?b)
  case b =>
    have nd := (sc__law_made).nd
    have hu1 : (A.deeper (envOfC "_law_made" (defScope s__law_made) s.heap.objs.size f cdv)).units + 1 < cLine := by have := hr.un; omega
    have hu64 : (A.deeper (envOfC "_law_made" (defScope s__law_made) s.heap.objs.size f cdv)).units + 64 < cLine := by have := hr.un; omega
    have hu65 : (A.deeper (envOfC "_law_made" (defScope s__law_made) s.heap.objs.size f cdv)).units + 65 < cLine := by have := hr.un; omega
    have SO : SeerOk (cxOf CX0 P w K mg base N__law_made "_law_made" (defScope s__law_made) f cdv A outer s H E).nox := seer_cx (k := 36) (by decide) T.ns T.tr rfl rfl hr
    refine ⟨_, _,
      (jss_cons (js_par (i := 2) (j := 3) rfl nd rfl rfl (by decide) rfl rfl (je_abs rfl T.b_abs (ja_cons (je_var 0) ja_nil)) (je_var 1) (by rfl))
      (jss_cons (js_while PassesOwn.never (jt_gt (je_var 3) je_int) (jss_one (js_par (i := 2) (j := 3) rfl nd rfl rfl (by decide) rfl rfl (je_var 3) (je_mod (je_intc rfl T.b_int (ja_cons (je_var 2) ja_nil)) (je_var 3)) (by rfl))))
      (jss_one (js_ret (je_if (jyt_eq (K := K) rfl hu64 (je_var 1) (je_var 2)) (je_fdivP SO (je_var 0) (je_var 2)) (je_new (jn_tup (ja_cons (je_fdivP SO (je_var 0) (je_var 2)) (ja_cons (je_fdivP SO (je_var 1) (je_var 2)) ja_nil))))))))), ?_⟩
    rintro os args Φ ⟨t, b, rfl, rfl, hb, hΦ⟩
    have hg : 0 < t.natAbs.gcd b := Nat.gcd_pos_of_pos_right _ hb
    rw [qD_mk t b hb] at hΦ
    walk_at "ss"
    refine i_while (fun m S => ∃ x y : Nat, S = ⟨[], [some (.v (.int t)), some (.v (.int b)), some (.v (.int x)), some (.v (.int y))]⟩ ∧ m = y ∧ Nat.gcd x y = Nat.gcd t.natAbs b) ⟨b, t.natAbs, b, rfl, rfl, rfl⟩ ?_
    rintro m S ⟨x, y, rfl, rfl, hgc⟩
    walk_at "ss"
    refine ⟨fun hc => ?_, fun hc => ?_⟩
    · have hy : 0 < m := by simpa using hc
      walk_at "ss"
      refine i_fI (by show (0 : Int) < m; omega) ?_
      walk_at "ss"
      refine ⟨x % m, Nat.mod_lt _ hy, m, x % m, rfl, rfl, ?_⟩
      rw [← hgc, Nat.gcd_comm x m, Nat.gcd_rec m x, Nat.gcd_comm]
    · have hy : m = 0 := by simpa using hc
      subst hy
      rw [Nat.gcd_zero_right] at hgc
      subst hgc
      have hle := Nat.gcd_dvd_right t.natAbs b
      walk_at "ss"
      have e : ((b : Int) = ((t.natAbs.gcd b : Nat) : Int)) ↔ b / t.natAbs.gcd b = 1 := by
        constructor
        · intro z
          have z2 : b = t.natAbs.gcd b := by omega
          rw [← z2]; exact Nat.div_self hb
        · intro z
          have := Nat.div_mul_cancel hle
          rw [z, Nat.one_mul] at this
          omega
      by_cases h1 : b / t.natAbs.gcd b = 1
      · rw [if_pos h1] at hΦ
        refine i_kIfET (decide_eq_true (e.mpr h1)) ?_
        walk_at "ss"
        refine i_fI (show (0 : Int) < (t.natAbs.gcd b : Nat) by omega) ?_
        walk_at "ss"
        exact hΦ
      · rw [if_neg h1] at hΦ
        refine i_kIfEF (decide_eq_false fun z => h1 (e.mp z)) ?_
        walk_at "ss"
        refine i_fI (show (0 : Int) < (t.natAbs.gcd b : Nat) by omega) ?_
        walk_at "ss"
        refine i_fI (show (0 : Int) < (t.natAbs.gcd b : Nat) by omega) ?_
        walk_at "ss"
        exact hΦ
abbrev ct__law_pair : Ct := fun os args Φ => ∃ q, os = [] ∧ args = [.v (qD q)] ∧ Φ (.tup [.int q.num, .int q.den]) []
theorem ok__law_pair (T : Txt P K mg base)  : DefOk P w K mg base 37 "_law_pair" ["one"] [] ct__law_pair := by
  refine mk_def T.g__law_pair sc__law_pair (by rintro os args Φ ⟨q, rfl, rfl, _⟩; rfl) (fun _ _ _ _ _ _ us hl => match us, hl with | [_], _ => rfl) (fun f cdv A outer s H E hr => ?b)
  case b =>
    have nd := (sc__law_pair).nd
    have hu1 : (A.deeper (envOfC "_law_pair" (defScope s__law_pair) s.heap.objs.size f cdv)).units + 1 < cLine := by have := hr.un; omega
    have hu64 : (A.deeper (envOfC "_law_pair" (defScope s__law_pair) s.heap.objs.size f cdv)).units + 64 < cLine := by have := hr.un; omega
    have hu65 : (A.deeper (envOfC "_law_pair" (defScope s__law_pair) s.heap.objs.size f cdv)).units + 65 < cLine := by have := hr.un; omega
    refine ⟨_, _,
      (jss_one (js_ret (je_if (jt_val (jy_isi (K := K) rfl (T := "tuple") rfl T.b_isinstance rfl T.b_tuple (by decide +kernel) (by decide) (by decide) (je_var 0))) (je_var 0) (je_new (jn_tup (ja_cons (je_var 0) (ja_cons je_int ja_nil))))))), ?_⟩
    rintro os args Φ ⟨q, rfl, rfl, hΦ⟩
    by_cases hd : q.den = 1
    · rw [qD_int hd]
      rw [hd] at hΦ
      walk_at "ss"
      exact hΦ
    · rw [qD_tup hd]
      walk_at "ss"
      exact hΦ
abbrev ct__law_sum : Ct := fun os args Φ => ∃ (qs : List Rat) (n : Nat), os = [] ∧ args = [.v (.lst (qs.map qD))] ∧ (∀ q ∈ qs, B n q) ∧ (qs.length + 1) * (n + 1) < 90000000 ∧ Φ (qD (sumL qs)) []
theorem ok__law_sum (T : Txt P K mg base) (F__law_pair : DefOk P w K mg base 37 "_law_pair" ["one"] [] ct__law_pair) (F__law_made : DefOk P w K mg base 37 "_law_made" ["top", "bottom"] [] ct__law_made) : DefOk P w K mg base 38 "_law_sum" ["numbers"] [] ct__law_sum := by
  refine mk_def T.g__law_sum sc__law_sum (by rintro os args Φ ⟨qs, n, rfl, rfl, _⟩; rfl) (fun _ _ _ _ _ _ us hl => match us, hl with | [_], _ => rfl) (fun f cdv A outer s H E hr => ?b)
  case b =>
    have nd := (sc__law_sum).nd
    have hu1 : (A.deeper (envOfC "_law_sum" (defScope s__law_sum) s.heap.objs.size f cdv)).units + 1 < cLine := by have := hr.un; omega
    have hu64 : (A.deeper (envOfC "_law_sum" (defScope s__law_sum) s.heap.objs.size f cdv)).units + 64 < cLine := by have := hr.un; omega
    have hu65 : (A.deeper (envOfC "_law_sum" (defScope s__law_sum) s.heap.objs.size f cdv)).units + 65 < cLine := by have := hr.un; omega
    refine ⟨_, _,
      (jss_cons (js_asg (je_new (jn_tup (ja_cons je_int (ja_cons je_int ja_nil)))) (jx_tup (n := 2) rfl (jgs_cons (jg_name 1 nd rfl (by first | exact Or.inl rfl | exact Or.inr rfl)) (jgs_cons (jg_name 2 nd rfl (by first | exact Or.inl rfl | exact Or.inr rfl)) jgs_nil))))
      (jss_cons (js_for PassesOwn.never rfl (ji_list (je_var 0)) (jg_name 3 nd rfl (by first | exact Or.inl rfl | exact Or.inr rfl)) (jss_cons (js_asg (jc F__law_pair (hr.mono (by decide)) rfl (ja_cons (je_var 3) ja_nil)) (jx_tup (n := 2) rfl (jgs_cons (jg_name 4 nd rfl (by first | exact Or.inl rfl | exact Or.inr rfl)) (jgs_cons (jg_name 5 nd rfl (by first | exact Or.inl rfl | exact Or.inr rfl)) jgs_nil))))
      (jss_one (js_par (i := 1) (j := 2) rfl nd rfl rfl (by decide) rfl rfl (je_add (je_mul (je_var 1) (je_var 5)) (je_mul (je_var 4) (je_var 2))) (je_mul (je_var 2) (je_var 5)) (by rfl)))))
      (jss_one (js_ret (jc F__law_made (hr.mono (by decide)) rfl (ja_cons (je_var 1) (ja_cons (je_var 2) ja_nil))))))), ?_⟩
    rintro os args Φ ⟨qs, n, rfl, rfl, hq, hn, hΦ⟩
    walk_at "ss"
    refine i_kFor (fun i S => ∃ (t : Int) (b : Nat) (x y z : Option _root_.S.Arg), S = ⟨[], [some (.v (.lst (qs.map qD))), some (.v (.int t)), some (.v (.int b)), x, y, z]⟩ ∧ 0 < b ∧ mkRat t b = sumL (qs.take i) ∧ t.natAbs < 2 ^ (i * (n + 1) + 1) ∧ b < 2 ^ (i * (n + 1) + 1)) ?h0 ?h1 ?h2
    case h0 =>
      refine ⟨0, 1, none, none, none, rfl, by decide, by rw [mkRat_one]; rfl, ?_, ?_⟩
      · rw [Nat.zero_mul]; decide
      · rw [Nat.zero_mul]; decide
    case h1 =>
      rintro i d S hd ⟨t, b, x, y, z, rfl, hb, hs, h1, h2⟩
      rw [List.getElem?_map] at hd
      obtain ⟨q, hqi, rfl⟩ := Option.map_eq_some_iff.mp hd
      have hi : i < qs.length := (List.getElem?_eq_some_iff.mp hqi).1
      have bq := hq q (List.mem_of_getElem? hqi)
      have hin : i * (n + 1) + 1 + n < 90000000 := by
        have h3 : (i + 2) * (n + 1) ≤ (qs.length + 1) * (n + 1) := Nat.mul_le_mul_right _ (by omega)
        have h4 : (i + 2) * (n + 1) = i * (n + 1) + 2 * (n + 1) := Nat.add_mul _ _ _
        omega
      have hst : sumL (qs.take (i + 1)) = sumL (qs.take i) + q := by rw [List.take_succ, hqi, Option.toList_some, sumL_snoc]
      have hexp : (i + 1) * (n + 1) + 1 = i * (n + 1) + 1 + n + 1 := by rw [Nat.succ_mul]; omega
      walk_at "ss"
      refine ⟨q, rfl, rfl, ?_⟩
      walk_at "ss"
      refine i_fI (cmul_of h1 (nat_lt2 bq.2) (by omega)) ?_
      walk_at "ss"
      refine i_fI (cmul_of bq.1 (nat_lt2 h2) (by omega)) ?_
      walk_at "ss"
      refine i_fI (cmul_of (nat_lt2 h2) (nat_lt2 bq.2) (by omega)) ?_
      walk_at "ss"
      refine ⟨t * (q.den : Int) + q.num * (b : Int), b * q.den, some (.v (qD q)), some (.v (.int q.num)), some (.v (.int q.den)), ?_, Nat.mul_pos hb q.den_pos, ?_, ?_, ?_⟩
      · rw [Int.natCast_mul]; rfl
      · rw [hst, ← hs]
        exact (mkRat_den_mul t b q (by omega)).symm
      · rw [hexp]
        refine iadd_lt2 (imul_lt2 h1 (nat_lt2 bq.2)) ?_
        rw [Nat.add_comm _ n]
        exact imul_lt2 bq.1 (nat_lt2 h2)
      · exact Nat.lt_of_lt_of_le (mul_lt2 h2 bq.2) (two_le (by omega))
    case h2 =>
      rintro S ⟨t, b, x, y, z, rfl, hb, hs, h1, h2⟩
      rw [List.length_map, List.take_length] at hs
      walk_at "ss"
      refine ⟨t, b, rfl, rfl, hb, ?_⟩
      rw [hs]
      walk_at "ss"
      exact hΦ
abbrev ct__law_times : Ct := fun os args Φ => ∃ (a b : Rat) (n m : Nat), os = [] ∧ args = [.v (qD a), .v (qD b)] ∧ B n a ∧ B m b ∧ n + m < 90000000 ∧ Φ (qD (a * b)) []
theorem ok__law_times (T : Txt P K mg base) (F__law_pair : DefOk P w K mg base 37 "_law_pair" ["one"] [] ct__law_pair) (F__law_made : DefOk P w K mg base 37 "_law_made" ["top", "bottom"] [] ct__law_made) : DefOk P w K mg base 38 "_law_times" ["one", "two"] [] ct__law_times := by
  refine mk_def T.g__law_times sc__law_times (by rintro os args Φ ⟨a, b, n, m, rfl, rfl, _⟩; rfl) (fun _ _ _ _ _ _ us hl => match us, hl with | [_, _], _ => rfl) (fun f cdv A outer s H E hr => ?b)
  case b =>
    have nd := (sc__law_times).nd
    have hu1 : (A.deeper (envOfC "_law_times" (defScope s__law_times) s.heap.objs.size f cdv)).units + 1 < cLine := by have := hr.un; omega
    have hu64 : (A.deeper (envOfC "_law_times" (defScope s__law_times) s.heap.objs.size f cdv)).units + 64 < cLine := by have := hr.un; omega
    have hu65 : (A.deeper (envOfC "_law_times" (defScope s__law_times) s.heap.objs.size f cdv)).units + 65 < cLine := by have := hr.un; omega
    refine ⟨_, _,
      (jss_cons (js_par (i := 0) (j := 1) rfl nd rfl rfl (by decide) rfl rfl (jc F__law_pair (hr.mono (by decide)) rfl (ja_cons (je_var 0) ja_nil)) (jc F__law_pair (hr.mono (by decide)) rfl (ja_cons (je_var 1) ja_nil)) (by rfl))
      (jss_one (js_ret (jc F__law_made (hr.mono (by decide)) rfl (ja_cons (je_mul (jy_ix (K := K) rfl (je_var 0) je_int) (jy_ix (K := K) rfl (je_var 1) je_int)) (ja_cons (je_mul (jy_ix (K := K) rfl (je_var 0) je_int) (jy_ix (K := K) rfl (je_var 1) je_int)) ja_nil)))))), ?_⟩
    rintro os args Φ ⟨a, b, n, m, rfl, rfl, ha, hb, hn, hΦ⟩
    walk_at "ss"
    refine ⟨a, rfl, rfl, ?_⟩
    walk_at "ss"
    refine ⟨b, rfl, rfl, ?_⟩
    walk_at "ss"
    refine i_fI (cmul_of ha.1 hb.1 (by omega)) ?_
    walk_at "ss"
    refine i_fI (cmul_of (nat_lt2 ha.2) (nat_lt2 hb.2) (by omega)) ?_
    walk_at "ss"
    refine ⟨a.num * b.num, a.den * b.den, rfl, by rw [Int.natCast_mul], Nat.mul_pos a.den_pos b.den_pos, ?_⟩
    rw [← Rat.mul_def']
    walk_at "ss"
    exact hΦ
abbrev ct__law_over : Ct := fun os args Φ => ∃ (a b : Rat) (n m : Nat), os = [] ∧ args = [.v (qD a), .v (qD b)] ∧ B n a ∧ B m b ∧ n + m < 90000000 ∧ 0 < b ∧ Φ (qD (a / b)) []
theorem ok__law_over (T : Txt P K mg base) (F__law_pair : DefOk P w K mg base 37 "_law_pair" ["one"] [] ct__law_pair) (F__law_made : DefOk P w K mg base 37 "_law_made" ["top", "bottom"] [] ct__law_made) : DefOk P w K mg base 38 "_law_over" ["one", "two"] [] ct__law_over := by
  refine mk_def T.g__law_over sc__law_over (by rintro os args Φ ⟨a, b, n, m, rfl, rfl, _⟩; rfl) (fun _ _ _ _ _ _ us hl => match us, hl with | [_, _], _ => rfl) (fun f cdv A outer s H E hr => ?b)
  case b =>
    have nd := (sc__law_over).nd
    have hu1 : (A.deeper (envOfC "_law_over" (defScope s__law_over) s.heap.objs.size f cdv)).units + 1 < cLine := by have := hr.un; omega
    have hu64 : (A.deeper (envOfC "_law_over" (defScope s__law_over) s.heap.objs.size f cdv)).units + 64 < cLine := by have := hr.un; omega
    have hu65 : (A.deeper (envOfC "_law_over" (defScope s__law_over) s.heap.objs.size f cdv)).units + 65 < cLine := by have := hr.un; omega
    refine ⟨_, _,
      (jss_cons (js_par (i := 0) (j := 1) rfl nd rfl rfl (by decide) rfl rfl (jc F__law_pair (hr.mono (by decide)) rfl (ja_cons (je_var 0) ja_nil)) (jc F__law_pair (hr.mono (by decide)) rfl (ja_cons (je_var 1) ja_nil)) (by rfl))
      (jss_one (js_ret (jc F__law_made (hr.mono (by decide)) rfl (ja_cons (je_mul (jy_ix (K := K) rfl (je_var 0) je_int) (jy_ix (K := K) rfl (je_var 1) je_int)) (ja_cons (je_mul (jy_ix (K := K) rfl (je_var 0) je_int) (jy_ix (K := K) rfl (je_var 1) je_int)) ja_nil)))))), ?_⟩
    rintro os args Φ ⟨a, b, n, m, rfl, rfl, ha, hb, hn, h0, hΦ⟩
    have np := num_pos h0
    walk_at "ss"
    refine ⟨a, rfl, rfl, ?_⟩
    walk_at "ss"
    refine ⟨b, rfl, rfl, ?_⟩
    walk_at "ss"
    refine i_fI (cmul_of ha.1 (nat_lt2 hb.2) (by omega)) ?_
    walk_at "ss"
    refine i_fI (cmul_of (nat_lt2 ha.2) hb.1 (by omega)) ?_
    walk_at "ss"
    refine ⟨a.num * (b.den : Int), a.den * b.num.toNat, rfl, ?_, Nat.mul_pos a.den_pos (by omega), ?_⟩
    · rw [Int.natCast_mul, Int.toNat_of_nonneg (by omega)]
    · rw [← div_mk h0]
      walk_at "ss"
      exact hΦ
abbrev ct__law_less : Ct := fun os args Φ => ∃ (a b : Rat) (n m : Nat), os = [] ∧ args = [.v (qD a), .v (qD b)] ∧ B n a ∧ B m b ∧ n + m < 90000000 ∧ Φ (.bl (decide (a < b))) []
theorem ok__law_less (T : Txt P K mg base) (F__law_pair : DefOk P w K mg base 37 "_law_pair" ["one"] [] ct__law_pair) : DefOk P w K mg base 38 "_law_less" ["one", "two"] [] ct__law_less := by
  refine mk_def T.g__law_less sc__law_less (by rintro os args Φ ⟨a, b, n, m, rfl, rfl, _⟩; rfl) (fun _ _ _ _ _ _ us hl => match us, hl with | [_, _], _ => rfl) (fun f cdv A outer s H E hr => ?b)
  case b =>
    have nd := (sc__law_less).nd
    have hu1 : (A.deeper (envOfC "_law_less" (defScope s__law_less) s.heap.objs.size f cdv)).units + 1 < cLine := by have := hr.un; omega
    have hu64 : (A.deeper (envOfC "_law_less" (defScope s__law_less) s.heap.objs.size f cdv)).units + 64 < cLine := by have := hr.un; omega
    have hu65 : (A.deeper (envOfC "_law_less" (defScope s__law_less) s.heap.objs.size f cdv)).units + 65 < cLine := by have := hr.un; omega
    refine ⟨_, _,
      (jss_cons (js_par (i := 0) (j := 1) rfl nd rfl rfl (by decide) rfl rfl (jc F__law_pair (hr.mono (by decide)) rfl (ja_cons (je_var 0) ja_nil)) (jc F__law_pair (hr.mono (by decide)) rfl (ja_cons (je_var 1) ja_nil)) (by rfl))
      (jss_one (js_ret (jc_lt (je_mul (jy_ix (K := K) rfl (je_var 0) je_int) (jy_ix (K := K) rfl (je_var 1) je_int)) (je_mul (jy_ix (K := K) rfl (je_var 1) je_int) (jy_ix (K := K) rfl (je_var 0) je_int)))))), ?_⟩
    rintro os args Φ ⟨a, b, n, m, rfl, rfl, ha, hb, hn, hΦ⟩
    walk_at "ss"
    refine ⟨a, rfl, rfl, ?_⟩
    walk_at "ss"
    refine ⟨b, rfl, rfl, ?_⟩
    walk_at "ss"
    refine i_fI (cmul_of ha.1 (nat_lt2 hb.2) (by omega)) ?_
    walk_at "ss"
    refine i_fI (cmul_of hb.1 (nat_lt2 ha.2) (by omega)) ?_
    walk_at "ss"
    rw [show decide (a.num * (b.den : Int) < b.num * (a.den : Int)) = decide (a < b) from decide_eq_decide.mpr (Rat.lt_iff a b).symm]
    exact hΦ
abbrev ct__law_some : Ct := fun os args Φ => ∃ d : D, os = [d] ∧ args = [.o 0] ∧ Fund d ∧ ∀ (q : Rat) (d' : D), 0 < q → B 100 q → Fund d' → Φ (qD q) [d']
theorem ok__law_some (T : Txt P K mg base) (F__law_pick : DefOk P w K mg base 37 "_law_pick" ["fund", "many"] [] ct__law_pick) (F__law_made : DefOk P w K mg base 37 "_law_made" ["top", "bottom"] [] ct__law_made) : DefOk P w K mg base 38 "_law_some" ["fund"] [] ct__law_some := by
  refine mk_def T.g__law_some sc__law_some (by rintro os args Φ ⟨d, rfl, rfl, _⟩; rfl) (fun _ _ _ _ _ _ us hl => match us, hl with | [_], _ => rfl) (fun f cdv A outer s H E hr => ?b)
  case b =>
    have nd := (sc__law_some).nd
    have hu1 : (A.deeper (envOfC "_law_some" (defScope s__law_some) s.heap.objs.size f cdv)).units + 1 < cLine := by have := hr.un; omega
    have hu64 : (A.deeper (envOfC "_law_some" (defScope s__law_some) s.heap.objs.size f cdv)).units + 64 < cLine := by have := hr.un; omega
    have hu65 : (A.deeper (envOfC "_law_some" (defScope s__law_some) s.heap.objs.size f cdv)).units + 65 < cLine := by have := hr.un; omega
    refine ⟨_, _,
      (jss_cons (js_set 1 nd rfl (by first | exact Or.inl rfl | exact Or.inr rfl) (jcX F__law_pick (hr.mono (by decide)) rfl (ja_consO 0 (ja_cons je_int ja_nil))))
      (jss_cons (js_if (jt_lt (je_var 1) je_int) (jss_one (js_ret (je_add je_int (jcX F__law_pick (hr.mono (by decide)) rfl (ja_consO 0 (ja_cons je_int ja_nil)))))) jss_nil)
      (jss_cons (js_if (jt_lt (je_var 1) je_int) (jss_one (js_ret (jc F__law_made (hr.mono (by decide)) rfl (ja_cons (je_add je_int (jcX F__law_pick (hr.mono (by decide)) rfl (ja_consO 0 (ja_cons je_int ja_nil)))) (ja_cons (je_add je_int (jcX F__law_pick (hr.mono (by decide)) rfl (ja_consO 0 (ja_cons je_int ja_nil)))) ja_nil))))) jss_nil)
      (jss_cons (js_set 2 nd rfl (by first | exact Or.inl rfl | exact Or.inr rfl) (je_add (je_add je_int (je_mul (jcX F__law_pick (hr.mono (by decide)) rfl (ja_consO 0 (ja_cons (je_pow je_int je_int) ja_nil))) (je_pow je_int je_int))) (jcX F__law_pick (hr.mono (by decide)) rfl (ja_consO 0 (ja_cons (je_pow je_int je_int) ja_nil)))))
      (jss_one (js_ret (jy_ix (K := K) rfl (je_new (jn_lst (ja_cons (je_var 2) (ja_cons (jc F__law_made (hr.mono (by decide)) rfl (ja_cons (je_add je_int (jcX F__law_pick (hr.mono (by decide)) rfl (ja_consO 0 (ja_cons (je_pow je_int je_int) ja_nil)))) (ja_cons (je_add je_int (jcX F__law_pick (hr.mono (by decide)) rfl (ja_consO 0 (ja_cons (je_pow je_int je_int) ja_nil)))) ja_nil))) ja_nil)))) (je_sub (je_var 1) je_int)))))))), ?_⟩
    rintro os args Φ ⟨d, rfl, rfl, hd, hΦ⟩
    have fin : ∀ (z : Int) (d' : D), 0 < z → z < 2 ^ 100 → Fund d' → Φ (.int z) [d'] := fun z d' h1 h2 h3 => by
      rw [← qD_z z]
      exact hΦ _ d' (Rat.intCast_pos.mpr h1) (B_int (by decide) (by omega) h2) h3
    walk_at "ss"
    refine i_callX 0 ?_
    walk_at "ss"
    refine ⟨_, 8, rfl, rfl, hd, by decide, by decide, fun r1 d1 r1a r1b h1 => ⟨d1, rfl, ?_⟩⟩
    walk_at "ss"
    refine i_kIf (fun hc => ?_) (fun hc => ?_)
    · walk_at "ss"
      refine i_callX 0 ?_
      walk_at "ss"
      refine ⟨_, 30, rfl, rfl, h1, by decide, by decide, fun r2 d2 r2a r2b h2 => ⟨d2, rfl, ?_⟩⟩
      walk_at "ss"
      exact fin _ _ (by omega) (by omega) h2
    · walk_at "ss"
      have c4 := of_decide_eq_false hc
      refine i_kIf (fun hc => ?_) (fun hc => ?_)
      · walk_at "ss"
        refine i_callX 0 ?_
        walk_at "ss"
        refine ⟨_, 40, rfl, rfl, h1, by decide, by decide, fun r2 d2 r2a r2b h2 => ⟨d2, rfl, ?_⟩⟩
        walk_at "ss"
        refine i_callX 0 ?_
        walk_at "ss"
        refine ⟨_, 6, rfl, rfl, h2, by decide, by decide, fun r3 d3 r3a r3b h3 => ⟨d3, rfl, ?_⟩⟩
        walk_at "ss"
        refine ⟨1 + r2, (2 + r3).toNat, rfl, by rw [Int.toNat_of_nonneg (by omega)], by omega, ?_⟩
        walk_at "ss"
        exact hΦ _ _ (mkRat_pos (by omega) (by omega)) (B_mkI (by omega) (by omega) (by omega) (by omega)) h3
      · have c6 := of_decide_eq_false hc
        walk_at "ss"
        refine i_callX 0 ?_
        walk_at "ss"
        refine i_fI ⟨by decide, by decide, by decide⟩ ?_
        walk_at "ss"
        refine ⟨_, 1000000000, rfl, rfl, h1, by decide, by decide, fun r2 d2 r2a r2b h2 => ⟨d2, rfl, ?_⟩⟩
        walk_at "ss"
        refine i_fI ⟨by decide, by decide, by decide⟩ ?_
        walk_at "ss"
        refine i_fI (cmul_of (natAbs_lt2 (n := 30) r2a (by omega)) (m := 57) (by decide) (by decide)) ?_
        walk_at "ss"
        refine i_callX 0 ?_
        walk_at "ss"
        refine i_fI ⟨by decide, by decide, by decide⟩ ?_
        walk_at "ss"
        refine ⟨_, 1000000000, rfl, rfl, h2, by decide, by decide, fun r3 d3 r3a r3b h3 => ⟨d3, rfl, ?_⟩⟩
        walk_at "ss"
        refine i_callX 0 ?_
        walk_at "ss"
        refine i_fI ⟨by decide, by decide, by decide⟩ ?_
        walk_at "ss"
        refine ⟨_, 1000000000, rfl, rfl, h3, by decide, by decide, fun r4 d4 r4a r4b h4 => ⟨d4, rfl, ?_⟩⟩
        walk_at "ss"
        refine i_callX 0 ?_
        walk_at "ss"
        refine i_fI ⟨by decide, by decide, by decide⟩ ?_
        walk_at "ss"
        refine ⟨_, 1000000000, rfl, rfl, h4, by decide, by decide, fun r5 d5 r5a r5b h5 => ⟨d5, rfl, ?_⟩⟩
        walk_at "ss"
        refine ⟨1 + r4, (2 + r5).toNat, rfl, by rw [Int.toNat_of_nonneg (by omega)], by omega, ?_⟩
        walk_at "ss"
        have e17 : (10 : Int) ^ (17 : Int).toNat = 100000000000000000 := by decide
        have w : r1 = 6 ∨ r1 = 7 := by omega
        rcases w with rfl | rfl
        · walk_at "ss"
          refine fin _ _ ?_ ?_ h5
          · rw [e17]; omega
          · rw [e17]; omega
        · walk_at "ss"
          exact hΦ _ _ (mkRat_pos (by omega) (by omega)) (B_mkI (by omega) (by omega) (by omega) (by omega)) h5
end
end K73
set_option Elab.async false
set_option linter.all false
set_option maxRecDepth 100000
set_option autoImplicit false
set_option maxHeartbeats 0
namespace K73
open PySem L2 S PyProof.Rows
local macro_rules | `(tactic| walk_at "s") => `(tactic| first
  | (with_reducible apply i_seq)
  | (with_reducible apply i_asg)
  | (with_reducible apply i_gname)
  | (with_reducible apply i_op)
  | (with_reducible apply i_c)
  | ((with_reducible apply i_var); focus (rfl))
  | (with_reducible apply i_cons)
  | (with_reducible apply i_nil)
  | (with_reducible apply i_next)
  | (with_reducible apply i_ret)
  | (with_reducible apply i_drop)
  | (with_reducible apply i_ifS)
  | (with_reducible apply i_test)
  | (with_reducible apply i_kTest)
  | (with_reducible apply i_and)
  | (with_reducible apply i_or)
  | (with_reducible apply i_not)
  | (with_reducible apply i_andV)
  | (with_reducible apply i_orV)
  | (with_reducible apply i_notV)
  | (with_reducible apply i_kNotV)
  | (with_reducible apply i_ifE)
  | (with_reducible apply i_tup)
  | (with_reducible apply i_lst)
  | (with_reducible apply i_call)
  | (with_reducible apply i_cb)
  | (with_reducible apply i_isi)
  | (with_reducible apply i_isN)
  | (with_reducible apply i_notN)
  | ((with_reducible apply i_bt); focus (rfl))
  | ((with_reducible apply i_bf); focus (rfl))
  | ((with_reducible apply i_kIfT); focus (rfl))
  | ((with_reducible apply i_kIfF); focus (rfl))
  | ((with_reducible apply i_kAndT); focus (rfl))
  | ((with_reducible apply i_kAndF); focus (rfl))
  | ((with_reducible apply i_kOrT); focus (rfl))
  | ((with_reducible apply i_kOrF); focus (rfl))
  | ((with_reducible apply i_kAndVT); focus (rfl))
  | ((with_reducible apply i_kAndVF); focus (rfl))
  | ((with_reducible apply i_kOrVT); focus (rfl))
  | ((with_reducible apply i_kOrVF); focus (rfl))
  | ((with_reducible apply i_kIfET); focus (rfl))
  | ((with_reducible apply i_kIfEF); focus (rfl))
  | ((with_reducible apply i_kIsi); focus (rfl))
  | ((with_reducible apply i_kTup); (focus rfl); (focus (exact Nat.le_of_ble_eq_true rfl)))
  | ((with_reducible apply i_kLst); (focus rfl); (focus (exact Nat.le_of_ble_eq_true rfl)))
  | ((with_reducible apply i_kCall); focus (rfl))
  | ((with_reducible apply i_kCallD); focus (rfl))
  | ((with_reducible apply i_kCallO); (focus rfl); (focus rfl))
  | ((with_reducible apply i_kCB); focus (rfl))
  | ((with_reducible apply i_gtup); focus (rfl))
  | ((with_reducible apply i_glst); focus (rfl))
  | (with_reducible apply i_fI0)
  | (with_reducible apply i_absN)
  | (with_reducible apply i_int)
  | (with_reducible apply i_intB)
  | (with_reducible apply i_eqI)
  | (with_reducible apply i_neI)
  | (with_reducible apply i_eqQ)
  | (with_reducible apply i_neQ)
  | (with_reducible apply i_eqQi)
  | (with_reducible apply i_neQi)
  | (with_reducible apply i_gcons)
  | (with_reducible apply i_gnil)
  | (with_reducible apply i_own)
  | (with_reducible apply i_par)
  | (with_reducible apply i_parN)
  | (with_reducible apply i_parNN)
  | (with_reducible apply i_setC)
  | (with_reducible apply i_lenL)
  | (with_reducible apply i_lenT)
  | (with_reducible apply i_lenD)
  | (with_reducible apply i_for)
  | (with_reducible apply i_forC)
  | (with_reducible apply i_wiL)
  | (with_reducible apply i_kWL)
  | (with_reducible apply i_wiDic)
  | (with_reducible apply i_mDic)
  | (with_reducible apply i_wiS)
  | (with_reducible apply i_kWS)
  | (with_reducible apply i_lc)
  | (with_reducible apply i_dc)
  | (with_reducible apply i_yes)
  | (with_reducible apply i_sl)
  | (with_reducible apply i_kSl)
  | (with_reducible apply i_oN)
  | (with_reducible apply i_oS)
  | (with_reducible apply i_kO)
  | (with_reducible apply i_rep)
  | (with_reducible apply i_chain)
  | (with_reducible apply i_sign)
  | (with_reducible apply i_wmSeq)
  | (with_reducible apply i_wmRet)
  | (with_reducible apply i_wiR1)
  | (with_reducible apply i_wiEnum)
  | (with_reducible apply i_kEn)
  | (with_reducible apply i_wiEnumK)
  | (with_reducible apply i_kEnK)
  | (with_reducible apply i_retN)
  | ((with_reducible apply i_ixT); focus (rfl))
  | ((with_reducible apply i_ixL); focus (rfl))
  | ((with_reducible apply i_kChT); focus (rfl))
  | ((with_reducible apply i_consO); focus (rfl))
  | (with_reducible apply i_dic0)
  | (with_reducible apply i_dputO)
  | ((with_reducible apply i_kDput1); focus (rfl))
  | ((with_reducible apply i_ixV); focus (rfl))
  | ((with_reducible apply i_pop); focus (rfl))
  | ((with_reducible apply i_neO); focus (rfl))
  | ((with_reducible apply i_ext); focus (rfl))
  | (with_reducible apply i_lv)
  | (with_reducible apply i_kLV)
  | (with_reducible apply i_listL)
  | ((with_reducible apply i_lenO); focus (rfl))
  | ((with_reducible apply i_ixC); (focus rfl); (focus rfl))
  | ((with_reducible apply i_end1); focus (rfl))
  | (with_reducible apply i_max2)
  | (with_reducible apply i_min2)
  | (with_reducible apply i_end0')
  | (with_reducible apply i_end0n)
  | (with_reducible apply i_endM))
local macro_rules | `(tactic| walk_at "ss") => `(tactic| repeat walk_at "s")

section
variable {P : Program} {w : World} {K : PySem.W.Frag} {mg : Str → Option Value} {base : Heap}
abbrev ct__law_classes : Ct := fun os args Φ => ∃ d : D, os = [d] ∧ args = [.o 0, .v (.int 3)] ∧ Fund d ∧ ∀ (cs : List Cl) (d' : D), Drawn cs → Fund d' → Φ (clD cs) [d']
theorem ok__law_classes (T : Txt P K mg base) (F__law_some : DefOk P w K mg base 38 "_law_some" ["fund"] [] ct__law_some) (F__law_pick : DefOk P w K mg base 37 "_law_pick" ["fund", "many"] [] ct__law_pick) (F__law_made : DefOk P w K mg base 37 "_law_made" ["top", "bottom"] [] ct__law_made) : DefOk P w K mg base 39 "_law_classes" ["fund", "most"] [] ct__law_classes := by
  refine mk_def T.g__law_classes sc__law_classes (by rintro os args Φ ⟨d, rfl, rfl, _⟩; rfl) (fun _ _ _ _ _ _ us hl => match us, hl with | [_, _], _ => rfl) (fun f cdv A outer s H E hr => ?b)
  case b =>
    have nd := (sc__law_classes).nd
    have hu1 : (A.deeper (envOfC "_law_classes" (defScope s__law_classes) s.heap.objs.size f cdv)).units + 1 < cLine := by have := hr.un; omega
    have hu64 : (A.deeper (envOfC "_law_classes" (defScope s__law_classes) s.heap.objs.size f cdv)).units + 64 < cLine := by have := hr.un; omega
    have hu65 : (A.deeper (envOfC "_law_classes" (defScope s__law_classes) s.heap.objs.size f cdv)).units + 65 < cLine := by have := hr.un; omega
    refine ⟨_, _,
      (jss_cons (js_parN (i := 2) (j := 3) rfl nd rfl rfl (by decide) rfl rfl jn_dic0 (je_new (jn_lst (ja_cons (jcX F__law_some (hr.mono (by decide)) rfl (ja_consO 0 ja_nil)) (ja_cons (je_add je_int (jcX F__law_pick (hr.mono (by decide)) rfl (ja_consO 0 (ja_cons je_int ja_nil)))) (ja_cons (jc F__law_made (hr.mono (by decide)) rfl (ja_cons (je_add je_int (jcX F__law_pick (hr.mono (by decide)) rfl (ja_consO 0 (ja_cons je_int ja_nil)))) (ja_cons je_int ja_nil))) ja_nil))))) (by rfl))
      (jss_cons (js_set 4 nd rfl (by first | exact Or.inl rfl | exact Or.inr rfl) (je_new (jn_lst (ja_cons je_str (ja_cons je_str (ja_cons je_str (ja_cons je_str (ja_cons je_str (ja_cons je_str (ja_cons je_str (ja_cons je_str (ja_cons je_str (ja_cons je_str (ja_cons je_str (ja_cons je_str ja_nil)))))))))))))))
      (jss_cons (js_forC PassesOwn.never rfl (ji_list (je_new (jyn_slice (K := K) rfl (je_var 4) jo_none (jo_some (je_add je_int (jcX F__law_pick (hr.mono (by decide)) rfl (ja_consO 0 (ja_cons (je_var 1) ja_nil)))))))) (jg_name 5 nd rfl (by first | exact Or.inl rfl | exact Or.inr rfl)) (jss_cons (js_own 6 nd rfl (by first | exact Or.inl rfl | exact Or.inr rfl) (jn_lst (ja_cons (jc F__law_made (hr.mono (by decide)) rfl (ja_cons (je_add je_int (jcX F__law_pick (hr.mono (by decide)) rfl (ja_consO 0 (ja_cons je_int ja_nil)))) (ja_cons (je_add je_int (je_mul je_int (jcX F__law_pick (hr.mono (by decide)) rfl (ja_consO 0 (ja_cons je_int ja_nil))))) ja_nil))) (ja_cons (je_add je_int (jcX F__law_pick (hr.mono (by decide)) rfl (ja_consO 0 (ja_cons (je_pow je_int je_int) ja_nil)))) ja_nil))))
      (jss_cons (js_expr (jx_app 6 (pv' 6) (jcX F__law_some (hr.mono (by decide)) rfl (ja_consO 0 ja_nil))))
      (jss_one (js_dputO 2 hu1 (je_new (jn_tup (ja_cons (je_ixV 6 (jcX F__law_pick (hr.mono (by decide)) rfl (ja_consO 0 (ja_cons je_int ja_nil))) (pv' 6)) (ja_cons (jy_ix (K := K) rfl (je_var 3) (jcX F__law_pick (hr.mono (by decide)) rfl (ja_consO 0 (ja_cons je_int ja_nil)))) ja_nil)))) (je_var 5) (pv' 2))))))
      (jss_one (js_ret (je_var 2)))))), ?_⟩
    rintro os args Φ ⟨d, rfl, rfl, hd, hΦ⟩
    walk_at "ss"
    refine i_callX 0 ?_
    walk_at "ss"
    refine ⟨_, rfl, rfl, hd, fun q1 d1 q1p q1B h1 => ⟨d1, rfl, ?_⟩⟩
    walk_at "ss"
    refine i_callX 0 ?_
    walk_at "ss"
    refine ⟨_, 12, rfl, rfl, h1, by decide, by decide, fun r2 d2 r2a r2b h2 => ⟨d2, rfl, ?_⟩⟩
    walk_at "ss"
    refine i_callX 0 ?_
    walk_at "ss"
    refine ⟨_, 30, rfl, rfl, h2, by decide, by decide, fun r3 d3 r3a r3b h3 => ⟨d3, rfl, ?_⟩⟩
    walk_at "ss"
    refine ⟨1 + r3, 2, rfl, rfl, by decide, ?_⟩
    walk_at "ss"
    refine i_callX 0 ?_
    walk_at "ss"
    refine ⟨_, 3, rfl, rfl, h3, by decide, by decide, fun r4 d4 r4a r4b h4 => ⟨d4, rfl, ?_⟩⟩
    walk_at "ss"
    show kForC _ _ _ (S.cutD (NML.map D.str) none (some (1 + r4))) _
    rw [nml_cut r4 r4a r4b]
    have N1 : Nm 110 (qD q1) := ⟨q1, rfl, q1p, q1B.mono (by decide)⟩
    have N2 : Nm 110 (.int (1 + r2)) := Nm.int (by decide) (by omega) (by omega)
    have N3 : Nm 110 (qD (mkRat (1 + r3) 2)) := Nm.mk (by omega) (by omega) (by decide) (by decide)
    generalize hP : qD q1 = P1 at N1 ⊢
    generalize hP2 : D.int (1 + r2) = P2 at N2 ⊢
    generalize hP3 : qD (mkRat (1 + r3) 2) = P3 at N3 ⊢
    generalize hk : (1 + r4).toNat = k
    have hk1 : 1 ≤ k := by omega
    have hk3 : k ≤ 3 := by omega
    have hlen : (NML.take k).length = k := by rw [List.length_take]; show min k 12 = k; omega
    refine i_kForC (fun i S => ∃ (cs : List Cl) (dF : D) (x y : Option _root_.S.Arg), S = ⟨[some dF, some (clD cs)], [some (.o 0), some (.v (.int 3)), some (.o 1), some (.v (.lst [P1, P2, P3])), some (.v (.lst (NML.map D.str))), x, y]⟩ ∧ Fund dF ∧ cs.map (·.nm) = NML.take i ∧ i ≤ k ∧ ∀ c ∈ cs, ClOk 110 c) ⟨[], _, none, none, rfl, h4, rfl, Nat.zero_le _, by simp⟩ ?h1 ?h2
    case h1 =>
      rintro i dd S hdd ⟨cs, dF, x, y, rfl, hF, hnm, hik, hcs⟩
      rw [List.getElem?_map] at hdd
      obtain ⟨nm, hn, rfl⟩ := Option.map_eq_some_iff.mp hdd
      have hi : i < k := by have := (List.getElem?_eq_some_iff.mp hn).1; omega
      have hn2 : NML[i]? = some nm := by rw [List.getElem?_take_of_lt hi] at hn; exact hn
      have lcs : cs.length = i := by
        have := congrArg List.length hnm
        rw [List.length_map, List.length_take] at this
        have e : NML.length = 12 := rfl
        omega
      have hnew : nm ∉ cs.map (·.nm) := by
        rw [hnm]
        intro hm
        obtain ⟨j, hj⟩ := List.mem_iff_getElem?.mp hm
        rw [List.getElem?_take] at hj
        split at hj
        · rename_i hji
          have l1 := List.getElem?_eq_some_iff.mp hj
          have l2 := List.getElem?_eq_some_iff.mp hn2
          obtain ⟨l1, q1⟩ := l1
          obtain ⟨l2, q2⟩ := l2
          exact (List.pairwise_iff_getElem.mp nml_nodup) j i l1 l2 hji (by rw [q1, q2])
        · cases hj
      walk_at "ss"
      refine i_callX 0 ?_
      walk_at "ss"
      refine ⟨_, 50, rfl, rfl, hF, by decide, by decide, fun r11 d11 r11a r11b h11 => ⟨d11, rfl, ?_⟩⟩
      walk_at "ss"
      refine i_callX 0 ?_
      walk_at "ss"
      refine ⟨_, 2, rfl, rfl, h11, by decide, by decide, fun r12 d12 r12a r12b h12 => ⟨d12, rfl, ?_⟩⟩
      walk_at "ss"
      refine i_fI (cmul_of (m := 2) (n := 2) (by decide) (natAbs_lt2 r12a (by omega)) (by decide)) ?_
      walk_at "ss"
      refine ⟨1 + r11, (1 + 2 * r12).toNat, rfl, by rw [Int.toNat_of_nonneg (by omega)], by omega, ?_⟩
      walk_at "ss"
      refine i_callX 0 ?_
      walk_at "ss"
      refine i_fI ⟨by decide, by decide, by decide⟩ ?_
      walk_at "ss"
      refine ⟨_, 1000000, rfl, rfl, h12, by decide, by decide, fun r13 d13 r13a r13b h13 => ⟨d13, rfl, ?_⟩⟩
      walk_at "ss"
      have M1 : Nm 110 (qD (mkRat (1 + r11) (1 + 2 * r12).toNat)) := Nm.mk (by omega) (by omega) (by omega) (by omega)
      have M2 : Nm 110 (.int (1 + r13)) := Nm.int (by decide) (by omega) (by omega)
      generalize hM1 : qD (mkRat (1 + r11) (1 + 2 * r12).toNat) = m1 at M1 ⊢
      generalize hM2 : D.int (1 + r13) = m2 at M2 ⊢
      refine i_app rfl ?_
      refine i_callX 0 ?_
      walk_at "ss"
      refine ⟨_, rfl, rfl, h13, fun q14 d14 q14p q14B h14 => ⟨d14, rfl, ?_⟩⟩
      walk_at "ss"
      have M3 : Nm 110 (qD q14) := ⟨q14, rfl, q14p, q14B.mono (by decide)⟩
      generalize hM3 : qD q14 = m3 at M3 ⊢
      refine i_kApp (ds := [m1, m2]) rfl (Nat.le_of_ble_eq_true rfl) ?_
      walk_at "ss"
      refine i_callX 0 ?_
      walk_at "ss"
      refine ⟨_, 3, rfl, rfl, h14, by decide, by decide, fun r15 d15 r15a r15b h15 => ⟨d15, rfl, ?_⟩⟩
      walk_at "ss"
      obtain ⟨qa, ea, qa0, qaB⟩ := Nm.get3 M1 M2 M3 r15a r15b
      refine i_kIxV rfl rfl ea ?_
      walk_at "ss"
      refine i_callX 0 ?_
      walk_at "ss"
      refine ⟨_, 3, rfl, rfl, h15, by decide, by decide, fun r16 d16 r16a r16b h16 => ⟨d16, rfl, ?_⟩⟩
      walk_at "ss"
      obtain ⟨qb, eb, qb0, qbB⟩ := Nm.get3 N1 N2 N3 r16a r16b
      refine i_ixL eb ?_
      walk_at "ss"
      refine i_kDput2 (k := 1) (e0 := clD cs) rfl rfl rfl (by rw [List.length_map]; omega) ?_
      refine ⟨cs ++ [⟨nm, qa, qb⟩], d16, some (.v (.str nm)), none, ?_, h16, ?_, by omega, ?_⟩
      · have e := clD_snoc cs ⟨nm, qa, qb⟩ hnew
        show Ab.cut _ 2 = _
        show (⟨[some d16, some (dk (dput (cs.map fun c => ((Sum.inr c.nm : Key), D.tup [qD c.paid, qD c.begun])) (Sum.inr nm) (.tup [qD qa, qD qb])))], _⟩ : Ab) = _
        rw [e]
        rfl
      · rw [List.map_append, hnm, List.take_succ, hn2]; rfl
      · intro c hc
        rcases List.mem_append.mp hc with hc | hc
        · exact hcs c hc
        · rw [List.mem_singleton.mp hc]
          exact ⟨List.all_eq_true.mp nml_ok nm (List.mem_of_getElem? hn2), qa0, qb0, qaB, qbB⟩
    case h2 =>
      rintro S ⟨cs, dF, x, y, rfl, hF, hnm, hik, hcs⟩
      rw [List.length_map, hlen] at hnm
      have lcs : cs.length = k := by
        have := congrArg List.length hnm
        rw [List.length_map, hlen] at this
        exact this
      walk_at "ss"
      refine i_varO rfl rfl ?_
      walk_at "ss"
      refine hΦ cs dF ⟨⟨by omega, by omega, ?_, hcs⟩, by rw [lcs]; exact hnm, by omega⟩ hF
      rw [hnm]
      exact nml_nodup.sublist (List.take_sublist _ _)
end
end K73
set_option Elab.async false
set_option linter.all false
set_option maxRecDepth 100000
set_option autoImplicit false
set_option maxHeartbeats 0
namespace K73
open PySem L2 S PyProof.Rows
local macro_rules | `(tactic| walk_at "s") => `(tactic| first
  | (with_reducible apply i_seq)
  | (with_reducible apply i_asg)
  | (with_reducible apply i_gname)
  | (with_reducible apply i_op)
  | (with_reducible apply i_c)
  | ((with_reducible apply i_var); focus (rfl))
  | (with_reducible apply i_cons)
  | (with_reducible apply i_nil)
  | (with_reducible apply i_next)
  | (with_reducible apply i_ret)
  | (with_reducible apply i_drop)
  | (with_reducible apply i_ifS)
  | (with_reducible apply i_test)
  | (with_reducible apply i_kTest)
  | (with_reducible apply i_and)
  | (with_reducible apply i_or)
  | (with_reducible apply i_not)
  | (with_reducible apply i_andV)
  | (with_reducible apply i_orV)
  | (with_reducible apply i_notV)
  | (with_reducible apply i_kNotV)
  | (with_reducible apply i_ifE)
  | (with_reducible apply i_tup)
  | (with_reducible apply i_lst)
  | (with_reducible apply i_call)
  | (with_reducible apply i_cb)
  | (with_reducible apply i_isi)
  | (with_reducible apply i_isN)
  | (with_reducible apply i_notN)
  | ((with_reducible apply i_bt); focus (rfl))
  | ((with_reducible apply i_bf); focus (rfl))
  | ((with_reducible apply i_kIfT); focus (rfl))
  | ((with_reducible apply i_kIfF); focus (rfl))
  | ((with_reducible apply i_kAndT); focus (rfl))
  | ((with_reducible apply i_kAndF); focus (rfl))
  | ((with_reducible apply i_kOrT); focus (rfl))
  | ((with_reducible apply i_kOrF); focus (rfl))
  | ((with_reducible apply i_kAndVT); focus (rfl))
  | ((with_reducible apply i_kAndVF); focus (rfl))
  | ((with_reducible apply i_kOrVT); focus (rfl))
  | ((with_reducible apply i_kOrVF); focus (rfl))
  | ((with_reducible apply i_kIfET); focus (rfl))
  | ((with_reducible apply i_kIfEF); focus (rfl))
  | ((with_reducible apply i_kIsi); focus (rfl))
  | ((with_reducible apply i_kTup); (focus rfl); (focus (exact Nat.le_of_ble_eq_true rfl)))
  | ((with_reducible apply i_kLst); (focus rfl); (focus (exact Nat.le_of_ble_eq_true rfl)))
  | ((with_reducible apply i_kCall); focus (rfl))
  | ((with_reducible apply i_kCallD); focus (rfl))
  | ((with_reducible apply i_kCallO); (focus rfl); (focus rfl))
  | ((with_reducible apply i_kCB); focus (rfl))
  | ((with_reducible apply i_gtup); focus (rfl))
  | ((with_reducible apply i_glst); focus (rfl))
  | (with_reducible apply i_fI0)
  | (with_reducible apply i_absN)
  | (with_reducible apply i_int)
  | (with_reducible apply i_intB)
  | (with_reducible apply i_eqI)
  | (with_reducible apply i_neI)
  | (with_reducible apply i_eqQ)
  | (with_reducible apply i_neQ)
  | (with_reducible apply i_eqQi)
  | (with_reducible apply i_neQi)
  | (with_reducible apply i_gcons)
  | (with_reducible apply i_gnil)
  | (with_reducible apply i_own)
  | (with_reducible apply i_par)
  | (with_reducible apply i_parN)
  | (with_reducible apply i_parNN)
  | (with_reducible apply i_setC)
  | (with_reducible apply i_lenL)
  | (with_reducible apply i_lenT)
  | (with_reducible apply i_lenD)
  | (with_reducible apply i_for)
  | (with_reducible apply i_forC)
  | (with_reducible apply i_wiL)
  | (with_reducible apply i_kWL)
  | (with_reducible apply i_wiDic)
  | (with_reducible apply i_mDic)
  | (with_reducible apply i_wiS)
  | (with_reducible apply i_kWS)
  | (with_reducible apply i_lc)
  | (with_reducible apply i_dc)
  | (with_reducible apply i_yes)
  | (with_reducible apply i_sl)
  | (with_reducible apply i_kSl)
  | (with_reducible apply i_oN)
  | (with_reducible apply i_oS)
  | (with_reducible apply i_kO)
  | (with_reducible apply i_rep)
  | (with_reducible apply i_chain)
  | (with_reducible apply i_sign)
  | (with_reducible apply i_wmSeq)
  | (with_reducible apply i_wmRet)
  | (with_reducible apply i_wiR1)
  | (with_reducible apply i_wiEnum)
  | (with_reducible apply i_kEn)
  | (with_reducible apply i_wiEnumK)
  | (with_reducible apply i_kEnK)
  | (with_reducible apply i_retN)
  | ((with_reducible apply i_ixT); focus (rfl))
  | ((with_reducible apply i_ixL); focus (rfl))
  | ((with_reducible apply i_kChT); focus (rfl))
  | ((with_reducible apply i_consO); focus (rfl))
  | (with_reducible apply i_dic0)
  | (with_reducible apply i_dputO)
  | ((with_reducible apply i_kDput1); focus (rfl))
  | ((with_reducible apply i_ixV); focus (rfl))
  | ((with_reducible apply i_pop); focus (rfl))
  | ((with_reducible apply i_neO); focus (rfl))
  | ((with_reducible apply i_ext); focus (rfl))
  | (with_reducible apply i_lv)
  | (with_reducible apply i_kLV)
  | (with_reducible apply i_listL)
  | ((with_reducible apply i_lenO); focus (rfl))
  | ((with_reducible apply i_ixC); (focus rfl); (focus rfl))
  | ((with_reducible apply i_end1); focus (rfl))
  | (with_reducible apply i_max2)
  | (with_reducible apply i_min2)
  | (with_reducible apply i_end0')
  | (with_reducible apply i_end0n)
  | (with_reducible apply i_endM))
local macro_rules | `(tactic| walk_at "ss") => `(tactic| repeat walk_at "s")

section
variable {P : Program} {w : World} {K : PySem.W.Frag} {mg : Str → Option Value} {base : Heap}
abbrev ct__law_issues : Ct := fun os args Φ => ∃ (d : D) (cs : List Cl), os = [d] ∧ args = [.o 0, .v (clD cs), .v (.int 3)] ∧ Fund d ∧ Drawn cs ∧ ∀ (is : List (Rat × Rat)) (d' : D), IsDr 300 is → Fund d' → Φ (isD is) [d']
theorem ok__law_issues (T : Txt P K mg base) (F__law_pick : DefOk P w K mg base 37 "_law_pick" ["fund", "many"] [] ct__law_pick) (F__law_over : DefOk P w K mg base 38 "_law_over" ["one", "two"] [] ct__law_over) (F__law_times : DefOk P w K mg base 38 "_law_times" ["one", "two"] [] ct__law_times) (F__law_some : DefOk P w K mg base 38 "_law_some" ["fund"] [] ct__law_some) : DefOk P w K mg base 39 "_law_issues" ["fund", "classes", "most"] [] ct__law_issues := by
  refine mk_def T.g__law_issues sc__law_issues (by rintro os args Φ ⟨d, cs, rfl, rfl, _⟩; rfl) (fun _ _ _ _ _ _ us hl => match us, hl with | [_, _, _], _ => rfl) (fun f cdv A outer s H E hr => ?b)
  case b =>
    have nd := (sc__law_issues).nd
    have hu1 : (A.deeper (envOfC "_law_issues" (defScope s__law_issues) s.heap.objs.size f cdv)).units + 1 < cLine := by have := hr.un; omega
    have hu64 : (A.deeper (envOfC "_law_issues" (defScope s__law_issues) s.heap.objs.size f cdv)).units + 64 < cLine := by have := hr.un; omega
    have hu65 : (A.deeper (envOfC "_law_issues" (defScope s__law_issues) s.heap.objs.size f cdv)).units + 65 < cLine := by have := hr.un; omega
    refine ⟨_, _,
      (jss_cons (js_parN (i := 3) (j := 4) rfl nd rfl rfl (by decide) rfl rfl (jn_lst ja_nil) (je_new (jn_lc rfl nd (ji_keys (je_var 1)) (blkOk_by (own := [("name", 9)]) (N := N__law_issues) (sc := defScope s__law_issues) (by decide +kernel)) (fun _ _ _ _ _ => (jg_name 9 nd rfl (by first | exact Or.inl rfl | exact Or.inr rfl))) (gw_name (by decide)) mg_name (fun _ _ _ _ _ => jts_nil) (fun _ _ _ _ _ => (jy_ix (K := K) rfl (je_dget hu1 (je_var 1) (je_var 9)) je_int)))) (by rfl))
      (jss_cons (js_for PassesOwn.never rfl (ji_range1 rfl T.b_range (ja_cons (jcX F__law_pick (hr.mono (by decide)) rfl (ja_consO 0 (ja_cons (je_add (je_var 2) je_int) ja_nil))) ja_nil)) (jg_name 5 nd rfl (by first | exact Or.inl rfl | exact Or.inr rfl)) (jss_cons (js_set 6 nd rfl (by first | exact Or.inl rfl | exact Or.inr rfl) (jy_ix (K := K) rfl (je_var 4) (jcX F__law_pick (hr.mono (by decide)) rfl (ja_consO 0 (ja_cons (jy_len (K := K) rfl rfl T.b_len (ja_cons (je_var 4) ja_nil)) ja_nil)))))
      (jss_cons (js_set 7 nd rfl (by first | exact Or.inl rfl | exact Or.inr rfl) (je_new (jn_lst (ja_cons (je_var 6) (ja_cons (jc F__law_over (hr.mono (by decide)) rfl (ja_cons (je_var 6) (ja_cons je_int ja_nil))) (ja_cons (jc F__law_times (hr.mono (by decide)) rfl (ja_cons (je_var 6) (ja_cons (je_new (jn_tup (ja_cons je_int (ja_cons je_int ja_nil)))) ja_nil))) (ja_cons (jc F__law_times (hr.mono (by decide)) rfl (ja_cons (je_var 6) (ja_cons je_int ja_nil))) (ja_cons (je_add je_int (jcX F__law_pick (hr.mono (by decide)) rfl (ja_consO 0 (ja_cons je_int ja_nil)))) ja_nil))))))))
      (jss_cons (js_set 8 nd rfl (by first | exact Or.inl rfl | exact Or.inr rfl) (jy_ix (K := K) rfl (je_new (jn_lst (ja_cons (je_add je_int (jcX F__law_pick (hr.mono (by decide)) rfl (ja_consO 0 (ja_cons je_int ja_nil)))) (ja_cons (jcX F__law_some (hr.mono (by decide)) rfl (ja_consO 0 ja_nil)) ja_nil)))) (je_intc rfl T.b_int (ja_cons (jy_eq (K := K) rfl hu64 (jcX F__law_pick (hr.mono (by decide)) rfl (ja_consO 0 (ja_cons je_int ja_nil))) je_int) ja_nil))))
      (jss_one (js_expr (jx_app 3 (pv' 3) (je_new (jn_tup (ja_cons (je_var 8) (ja_cons (jy_ix (K := K) rfl (je_var 7) (jcX F__law_pick (hr.mono (by decide)) rfl (ja_consO 0 (ja_cons je_int ja_nil)))) ja_nil)))))))))))
      (jss_one (js_ret (je_var 3))))), ?_⟩
    rintro os args Φ ⟨d, cs, rfl, rfl, hd, DR, hΦ⟩
    have l1 := DR.C.ne
    have l3 := DR.l3
    walk_at "ss"
    refine i_keysCl ?_
    refine i_kLcM (fun d => match d with | .str x => qD (begF cs x) | _ => .non) (by rw [List.length_map]; omega) ?hb ?hk
    case hb =>
      intro i d acc hd hi
      have hd' := hd
      rw [List.getElem?_map] at hd
      obtain ⟨c, hc, rfl⟩ := Option.map_eq_some_iff.mp hd
      have hcm := List.mem_of_getElem? hc
      walk_at "ss"
      refine i_dgetCl DR.C.nd hcm ?_
      walk_at "ss"
      exact i_ivm hd' hi rfl (by show qD c.begun = qD (begF cs c.nm); rw [begF_of DR.C.nd hcm])
    case hk =>
      have e : (cs.map fun c => D.str c.nm).map (fun d => match d with | .str x => qD (begF cs x) | _ => .non) = cs.map fun c => qD c.begun := by
        rw [List.map_map]
        refine List.map_congr_left fun c hc => ?_
        show qD (begF cs c.nm) = qD c.begun
        rw [begF_of DR.C.nd hc]
      rw [e]
      walk_at "ss"
      refine i_callX 0 ?_
      walk_at "ss"
      refine ⟨_, 4, rfl, rfl, hd, by decide, by decide, fun r1 d1 r1a r1b h1 => ⟨d1, rfl, ?_⟩⟩
      walk_at "ss"
      refine i_kR1 ⟨by omega, by omega⟩ ?_
      refine i_kFor (fun i S => ∃ (is : List (Rat × Rat)) (dF : D) (x y z u : Option _root_.S.Arg), S = ⟨[some dF, some (isD is)], [some (.o 0), some (.v (clD cs)), some (.v (.int 3)), some (.o 1), some (.v (.lst (cs.map fun c => qD c.begun))), x, y, z, u, none]⟩ ∧ Fund dF ∧ is.length = i ∧ ∀ p ∈ is, 0 < p.1 ∧ 0 < p.2 ∧ B 300 p.1 ∧ B 300 p.2) ⟨[], d1, none, none, none, none, rfl, h1, rfl, by simp⟩ ?h1 ?h2
      case h1 =>
        rintro i dd S hdd ⟨is, dF, x, y, z, u, rfl, hF, his, hall⟩
        have hi : i < 4 := by
          have := (List.getElem?_eq_some_iff.mp hdd).1
          unfold rgD at this
          rw [List.length_map, List.length_range] at this
          omega
        walk_at "ss"
        refine i_callX 0 ?_
        walk_at "ss"
        refine ⟨_, ((cs.map fun c => qD c.begun).length : Int), rfl, rfl, hF, by rw [List.length_map]; omega, by rw [List.length_map]; omega, fun r2 d2 r2a r2b h2 => ⟨d2, rfl, ?_⟩⟩
        rw [List.length_map] at r2b
        have hr : r2.toNat < cs.length := by omega
        have okc := DR.C.ok cs[r2.toNat] (List.getElem_mem hr)
        walk_at "ss"
        refine i_ixL (d := qD cs[r2.toNat].begun) ?_ ?_
        · rw [atI_pos r2a (by rw [List.length_map]; exact r2b), List.getElem?_map, List.getElem?_eq_getElem hr]; rfl
        have n0 := okc.b0
        have nB := okc.bB
        generalize hb : cs[r2.toNat].begun = near at n0 nB ⊢
        have B2 : B 2 (((2 : Int)) : Rat) := B_int (by decide) (by decide) (by decide)
        have p2 : (0 : Rat) < (((2 : Int)) : Rat) := Rat.intCast_pos.mpr (by decide)
        have B9 : B 4 (mkRat 9 10) := B_mkI (by decide) (by decide) (by decide) (by decide)
        have p9 : (0 : Rat) < mkRat 9 10 := mkRat_pos (by decide) (by decide)
        have e9 : qD (mkRat 9 10) = D.tup [.int 9, .int 10] := by rfl
        walk_at "ss"
        refine ⟨near, ((2 : Int) : Rat), 110, 2, rfl, by rw [qD_z], nB, B2, by decide, p2, ?_⟩
        walk_at "ss"
        refine ⟨near, mkRat 9 10, 110, 4, rfl, by rw [e9], nB, B9, by decide, ?_⟩
        walk_at "ss"
        refine ⟨near, ((2 : Int) : Rat), 110, 2, rfl, by rw [qD_z], nB, B2, by decide, ?_⟩
        walk_at "ss"
        refine i_callX 0 ?_
        walk_at "ss"
        refine ⟨_, 9, rfl, rfl, h2, by decide, by decide, fun r3 d3 r3a r3b h3 => ⟨d3, rfl, ?_⟩⟩
        walk_at "ss"
        have V1 : Nm 300 (qD near) := ⟨_, rfl, n0, nB.mono (by decide)⟩
        have V2 : Nm 300 (qD (near / ((2 : Int) : Rat))) := ⟨_, rfl, div_pos n0 p2, (B_div nB B2).mono (by decide)⟩
        have V3 : Nm 300 (qD (near * mkRat 9 10)) := ⟨_, rfl, Rat.mul_pos n0 p9, (B_mul nB B9).mono (by decide)⟩
        have V4 : Nm 300 (qD (near * ((2 : Int) : Rat))) := ⟨_, rfl, Rat.mul_pos n0 p2, (B_mul nB B2).mono (by decide)⟩
        have V5 : Nm 300 (.int (1 + r3)) := Nm.int (by decide) (by omega) (by omega)
        generalize hv1 : qD near = v1 at V1 ⊢
        generalize hv2 : qD (near / ((2 : Int) : Rat)) = v2 at V2 ⊢
        generalize hv3 : qD (near * mkRat 9 10) = v3 at V3 ⊢
        generalize hv4 : qD (near * ((2 : Int) : Rat)) = v4 at V4 ⊢
        generalize hv5 : D.int (1 + r3) = v5 at V5 ⊢
        refine i_callX 0 ?_
        walk_at "ss"
        refine ⟨_, 60, rfl, rfl, h3, by decide, by decide, fun r4 d4 r4a r4b h4 => ⟨d4, rfl, ?_⟩⟩
        walk_at "ss"
        refine i_callX 0 ?_
        walk_at "ss"
        refine ⟨_, rfl, rfl, h4, fun q5 d5 q5p q5B h5 => ⟨d5, rfl, ?_⟩⟩
        walk_at "ss"
        refine i_callX 0 ?_
        walk_at "ss"
        refine ⟨_, 6, rfl, rfl, h5, by decide, by decide, fun r6 d6 r6a r6b h6 => ⟨d6, rfl, ?_⟩⟩
        walk_at "ss"
        have M1 : Nm 300 (.int (1 + r4)) := Nm.int (by decide) (by omega) (by omega)
        have M2 : Nm 300 (qD q5) := ⟨q5, rfl, q5p, q5B.mono (by decide)⟩
        generalize hm1 : D.int (1 + r4) = m1 at M1 ⊢
        generalize hm2 : qD q5 = m2 at M2 ⊢
        have mon : ∃ m : Rat, atI [m1, m2] (if decide (r6 = 0) = true then 1 else 0) = some (qD m) ∧ 0 < m ∧ B 300 m := by
          by_cases z : r6 = 0
          · rw [if_pos (decide_eq_true z)]; obtain ⟨q, rfl, a, b⟩ := M2; exact ⟨q, rfl, a, b⟩
          · rw [if_neg (by rw [decide_eq_false z]; decide)]; obtain ⟨q, rfl, a, b⟩ := M1; exact ⟨q, rfl, a, b⟩
        obtain ⟨m, em, m0, mB⟩ := mon
        refine i_ixL em ?_
        walk_at "ss"
        refine i_app rfl ?_
        walk_at "ss"
        refine i_callX 0 ?_
        walk_at "ss"
        refine ⟨_, 5, rfl, rfl, h6, by decide, by decide, fun r7 d7 r7a r7b h7 => ⟨d7, rfl, ?_⟩⟩
        walk_at "ss"
        have pri : ∃ q : Rat, atI [v1, v2, v3, v4, v5] r7 = some (qD q) ∧ 0 < q ∧ B 300 q := by
          have w : r7 = 0 ∨ r7 = 1 ∨ r7 = 2 ∨ r7 = 3 ∨ r7 = 4 := by omega
          rcases w with rfl | rfl | rfl | rfl | rfl
          · obtain ⟨q, rfl, a, b⟩ := V1; exact ⟨q, rfl, a, b⟩
          · obtain ⟨q, rfl, a, b⟩ := V2; exact ⟨q, rfl, a, b⟩
          · obtain ⟨q, rfl, a, b⟩ := V3; exact ⟨q, rfl, a, b⟩
          · obtain ⟨q, rfl, a, b⟩ := V4; exact ⟨q, rfl, a, b⟩
          · obtain ⟨q, rfl, a, b⟩ := V5; exact ⟨q, rfl, a, b⟩
        obtain ⟨q, eq, q0, qB⟩ := pri
        refine i_ixL eq ?_
        walk_at "ss"
        refine i_kApp (ds := is.map fun p => D.tup [qD p.1, qD p.2]) rfl (by rw [List.length_map]; omega) ?_
        walk_at "ss"
        refine ⟨is ++ [(m, q)], d7, some (.v dd), some (.v v1), some (.v (.lst [v1, v2, v3, v4, v5])), some (.v (qD m)), ?_, h7, by rw [List.length_append, his]; rfl, ?_⟩
        rotate_right
        · intro p hp
          rcases List.mem_append.mp hp with hp | hp
          · exact hall p hp
          · rw [List.mem_singleton.mp hp]; exact ⟨m0, q0, mB, qB⟩
        · show (⟨[some d7, some (.lst ((is.map fun p => D.tup [qD p.1, qD p.2]) ++ [.tup [qD m, qD q]]))], _⟩ : Ab) = _
          unfold isD
          rw [List.map_append]
          rfl
      case h2 =>
        rintro S ⟨is, dF, x, y, z, u, rfl, hF, his, hall⟩
        have hl : (rgD 0 r1.toNat).length = r1.toNat := by unfold rgD; rw [List.length_map, List.length_range]
        rw [hl] at his
        walk_at "ss"
        refine i_varO rfl rfl ?_
        walk_at "ss"
        exact hΦ is dF ⟨by omega, hall⟩ hF
abbrev ct__law_mixed : Ct := fun os args Φ => ∃ (d : D) (is : List (Rat × Rat)), os = [d] ∧ args = [.o 0, .v (isD is)] ∧ Fund d ∧ is.length ≤ 10 ∧ ∀ (js : List (Rat × Rat)) (d' : D), js.Perm is → Fund d' → Φ (isD js) [d']
theorem ok__law_mixed (T : Txt P K mg base) (F__law_pick : DefOk P w K mg base 37 "_law_pick" ["fund", "many"] [] ct__law_pick) : DefOk P w K mg base 38 "_law_mixed" ["fund", "items"] [] ct__law_mixed := by
  refine mk_def T.g__law_mixed sc__law_mixed (by rintro os args Φ ⟨d, is, rfl, rfl, _⟩; rfl) (fun _ _ _ _ _ _ us hl => match us, hl with | [_, _], _ => rfl) (fun f cdv A outer s H E hr => ?b)
  case b =>
    have nd := (sc__law_mixed).nd
    have hu1 : (A.deeper (envOfC "_law_mixed" (defScope s__law_mixed) s.heap.objs.size f cdv)).units + 1 < cLine := by have := hr.un; omega
    have hu64 : (A.deeper (envOfC "_law_mixed" (defScope s__law_mixed) s.heap.objs.size f cdv)).units + 64 < cLine := by have := hr.un; omega
    have hu65 : (A.deeper (envOfC "_law_mixed" (defScope s__law_mixed) s.heap.objs.size f cdv)).units + 65 < cLine := by have := hr.un; omega
    refine ⟨_, _,
      (jss_cons (js_parNN (i := 2) (j := 3) rfl nd rfl rfl (by decide) rfl rfl (jyn_listOf (K := K) rfl rfl T.b_list (ja_cons (je_var 1) ja_nil)) (jn_lst ja_nil) (by rfl))
      (jss_cons (js_while PassesOwn.never (jt_neO 2 hu64 (je_new (jn_lst ja_nil)) (pv' 2)) (jss_one (js_expr (jx_app 3 (pv' 3) (jx_pop 2 (pv' 2) (jcX F__law_pick (hr.mono (by decide)) rfl (ja_consO 0 (ja_cons (je_lenO 2 rfl T.b_len (pv' 2)) ja_nil))))))))
      (jss_one (js_ret (je_var 3))))), ?_⟩
    rintro os args Φ ⟨d, is, rfl, rfl, hd, hl, hΦ⟩
    walk_at "ss"
    refine i_listL ?_
    walk_at "ss"
    refine i_while (fun m S => ∃ (dF : D) (rs fs : List (Rat × Rat)), S = ⟨[some dF, some (isD rs), some (isD fs)], [some (.o 0), some (.v (isD is)), some (.o 1), some (.o 2)]⟩ ∧ Fund dF ∧ m = rs.length ∧ (rs ++ fs).Perm is) ⟨is.length, d, is, [], rfl, hd, rfl, by rw [List.append_nil]⟩ ?_
    rintro m S ⟨dF, rs, fs, rfl, hF, rfl, hp⟩
    have hlen := hp.length_eq
    rw [List.length_append] at hlen
    walk_at "ss"
    refine i_kNe0 rfl rfl (okE_isD rs) ?_
    walk_at "ss"
    refine ⟨fun hc => ?_, fun hc => ?_⟩
    · have hne : 0 < rs.length := by
        have := of_decide_eq_true hc
        cases rs with
        | nil => exact absurd rfl this
        | cons _ _ => exact Nat.zero_lt_succ _
      walk_at "ss"
      refine i_app rfl ?_
      walk_at "ss"
      refine i_callX 0 ?_
      walk_at "ss"
      refine ⟨_, ((rs.map fun p => D.tup [qD p.1, qD p.2]).length : Int), rfl, rfl, hF, by rw [List.length_map]; omega, by rw [List.length_map]; omega, fun r2 d2 r2a r2b h2 => ⟨d2, rfl, ?_⟩⟩
      rw [List.length_map] at r2b
      have hr : r2.toNat < rs.length := by omega
      obtain ⟨j, rfl⟩ : ∃ j : Nat, r2 = (j : Int) := ⟨r2.toNat, by omega⟩
      have hj : j < rs.length := by omega
      refine i_kPop (e0 := isD rs) rfl rfl (by omega) (show (rs.map fun p => D.tup [qD p.1, qD p.2])[j]? = some (.tup [qD rs[j].1, qD rs[j].2]) by rw [List.getElem?_map, List.getElem?_eq_getElem hj]; rfl) ?_
      refine i_kApp (ds := fs.map fun p => D.tup [qD p.1, qD p.2]) rfl (by rw [List.length_map]; omega) ?_
      walk_at "ss"
      refine ⟨rs.length - 1, by omega, d2, rs.eraseIdx j, fs ++ [rs[j]], ?_, h2, ?_, ?_⟩
      · show (⟨[some d2, some (.lst ((rs.map fun p => D.tup [qD p.1, qD p.2]).eraseIdx j)), some (.lst ((fs.map fun p => D.tup [qD p.1, qD p.2]) ++ [.tup [qD rs[j].1, qD rs[j].2]]))], _⟩ : Ab) = _
        unfold isD
        rw [List.map_append, erase_map]
        rfl
      · rw [List.length_eraseIdx]; rw [if_pos hj]
      · refine List.Perm.trans ?_ hp
        have e1 : (rs.eraseIdx j ++ (fs ++ [rs[j]])).Perm (rs[j] :: (rs.eraseIdx j ++ fs)) := by
          rw [← List.append_assoc]
          exact List.perm_append_comm
        refine e1.trans ?_
        rw [← List.cons_append]
        exact (erase_perm rs j hj).append_right fs
    · have hz : rs = [] := by
        have := of_decide_eq_false hc
        cases rs with
        | nil => rfl
        | cons _ _ => exact absurd (fun z => by cases z) this
      subst hz
      walk_at "ss"
      refine i_varO rfl rfl ?_
      walk_at "ss"
      exact hΦ fs dF (by simpa using hp) hF
abbrev ct__law_few : Ct := fun os args Φ => ∃ (com : Rat) (cs : List Cl) (is : List (Rat × Rat)) (l : Rat × Rat), os = [] ∧ args = [.v (qD com), .v (clD cs), .v (isD is), .v (isD [l]), .v (.int 0), .v (.int 1000)] ∧ 0 < com ∧ Drawn cs ∧ IsDr 300 is ∧ 0 < l.1 ∧ 0 < l.2 ∧ ∀ fw : List (Rat × Rat), (fw = [] ∨ (fw = is ∧ B 10 com ∧ (∀ c ∈ cs, B 10 c.paid ∧ B 10 c.begun) ∧ (∀ p ∈ is, B 10 p.1 ∧ B 10 p.2) ∧ B 10 l.1 ∧ B 10 l.2)) → Φ (isD fw) []
theorem ok__law_few (T : Txt P K mg base) (F__law_pair : DefOk P w K mg base 37 "_law_pair" ["one"] [] ct__law_pair) : DefOk P w K mg base 38 "_law_few" ["common", "classes", "issues", "others", "least", "bound"] [] ct__law_few := by
  refine mk_def T.g__law_few sc__law_few (by rintro os args Φ ⟨com, cs, is, l, rfl, rfl, _⟩; rfl) (fun _ _ _ _ _ _ us hl => match us, hl with | [_, _, _, _, _, _], _ => rfl) (fun f cdv A outer s H E hr => ?b)
  case b =>
    have nd := (sc__law_few).nd
    have hu1 : (A.deeper (envOfC "_law_few" (defScope s__law_few) s.heap.objs.size f cdv)).units + 1 < cLine := by have := hr.un; omega
    have hu64 : (A.deeper (envOfC "_law_few" (defScope s__law_few) s.heap.objs.size f cdv)).units + 64 < cLine := by have := hr.un; omega
    have hu65 : (A.deeper (envOfC "_law_few" (defScope s__law_few) s.heap.objs.size f cdv)).units + 65 < cLine := by have := hr.un; omega
    refine ⟨_, _,
      (jss_cons (js_own 6 nd rfl (by first | exact Or.inl rfl | exact Or.inr rfl) (jn_lst (ja_cons (je_var 0) ja_nil)))
      (jss_cons (js_for PassesOwn.never rfl (ji_list (je_new (jn_cat (je_new (jn_cat (je_new (jn_listVals rfl (je_var 1) rfl T.b_list)) (je_var 2))) (je_var 3)))) (jg_name 7 nd rfl (by first | exact Or.inl rfl | exact Or.inr rfl)) (jss_one (js_expr (jx_ext 6 (pv' 6) (je_var 7)))))
      (jss_one (js_ret (je_if (jt_gt (jy_maxL (K := K) rfl rfl rfl T.b_max (ja_cons (je_new (jn_lc rfl nd (ji_list (je_var 6)) (blkOk_by (own := [("part", 8)]) (N := N__law_few) (sc := defScope s__law_few) (by decide +kernel)) (fun _ _ _ _ _ => (jg_name 8 nd rfl (by first | exact Or.inl rfl | exact Or.inr rfl))) (gw_name (by decide)) mg_name (fun _ _ _ _ _ => jts_nil) (fun _ _ _ _ _ => (jy_maxT (K := K) rfl rfl rfl T.b_max (ja_cons (jc F__law_pair (hr.mono (by decide)) rfl (ja_cons (je_var 8) ja_nil)) ja_nil))))) ja_nil)) (je_var 5)) (je_new (jyn_slice (K := K) rfl (je_var 2) jo_none (jo_some (je_var 4)))) (je_var 2)))))), ?_⟩
    rintro os args Φ ⟨com, cs, is, l, rfl, rfl, c0, DR, I, l0, l1, hΦ⟩
    have k1 := DR.C.ne
    have k3 := DR.l3
    have i3 := I.l3
    let ps : List (Rat × Rat) := cs.map (fun c => (c.paid, c.begun)) ++ is ++ [l]
    have eps : ps = cs.map (fun c => (c.paid, c.begun)) ++ is ++ [l] := rfl
    have lps : ps.length = cs.length + is.length + 1 := by rw [eps]; simp; omega
    have eD : (cs.map fun c => D.tup [qD c.paid, qD c.begun]) ++ (is.map fun p => D.tup [qD p.1, qD p.2]) ++ ([l].map fun p => D.tup [qD p.1, qD p.2]) = ps.map fun p => D.tup [qD p.1, qD p.2] := by
      rw [eps, List.map_append, List.map_append, List.map_map]
      rfl
    walk_at "ss"
    refine i_lvCl ?_
    walk_at "ss"
    refine i_cat (by rw [List.length_map, List.length_map]; omega) ?_
    walk_at "ss"
    refine i_cat (by rw [List.length_append, List.length_map, List.length_map]; simp; omega) ?_
    show kWL _ (.lst ((cs.map fun c => D.tup [qD c.paid, qD c.begun]) ++ (is.map fun p => D.tup [qD p.1, qD p.2]) ++ ([l].map fun p => D.tup [qD p.1, qD p.2]))) _
    rw [eD]
    walk_at "ss"
    refine i_kFor (fun i S => ∃ x : Option _root_.S.Arg, S = ⟨[some (.lst ((com :: flatP (ps.take i)).map qD))], [some (.v (qD com)), some (.v (clD cs)), some (.v (isD is)), some (.v (isD [l])), some (.v (.int 0)), some (.v (.int 1000)), some (.o 0), x, none]⟩) ⟨none, rfl⟩ ?h1 ?h2
    case h1 =>
      rintro i dd S hdd ⟨x, rfl⟩
      rw [List.getElem?_map] at hdd
      obtain ⟨p, hp, rfl⟩ := Option.map_eq_some_iff.mp hdd
      have hi : i < ps.length := (List.getElem?_eq_some_iff.mp hp).1
      walk_at "ss"
      refine i_kExt rfl rfl ?_ ?_
      · rw [List.length_map, List.length_cons, flatP_length, List.length_take]
        show _ + 2 ≤ _
        omega
      walk_at "ss"
      refine ⟨some (.v (.tup [qD p.1, qD p.2])), ?_⟩
      have e : (com :: flatP (ps.take (i + 1))).map qD = (com :: flatP (ps.take i)).map qD ++ [qD p.1, qD p.2] := by
        rw [List.take_succ, hp, Option.toList_some, flatP_snoc, List.map_cons, List.map_append, List.map_cons]
        rfl
      rw [e]
      rfl
    case h2 =>
      rintro S ⟨x, rfl⟩
      rw [List.length_map, List.take_length]
      walk_at "ss"
      refine i_varO rfl rfl ?_
      walk_at "ss"
      refine i_kLcM mxD (by rw [List.length_map, List.length_cons, flatP_length]; omega) ?hb ?hk
      case hb =>
        intro i d acc hd hi
        have hd' := hd
        rw [List.getElem?_map] at hd
        obtain ⟨q, hq, rfl⟩ := Option.map_eq_some_iff.mp hd
        walk_at "ss"
        refine ⟨q, rfl, rfl, ?_⟩
        walk_at "ss"
        refine i_maxT (is := [q.num, (q.den : Int)]) rfl (Nat.zero_lt_succ _) (fun m h1 h2 => ?_)
        exact i_ivm hd' hi rfl (by rw [mxD_q, mx_eq h1 h2])
      case hk =>
        walk_at "ss"
        have ei : ((com :: flatP ps).map qD).map mxD = (com :: flatP ps).map fun q => D.int (mxQ q) := by
          rw [List.map_map]
          exact List.map_congr_left fun q _ => mxD_q q
        rw [ei]
        refine i_maxL (is := (com :: flatP ps).map mxQ) (intsD_map _ _) (by rw [List.length_map]; exact Nat.zero_lt_succ _) (fun m h1 h2 => ?_)
        walk_at "ss"
        refine i_kIfE (fun hc => ?_) (fun hc => ?_)
        · walk_at "ss"
          refine i_kSl ?_
          walk_at "ss"
          rw [cut_none0]
          walk_at "ss"
          exact hΦ [] (.inl rfl)
        · have hm : m ≤ 1000 := by have := of_decide_eq_false hc; omega
          have all : ∀ q ∈ com :: flatP ps, 0 < q → B 10 q := fun q hq q0 => mx_B q0 (Int.le_trans (h2 _ (List.mem_map_of_mem hq)) hm) (by decide)
          have allp : ∀ p ∈ ps, 0 < p.1 → 0 < p.2 → B 10 p.1 ∧ B 10 p.2 := fun p hp a b => by
            obtain ⟨m1, m2⟩ := flatP_mem hp
            exact ⟨all _ (List.mem_cons_of_mem _ m1) a, all _ (List.mem_cons_of_mem _ m2) b⟩
          walk_at "ss"
          refine hΦ is (.inr ⟨rfl, all com List.mem_cons_self c0, fun c hc => ?_, fun p hp => ?_, ?_⟩)
          · have ok := DR.C.ok c hc
            exact allp (c.paid, c.begun) (by rw [eps]; exact List.mem_append_left _ (List.mem_append_left _ (List.mem_map_of_mem hc))) ok.p0 ok.b0
          · exact allp p (by rw [eps]; exact List.mem_append_left _ (List.mem_append_right _ hp)) (I.ok p hp).1 (I.ok p hp).2.1
          · exact allp l (by rw [eps]; simp) l0 l1
end
end K73
set_option Elab.async false
set_option linter.all false
set_option maxRecDepth 100000
set_option autoImplicit false
set_option maxHeartbeats 0
namespace K73
open PySem L2 S PyProof.Rows
local macro_rules | `(tactic| walk_at "s") => `(tactic| first
  | (with_reducible apply i_seq)
  | (with_reducible apply i_asg)
  | (with_reducible apply i_gname)
  | (with_reducible apply i_op)
  | (with_reducible apply i_c)
  | ((with_reducible apply i_var); focus (rfl))
  | (with_reducible apply i_cons)
  | (with_reducible apply i_nil)
  | (with_reducible apply i_next)
  | (with_reducible apply i_ret)
  | (with_reducible apply i_drop)
  | (with_reducible apply i_ifS)
  | (with_reducible apply i_test)
  | (with_reducible apply i_kTest)
  | (with_reducible apply i_and)
  | (with_reducible apply i_or)
  | (with_reducible apply i_not)
  | (with_reducible apply i_andV)
  | (with_reducible apply i_orV)
  | (with_reducible apply i_notV)
  | (with_reducible apply i_kNotV)
  | (with_reducible apply i_ifE)
  | (with_reducible apply i_tup)
  | (with_reducible apply i_lst)
  | (with_reducible apply i_call)
  | (with_reducible apply i_cb)
  | (with_reducible apply i_isi)
  | (with_reducible apply i_isN)
  | (with_reducible apply i_notN)
  | ((with_reducible apply i_bt); focus (rfl))
  | ((with_reducible apply i_bf); focus (rfl))
  | ((with_reducible apply i_kIfT); focus (rfl))
  | ((with_reducible apply i_kIfF); focus (rfl))
  | ((with_reducible apply i_kAndT); focus (rfl))
  | ((with_reducible apply i_kAndF); focus (rfl))
  | ((with_reducible apply i_kOrT); focus (rfl))
  | ((with_reducible apply i_kOrF); focus (rfl))
  | ((with_reducible apply i_kAndVT); focus (rfl))
  | ((with_reducible apply i_kAndVF); focus (rfl))
  | ((with_reducible apply i_kOrVT); focus (rfl))
  | ((with_reducible apply i_kOrVF); focus (rfl))
  | ((with_reducible apply i_kIfET); focus (rfl))
  | ((with_reducible apply i_kIfEF); focus (rfl))
  | ((with_reducible apply i_kIsi); focus (rfl))
  | ((with_reducible apply i_kTup); (focus rfl); (focus (exact Nat.le_of_ble_eq_true rfl)))
  | ((with_reducible apply i_kLst); (focus rfl); (focus (exact Nat.le_of_ble_eq_true rfl)))
  | ((with_reducible apply i_kCall); focus (rfl))
  | ((with_reducible apply i_kCallD); focus (rfl))
  | ((with_reducible apply i_kCallO); (focus rfl); (focus rfl))
  | ((with_reducible apply i_kCB); focus (rfl))
  | ((with_reducible apply i_gtup); focus (rfl))
  | ((with_reducible apply i_glst); focus (rfl))
  | (with_reducible apply i_fI0)
  | (with_reducible apply i_absN)
  | (with_reducible apply i_int)
  | (with_reducible apply i_intB)
  | (with_reducible apply i_eqI)
  | (with_reducible apply i_neI)
  | (with_reducible apply i_eqQ)
  | (with_reducible apply i_neQ)
  | (with_reducible apply i_eqQi)
  | (with_reducible apply i_neQi)
  | (with_reducible apply i_gcons)
  | (with_reducible apply i_gnil)
  | (with_reducible apply i_own)
  | (with_reducible apply i_par)
  | (with_reducible apply i_parN)
  | (with_reducible apply i_parNN)
  | (with_reducible apply i_setC)
  | (with_reducible apply i_lenL)
  | (with_reducible apply i_lenT)
  | (with_reducible apply i_lenD)
  | (with_reducible apply i_for)
  | (with_reducible apply i_forC)
  | (with_reducible apply i_wiL)
  | (with_reducible apply i_kWL)
  | (with_reducible apply i_wiDic)
  | (with_reducible apply i_mDic)
  | (with_reducible apply i_wiS)
  | (with_reducible apply i_kWS)
  | (with_reducible apply i_lc)
  | (with_reducible apply i_dc)
  | (with_reducible apply i_yes)
  | (with_reducible apply i_sl)
  | (with_reducible apply i_kSl)
  | (with_reducible apply i_oN)
  | (with_reducible apply i_oS)
  | (with_reducible apply i_kO)
  | (with_reducible apply i_rep)
  | (with_reducible apply i_chain)
  | (with_reducible apply i_sign)
  | (with_reducible apply i_wmSeq)
  | (with_reducible apply i_wmRet)
  | (with_reducible apply i_wiR1)
  | (with_reducible apply i_wiEnum)
  | (with_reducible apply i_kEn)
  | (with_reducible apply i_wiEnumK)
  | (with_reducible apply i_kEnK)
  | (with_reducible apply i_retN)
  | ((with_reducible apply i_ixT); focus (rfl))
  | ((with_reducible apply i_ixL); focus (rfl))
  | ((with_reducible apply i_kChT); focus (rfl))
  | ((with_reducible apply i_consO); focus (rfl))
  | (with_reducible apply i_dic0)
  | (with_reducible apply i_dputO)
  | ((with_reducible apply i_kDput1); focus (rfl))
  | ((with_reducible apply i_ixV); focus (rfl))
  | ((with_reducible apply i_pop); focus (rfl))
  | ((with_reducible apply i_neO); focus (rfl))
  | ((with_reducible apply i_ext); focus (rfl))
  | (with_reducible apply i_lv)
  | (with_reducible apply i_kLV)
  | (with_reducible apply i_listL)
  | ((with_reducible apply i_lenO); focus (rfl))
  | ((with_reducible apply i_ixC); (focus rfl); (focus rfl))
  | ((with_reducible apply i_end1); focus (rfl))
  | (with_reducible apply i_max2)
  | (with_reducible apply i_min2)
  | (with_reducible apply i_end0')
  | (with_reducible apply i_end0n)
  | (with_reducible apply i_endM))
local macro_rules | `(tactic| walk_at "ss") => `(tactic| repeat walk_at "s")

section
variable {P : Program} {w : World} {K : PySem.W.Frag} {mg : Str → Option Value} {base : Heap}
abbrev ct__law_mean_right : Ct := fun os args Φ => ∃ (d : D) (com : Rat) (cs : List Cl) (is : List (Rat × Rat)), os = [d] ∧ args = [.o 0, .v (qD com), .v (clD cs), .v (isD is)] ∧ Fund d ∧ 0 < com ∧ B 100 com ∧ Drawn cs ∧ is.length ≤ 4 ∧ (∀ p ∈ is, 0 < p.1 ∧ 0 < p.2 ∧ B 300 p.1 ∧ B 300 p.2) ∧ ∀ d' : D, Fund d' → Φ (.bl true) [d']
theorem ok__law_mean_right (T : Txt P K mg base) (F__law_sum : DefOk P w K mg base 38 "_law_sum" ["numbers"] [] ct__law_sum) (F__law_over : DefOk P w K mg base 38 "_law_over" ["one", "two"] [] ct__law_over) (F__law_mixed : DefOk P w K mg base 38 "_law_mixed" ["fund", "items"] [] ct__law_mixed) (F__law_times : DefOk P w K mg base 38 "_law_times" ["one", "two"] [] ct__law_times) (F__law_less : DefOk P w K mg base 38 "_law_less" ["one", "two"] [] ct__law_less) (F_adjusted_prices : DefOk P w K mg base 43 "adjusted_prices" ["common", "classes", "issues", "kind"] [] ct_adjusted_prices) : DefOk P w K mg base 44 "_law_mean_right" ["fund", "common", "classes", "issues"] [] ct__law_mean_right := by
  refine mk_def T.g__law_mean_right sc__law_mean_right (by rintro os args Φ ⟨d, com, cs, is, rfl, rfl, _⟩; rfl) (fun _ _ _ _ _ _ us hl => match us, hl with | [_, _, _, _], _ => rfl) (fun f cdv A outer s H E hr => ?b)
  case b =>
    have nd := (sc__law_mean_right).nd
    have hu1 : (A.deeper (envOfC "_law_mean_right" (defScope s__law_mean_right) s.heap.objs.size f cdv)).units + 1 < cLine := by have := hr.un; omega
    have hu64 : (A.deeper (envOfC "_law_mean_right" (defScope s__law_mean_right) s.heap.objs.size f cdv)).units + 64 < cLine := by have := hr.un; omega
    have hu65 : (A.deeper (envOfC "_law_mean_right" (defScope s__law_mean_right) s.heap.objs.size f cdv)).units + 65 < cLine := by have := hr.un; omega
    refine ⟨_, _,
      (jss_cons (js_set 4 nd rfl (by first | exact Or.inl rfl | exact Or.inr rfl) (jc F__law_sum (hr.mono (by decide)) rfl (ja_cons (je_new (jn_cat (je_new (jn_lst (ja_cons (je_var 1) ja_nil))) (je_new (jn_lc rfl nd (ji_values (je_var 2)) (blkOk_by (own := [("paid", 15), ("price", 14)]) (N := N__law_mean_right) (sc := defScope s__law_mean_right) (by decide +kernel)) (fun _ _ _ _ _ => (jx_tup (n := 2) rfl (jgs_cons (jg_name 15 nd rfl (by first | exact Or.inl rfl | exact Or.inr rfl)) (jgs_cons (jg_name 14 nd rfl (by first | exact Or.inl rfl | exact Or.inr rfl)) jgs_nil)))) (gw_tup (gw_cons mg_name (gw_name (by decide)) (gw_cons mg_name (gw_name (by decide)) gw_nil))) (mg_tup (mg_cons mg_name (mg_cons mg_name mg_nil))) (fun _ _ _ _ _ => jts_nil) (fun _ _ _ _ _ => (jc F__law_over (hr.mono (by decide)) rfl (ja_cons (je_var 15) (ja_cons (je_var 14) ja_nil)))))))) ja_nil)))
      (jss_cons (js_set 5 nd rfl (by first | exact Or.inl rfl | exact Or.inr rfl) (jc F__law_sum (hr.mono (by decide)) rfl (ja_cons (je_new (jn_lc rfl nd (ji_list (je_var 3)) (blkOk_by (own := [("one", 13), ("price", 14)]) (N := N__law_mean_right) (sc := defScope s__law_mean_right) (by decide +kernel)) (fun _ _ _ _ _ => (jx_tup (n := 2) rfl (jgs_cons (jg_name 13 nd rfl (by first | exact Or.inl rfl | exact Or.inr rfl)) (jgs_cons (jg_name 14 nd rfl (by first | exact Or.inl rfl | exact Or.inr rfl)) jgs_nil)))) (gw_tup (gw_cons mg_name (gw_name (by decide)) (gw_cons mg_name (gw_name (by decide)) gw_nil))) (mg_tup (mg_cons mg_name (mg_cons mg_name mg_nil))) (fun _ _ _ _ _ => jts_nil) (fun _ _ _ _ _ => (je_var 13)))) ja_nil)))
      (jss_cons (js_set 6 nd rfl (by first | exact Or.inl rfl | exact Or.inr rfl) (jc F__law_sum (hr.mono (by decide)) rfl (ja_cons (je_new (jn_lc rfl nd (ji_list (je_var 3)) (blkOk_by (own := [("one", 13), ("price", 14)]) (N := N__law_mean_right) (sc := defScope s__law_mean_right) (by decide +kernel)) (fun _ _ _ _ _ => (jx_tup (n := 2) rfl (jgs_cons (jg_name 13 nd rfl (by first | exact Or.inl rfl | exact Or.inr rfl)) (jgs_cons (jg_name 14 nd rfl (by first | exact Or.inl rfl | exact Or.inr rfl)) jgs_nil)))) (gw_tup (gw_cons mg_name (gw_name (by decide)) (gw_cons mg_name (gw_name (by decide)) gw_nil))) (mg_tup (mg_cons mg_name (mg_cons mg_name mg_nil))) (fun _ _ _ _ _ => jts_nil) (fun _ _ _ _ _ => (jc F__law_over (hr.mono (by decide)) rfl (ja_cons (je_var 13) (ja_cons (je_var 14) ja_nil)))))) ja_nil)))
      (jss_cons (js_set 7 nd rfl (by first | exact Or.inl rfl | exact Or.inr rfl) (je_new (jn_lst (ja_cons (je_var 3) (ja_cons (jcX F__law_mixed (hr.mono (by decide)) rfl (ja_consO 0 (ja_cons (je_var 3) ja_nil))) ja_nil)))))
      (jss_cons (js_for PassesOwn.never rfl (ji_keys (je_var 2)) (jg_name 8 nd rfl (by first | exact Or.inl rfl | exact Or.inr rfl)) (jss_cons (js_set 9 nd rfl (by first | exact Or.inl rfl | exact Or.inr rfl) (jy_ix (K := K) rfl (je_dget hu1 (je_var 2) (je_var 8)) je_int))
      (jss_cons (js_set 10 nd rfl (by first | exact Or.inl rfl | exact Or.inr rfl) (jc F__law_sum (hr.mono (by decide)) rfl (ja_cons (je_new (jn_lst (ja_cons (jc F__law_times (hr.mono (by decide)) rfl (ja_cons (je_var 4) (ja_cons (je_var 9) ja_nil))) (ja_cons (je_var 5) ja_nil)))) ja_nil)))
      (jss_cons (js_set 11 nd rfl (by first | exact Or.inl rfl | exact Or.inr rfl) (jc F__law_over (hr.mono (by decide)) rfl (ja_cons (je_var 10) (ja_cons (jc F__law_sum (hr.mono (by decide)) rfl (ja_cons (je_new (jn_lst (ja_cons (je_var 4) (ja_cons (je_var 6) ja_nil)))) ja_nil)) ja_nil))))
      (jss_cons (js_if (jyt_eq (K := K) rfl hu64 (je_new (jn_lc rfl nd (ji_list (je_var 3)) (blkOk_by (own := [("one", 13), ("price", 14)]) (N := N__law_mean_right) (sc := defScope s__law_mean_right) (by decide +kernel)) (fun _ _ _ _ _ => (jx_tup (n := 2) rfl (jgs_cons (jg_name 13 nd rfl (by first | exact Or.inl rfl | exact Or.inr rfl)) (jgs_cons (jg_name 14 nd rfl (by first | exact Or.inl rfl | exact Or.inr rfl)) jgs_nil)))) (gw_tup (gw_cons mg_name (gw_name (by decide)) (gw_cons mg_name (gw_name (by decide)) gw_nil))) (mg_tup (mg_cons mg_name (mg_cons mg_name mg_nil))) (fun _ _ _ _ _ => (jts_one (jt_not (jt_val (jc F__law_less (hr.mono (by decide)) rfl (ja_cons (je_var 14) (ja_cons (je_var 11) ja_nil))))))) (fun _ _ _ _ _ => (je_var 14)))) (je_new (jn_lst ja_nil))) (jss_one (js_if (jyt_ne (K := K) rfl hu64 (je_new (jn_lc rfl nd (ji_list (je_var 7)) (blkOk_by (own := [("row", 16)]) (N := N__law_mean_right) (sc := defScope s__law_mean_right) (by decide +kernel)) (fun _ _ _ _ _ => (jg_name 16 nd rfl (by first | exact Or.inl rfl | exact Or.inr rfl))) (gw_name (by decide)) mg_name (fun _ _ _ _ _ => jts_nil) (fun _ _ _ _ _ => (je_dget hu1 (jc F_adjusted_prices (hr.mono (by decide)) rfl (ja_cons (je_var 1) (ja_cons (je_var 2) (ja_cons (je_var 16) (ja_cons je_str ja_nil))))) (je_var 8))))) (je_new (jn_rep (jn_lst (ja_cons (je_var 11) ja_nil)) je_int))) (jss_one (js_ret je_bl)) jss_nil)) jss_nil)
      (jss_cons (js_set 12 nd rfl (by first | exact Or.inl rfl | exact Or.inr rfl) (je_var 9))
      (jss_cons (js_for PassesOwn.never rfl (ji_list (je_var 3)) (jx_tup (n := 2) rfl (jgs_cons (jg_name 13 nd rfl (by first | exact Or.inl rfl | exact Or.inr rfl)) (jgs_cons (jg_name 14 nd rfl (by first | exact Or.inl rfl | exact Or.inr rfl)) jgs_nil))) (jss_one (js_set 12 nd rfl (by first | exact Or.inl rfl | exact Or.inr rfl) (je_if (jt_val (jc F__law_less (hr.mono (by decide)) rfl (ja_cons (je_var 14) (ja_cons (je_var 12) ja_nil)))) (je_var 14) (je_var 12)))))
      (jss_one (js_if (jyt_ne (K := K) rfl hu64 (je_new (jn_lc rfl nd (ji_list (je_var 7)) (blkOk_by (own := [("row", 16)]) (N := N__law_mean_right) (sc := defScope s__law_mean_right) (by decide +kernel)) (fun _ _ _ _ _ => (jg_name 16 nd rfl (by first | exact Or.inl rfl | exact Or.inr rfl))) (gw_name (by decide)) mg_name (fun _ _ _ _ _ => jts_nil) (fun _ _ _ _ _ => (je_dget hu1 (jc F_adjusted_prices (hr.mono (by decide)) rfl (ja_cons (je_var 1) (ja_cons (je_var 2) (ja_cons (je_var 16) (ja_cons je_str ja_nil))))) (je_var 8))))) (je_new (jn_rep (jn_lst (ja_cons (je_var 12) ja_nil)) je_int))) (jss_one (js_ret je_bl)) jss_nil)))))))))
      (jss_one (js_ret je_bl))))))), ?_⟩
    rintro os args Φ ⟨d, com, cs, is, rfl, rfl, hd, c0, cB, DR, il, iok, hΦ⟩
    have k1 := DR.C.ne
    have k3 := DR.l3
    have C := DR.C.mono (N := 300) (by decide)
    have K0p : 0 ≤ K0 cs := sumL_nonneg fun q hq => by
      obtain ⟨c, hc, rfl⟩ := List.mem_map.mp hq
      exact Rat.le_of_lt (div_pos (C.ok c hc).p0 (C.ok c hc).b0)
    have BA : B 3000 (com + K0 cs) := by
      have := B_sum (n := 600) (qs := cs.map fun c => c.paid / c.begun) fun q hq => by
        obtain ⟨c, hc, rfl⟩ := List.mem_map.mp hq
        exact B_div (C.ok c hc).pB (C.ok c hc).bB
      rw [List.length_map] at this
      have l : cs.length * (600 + 1) ≤ 3 * 601 := Nat.mul_le_mul_right _ k3
      exact (B_add cB this).mono (by omega)
    have BM : B 1300 (sumL (is.map (·.1))) := by
      have := B_sum (n := 300) (qs := is.map (·.1)) fun q hq => by
        obtain ⟨p, hp, rfl⟩ := List.mem_map.mp hq
        exact (iok p hp).2.2.1
      rw [List.length_map] at this
      have l : is.length * (300 + 1) ≤ 4 * 301 := Nat.mul_le_mul_right _ il
      exact this.mono (by omega)
    have BS : B 2500 (shQ is) := by
      have := B_sum (n := 600) (qs := is.map fun p => p.1 / p.2) fun q hq => by
        obtain ⟨p, hp, rfl⟩ := List.mem_map.mp hq
        exact B_div (iok p hp).2.2.1 (iok p hp).2.2.2
      rw [List.length_map] at this
      have l : is.length * (600 + 1) ≤ 4 * 601 := Nat.mul_le_mul_right _ il
      exact this.mono (by omega)
    have A0 : 0 < com + K0 cs := by rw [Rat.add_comm]; exact add_pos K0p c0
    have S0 : 0 ≤ shQ is := sumL_nonneg fun q hq => by
      obtain ⟨p, hp, rfl⟩ := List.mem_map.mp hq
      exact Rat.le_of_lt (div_pos (iok p hp).1 (iok p hp).2.1)
    have D0 : 0 < com + K0 cs + shQ is := by rw [Rat.add_comm]; exact add_pos S0 A0
    walk_at "ss"
    refine i_valsCl ?_
    refine i_kLcX (fun c => qD (c.paid / c.begun)) (by omega) ?_ ?_
    · intro i c acc hx hi
      have ok := C.ok c (List.mem_of_getElem? hx)
      walk_at "ss"
      refine ⟨c.paid, c.begun, 300, 300, rfl, rfl, ok.pB, ok.bB, by decide, ok.b0, ?_⟩
      walk_at "ss"
      exact i_ivx hx hi rfl rfl
    refine i_cat (by rw [List.length_map]; show 1 + cs.length ≤ _; omega) ?_
    walk_at "ss"
    refine ⟨com :: cs.map (fun c => c.paid / c.begun), 600, rfl, by rw [List.map_cons, List.map_map]; rfl, ?_, ?_, ?_⟩
    · intro q hq
      rcases List.mem_cons.mp hq with rfl | hq
      · exact cB.mono (by decide)
      · obtain ⟨c, hc, rfl⟩ := List.mem_map.mp hq
        exact B_div (C.ok c hc).pB (C.ok c hc).bB
    · rw [List.length_cons, List.length_map]; omega
    rw [sumL_cons]
    show wgName 4 (qD (com + K0 cs)) _ _
    walk_at "ss"
    refine i_kWL (ds := is.map fun p => D.tup [qD p.1, qD p.2]) ?_
    refine i_kLcX (fun p => qD p.1) (by omega) ?_ ?_
    · intro i p acc hx hi
      walk_at "ss"
      exact i_ivx hx hi rfl rfl
    walk_at "ss"
    refine ⟨is.map (·.1), 300, rfl, by rw [List.map_map]; rfl, fun q hq => ?_, by rw [List.length_map]; omega, ?_⟩
    · obtain ⟨p, hp, rfl⟩ := List.mem_map.mp hq
      exact (iok p hp).2.2.1
    walk_at "ss"
    refine i_kWL (ds := is.map fun p => D.tup [qD p.1, qD p.2]) ?_
    refine i_kLcX (fun p => qD (p.1 / p.2)) (by omega) ?_ ?_
    · intro i p acc hx hi
      have ok := iok p (List.mem_of_getElem? hx)
      walk_at "ss"
      refine ⟨p.1, p.2, 300, 300, rfl, rfl, ok.2.2.1, ok.2.2.2, by decide, ok.2.1, ?_⟩
      walk_at "ss"
      exact i_ivx hx hi rfl rfl
    walk_at "ss"
    refine ⟨is.map (fun p => p.1 / p.2), 600, rfl, by rw [List.map_map]; rfl, fun q hq => ?_, by rw [List.length_map]; omega, ?_⟩
    · obtain ⟨p, hp, rfl⟩ := List.mem_map.mp hq
      exact B_div (iok p hp).2.2.1 (iok p hp).2.2.2
    show wgName 6 (qD (shQ is)) _ _
    walk_at "ss"
    refine i_callX 0 ?_
    walk_at "ss"
    refine ⟨d, is, rfl, rfl, hd, by omega, fun js d1 hperm hd1 => ⟨d1, rfl, ?_⟩⟩
    have I1 : IsOk 300 is := ⟨by omega, iok⟩
    have I2 : IsOk 300 js := ⟨by rw [hperm.length_eq]; omega, fun p hp => iok p (hperm.mem_iff.mp hp)⟩
    have ljs : js.length ≤ 4 := by rw [hperm.length_eq]; exact il
    have sz : ∀ k, k ≤ 4 → szS 300 k ≤ 50000 ∧ szF false 300 k ≤ 50000 := fun k hk => ⟨Nat.le_trans (szS_mono hk) (by decide), Nat.le_trans (szF_mono hk) (by decide)⟩
    walk_at "ss"
    refine i_keysCl ?_
    refine i_kFor (fun i S => ∃ (dF : D) (x8 x9 x10 x11 x12 x13 x14 x15 x16 : Option _root_.S.Arg), S = ⟨[some dF], [some (.o 0), some (.v (qD com)), some (.v (clD cs)), some (.v (isD is)), some (.v (qD (com + K0 cs))), some (.v (qD (sumL (is.map (·.1))))), some (.v (qD (shQ is))), some (.v (.lst [isD is, isD js])), x8, x9, x10, x11, x12, x13, x14, x15, x16]⟩ ∧ Fund dF) ⟨d1, none, none, none, none, none, none, none, none, none, rfl, hd1⟩ ?h1 ?h2
    case h2 =>
      rintro S ⟨dF, x8, x9, x10, x11, x12, x13, x14, x15, x16, rfl, hF⟩
      walk_at "ss"
      exact hΦ dF hF
    case h1 =>
      rintro i dd S hdd ⟨dF, x8, x9, x10, x11, x12, x13, x14, x15, x16, rfl, hF⟩
      rw [List.getElem?_map] at hdd
      obtain ⟨c, hci, rfl⟩ := Option.map_eq_some_iff.mp hdd
      have hc := List.mem_of_getElem? hci
      have hc' := hc
      have ok := C.ok c hc
      walk_at "ss"
      refine i_dgetCl C.nd hc ?_
      walk_at "ss"
      refine ⟨com + K0 cs, c.begun, 3000, 300, rfl, rfl, BA, ok.bB, by decide, ?_⟩
      walk_at "ss"
      have B1 := B_mul BA ok.bB
      refine ⟨[(com + K0 cs) * c.begun, sumL (is.map (·.1))], 3300, rfl, rfl, ?_, by show 3 * _ < _; decide, ?_⟩
      · intro q hq
        simp only [List.mem_cons, List.not_mem_nil, or_false] at hq
        rcases hq with rfl | rfl
        · exact B1
        · exact BM.mono (by decide)
      rw [sumL_cons, sumL_cons, sumL_nil, Rat.add_zero]
      walk_at "ss"
      refine ⟨[com + K0 cs, shQ is], 3000, rfl, rfl, ?_, by show 3 * _ < _; decide, ?_⟩
      · intro q hq
        simp only [List.mem_cons, List.not_mem_nil, or_false] at hq
        rcases hq with rfl | rfl
        · exact BA
        · exact BS.mono (by decide)
      rw [sumL_cons, sumL_cons, sumL_nil, Rat.add_zero]
      walk_at "ss"
      refine ⟨_, _, _, _, rfl, rfl, B_add B1 BM, B_add BA BS, by decide, D0, ?_⟩
      have BMe := B_div (B_add B1 BM) (B_add BA BS)
      generalize hM : ((com + K0 cs) * c.begun + sumL (is.map (·.1))) / (com + K0 cs + shQ is) = M at BMe ⊢
      have hM2 : (com + K0 cs) * c.begun + sumL (is.map (·.1)) = M * (com + K0 cs + shQ is) := by
        rw [← hM, Rat.div_mul_cancel (fun z => by rw [z] at D0; exact Rat.lt_irrefl D0)]
      walk_at "ss"
      refine i_kWL (ds := is.map fun p => D.tup [qD p.1, qD p.2]) ?_
      refine i_kLcY (fun p => if p.2 < M then none else some (qD p.2)) (by omega) ?_ ?_
      · intro j p acc hx hi
        have okp := iok p (List.mem_of_getElem? hx)
        walk_at "ss"
        refine ⟨p.2, M, _, _, rfl, rfl, okp.2.2.2, BMe, by decide, ?_⟩
        walk_at "ss"
        by_cases z : p.2 < M
        · rw [decide_eq_true z]
          walk_at "ss"
          exact i_ivyF hx hi rfl (if_pos z)
        · rw [decide_eq_false z]
          walk_at "ss"
          exact i_ivyT hx hi rfl (if_neg z)
      rw [filt_ge]
      walk_at "ss"
      refine i_eq (okE_lst _) (by rfl) ?_
      walk_at "ss"
      refine i_kIf (fun hc => ?_) (fun hc => ?_)
      · have hnil : (is.filter fun p => decide (¬ p.2 < M)) = [] := by
          have h1 : D.lst (((is.filter fun p => decide (¬ p.2 < M)).map (·.2)).map qD) = D.lst [] := of_decide_eq_true hc
          injection h1 with h2
          have := congrArg List.length h2
          rw [List.length_map, List.length_map] at this
          exact List.eq_nil_of_length_eq_zero this
        have hall : ∀ p ∈ is, 0 < p.1 ∧ 0 < p.2 ∧ p.2 < M := fun p hp => by
          have ok := iok p hp
          refine ⟨ok.1, ok.2.1, ?_⟩
          have := List.filter_eq_nil_iff.mp hnil p hp
          simpa using this
        have R1 : RunOk "issued" cs com is 300 50000 := run_ok (.inr (.inl rfl)) C I1 c0 (cB.mono (by decide)) (sz _ il).1 (sz _ il).2 (by decide)
        have R2 : RunOk "issued" cs com js 300 50000 := run_ok (.inr (.inl rfl)) C I2 c0 (cB.mono (by decide)) (sz _ ljs).1 (sz _ ljs).2 (by decide)
        have V1 : (runQ "issued" cs com is).1 c.nm = M := mean_fold K0p is (begF cs, com) c0 hall (by show (com + K0 cs) * begF cs c.nm + _ = _; rw [begF_of C.nd hc']; exact hM2)
        have V2 : (runQ "issued" cs com js).1 c.nm = M := mean_fold K0p js (begF cs, com) c0 (fun p hp => hall p (hperm.mem_iff.mp hp)) (by
          show (com + K0 cs) * begF cs c.nm + _ = M * (com + K0 cs + shQ js)
          rw [begF_of C.nd hc', sumL_perm (hperm.map (·.1)), show shQ js = shQ is from sumL_perm (hperm.map fun p => p.1 / p.2)]
          exact hM2)
        walk_at "ss"
        refine i_kLcX (xs := [is, js]) (g := isD) (fun _ => qD (M)) (by show 2 < 16777216; decide) ?_ ?_
        · intro j r acc hr hi
          have hrm : r = is ∨ r = js := by
            have := List.mem_of_getElem? hr
            simpa using this
          have R : RunOk "issued" cs com r 300 50000 := by
            rcases hrm with rfl | rfl
            · exact R1
            · exact R2
          walk_at "ss"
          refine ⟨com, cs, r, "issued", 300, 50000, rfl, rfl, R, fun ns hp hso => ?_⟩
          have nd2 : ns.Nodup := hp.symm.nodup C.nd
          walk_at "ss"
          refine i_dgetPr nd2 (hp.symm.mem_iff.mp (List.mem_map_of_mem hc')) ?_
          refine i_ivx hr hi rfl ?_
          rcases hrm with rfl | rfl
          · rw [V1]
          · rw [V2]
        walk_at "ss"
        refine i_kRep ⟨by decide, by decide, Nat.le_of_ble_eq_true rfl⟩ ?_
        show fNe (.lst ([M, M].map qD)) (.lst ([M, M].map qD)) _ _
        refine i_ne (okE_lst _) (okE_lst _) ?_
        rw [decide_eq_true rfl]
        walk_at "ss"
        walk_at "ss"
        refine i_kWL (ds := is.map fun p => D.tup [qD p.1, qD p.2]) ?_
        refine i_kFor (fun j S => ∃ (y13 y14 : Option _root_.S.Arg), S = ⟨[some dF], [some (.o 0), some (.v (qD com)), some (.v (clD cs)), some (.v (isD is)), some (.v (qD (com + K0 cs))), some (.v (qD (sumL (is.map (·.1))))), some (.v (qD (shQ is))), some (.v (.lst [isD is, isD js])), some (.v (.str c.nm)), some (.v (qD c.begun)), some (.v (qD ((com + K0 cs) * c.begun + sumL (is.map (·.1))))), some (.v (qD M)), some (.v (qD (leastQ c.begun (is.take j)))), y13, y14, x15, x16]⟩) ⟨_, _, rfl⟩ ?g1 ?g2
        case g1 =>
          rintro j d2 S hd2 ⟨y13, y14, rfl⟩
          rw [List.getElem?_map] at hd2
          obtain ⟨p, hpj, rfl⟩ := Option.map_eq_some_iff.mp hd2
          have okp := iok p (List.mem_of_getElem? hpj)
          have lB : B 300 (leastQ c.begun (is.take j)) := least_B _ ok.bB fun q hq => (iok q (List.mem_of_mem_take hq)).2.2.2
          walk_at "ss"
          refine ⟨p.2, _, 300, 300, rfl, rfl, okp.2.2.2, lB, by decide, ?_⟩
          walk_at "ss"
          have es := least_snoc (p := c.begun) hpj
          refine i_kIfE (fun hc => ?_) (fun hc => ?_)
          · walk_at "ss"
            rw [es]
            unfold minQ
            rw [if_pos (of_decide_eq_true hc)]
            exact ⟨_, _, rfl⟩
          · walk_at "ss"
            rw [es]
            unfold minQ
            rw [if_neg (of_decide_eq_false hc)]
            exact ⟨_, _, rfl⟩
        case g2 =>
          rintro S ⟨y13, y14, rfl⟩
          rw [List.length_map, List.take_length]
          have R1 : RunOk "full" cs com is 300 50000 := run_ok (.inl rfl) C I1 c0 (cB.mono (by decide)) (sz _ il).1 (sz _ il).2 (by decide)
          have R2 : RunOk "full" cs com js 300 50000 := run_ok (.inl rfl) C I2 c0 (cB.mono (by decide)) (sz _ ljs).1 (sz _ ljs).2 (by decide)
          have V1 : (runQ "full" cs com is).1 c.nm = leastQ c.begun is := by
            unfold runQ
            rw [full_fold]
            show leastQ (begF cs c.nm) is = _
            rw [begF_of C.nd hc']
          have V2 : (runQ "full" cs com js).1 c.nm = leastQ c.begun is := by
            unfold runQ
            rw [full_fold]
            show leastQ (begF cs c.nm) js = _
            rw [begF_of C.nd hc', least_perm hperm]
          walk_at "ss"
          refine i_kLcX (xs := [is, js]) (g := isD) (fun _ => qD (leastQ c.begun is)) (by show 2 < 16777216; decide) ?_ ?_
          · intro j r acc hr hi
            have hrm : r = is ∨ r = js := by
              have := List.mem_of_getElem? hr
              simpa using this
            have R : RunOk "full" cs com r 300 50000 := by
              rcases hrm with rfl | rfl
              · exact R1
              · exact R2
            walk_at "ss"
            refine ⟨com, cs, r, "full", 300, 50000, rfl, rfl, R, fun ns hp hso => ?_⟩
            have nd2 : ns.Nodup := hp.symm.nodup C.nd
            walk_at "ss"
            refine i_dgetPr nd2 (hp.symm.mem_iff.mp (List.mem_map_of_mem hc')) ?_
            refine i_ivx hr hi rfl ?_
            rcases hrm with rfl | rfl
            · rw [V1]
            · rw [V2]
          walk_at "ss"
          refine i_kRep ⟨by decide, by decide, Nat.le_of_ble_eq_true rfl⟩ ?_
          show fNe (.lst ([leastQ c.begun is, leastQ c.begun is].map qD)) (.lst ([leastQ c.begun is, leastQ c.begun is].map qD)) _ _
          refine i_ne (okE_lst _) (okE_lst _) ?_
          rw [decide_eq_true rfl]
          walk_at "ss"
          exact ⟨dF, _, _, _, _, _, _, _, _, _, rfl, hF⟩
      · walk_at "ss"
        walk_at "ss"
        refine i_kWL (ds := is.map fun p => D.tup [qD p.1, qD p.2]) ?_
        refine i_kFor (fun j S => ∃ (y13 y14 : Option _root_.S.Arg), S = ⟨[some dF], [some (.o 0), some (.v (qD com)), some (.v (clD cs)), some (.v (isD is)), some (.v (qD (com + K0 cs))), some (.v (qD (sumL (is.map (·.1))))), some (.v (qD (shQ is))), some (.v (.lst [isD is, isD js])), some (.v (.str c.nm)), some (.v (qD c.begun)), some (.v (qD ((com + K0 cs) * c.begun + sumL (is.map (·.1))))), some (.v (qD M)), some (.v (qD (leastQ c.begun (is.take j)))), y13, y14, x15, x16]⟩) ⟨_, _, rfl⟩ ?g1 ?g2
        case g1 =>
          rintro j d2 S hd2 ⟨y13, y14, rfl⟩
          rw [List.getElem?_map] at hd2
          obtain ⟨p, hpj, rfl⟩ := Option.map_eq_some_iff.mp hd2
          have okp := iok p (List.mem_of_getElem? hpj)
          have lB : B 300 (leastQ c.begun (is.take j)) := least_B _ ok.bB fun q hq => (iok q (List.mem_of_mem_take hq)).2.2.2
          walk_at "ss"
          refine ⟨p.2, _, 300, 300, rfl, rfl, okp.2.2.2, lB, by decide, ?_⟩
          walk_at "ss"
          have es := least_snoc (p := c.begun) hpj
          refine i_kIfE (fun hc => ?_) (fun hc => ?_)
          · walk_at "ss"
            rw [es]
            unfold minQ
            rw [if_pos (of_decide_eq_true hc)]
            exact ⟨_, _, rfl⟩
          · walk_at "ss"
            rw [es]
            unfold minQ
            rw [if_neg (of_decide_eq_false hc)]
            exact ⟨_, _, rfl⟩
        case g2 =>
          rintro S ⟨y13, y14, rfl⟩
          rw [List.length_map, List.take_length]
          have R1 : RunOk "full" cs com is 300 50000 := run_ok (.inl rfl) C I1 c0 (cB.mono (by decide)) (sz _ il).1 (sz _ il).2 (by decide)
          have R2 : RunOk "full" cs com js 300 50000 := run_ok (.inl rfl) C I2 c0 (cB.mono (by decide)) (sz _ ljs).1 (sz _ ljs).2 (by decide)
          have V1 : (runQ "full" cs com is).1 c.nm = leastQ c.begun is := by
            unfold runQ
            rw [full_fold]
            show leastQ (begF cs c.nm) is = _
            rw [begF_of C.nd hc']
          have V2 : (runQ "full" cs com js).1 c.nm = leastQ c.begun is := by
            unfold runQ
            rw [full_fold]
            show leastQ (begF cs c.nm) js = _
            rw [begF_of C.nd hc', least_perm hperm]
          walk_at "ss"
          refine i_kLcX (xs := [is, js]) (g := isD) (fun _ => qD (leastQ c.begun is)) (by show 2 < 16777216; decide) ?_ ?_
          · intro j r acc hr hi
            have hrm : r = is ∨ r = js := by
              have := List.mem_of_getElem? hr
              simpa using this
            have R : RunOk "full" cs com r 300 50000 := by
              rcases hrm with rfl | rfl
              · exact R1
              · exact R2
            walk_at "ss"
            refine ⟨com, cs, r, "full", 300, 50000, rfl, rfl, R, fun ns hp hso => ?_⟩
            have nd2 : ns.Nodup := hp.symm.nodup C.nd
            walk_at "ss"
            refine i_dgetPr nd2 (hp.symm.mem_iff.mp (List.mem_map_of_mem hc')) ?_
            refine i_ivx hr hi rfl ?_
            rcases hrm with rfl | rfl
            · rw [V1]
            · rw [V2]
          walk_at "ss"
          refine i_kRep ⟨by decide, by decide, Nat.le_of_ble_eq_true rfl⟩ ?_
          show fNe (.lst ([leastQ c.begun is, leastQ c.begun is].map qD)) (.lst ([leastQ c.begun is, leastQ c.begun is].map qD)) _ _
          refine i_ne (okE_lst _) (okE_lst _) ?_
          rw [decide_eq_true rfl]
          walk_at "ss"
          exact ⟨dF, _, _, _, _, _, _, _, _, _, rfl, hF⟩
end
end K73
set_option Elab.async false
set_option linter.all false
set_option maxRecDepth 100000
set_option autoImplicit false
set_option maxHeartbeats 0
namespace K73
open PySem L2 S PyProof.Rows
local macro_rules | `(tactic| walk_at "s") => `(tactic| first
  | (with_reducible apply i_seq)
  | (with_reducible apply i_asg)
  | (with_reducible apply i_gname)
  | (with_reducible apply i_op)
  | (with_reducible apply i_c)
  | ((with_reducible apply i_var); focus (rfl))
  | (with_reducible apply i_cons)
  | (with_reducible apply i_nil)
  | (with_reducible apply i_next)
  | (with_reducible apply i_ret)
  | (with_reducible apply i_drop)
  | (with_reducible apply i_ifS)
  | (with_reducible apply i_test)
  | (with_reducible apply i_kTest)
  | (with_reducible apply i_and)
  | (with_reducible apply i_or)
  | (with_reducible apply i_not)
  | (with_reducible apply i_andV)
  | (with_reducible apply i_orV)
  | (with_reducible apply i_notV)
  | (with_reducible apply i_kNotV)
  | (with_reducible apply i_ifE)
  | (with_reducible apply i_tup)
  | (with_reducible apply i_lst)
  | (with_reducible apply i_call)
  | (with_reducible apply i_cb)
  | (with_reducible apply i_isi)
  | (with_reducible apply i_isN)
  | (with_reducible apply i_notN)
  | ((with_reducible apply i_bt); focus (rfl))
  | ((with_reducible apply i_bf); focus (rfl))
  | ((with_reducible apply i_kIfT); focus (rfl))
  | ((with_reducible apply i_kIfF); focus (rfl))
  | ((with_reducible apply i_kAndT); focus (rfl))
  | ((with_reducible apply i_kAndF); focus (rfl))
  | ((with_reducible apply i_kOrT); focus (rfl))
  | ((with_reducible apply i_kOrF); focus (rfl))
  | ((with_reducible apply i_kAndVT); focus (rfl))
  | ((with_reducible apply i_kAndVF); focus (rfl))
  | ((with_reducible apply i_kOrVT); focus (rfl))
  | ((with_reducible apply i_kOrVF); focus (rfl))
  | ((with_reducible apply i_kIfET); focus (rfl))
  | ((with_reducible apply i_kIfEF); focus (rfl))
  | ((with_reducible apply i_kIsi); focus (rfl))
  | ((with_reducible apply i_kTup); (focus rfl); (focus (exact Nat.le_of_ble_eq_true rfl)))
  | ((with_reducible apply i_kLst); (focus rfl); (focus (exact Nat.le_of_ble_eq_true rfl)))
  | ((with_reducible apply i_kCall); focus (rfl))
  | ((with_reducible apply i_kCallD); focus (rfl))
  | ((with_reducible apply i_kCallO); (focus rfl); (focus rfl))
  | ((with_reducible apply i_kCB); focus (rfl))
  | ((with_reducible apply i_gtup); focus (rfl))
  | ((with_reducible apply i_glst); focus (rfl))
  | (with_reducible apply i_fI0)
  | (with_reducible apply i_absN)
  | (with_reducible apply i_int)
  | (with_reducible apply i_intB)
  | (with_reducible apply i_eqI)
  | (with_reducible apply i_neI)
  | (with_reducible apply i_eqQ)
  | (with_reducible apply i_neQ)
  | (with_reducible apply i_eqQi)
  | (with_reducible apply i_neQi)
  | (with_reducible apply i_gcons)
  | (with_reducible apply i_gnil)
  | (with_reducible apply i_own)
  | (with_reducible apply i_par)
  | (with_reducible apply i_parN)
  | (with_reducible apply i_parNN)
  | (with_reducible apply i_setC)
  | (with_reducible apply i_lenL)
  | (with_reducible apply i_lenT)
  | (with_reducible apply i_lenD)
  | (with_reducible apply i_for)
  | (with_reducible apply i_forC)
  | (with_reducible apply i_wiL)
  | (with_reducible apply i_kWL)
  | (with_reducible apply i_wiDic)
  | (with_reducible apply i_mDic)
  | (with_reducible apply i_wiS)
  | (with_reducible apply i_kWS)
  | (with_reducible apply i_lc)
  | (with_reducible apply i_dc)
  | (with_reducible apply i_yes)
  | (with_reducible apply i_sl)
  | (with_reducible apply i_kSl)
  | (with_reducible apply i_oN)
  | (with_reducible apply i_oS)
  | (with_reducible apply i_kO)
  | (with_reducible apply i_rep)
  | (with_reducible apply i_chain)
  | (with_reducible apply i_sign)
  | (with_reducible apply i_wmSeq)
  | (with_reducible apply i_wmRet)
  | (with_reducible apply i_wiR1)
  | (with_reducible apply i_wiEnum)
  | (with_reducible apply i_kEn)
  | (with_reducible apply i_wiEnumK)
  | (with_reducible apply i_kEnK)
  | (with_reducible apply i_retN)
  | ((with_reducible apply i_ixT); focus (rfl))
  | ((with_reducible apply i_ixL); focus (rfl))
  | ((with_reducible apply i_kChT); focus (rfl))
  | ((with_reducible apply i_consO); focus (rfl))
  | (with_reducible apply i_dic0)
  | (with_reducible apply i_dputO)
  | ((with_reducible apply i_kDput1); focus (rfl))
  | ((with_reducible apply i_ixV); focus (rfl))
  | ((with_reducible apply i_pop); focus (rfl))
  | ((with_reducible apply i_neO); focus (rfl))
  | ((with_reducible apply i_ext); focus (rfl))
  | (with_reducible apply i_lv)
  | (with_reducible apply i_kLV)
  | (with_reducible apply i_listL)
  | ((with_reducible apply i_lenO); focus (rfl))
  | ((with_reducible apply i_ixC); (focus rfl); (focus rfl))
  | ((with_reducible apply i_end1); focus (rfl))
  | (with_reducible apply i_max2)
  | (with_reducible apply i_min2)
  | (with_reducible apply i_end0')
  | (with_reducible apply i_end0n)
  | (with_reducible apply i_endM))
local macro_rules | `(tactic| walk_at "ss") => `(tactic| repeat walk_at "s")

section
variable {P : Program} {w : World} {K : PySem.W.Frag} {mg : Str → Option Value} {base : Heap}
abbrev ct__law_scaled_right : Ct := fun os args Φ => ∃ (com : Rat) (cs : List Cl) (is : List (Rat × Rat)) (kind : Str) (n N M : Nat) (one two : Rat) (ns : List Str) (whole : Rat), os = [] ∧ args = [.v (qD com), .v (clD cs), .v (isD is), .v (.str kind), .v (.tup [qD one, qD two]), .v (prD ns (runQ kind cs com is).1), .v (qD whole)] ∧ RunOk kind cs com is n N ∧ szS (n + 16) is.length ≤ M ∧ szF (convB kind) (n + 16) is.length ≤ M ∧ M < 1140000 ∧ 0 < one ∧ 0 < two ∧ B 5 one ∧ B 5 two ∧ ns.Perm (cs.map (·.nm)) ∧ whole = (runQ kind cs com is).2 + sumL (cs.map fun c => c.paid / (runQ kind cs com is).1 c.nm) ∧ B (7 * N + 5) whole ∧ Φ (.bl true) []
theorem ok__law_scaled_right (T : Txt P K mg base) (F__law_times : DefOk P w K mg base 38 "_law_times" ["one", "two"] [] ct__law_times) (F_adjusted_prices : DefOk P w K mg base 43 "adjusted_prices" ["common", "classes", "issues", "kind"] [] ct_adjusted_prices) (F_converted_shares : DefOk P w K mg base 43 "converted_shares" ["common", "classes", "issues", "kind"] [] ct_converted_shares) : DefOk P w K mg base 44 "_law_scaled_right" ["common", "classes", "issues", "kind", "factors", "prices", "shares"] [] ct__law_scaled_right := by
  refine mk_def T.g__law_scaled_right sc__law_scaled_right (by rintro os args Φ ⟨com, cs, is, kind, n, N, M, one, two, ns, whole, rfl, rfl, _⟩; rfl) (fun _ _ _ _ _ _ us hl => match us, hl with | [_, _, _, _, _, _, _], _ => rfl) (fun f cdv A outer s H E hr => ?b)
  case b =>
    have nd := (sc__law_scaled_right).nd
    have hu1 : (A.deeper (envOfC "_law_scaled_right" (defScope s__law_scaled_right) s.heap.objs.size f cdv)).units + 1 < cLine := by have := hr.un; omega
    have hu64 : (A.deeper (envOfC "_law_scaled_right" (defScope s__law_scaled_right) s.heap.objs.size f cdv)).units + 64 < cLine := by have := hr.un; omega
    have hu65 : (A.deeper (envOfC "_law_scaled_right" (defScope s__law_scaled_right) s.heap.objs.size f cdv)).units + 65 < cLine := by have := hr.un; omega
    refine ⟨_, _,
      (jss_cons (js_asg (je_var 4) (jx_tup (n := 2) rfl (jgs_cons (jg_name 7 nd rfl (by first | exact Or.inl rfl | exact Or.inr rfl)) (jgs_cons (jg_name 8 nd rfl (by first | exact Or.inl rfl | exact Or.inr rfl)) jgs_nil))))
      (jss_cons (js_parNN (i := 9) (j := 10) rfl nd rfl rfl (by decide) rfl rfl jn_dic0 (jn_lst ja_nil) (by rfl))
      (jss_cons (js_for PassesOwn.never rfl (ji_keys (je_var 1)) (jg_name 11 nd rfl (by first | exact Or.inl rfl | exact Or.inr rfl)) (jss_one (js_dputO 9 hu1 (je_new (jn_tup (ja_cons (jc F__law_times (hr.mono (by decide)) rfl (ja_cons (jy_ix (K := K) rfl (je_dget hu1 (je_var 1) (je_var 11)) je_int) (ja_cons (jc F__law_times (hr.mono (by decide)) rfl (ja_cons (je_var 7) (ja_cons (je_var 8) ja_nil))) ja_nil))) (ja_cons (jc F__law_times (hr.mono (by decide)) rfl (ja_cons (jy_ix (K := K) rfl (je_dget hu1 (je_var 1) (je_var 11)) je_int) (ja_cons (je_var 7) ja_nil))) ja_nil)))) (je_var 11) (pv' 9))))
      (jss_cons (js_for PassesOwn.never rfl (ji_list (je_var 2)) (jx_tup (n := 2) rfl (jgs_cons (jg_name 12 nd rfl (by first | exact Or.inl rfl | exact Or.inr rfl)) (jgs_cons (jg_name 13 nd rfl (by first | exact Or.inl rfl | exact Or.inr rfl)) jgs_nil))) (jss_one (js_expr (jx_app 10 (pv' 10) (je_new (jn_tup (ja_cons (jc F__law_times (hr.mono (by decide)) rfl (ja_cons (je_var 12) (ja_cons (jc F__law_times (hr.mono (by decide)) rfl (ja_cons (je_var 7) (ja_cons (je_var 8) ja_nil))) ja_nil))) (ja_cons (jc F__law_times (hr.mono (by decide)) rfl (ja_cons (je_var 13) (ja_cons (je_var 7) ja_nil))) ja_nil))))))))
      (jss_cons (js_set 14 nd rfl (by first | exact Or.inl rfl | exact Or.inr rfl) (jc F_adjusted_prices (hr.mono (by decide)) rfl (ja_cons (jc F__law_times (hr.mono (by decide)) rfl (ja_cons (je_var 0) (ja_cons (je_var 8) ja_nil))) (ja_cons (je_var 9) (ja_cons (je_var 10) (ja_cons (je_var 3) ja_nil))))))
      (jss_cons (js_if (jyt_ne (K := K) rfl hu64 (je_new (jn_lc rfl nd (ji_keys (je_var 1)) (blkOk_by (own := [("name", 11)]) (N := N__law_scaled_right) (sc := defScope s__law_scaled_right) (by decide +kernel)) (fun _ _ _ _ _ => (jg_name 11 nd rfl (by first | exact Or.inl rfl | exact Or.inr rfl))) (gw_name (by decide)) mg_name (fun _ _ _ _ _ => jts_nil) (fun _ _ _ _ _ => (je_dget hu1 (je_var 14) (je_var 11))))) (je_new (jn_lc rfl nd (ji_keys (je_var 1)) (blkOk_by (own := [("name", 11)]) (N := N__law_scaled_right) (sc := defScope s__law_scaled_right) (by decide +kernel)) (fun _ _ _ _ _ => (jg_name 11 nd rfl (by first | exact Or.inl rfl | exact Or.inr rfl))) (gw_name (by decide)) mg_name (fun _ _ _ _ _ => jts_nil) (fun _ _ _ _ _ => (jc F__law_times (hr.mono (by decide)) rfl (ja_cons (je_dget hu1 (je_var 5) (je_var 11)) (ja_cons (je_var 7) ja_nil))))))) (jss_one (js_ret je_bl)) jss_nil)
      (jss_one (js_ret (jy_eq (K := K) rfl hu64 (jc F_converted_shares (hr.mono (by decide)) rfl (ja_cons (jc F__law_times (hr.mono (by decide)) rfl (ja_cons (je_var 0) (ja_cons (je_var 8) ja_nil))) (ja_cons (je_var 9) (ja_cons (je_var 10) (ja_cons (je_var 3) ja_nil))))) (jc F__law_times (hr.mono (by decide)) rfl (ja_cons (je_var 6) (ja_cons (je_var 8) ja_nil)))))))))))), ?_⟩
    rintro os args Φ ⟨com, cs, is, kind, n, N, M, one, two, ns, whole, rfl, rfl, R, hS, hF, hM, o0, t0, oB, tB, hp, hw, wB, hΦ⟩
    have C := R.C
    have k1 := C.ne
    have k3 := C.le
    have hN := R.hN
    have hnN := R.le
    have hnM : n + 16 ≤ M := Nat.le_trans (szF_n (conv := convB kind) (k := is.length)) hF
    have nd2 : ns.Nodup := hp.symm.nodup C.nd
    have ot0 : 0 < one * two := Rat.mul_pos o0 t0
    have otB : B 10 (one * two) := B_mul oB tB
    let sc : Cl → Cl := fun c => ⟨c.nm, c.paid * (one * two), c.begun * one⟩
    let si : Rat × Rat → Rat × Rat := fun p => (p.1 * (one * two), p.2 * one)
    have C2 : CsOk (n + 16) (cs.map sc) := by
      refine ⟨by rw [List.length_map]; exact k1, by rw [List.length_map]; exact k3, ?_, fun c hc => ?_⟩
      · rw [List.map_map]; exact C.nd
      · obtain ⟨d, hd, rfl⟩ := List.mem_map.mp hc
        have ok := C.ok d hd
        exact ⟨ok.nm, Rat.mul_pos ok.p0 ot0, Rat.mul_pos ok.b0 o0, (B_mul ok.pB otB).mono (by omega), (B_mul ok.bB oB).mono (by omega)⟩
    have I2 : IsOk (n + 16) (is.map si) := by
      refine ⟨by rw [List.length_map]; exact R.I.le, fun p hp => ?_⟩
      obtain ⟨q, hq, rfl⟩ := List.mem_map.mp hp
      have ok := R.I.ok q hq
      exact ⟨Rat.mul_pos ok.1 ot0, Rat.mul_pos ok.2.1 o0, (B_mul ok.2.2.1 otB).mono (by omega), (B_mul ok.2.2.2 oB).mono (by omega)⟩
    have c20 : 0 < com * two := Rat.mul_pos R.c0 t0
    have c2B : B (n + 16) (com * two) := (B_mul R.cB tB).mono (by omega)
    have R2 : RunOk kind (cs.map sc) (com * two) (is.map si) (n + 16) M := run_ok R.hk C2 I2 c20 c2B (by rw [List.length_map]; exact hS) (by rw [List.length_map]; exact hF) hM
    have on : one ≠ 0 := fun z => by rw [z] at o0; exact Rat.lt_irrefl o0
    have st0 : ∀ c ∈ cs, (begF (cs.map sc)) c.nm = begF cs c.nm * one := fun c hc => by
      rw [begF_of C.nd hc, show c.nm = (sc c).nm from rfl, begF_of C2.nd (List.mem_map_of_mem hc)]
    have hah : ∀ st st' : (Str → Rat) × Rat, st'.2 = st.2 * two → (∀ c ∈ cs, st'.1 c.nm = st.1 c.nm * one) → aheadQ kind (cs.map sc) st'.1 st'.2 = aheadQ kind cs st.1 st.2 * two := by
      intro st st' h1 h2
      unfold aheadQ
      rw [h1, Rat.add_mul, List.map_map]
      congr 1
      rw [← sumL_mul, List.map_map]
      congr 1
      refine List.map_congr_left fun c hc => ?_
      show (c.paid * (one * two)) / (if convB kind then st'.1 c.nm else c.begun * one) = c.paid / (if convB kind then st.1 c.nm else c.begun) * two
      rw [h2 c hc]
      have inv := Rat.mul_inv_cancel one on
      split
      · rw [Rat.div_def, Rat.div_def, Rat.inv_mul_rev]
        generalize one⁻¹ = oi at *
        generalize (st.1 c.nm)⁻¹ = fi at *
        grind
      · rw [Rat.div_def, Rat.div_def, Rat.inv_mul_rev]
        generalize one⁻¹ = oi at *
        generalize (c.begun)⁻¹ = fi at *
        grind
    have SF := scale_fold (kind := kind) (cs := cs) (cs' := cs.map sc) o0 t0 si (fun _ => rfl) hah (fun st s0 f0 => ahead_pos' (fun c hc => ⟨(C.ok c hc).p0, (C.ok c hc).b0⟩) s0 f0) is (begF cs, com) (begF (cs.map sc), com * two) (fun p hp => ⟨(R.I.ok p hp).1, (R.I.ok p hp).2.1⟩) R.c0 (fun c hc => by show 0 < begF cs c.nm; rw [begF_of C.nd hc]; exact (C.ok c hc).b0) rfl st0
    have S1 : (runQ kind (cs.map sc) (com * two) (is.map si)).2 = (runQ kind cs com is).2 * two := SF.1
    have S2 : ∀ c ∈ cs, (runQ kind (cs.map sc) (com * two) (is.map si)).1 c.nm = (runQ kind cs com is).1 c.nm * one := SF.2
    have st := R.st is.length (Nat.le_refl _)
    rw [List.take_length] at st
    walk_at "ss"
    refine i_keysCl ?_
    refine i_kFor (fun i S => ∃ (y11 y12 y13 y14 : Option _root_.S.Arg), S = ⟨[some (clD ((cs.take i).map sc)), some (isD [])], [some (.v (qD com)), some (.v (clD cs)), some (.v (isD is)), some (.v (.str kind)), some (.v (.tup [qD one, qD two])), some (.v (prD ns (runQ kind cs com is).1)), some (.v (qD whole)), some (.v (qD one)), some (.v (qD two)), some (.o 0), some (.o 1), y11, y12, y13, y14]⟩) ⟨none, none, none, none, rfl⟩ ?h1 ?h2
    case h1 =>
      rintro i dd S hdd ⟨y11, y12, y13, y14, rfl⟩
      rw [List.getElem?_map] at hdd
      obtain ⟨c, hci, rfl⟩ := Option.map_eq_some_iff.mp hdd
      have hc := List.mem_of_getElem? hci
      have ok := C.ok c hc
      have hi : i < cs.length := (List.getElem?_eq_some_iff.mp hci).1
      walk_at "ss"
      refine i_dgetCl C.nd hc ?_
      walk_at "ss"
      refine ⟨one, two, 5, 5, rfl, rfl, oB, tB, by decide, ?_⟩
      walk_at "ss"
      refine ⟨c.paid, one * two, n, 10, rfl, rfl, ok.pB, otB, by omega, ?_⟩
      walk_at "ss"
      refine i_dgetCl C.nd hc ?_
      walk_at "ss"
      refine ⟨c.begun, one, n, 5, rfl, rfl, ok.bB, oB, by omega, ?_⟩
      walk_at "ss"
      refine i_kDput2 (k := 0) (e0 := clD ((cs.take i).map sc)) rfl rfl rfl (by rw [List.length_map, List.length_map, List.length_take]; omega) ?_
      have hnew : (sc c).nm ∉ ((cs.take i).map sc).map (·.nm) := by
        rw [List.map_map]
        intro hm
        obtain ⟨d, hd, e⟩ := List.mem_map.mp hm
        obtain ⟨j, hj⟩ := List.mem_iff_getElem?.mp hd
        rw [List.getElem?_take] at hj
        split at hj
        · rename_i hji
          obtain ⟨l1, q1⟩ := List.getElem?_eq_some_iff.mp hj
          obtain ⟨l2, q2⟩ := List.getElem?_eq_some_iff.mp hci
          have := (List.pairwise_iff_getElem.mp C.nd) j i (by rw [List.length_map]; exact l1) (by rw [List.length_map]; exact l2) hji
          rw [List.getElem_map, List.getElem_map, q1, q2] at this
          exact this e
        · cases hj
      have e := clD_snoc ((cs.take i).map sc) (sc c) hnew
      have e2 : (cs.take (i + 1)).map sc = (cs.take i).map sc ++ [sc c] := by rw [List.take_succ, hci, Option.toList_some, List.map_append]; rfl
      rw [e2]
      refine ⟨some (.v (.str c.nm)), y12, y13, y14, ?_⟩
      show (⟨[some (dk (dput (((cs.take i).map sc).map fun c => ((Sum.inr c.nm : Key), D.tup [qD c.paid, qD c.begun])) (Sum.inr (sc c).nm) (.tup [qD (sc c).paid, qD (sc c).begun]))), some (isD [])], _⟩ : Ab) = _
      rw [e]
      rfl
    case h2 =>
      rintro S ⟨y11, y12, y13, y14, rfl⟩
      rw [List.length_map, List.take_length]
      walk_at "ss"
      refine i_kWL (ds := is.map fun p => D.tup [qD p.1, qD p.2]) ?_
      refine i_kFor (fun i S => ∃ (y12 y13 : Option _root_.S.Arg), S = ⟨[some (clD (cs.map sc)), some (isD ((is.take i).map si))], [some (.v (qD com)), some (.v (clD cs)), some (.v (isD is)), some (.v (.str kind)), some (.v (.tup [qD one, qD two])), some (.v (prD ns (runQ kind cs com is).1)), some (.v (qD whole)), some (.v (qD one)), some (.v (qD two)), some (.o 0), some (.o 1), y11, y12, y13, y14]⟩) ⟨y12, y13, rfl⟩ ?g1 ?g2
      case g1 =>
        rintro i dd S hdd ⟨y12, y13, rfl⟩
        rw [List.getElem?_map] at hdd
        obtain ⟨p, hpi, rfl⟩ := Option.map_eq_some_iff.mp hdd
        have ok := R.I.ok p (List.mem_of_getElem? hpi)
        have hi : i < is.length := (List.getElem?_eq_some_iff.mp hpi).1
        have l100 := R.I.le
        walk_at "ss"
        refine i_app rfl ?_
        walk_at "ss"
        refine ⟨one, two, 5, 5, rfl, rfl, oB, tB, by decide, ?_⟩
        walk_at "ss"
        refine ⟨p.1, one * two, n, 10, rfl, rfl, ok.2.2.1, otB, by omega, ?_⟩
        walk_at "ss"
        refine ⟨p.2, one, n, 5, rfl, rfl, ok.2.2.2, oB, by omega, ?_⟩
        walk_at "ss"
        refine i_kApp (ds := ((is.take i).map si).map fun p => D.tup [qD p.1, qD p.2]) rfl (by rw [List.length_map, List.length_map, List.length_take]; omega) ?_
        walk_at "ss"
        have e2 : (is.take (i + 1)).map si = (is.take i).map si ++ [si p] := by rw [List.take_succ, hpi, Option.toList_some, List.map_append]; rfl
        rw [e2]
        refine ⟨some (.v (qD p.1)), some (.v (qD p.2)), ?_⟩
        show (⟨[some (clD (cs.map sc)), some (.lst ((((is.take i).map si).map fun p => D.tup [qD p.1, qD p.2]) ++ [.tup [qD (si p).1, qD (si p).2]]))], _⟩ : Ab) = _
        unfold isD
        rw [List.map_append]
        rfl
      case g2 =>
        rintro S ⟨y12, y13, rfl⟩
        rw [List.length_map, List.take_length]
        walk_at "ss"
        refine ⟨com, two, n, 5, rfl, rfl, R.cB, tB, by omega, ?_⟩
        walk_at "ss"
        refine i_varO rfl rfl ?_
        walk_at "ss"
        refine i_varO rfl rfl ?_
        walk_at "ss"
        refine ⟨com * two, cs.map sc, is.map si, kind, n + 16, M, rfl, rfl, R2, fun ms hq hso => ?_⟩
        have nd3 : ms.Nodup := hq.symm.nodup C2.nd
        have mem3 : ∀ c ∈ cs, c.nm ∈ ms := fun c hc => hq.symm.mem_iff.mp (by rw [List.map_map]; exact List.mem_map_of_mem (f := (fun c : Cl => c.nm) ∘ sc) hc)
        walk_at "ss"
        refine i_keysCl ?_
        refine i_kLcX (fun c => qD ((runQ kind cs com is).1 c.nm * one)) (by omega) ?_ ?_
        · intro i c acc hx hi
          have hc := List.mem_of_getElem? hx
          walk_at "ss"
          refine i_dgetPr nd3 (mem3 c hc) ?_
          exact i_ivx hx hi rfl (by rw [S2 c hc])
        walk_at "ss"
        refine i_keysCl ?_
        refine i_kLcX (fun c => qD ((runQ kind cs com is).1 c.nm * one)) (by omega) ?_ ?_
        · intro i c acc hx hi
          have hc := List.mem_of_getElem? hx
          walk_at "ss"
          refine i_dgetPr nd2 (hp.symm.mem_iff.mp (List.mem_map_of_mem hc)) ?_
          walk_at "ss"
          refine ⟨_, one, N, 5, rfl, rfl, st.fB c hc, oB, by omega, ?_⟩
          walk_at "ss"
          exact i_ivx hx hi rfl rfl
        have eqs : (cs.map fun c => qD ((runQ kind cs com is).1 c.nm * one)) = (cs.map fun c => (runQ kind cs com is).1 c.nm * one).map qD := by rw [List.map_map]; rfl
        rw [eqs]
        refine i_ne (okE_lst _) (okE_lst _) ?_
        rw [decide_eq_true rfl]
        walk_at "ss"
        refine ⟨com, two, n, 5, rfl, rfl, R.cB, tB, by omega, ?_⟩
        walk_at "ss"
        refine ⟨com * two, cs.map sc, is.map si, kind, n + 16, M, rfl, rfl, R2, ?_⟩
        have W2 : (runQ kind (cs.map sc) (com * two) (is.map si)).2 + sumL ((cs.map sc).map fun c => c.paid / (runQ kind (cs.map sc) (com * two) (is.map si)).1 c.nm) = whole * two := by
          rw [hw, Rat.add_mul, S1, ← sumL_mul, List.map_map, List.map_map]
          congr 2
          refine List.map_congr_left fun c hc => ?_
          show (c.paid * (one * two)) / (runQ kind (cs.map sc) (com * two) (is.map si)).1 c.nm = c.paid / (runQ kind cs com is).1 c.nm * two
          rw [S2 c hc, Rat.div_def, Rat.div_def, Rat.inv_mul_rev]
          have inv := Rat.mul_inv_cancel one on
          generalize one⁻¹ = oi at *
          generalize ((runQ kind cs com is).1 c.nm)⁻¹ = fi at *
          grind
        rw [W2]
        walk_at "ss"
        refine ⟨whole, two, 7 * N + 5, 5, rfl, rfl, wB, tB, by omega, ?_⟩
        walk_at "ss"
        rw [decide_eq_true rfl]
        walk_at "ss"
        exact hΦ
end
end K73
set_option Elab.async false
set_option linter.all false
set_option maxRecDepth 100000
set_option autoImplicit false
set_option maxHeartbeats 0
namespace K73
open PySem L2 S PyProof.Rows
local macro_rules | `(tactic| walk_at "s") => `(tactic| first
  | (with_reducible apply i_seq)
  | (with_reducible apply i_asg)
  | (with_reducible apply i_gname)
  | (with_reducible apply i_op)
  | (with_reducible apply i_c)
  | ((with_reducible apply i_var); focus (rfl))
  | (with_reducible apply i_cons)
  | (with_reducible apply i_nil)
  | (with_reducible apply i_next)
  | (with_reducible apply i_ret)
  | (with_reducible apply i_drop)
  | (with_reducible apply i_ifS)
  | (with_reducible apply i_test)
  | (with_reducible apply i_kTest)
  | (with_reducible apply i_and)
  | (with_reducible apply i_or)
  | (with_reducible apply i_not)
  | (with_reducible apply i_andV)
  | (with_reducible apply i_orV)
  | (with_reducible apply i_notV)
  | (with_reducible apply i_kNotV)
  | (with_reducible apply i_ifE)
  | (with_reducible apply i_tup)
  | (with_reducible apply i_lst)
  | (with_reducible apply i_call)
  | (with_reducible apply i_cb)
  | (with_reducible apply i_isi)
  | (with_reducible apply i_isN)
  | (with_reducible apply i_notN)
  | ((with_reducible apply i_bt); focus (rfl))
  | ((with_reducible apply i_bf); focus (rfl))
  | ((with_reducible apply i_kIfT); focus (rfl))
  | ((with_reducible apply i_kIfF); focus (rfl))
  | ((with_reducible apply i_kAndT); focus (rfl))
  | ((with_reducible apply i_kAndF); focus (rfl))
  | ((with_reducible apply i_kOrT); focus (rfl))
  | ((with_reducible apply i_kOrF); focus (rfl))
  | ((with_reducible apply i_kAndVT); focus (rfl))
  | ((with_reducible apply i_kAndVF); focus (rfl))
  | ((with_reducible apply i_kOrVT); focus (rfl))
  | ((with_reducible apply i_kOrVF); focus (rfl))
  | ((with_reducible apply i_kIfET); focus (rfl))
  | ((with_reducible apply i_kIfEF); focus (rfl))
  | ((with_reducible apply i_kIsi); focus (rfl))
  | ((with_reducible apply i_kTup); (focus rfl); (focus (exact Nat.le_of_ble_eq_true rfl)))
  | ((with_reducible apply i_kLst); (focus rfl); (focus (exact Nat.le_of_ble_eq_true rfl)))
  | ((with_reducible apply i_kCall); focus (rfl))
  | ((with_reducible apply i_kCallD); focus (rfl))
  | ((with_reducible apply i_kCallO); (focus rfl); (focus rfl))
  | ((with_reducible apply i_kCB); focus (rfl))
  | ((with_reducible apply i_gtup); focus (rfl))
  | ((with_reducible apply i_glst); focus (rfl))
  | (with_reducible apply i_fI0)
  | (with_reducible apply i_absN)
  | (with_reducible apply i_int)
  | (with_reducible apply i_intB)
  | (with_reducible apply i_eqI)
  | (with_reducible apply i_neI)
  | (with_reducible apply i_eqQ)
  | (with_reducible apply i_neQ)
  | (with_reducible apply i_eqQi)
  | (with_reducible apply i_neQi)
  | (with_reducible apply i_gcons)
  | (with_reducible apply i_gnil)
  | (with_reducible apply i_own)
  | (with_reducible apply i_par)
  | (with_reducible apply i_parN)
  | (with_reducible apply i_parNN)
  | (with_reducible apply i_setC)
  | (with_reducible apply i_lenL)
  | (with_reducible apply i_lenT)
  | (with_reducible apply i_lenD)
  | (with_reducible apply i_for)
  | (with_reducible apply i_forC)
  | (with_reducible apply i_wiL)
  | (with_reducible apply i_kWL)
  | (with_reducible apply i_wiDic)
  | (with_reducible apply i_mDic)
  | (with_reducible apply i_wiS)
  | (with_reducible apply i_kWS)
  | (with_reducible apply i_lc)
  | (with_reducible apply i_dc)
  | (with_reducible apply i_yes)
  | (with_reducible apply i_sl)
  | (with_reducible apply i_kSl)
  | (with_reducible apply i_oN)
  | (with_reducible apply i_oS)
  | (with_reducible apply i_kO)
  | (with_reducible apply i_rep)
  | (with_reducible apply i_chain)
  | (with_reducible apply i_sign)
  | (with_reducible apply i_wmSeq)
  | (with_reducible apply i_wmRet)
  | (with_reducible apply i_wiR1)
  | (with_reducible apply i_wiEnum)
  | (with_reducible apply i_kEn)
  | (with_reducible apply i_wiEnumK)
  | (with_reducible apply i_kEnK)
  | (with_reducible apply i_retN)
  | ((with_reducible apply i_ixT); focus (rfl))
  | ((with_reducible apply i_ixL); focus (rfl))
  | ((with_reducible apply i_kChT); focus (rfl))
  | ((with_reducible apply i_consO); focus (rfl))
  | (with_reducible apply i_dic0)
  | (with_reducible apply i_dputO)
  | ((with_reducible apply i_kDput1); focus (rfl))
  | ((with_reducible apply i_ixV); focus (rfl))
  | ((with_reducible apply i_pop); focus (rfl))
  | ((with_reducible apply i_neO); focus (rfl))
  | ((with_reducible apply i_ext); focus (rfl))
  | (with_reducible apply i_lv)
  | (with_reducible apply i_kLV)
  | (with_reducible apply i_listL)
  | ((with_reducible apply i_lenO); focus (rfl))
  | ((with_reducible apply i_ixC); (focus rfl); (focus rfl))
  | ((with_reducible apply i_end1); focus (rfl))
  | (with_reducible apply i_max2)
  | (with_reducible apply i_min2)
  | (with_reducible apply i_end0')
  | (with_reducible apply i_end0n)
  | (with_reducible apply i_endM))
local macro_rules | `(tactic| walk_at "ss") => `(tactic| repeat walk_at "s")

section
variable {P : Program} {w : World} {K : PySem.W.Frag} {mg : Str → Option Value} {base : Heap}
abbrev ct__law_passed_on_right : Ct := fun os args Φ => ∃ (com : Rat) (cs : List Cl) (is : List (Rat × Rat)) (kind : Str) (at_ n N M : Nat), os = [] ∧ args = [.v (qD com), .v (clD cs), .v (isD is), .v (.str kind), .v (.int (at_ : Nat))] ∧ RunOk kind cs com is n N ∧ at_ ≤ is.length ∧ n ≤ 300 ∧ szS (szF (convB kind) n at_ + 133) (is.length - at_) ≤ M ∧ szF (convB kind) (szF (convB kind) n at_ + 133) (is.length - at_) ≤ M ∧ M < 1140000 ∧ Φ (.bl true) []
theorem ok__law_passed_on_right (T : Txt P K mg base) (F_adjusted_prices : DefOk P w K mg base 43 "adjusted_prices" ["common", "classes", "issues", "kind"] [] ct_adjusted_prices) (F__law_sum : DefOk P w K mg base 38 "_law_sum" ["numbers"] [] ct__law_sum) (F__law_over : DefOk P w K mg base 38 "_law_over" ["one", "two"] [] ct__law_over) (F__law_times : DefOk P w K mg base 38 "_law_times" ["one", "two"] [] ct__law_times) (F__law_pair : DefOk P w K mg base 37 "_law_pair" ["one"] [] ct__law_pair) (F_converted_shares : DefOk P w K mg base 43 "converted_shares" ["common", "classes", "issues", "kind"] [] ct_converted_shares) : DefOk P w K mg base 44 "_law_passed_on_right" ["common", "classes", "issues", "kind", "at"] [] ct__law_passed_on_right := by
  refine mk_def T.g__law_passed_on_right sc__law_passed_on_right (by rintro os args Φ ⟨com, cs, is, kind, at_, n, N, M, rfl, rfl, _⟩; rfl) (fun _ _ _ _ _ _ us hl => match us, hl with | [_, _, _, _, _], _ => rfl) (fun f cdv A outer s H E hr => ?b)
  case b =>
    have nd := (sc__law_passed_on_right).nd
    have hu1 : (A.deeper (envOfC "_law_passed_on_right" (defScope s__law_passed_on_right) s.heap.objs.size f cdv)).units + 1 < cLine := by have := hr.un; omega
    have hu64 : (A.deeper (envOfC "_law_passed_on_right" (defScope s__law_passed_on_right) s.heap.objs.size f cdv)).units + 64 < cLine := by have := hr.un; omega
    have hu65 : (A.deeper (envOfC "_law_passed_on_right" (defScope s__law_passed_on_right) s.heap.objs.size f cdv)).units + 65 < cLine := by have := hr.un; omega
    refine ⟨_, _,
      (jss_cons (js_set 5 nd rfl (by first | exact Or.inl rfl | exact Or.inr rfl) (jc F_adjusted_prices (hr.mono (by decide)) rfl (ja_cons (je_var 0) (ja_cons (je_var 1) (ja_cons (je_new (jyn_slice (K := K) rfl (je_var 2) jo_none (jo_some (je_var 4)))) (ja_cons (je_var 3) ja_nil))))))
      (jss_cons (js_set 6 nd rfl (by first | exact Or.inl rfl | exact Or.inr rfl) (jc F__law_sum (hr.mono (by decide)) rfl (ja_cons (je_new (jn_cat (je_new (jn_lst (ja_cons (je_var 0) ja_nil))) (je_new (jn_lc rfl nd (ji_list (je_new (jyn_slice (K := K) rfl (je_var 2) jo_none (jo_some (je_var 4))))) (blkOk_by (own := [("money", 12), ("price", 13)]) (N := N__law_passed_on_right) (sc := defScope s__law_passed_on_right) (by decide +kernel)) (fun _ _ _ _ _ => (jx_tup (n := 2) rfl (jgs_cons (jg_name 12 nd rfl (by first | exact Or.inl rfl | exact Or.inr rfl)) (jgs_cons (jg_name 13 nd rfl (by first | exact Or.inl rfl | exact Or.inr rfl)) jgs_nil)))) (gw_tup (gw_cons mg_name (gw_name (by decide)) (gw_cons mg_name (gw_name (by decide)) gw_nil))) (mg_tup (mg_cons mg_name (mg_cons mg_name mg_nil))) (fun _ _ _ _ _ => jts_nil) (fun _ _ _ _ _ => (jc F__law_over (hr.mono (by decide)) rfl (ja_cons (je_var 12) (ja_cons (je_var 13) ja_nil)))))))) ja_nil)))
      (jss_cons (js_own 7 nd rfl (by first | exact Or.inl rfl | exact Or.inr rfl) jn_dic0)
      (jss_cons (js_for PassesOwn.never rfl (ji_keys (je_var 1)) (jg_name 8 nd rfl (by first | exact Or.inl rfl | exact Or.inr rfl)) (jss_cons (js_asg (je_dget hu1 (je_var 1) (je_var 8)) (jx_tup (n := 2) rfl (jgs_cons (jg_name 10 nd rfl (by first | exact Or.inl rfl | exact Or.inr rfl)) (jgs_cons (jg_name 11 nd rfl (by first | exact Or.inl rfl | exact Or.inr rfl)) jgs_nil))))
      (jss_cons (js_if (jyt_eq (K := K) rfl hu64 (je_var 3) je_str) (jss_one (js_set 10 nd rfl (by first | exact Or.inl rfl | exact Or.inr rfl) (jc F__law_over (hr.mono (by decide)) rfl (ja_cons (jc F__law_times (hr.mono (by decide)) rfl (ja_cons (je_var 10) (ja_cons (je_dget hu1 (je_var 5) (je_var 8)) ja_nil))) (ja_cons (je_var 11) ja_nil))))) jss_nil)
      (jss_one (js_dputO 7 hu1 (je_new (jn_tup (ja_cons (je_var 10) (ja_cons (je_dget hu1 (je_var 5) (je_var 8)) ja_nil)))) (je_var 8) (pv' 7))))))
      (jss_cons (js_if (jt_ge (jy_maxL (K := K) rfl rfl rfl T.b_max (ja_cons (je_new (jn_lc rfl nd (ji_list (je_new (jn_cat (je_new (jn_lst (ja_cons (je_var 6) ja_nil))) (je_new (jn_lc rfl nd (ji_values (je_var 7)) (blkOk_by (own := [("paid", 10), ("price", 13)]) (N := N__law_passed_on_right) (sc := defScope s__law_passed_on_right) (by decide +kernel)) (fun _ _ _ _ _ => (jx_tup (n := 2) rfl (jgs_cons (jg_name 10 nd rfl (by first | exact Or.inl rfl | exact Or.inr rfl)) (jgs_cons (jg_name 13 nd rfl (by first | exact Or.inl rfl | exact Or.inr rfl)) jgs_nil)))) (gw_tup (gw_cons mg_name (gw_name (by decide)) (gw_cons mg_name (gw_name (by decide)) gw_nil))) (mg_tup (mg_cons mg_name (mg_cons mg_name mg_nil))) (fun _ _ _ _ _ => jts_nil) (fun _ _ _ _ _ => (je_var 10))))))) (blkOk_by (own := [("one", 14)]) (N := N__law_passed_on_right) (sc := defScope s__law_passed_on_right) (by decide +kernel)) (fun _ _ _ _ _ => (jg_name 14 nd rfl (by first | exact Or.inl rfl | exact Or.inr rfl))) (gw_name (by decide)) mg_name (fun _ _ _ _ _ => jts_nil) (fun _ _ _ _ _ => (jy_maxT (K := K) rfl rfl rfl T.b_max (ja_cons (jc F__law_pair (hr.mono (by decide)) rfl (ja_cons (je_var 14) ja_nil)) ja_nil))))) ja_nil)) (je_pow je_int je_int)) (jss_one (js_ret je_bl)) jss_nil)
      (jss_cons (js_if (jyt_dne (K := K) rfl hu65 (jc F_adjusted_prices (hr.mono (by decide)) rfl (ja_cons (je_var 6) (ja_cons (je_var 7) (ja_cons (je_new (jyn_slice (K := K) rfl (je_var 2) (jo_some (je_var 4)) jo_none)) (ja_cons (je_var 3) ja_nil))))) (jc F_adjusted_prices (hr.mono (by decide)) rfl (ja_cons (je_var 0) (ja_cons (je_var 1) (ja_cons (je_var 2) (ja_cons (je_var 3) ja_nil)))))) (jss_one (js_ret je_bl)) jss_nil)
      (jss_cons (js_set 9 nd rfl (by first | exact Or.inl rfl | exact Or.inr rfl) (jc F_converted_shares (hr.mono (by decide)) rfl (ja_cons (je_var 0) (ja_cons (je_var 1) (ja_cons (je_var 2) (ja_cons (je_var 3) ja_nil))))))
      (jss_one (js_ret (je_or (jy_eq (K := K) rfl hu64 (je_var 3) je_str) (je_one (jy_eq (K := K) rfl hu64 (jc F_converted_shares (hr.mono (by decide)) rfl (ja_cons (je_var 6) (ja_cons (je_var 7) (ja_cons (je_new (jyn_slice (K := K) rfl (je_var 2) (jo_some (je_var 4)) jo_none)) (ja_cons (je_var 3) ja_nil))))) (je_var 9))))))))))))), ?_⟩
    rintro os args Φ ⟨com, cs, is, kind, j, n, N, M, rfl, rfl, R, hj, hn, hS, hF, hM, hΦ⟩
    have C := R.C
    have k1 := C.ne
    have k3 := C.le
    have hN := R.hN
    have hnN := R.le
    have l100 := R.I.le
    have hkl : PyData.canLay0 (.str kind) = true := by rcases R.hk with rfl | rfl | rfl <;> exact lay_s (by decide +kernel)
    have RT := R.take j
    have SB := run_B (kind := kind) C R.I R.c0 R.cB j hj
    have hnM : szF (convB kind) n j + 133 ≤ M := Nat.le_trans (szF_n (conv := convB kind) (k := is.length - j)) hF
    have hnf : n ≤ szF (convB kind) n j := szF_n
    generalize hf : szF (convB kind) n j = z at SB hS hF hnM hnf
    have SBf : ∀ c ∈ cs, B z ((runQ kind cs com (is.take j)).1 c.nm) := fun c hc => by rw [← hf]; exact SB.fB c hc
    have SBs := SB.sB
    have F0 := SB.f0
    have s0 := SB.s0
    have ltk : (is.take j).length ≤ j := by rw [List.length_take]; omega
    have eF : ∀ is', runQ kind cs com (is.take j ++ is') = is'.foldl (stepQ kind cs) (runQ kind cs com (is.take j)) := fun is' => by unfold runQ; rw [List.foldl_append]
    generalize hG : runQ kind cs com (is.take j) = F at SBf F0 s0 eF
    have hFs : F.2 = com + shQ (is.take j) := by rw [← hG]; exact run_s
    have hsb : szS n j ≤ 100000 := by unfold szS; have : j * (2 * n + 1) ≤ 100 * 601 := Nat.mul_le_mul (by omega) (by omega); omega
    rw [hG] at SBs
    let lc : Cl → Cl := fun c => ⟨c.nm, if decide (kind = "issued") = true then c.paid * F.1 c.nm / c.begun else c.paid, F.1 c.nm⟩
    walk_at "ss"
    refine i_kSl (ds := is.map fun p => D.tup [qD p.1, qD p.2]) ?_
    walk_at "ss"
    rw [cut_take (by rw [List.length_map]; exact hj), ← List.map_take]
    walk_at "ss"
    refine ⟨com, cs, is.take j, kind, n, N, rfl, rfl, RT, fun ns hp hso => ?_⟩
    rw [hG]
    have nd2 : ns.Nodup := hp.symm.nodup C.nd
    have mem2 : ∀ c ∈ cs, c.nm ∈ ns := fun c hc => hp.symm.mem_iff.mp (List.mem_map_of_mem hc)
    walk_at "ss"
    refine i_kSl (ds := is.map fun p => D.tup [qD p.1, qD p.2]) ?_
    walk_at "ss"
    rw [cut_take (by rw [List.length_map]; exact hj), ← List.map_take]
    walk_at "ss"
    refine i_kLcX (fun p => qD (p.1 / p.2)) (by omega) ?_ ?_
    · intro i p acc hx hi
      have ok := R.I.ok p (List.mem_of_mem_take (List.mem_of_getElem? hx))
      walk_at "ss"
      refine ⟨p.1, p.2, n, n, rfl, rfl, ok.2.2.1, ok.2.2.2, by omega, ok.2.1, ?_⟩
      walk_at "ss"
      exact i_ivx hx hi rfl rfl
    refine i_cat (by rw [List.length_map]; show 1 + (is.take j).length ≤ _; omega) ?_
    walk_at "ss"
    refine ⟨com :: (is.take j).map (fun p => p.1 / p.2), n + n, rfl, by rw [List.map_cons, List.map_map]; rfl, ?_, ?_, ?_⟩
    · intro q hq
      rcases List.mem_cons.mp hq with rfl | hq
      · exact R.cB.mono (by omega)
      · obtain ⟨p, hp, rfl⟩ := List.mem_map.mp hq
        have ok := R.I.ok p (List.mem_of_mem_take hp)
        exact B_div ok.2.2.1 ok.2.2.2
    · rw [List.length_cons, List.length_map]
      have : ((is.take j).length + 1 + 1) * (n + n + 1) ≤ 102 * 601 := Nat.mul_le_mul (by omega) (by omega)
      omega
    rw [sumL_cons]
    show wgName 6 (qD (com + shQ (is.take j))) _ _
    rw [← hFs]
    walk_at "ss"
    refine i_keysCl ?_
    refine i_kFor (fun i S => ∃ (y8 y9 y10 y11 y12 y13 y14 : Option _root_.S.Arg), S = ⟨[some (clD ((cs.take i).map lc))], [some (.v (qD com)), some (.v (clD cs)), some (.v (isD is)), some (.v (.str kind)), some (.v (.int (j : Nat))), some (.v (prD ns F.1)), some (.v (qD F.2)), some (.o 0), y8, y9, y10, y11, y12, y13, y14]⟩) ⟨none, none, none, none, none, none, none, rfl⟩ ?h1 ?h2
    case h1 =>
      rintro i dd S hdd ⟨y8, y9, y10, y11, y12, y13, y14, rfl⟩
      rw [List.getElem?_map] at hdd
      obtain ⟨c, hci, rfl⟩ := Option.map_eq_some_iff.mp hdd
      have hc := List.mem_of_getElem? hci
      have ok := C.ok c hc
      have hi : i < cs.length := (List.getElem?_eq_some_iff.mp hci).1
      have hnew : (lc c).nm ∉ ((cs.take i).map lc).map (·.nm) := by
        rw [List.map_map]
        intro hm
        obtain ⟨d, hd, e⟩ := List.mem_map.mp hm
        obtain ⟨j, hj⟩ := List.mem_iff_getElem?.mp hd
        rw [List.getElem?_take] at hj
        split at hj
        · rename_i hji
          obtain ⟨l1, q1⟩ := List.getElem?_eq_some_iff.mp hj
          obtain ⟨l2, q2⟩ := List.getElem?_eq_some_iff.mp hci
          have := (List.pairwise_iff_getElem.mp C.nd) j i (by rw [List.length_map]; exact l1) (by rw [List.length_map]; exact l2) hji
          rw [List.getElem_map, List.getElem_map, q1, q2] at this
          exact this e
        · cases hj
      have e := clD_snoc ((cs.take i).map lc) (lc c) hnew
      have e2 : (cs.take (i + 1)).map lc = (cs.take i).map lc ++ [lc c] := by rw [List.take_succ, hci, Option.toList_some, List.map_append]; rfl
      walk_at "ss"
      refine i_dgetCl C.nd hc ?_
      walk_at "ss"
      refine i_eqS hkl (lay_s (by decide +kernel)) ?_
      walk_at "ss"
      refine i_kIf (fun hk => ?_) (fun hk => ?_)
      · walk_at "ss"
        refine i_dgetPr nd2 (mem2 c hc) ?_
        walk_at "ss"
        refine ⟨c.paid, F.1 c.nm, n, z, rfl, rfl, ok.pB, SBf c hc, by omega, ?_⟩
        walk_at "ss"
        refine ⟨c.paid * F.1 c.nm, c.begun, n + z, n, rfl, rfl, B_mul ok.pB (SBf c hc), ok.bB, by omega, ok.b0, ?_⟩
        walk_at "ss"
        refine i_dgetPr nd2 (mem2 c hc) ?_
        walk_at "ss"
        refine i_kDput2 (k := 0) (e0 := clD ((cs.take i).map lc)) rfl rfl rfl (by rw [List.length_map, List.length_map, List.length_take]; omega) ?_
        have lp : (lc c).paid = c.paid * F.1 c.nm / c.begun := if_pos hk
        rw [e2]
        refine ⟨some (.v (.str c.nm)), y9, some (.v (qD (c.paid * F.1 c.nm / c.begun))), some (.v (qD c.begun)), y12, y13, y14, ?_⟩
        rw [lp] at e
        show (⟨[some (dk (dput (((cs.take i).map lc).map fun c => ((Sum.inr c.nm : Key), D.tup [qD c.paid, qD c.begun])) (Sum.inr (lc c).nm) (.tup [qD (c.paid * F.1 c.nm / c.begun), qD (lc c).begun])))], _⟩ : Ab) = _
        rw [e]
        rfl
      · walk_at "ss"
        refine i_dgetPr nd2 (mem2 c hc) ?_
        walk_at "ss"
        refine i_kDput2 (k := 0) (e0 := clD ((cs.take i).map lc)) rfl rfl rfl (by rw [List.length_map, List.length_map, List.length_take]; omega) ?_
        have lp : (lc c).paid = c.paid := if_neg (by rw [hk]; decide)
        rw [e2]
        refine ⟨some (.v (.str c.nm)), y9, some (.v (qD c.paid)), some (.v (qD c.begun)), y12, y13, y14, ?_⟩
        rw [lp] at e
        show (⟨[some (dk (dput (((cs.take i).map lc).map fun c => ((Sum.inr c.nm : Key), D.tup [qD c.paid, qD c.begun])) (Sum.inr (lc c).nm) (.tup [qD c.paid, qD (lc c).begun])))], _⟩ : Ab) = _
        rw [e]
        rfl
    case h2 =>
      rintro S ⟨y8, y9, y10, y11, y12, y13, y14, rfl⟩
      rw [List.length_map, List.take_length]
      walk_at "ss"
      refine i_varO rfl rfl ?_
      walk_at "ss"
      refine i_valsCl ?_
      refine i_kLcX (xs := cs.map lc) (fun c => qD c.paid) (by rw [List.length_map]; omega) ?_ ?_
      · intro i c acc hx hi
        walk_at "ss"
        exact i_ivx hx hi rfl rfl
      refine i_cat (by rw [List.length_map, List.length_map]; show 1 + cs.length ≤ _; omega) ?_
      have el : [qD F.2] ++ (cs.map lc).map (fun c => qD c.paid) = (F.2 :: (cs.map lc).map (·.paid)).map qD := by
        have e1 : (cs.map lc).map (fun c => qD c.paid) = ((cs.map lc).map (·.paid)).map qD := (List.map_map (g := qD) (f := fun c : Cl => c.paid) (l := cs.map lc)).symm
        rw [e1]
        rfl
      show kWL _ (.lst ([qD F.2] ++ (cs.map lc).map (fun c => qD c.paid))) _
      rw [el]
      walk_at "ss"
      refine i_kLcX (fun q => .int (mxQ q)) (by rw [List.length_cons, List.length_map, List.length_map]; omega) ?_ ?_
      · intro i q acc hx hi
        walk_at "ss"
        refine ⟨q, rfl, rfl, ?_⟩
        walk_at "ss"
        refine i_maxT (is := [q.num, (q.den : Int)]) rfl (Nat.zero_lt_succ _) (fun m h1 h2 => ?_)
        exact i_ivx hx hi rfl (by rw [mx_eq h1 h2])
      walk_at "ss"
      refine i_maxL (is := (F.2 :: (cs.map lc).map (·.paid)).map mxQ) (intsD_map _ _) (by rw [List.length_map]; exact Nat.zero_lt_succ _) (fun m h1 h2 => ?_)
      walk_at "ss"
      refine i_fI ⟨by decide, by decide, by decide⟩ ?_
      walk_at "ss"
      refine i_kIf (fun hc => ?_) (fun hc => ?_)
      · walk_at "ss"
        exact hΦ
      have e40 : (10 : Int) ^ (40 : Int).toNat < 2 ^ 133 := by decide
      have hm : m < 2 ^ 133 := by have := of_decide_eq_false hc; omega
      have all : ∀ q ∈ F.2 :: (cs.map lc).map (·.paid), 0 < q → B 133 q := fun q hq q0 => mx_B q0 (h2 _ (List.mem_map_of_mem hq)) hm
      have p0 : ∀ c ∈ cs, 0 < (lc c).paid := fun c hc => by
        show (0 : Rat) < (if decide (kind = "issued") = true then c.paid * F.1 c.nm / c.begun else c.paid)
        split
        · exact div_pos (Rat.mul_pos (C.ok c hc).p0 (F0 c hc)) (C.ok c hc).b0
        · exact (C.ok c hc).p0
      have C2 : CsOk (z + 133) (cs.map lc) := by
        refine ⟨by rw [List.length_map]; exact k1, by rw [List.length_map]; exact k3, by rw [List.map_map]; exact C.nd, fun d hd => ?_⟩
        obtain ⟨c, hc, rfl⟩ := List.mem_map.mp hd
        exact ⟨(C.ok c hc).nm, p0 c hc, F0 c hc, (all _ (List.mem_cons_of_mem _ (List.mem_map_of_mem (List.mem_map_of_mem hc))) (p0 c hc)).mono (by omega), (SBf c hc).mono (by omega)⟩
      have I2 : IsOk (z + 133) (is.drop j) := ⟨by rw [List.length_drop]; omega, fun p hp => by
        have ok := R.I.ok p (List.mem_of_mem_drop hp)
        exact ⟨ok.1, ok.2.1, ok.2.2.1.mono (by omega), ok.2.2.2.mono (by omega)⟩⟩
      have R2 : RunOk kind (cs.map lc) F.2 (is.drop j) (z + 133) M := run_ok R.hk C2 I2 s0 ((all _ List.mem_cons_self s0).mono (by omega)) (by rw [List.length_drop]; exact hS) (by rw [List.length_drop]; exact hF) hM
      have fn : ∀ c ∈ cs, F.1 c.nm ≠ 0 := fun c hc w => by have := F0 c hc; rw [w] at this; exact Rat.lt_irrefl this
      have hah : ∀ st st' : (Str → Rat) × Rat, st.2 = st'.2 → (∀ c ∈ cs, st.1 c.nm = st'.1 c.nm) → fullB kind = true ∨ aheadQ kind cs st.1 st.2 = aheadQ kind (cs.map lc) st'.1 st'.2 := by
        intro st st' g1 g2
        rcases R.hk with rfl | rfl | rfl
        · exact .inl rfl
        · refine .inr ?_
          unfold aheadQ
          rw [g1, List.map_map]
          congr 2
          refine List.map_congr_left fun c hc => ?_
          show c.paid / c.begun = (c.paid * F.1 c.nm / c.begun) / F.1 c.nm
          have inv := Rat.mul_inv_cancel _ (fn c hc)
          rw [Rat.div_def, Rat.div_def, Rat.div_def]
          generalize (F.1 c.nm)⁻¹ = fi at *
          generalize (c.begun)⁻¹ = bi at *
          grind
        · refine .inr ?_
          unfold aheadQ
          rw [g1, List.map_map]
          congr 2
          refine List.map_congr_left fun c hc => ?_
          show c.paid / st.1 c.nm = c.paid / st'.1 c.nm
          rw [g2 c hc]
      have bg : ∀ c ∈ cs, F.1 c.nm = begF (cs.map lc) c.nm := fun c hc => by
        rw [show c.nm = (lc c).nm from rfl, begF_of C2.nd (List.mem_map_of_mem hc)]
      have AG := agree_fold (kind := kind) (cs := cs) (cs' := cs.map lc) (by rw [List.map_map]; rfl) hah (is.drop j) F (begF (cs.map lc), F.2) rfl bg
      have eR : runQ kind cs com is = (is.drop j).foldl (stepQ kind cs) F := by rw [← eF, List.take_append_drop]
      rw [← eR] at AG
      have AG1 : (runQ kind cs com is).2 = (runQ kind (cs.map lc) F.2 (is.drop j)).2 := AG.1
      have AG2 : ∀ c ∈ cs, (runQ kind cs com is).1 c.nm = (runQ kind (cs.map lc) F.2 (is.drop j)).1 c.nm := AG.2
      walk_at "ss"
      refine i_kSl (ds := is.map fun p => D.tup [qD p.1, qD p.2]) ?_
      walk_at "ss"
      rw [cut_drop (by rw [List.length_map]; exact hj), ← List.map_drop]
      walk_at "ss"
      refine ⟨F.2, cs.map lc, is.drop j, kind, z + 133, M, rfl, rfl, R2, fun ms hq hso2 => ?_⟩
      walk_at "ss"
      refine ⟨com, cs, is, kind, n, N, rfl, rfl, R, fun ns2 hp2 hso3 => ?_⟩
      walk_at "ss"
      refine i_deq (okD_pr _ _) (okD_pr _ _) ?_
      rw [dEq_pr (hq.trans (by rw [List.map_map]; exact hp2.symm)) (hp2.symm.nodup C.nd) (fun x hx => by
        obtain ⟨c, hc, rfl⟩ := List.mem_map.mp (hp2.mem_iff.mp hx)
        exact (AG2 c hc).symm)]
      walk_at "ss"
      refine ⟨com, cs, is, kind, n, N, rfl, rfl, R, ?_⟩
      walk_at "ss"
      refine i_eqS hkl (lay_s (by decide +kernel)) ?_
      by_cases hk : decide (kind = "issued") = true
      · refine i_kOrVT hk ?_
        walk_at "ss"
        exact hΦ
      · refine i_kOrVF (by simpa using hk) ?_
        walk_at "ss"
        refine i_kSl (ds := is.map fun p => D.tup [qD p.1, qD p.2]) ?_
        walk_at "ss"
        rw [cut_drop (by rw [List.length_map]; exact hj), ← List.map_drop]
        walk_at "ss"
        refine ⟨F.2, cs.map lc, is.drop j, kind, z + 133, M, rfl, rfl, R2, ?_⟩
        have W : (runQ kind (cs.map lc) F.2 (is.drop j)).2 + sumL ((cs.map lc).map fun c => c.paid / (runQ kind (cs.map lc) F.2 (is.drop j)).1 c.nm) = (runQ kind cs com is).2 + sumL (cs.map fun c => c.paid / (runQ kind cs com is).1 c.nm) := by
          rw [← AG1, List.map_map]
          congr 2
          refine List.map_congr_left fun c hc => ?_
          show (lc c).paid / (runQ kind (cs.map lc) F.2 (is.drop j)).1 c.nm = _
          rw [← AG2 c hc, show (lc c).paid = c.paid from if_neg hk]
        rw [W]
        walk_at "ss"
        rw [decide_eq_true rfl]
        exact hΦ
end
end K73
set_option Elab.async false
set_option linter.all false
set_option maxRecDepth 100000
set_option autoImplicit false
set_option maxHeartbeats 0
namespace K73
open PySem L2 S PyProof.Rows
local macro_rules | `(tactic| walk_at "s") => `(tactic| first
  | (with_reducible apply i_seq)
  | (with_reducible apply i_asg)
  | (with_reducible apply i_gname)
  | (with_reducible apply i_op)
  | (with_reducible apply i_c)
  | ((with_reducible apply i_var); focus (rfl))
  | (with_reducible apply i_cons)
  | (with_reducible apply i_nil)
  | (with_reducible apply i_next)
  | (with_reducible apply i_ret)
  | (with_reducible apply i_drop)
  | (with_reducible apply i_ifS)
  | (with_reducible apply i_test)
  | (with_reducible apply i_kTest)
  | (with_reducible apply i_and)
  | (with_reducible apply i_or)
  | (with_reducible apply i_not)
  | (with_reducible apply i_andV)
  | (with_reducible apply i_orV)
  | (with_reducible apply i_notV)
  | (with_reducible apply i_kNotV)
  | (with_reducible apply i_ifE)
  | (with_reducible apply i_tup)
  | (with_reducible apply i_lst)
  | (with_reducible apply i_call)
  | (with_reducible apply i_cb)
  | (with_reducible apply i_isi)
  | (with_reducible apply i_isN)
  | (with_reducible apply i_notN)
  | ((with_reducible apply i_bt); focus (rfl))
  | ((with_reducible apply i_bf); focus (rfl))
  | ((with_reducible apply i_kIfT); focus (rfl))
  | ((with_reducible apply i_kIfF); focus (rfl))
  | ((with_reducible apply i_kAndT); focus (rfl))
  | ((with_reducible apply i_kAndF); focus (rfl))
  | ((with_reducible apply i_kOrT); focus (rfl))
  | ((with_reducible apply i_kOrF); focus (rfl))
  | ((with_reducible apply i_kAndVT); focus (rfl))
  | ((with_reducible apply i_kAndVF); focus (rfl))
  | ((with_reducible apply i_kOrVT); focus (rfl))
  | ((with_reducible apply i_kOrVF); focus (rfl))
  | ((with_reducible apply i_kIfET); focus (rfl))
  | ((with_reducible apply i_kIfEF); focus (rfl))
  | ((with_reducible apply i_kIsi); focus (rfl))
  | ((with_reducible apply i_kTup); (focus rfl); (focus (exact Nat.le_of_ble_eq_true rfl)))
  | ((with_reducible apply i_kLst); (focus rfl); (focus (exact Nat.le_of_ble_eq_true rfl)))
  | ((with_reducible apply i_kCall); focus (rfl))
  | ((with_reducible apply i_kCallD); focus (rfl))
  | ((with_reducible apply i_kCallO); (focus rfl); (focus rfl))
  | ((with_reducible apply i_kCB); focus (rfl))
  | ((with_reducible apply i_gtup); focus (rfl))
  | ((with_reducible apply i_glst); focus (rfl))
  | (with_reducible apply i_fI0)
  | (with_reducible apply i_absN)
  | (with_reducible apply i_int)
  | (with_reducible apply i_intB)
  | (with_reducible apply i_eqI)
  | (with_reducible apply i_neI)
  | (with_reducible apply i_eqQ)
  | (with_reducible apply i_neQ)
  | (with_reducible apply i_eqQi)
  | (with_reducible apply i_neQi)
  | (with_reducible apply i_gcons)
  | (with_reducible apply i_gnil)
  | (with_reducible apply i_own)
  | (with_reducible apply i_par)
  | (with_reducible apply i_parN)
  | (with_reducible apply i_parNN)
  | (with_reducible apply i_setC)
  | (with_reducible apply i_lenL)
  | (with_reducible apply i_lenT)
  | (with_reducible apply i_lenD)
  | (with_reducible apply i_for)
  | (with_reducible apply i_forC)
  | (with_reducible apply i_wiL)
  | (with_reducible apply i_kWL)
  | (with_reducible apply i_wiDic)
  | (with_reducible apply i_mDic)
  | (with_reducible apply i_wiS)
  | (with_reducible apply i_kWS)
  | (with_reducible apply i_lc)
  | (with_reducible apply i_dc)
  | (with_reducible apply i_yes)
  | (with_reducible apply i_sl)
  | (with_reducible apply i_kSl)
  | (with_reducible apply i_oN)
  | (with_reducible apply i_oS)
  | (with_reducible apply i_kO)
  | (with_reducible apply i_rep)
  | (with_reducible apply i_chain)
  | (with_reducible apply i_sign)
  | (with_reducible apply i_wmSeq)
  | (with_reducible apply i_wmRet)
  | (with_reducible apply i_wiR1)
  | (with_reducible apply i_wiEnum)
  | (with_reducible apply i_kEn)
  | (with_reducible apply i_wiEnumK)
  | (with_reducible apply i_kEnK)
  | (with_reducible apply i_retN)
  | ((with_reducible apply i_ixT); focus (rfl))
  | ((with_reducible apply i_ixL); focus (rfl))
  | ((with_reducible apply i_kChT); focus (rfl))
  | ((with_reducible apply i_consO); focus (rfl))
  | (with_reducible apply i_dic0)
  | (with_reducible apply i_dputO)
  | ((with_reducible apply i_kDput1); focus (rfl))
  | ((with_reducible apply i_ixV); focus (rfl))
  | ((with_reducible apply i_pop); focus (rfl))
  | ((with_reducible apply i_neO); focus (rfl))
  | ((with_reducible apply i_ext); focus (rfl))
  | (with_reducible apply i_lv)
  | (with_reducible apply i_kLV)
  | (with_reducible apply i_listL)
  | ((with_reducible apply i_lenO); focus (rfl))
  | ((with_reducible apply i_ixC); (focus rfl); (focus rfl))
  | ((with_reducible apply i_end1); focus (rfl))
  | (with_reducible apply i_max2)
  | (with_reducible apply i_min2)
  | (with_reducible apply i_end0')
  | (with_reducible apply i_end0n)
  | (with_reducible apply i_endM))
local macro_rules | `(tactic| walk_at "ss") => `(tactic| repeat walk_at "s")

section
variable {P : Program} {w : World} {K : PySem.W.Frag} {mg : Str → Option Value} {base : Heap}
abbrev ct__law_right : Ct := fun os args Φ => ∃ d : D, os = [d] ∧ args = [.o 0] ∧ Fund d ∧ ∀ d' : D, Fund d' → Φ (.bl true) [d']
theorem ok__law_right (T : Txt P K mg base) (F__law_classes : DefOk P w K mg base 39 "_law_classes" ["fund", "most"] [] ct__law_classes) (F__law_some : DefOk P w K mg base 38 "_law_some" ["fund"] [] ct__law_some) (F__law_pick : DefOk P w K mg base 37 "_law_pick" ["fund", "many"] [] ct__law_pick) (F__law_over : DefOk P w K mg base 38 "_law_over" ["one", "two"] [] ct__law_over) (F__law_issues : DefOk P w K mg base 39 "_law_issues" ["fund", "classes", "most"] [] ct__law_issues) (F__law_few : DefOk P w K mg base 38 "_law_few" ["common", "classes", "issues", "others", "least", "bound"] [] ct__law_few) (F__law_mean_right : DefOk P w K mg base 44 "_law_mean_right" ["fund", "common", "classes", "issues"] [] ct__law_mean_right) (F_adjusted_prices : DefOk P w K mg base 43 "adjusted_prices" ["common", "classes", "issues", "kind"] [] ct_adjusted_prices) (F__law_passed_on_right : DefOk P w K mg base 44 "_law_passed_on_right" ["common", "classes", "issues", "kind", "at"] [] ct__law_passed_on_right) (F_converted_shares : DefOk P w K mg base 43 "converted_shares" ["common", "classes", "issues", "kind"] [] ct_converted_shares) (F__law_sum : DefOk P w K mg base 38 "_law_sum" ["numbers"] [] ct__law_sum) (F__law_scaled_right : DefOk P w K mg base 44 "_law_scaled_right" ["common", "classes", "issues", "kind", "factors", "prices", "shares"] [] ct__law_scaled_right) (F__law_pair : DefOk P w K mg base 37 "_law_pair" ["one"] [] ct__law_pair) : DefOk P w K mg base 45 "_law_right" ["fund"] [] ct__law_right := by
  refine mk_def T.g__law_right sc__law_right (by rintro os args Φ ⟨d, rfl, rfl, _⟩; rfl) (fun _ _ _ _ _ _ us hl => match us, hl with | [_], _ => rfl) (fun f cdv A outer s H E hr => ?b)
  case b =>
    have nd := (sc__law_right).nd
    have hu1 : (A.deeper (envOfC "_law_right" (defScope s__law_right) s.heap.objs.size f cdv)).units + 1 < cLine := by have := hr.un; omega
    have hu64 : (A.deeper (envOfC "_law_right" (defScope s__law_right) s.heap.objs.size f cdv)).units + 64 < cLine := by have := hr.un; omega
    have hu65 : (A.deeper (envOfC "_law_right" (defScope s__law_right) s.heap.objs.size f cdv)).units + 65 < cLine := by have := hr.un; omega
    refine ⟨_, _,
      (jss_cons (js_asg (je_new (jn_tup (ja_cons (jcX F__law_classes (hr.mono (by decide)) rfl (ja_consO 0 (ja_cons je_int ja_nil))) (ja_cons (jcX F__law_some (hr.mono (by decide)) rfl (ja_consO 0 ja_nil)) ja_nil)))) (jx_tup (n := 2) rfl (jgs_cons (jg_name 1 nd rfl (by first | exact Or.inl rfl | exact Or.inr rfl)) (jgs_cons (jg_name 2 nd rfl (by first | exact Or.inl rfl | exact Or.inr rfl)) jgs_nil))))
      (jss_cons (js_set 3 nd rfl (by first | exact Or.inl rfl | exact Or.inr rfl) (je_new (jn_tup (ja_cons (je_add je_int (jcX F__law_pick (hr.mono (by decide)) rfl (ja_consO 0 (ja_cons je_int ja_nil)))) (ja_cons (jc F__law_over (hr.mono (by decide)) rfl (ja_cons (jy_ix (K := K) rfl (je_dget hu1 (je_var 1) je_str) je_int) (ja_cons je_int ja_nil))) ja_nil)))))
      (jss_cons (js_set 4 nd rfl (by first | exact Or.inl rfl | exact Or.inr rfl) (jcX F__law_issues (hr.mono (by decide)) rfl (ja_consO 0 (ja_cons (je_var 1) (ja_cons je_int ja_nil)))))
      (jss_cons (js_set 5 nd rfl (by first | exact Or.inl rfl | exact Or.inr rfl) (jc F__law_few (hr.mono (by decide)) rfl (ja_cons (je_var 2) (ja_cons (je_var 1) (ja_cons (je_var 4) (ja_cons (je_new (jn_lst (ja_cons (je_var 3) ja_nil))) (ja_cons je_int (ja_cons (je_pow je_int je_int) ja_nil))))))))
      (jss_cons (js_if (jt_not (jt_val (jcX F__law_mean_right (hr.mono (by decide)) rfl (ja_consO 0 (ja_cons (je_var 2) (ja_cons (je_var 1) (ja_cons (je_new (jn_cat (je_var 4) (je_new (jn_lst (ja_cons (je_var 3) ja_nil))))) ja_nil))))))) (jss_one (js_ret je_bl)) jss_nil)
      (jss_cons (js_asg (je_new (jn_lc rfl nd (ji_range1 rfl T.b_range (ja_cons je_int ja_nil)) (blkOk_by (own := [("side", 17)]) (N := N__law_right) (sc := defScope s__law_right) (by decide +kernel)) (fun _ _ _ _ _ => (jg_name 17 nd rfl (by first | exact Or.inl rfl | exact Or.inr rfl))) (gw_name (by decide)) mg_name (fun _ _ _ _ _ => jts_nil) (fun _ _ _ _ _ => (jy_ix (K := K) rfl (je_new (jn_lst (ja_cons je_int (ja_cons (je_new (jn_tup (ja_cons je_int (ja_cons je_int ja_nil)))) (ja_cons (je_add je_int (jcX F__law_pick (hr.mono (by decide)) rfl (ja_consO 0 (ja_cons je_int ja_nil)))) ja_nil))))) (jcX F__law_pick (hr.mono (by decide)) rfl (ja_consO 0 (ja_cons je_int ja_nil))))))) (jx_lst (n := 2) rfl (jgs_cons (jg_name 6 nd rfl (by first | exact Or.inl rfl | exact Or.inr rfl)) (jgs_cons (jg_name 7 nd rfl (by first | exact Or.inl rfl | exact Or.inr rfl)) jgs_nil))))
      (jss_cons (js_for PassesOwn.never rfl (ji_list (je_new (jn_lst (ja_cons je_str (ja_cons je_str (ja_cons je_str ja_nil)))))) (jg_name 8 nd rfl (by first | exact Or.inl rfl | exact Or.inr rfl)) (jss_cons (js_set 9 nd rfl (by first | exact Or.inl rfl | exact Or.inr rfl) (je_new (jn_cat (je_if (jyt_eq (K := K) rfl hu64 (je_var 8) je_str) (je_var 5) (je_var 4)) (je_new (jn_lst (ja_cons (je_var 3) ja_nil))))))
      (jss_cons (js_set 10 nd rfl (by first | exact Or.inl rfl | exact Or.inr rfl) (jc F_adjusted_prices (hr.mono (by decide)) rfl (ja_cons (je_var 2) (ja_cons (je_var 1) (ja_cons (je_var 9) (ja_cons (je_var 8) ja_nil))))))
      (jss_cons (js_if (jt_not (jt_val (jc F__law_passed_on_right (hr.mono (by decide)) rfl (ja_cons (je_var 2) (ja_cons (je_var 1) (ja_cons (je_var 9) (ja_cons (je_var 8) (ja_cons (jcX F__law_pick (hr.mono (by decide)) rfl (ja_consO 0 (ja_cons (je_add (jy_len (K := K) rfl rfl T.b_len (ja_cons (je_var 9) ja_nil)) je_int) ja_nil))) ja_nil)))))))) (jss_one (js_ret je_bl)) jss_nil)
      (jss_cons (js_set 11 nd rfl (by first | exact Or.inl rfl | exact Or.inr rfl) (jc F_converted_shares (hr.mono (by decide)) rfl (ja_cons (je_var 2) (ja_cons (je_var 1) (ja_cons (je_var 9) (ja_cons (je_var 8) ja_nil))))))
      (jss_cons (js_set 12 nd rfl (by first | exact Or.inl rfl | exact Or.inr rfl) (je_new (jn_cat (je_new (jn_lst (ja_cons (je_var 2) ja_nil))) (je_new (jn_lc rfl nd (ji_list (je_var 9)) (blkOk_by (own := [("money", 18), ("price", 19)]) (N := N__law_right) (sc := defScope s__law_right) (by decide +kernel)) (fun _ _ _ _ _ => (jx_tup (n := 2) rfl (jgs_cons (jg_name 18 nd rfl (by first | exact Or.inl rfl | exact Or.inr rfl)) (jgs_cons (jg_name 19 nd rfl (by first | exact Or.inl rfl | exact Or.inr rfl)) jgs_nil)))) (gw_tup (gw_cons mg_name (gw_name (by decide)) (gw_cons mg_name (gw_name (by decide)) gw_nil))) (mg_tup (mg_cons mg_name (mg_cons mg_name mg_nil))) (fun _ _ _ _ _ => jts_nil) (fun _ _ _ _ _ => (jc F__law_over (hr.mono (by decide)) rfl (ja_cons (je_var 18) (ja_cons (je_var 19) ja_nil)))))))))
      (jss_cons (js_if (jyt_ne (K := K) rfl hu64 (je_var 11) (jc F__law_sum (hr.mono (by decide)) rfl (ja_cons (je_new (jn_cat (je_var 12) (je_new (jn_lc rfl nd (ji_keys (je_var 1)) (blkOk_by (own := [("name", 21)]) (N := N__law_right) (sc := defScope s__law_right) (by decide +kernel)) (fun _ _ _ _ _ => (jg_name 21 nd rfl (by first | exact Or.inl rfl | exact Or.inr rfl))) (gw_name (by decide)) mg_name (fun _ _ _ _ _ => jts_nil) (fun _ _ _ _ _ => (jc F__law_over (hr.mono (by decide)) rfl (ja_cons (jy_ix (K := K) rfl (je_dget hu1 (je_var 1) (je_var 21)) je_int) (ja_cons (je_dget hu1 (je_var 10) (je_var 21)) ja_nil)))))))) ja_nil))) (jss_one (js_ret je_bl)) jss_nil)
      (jss_cons (js_if (jt_not (jt_val (jc F__law_scaled_right (hr.mono (by decide)) rfl (ja_cons (je_var 2) (ja_cons (je_var 1) (ja_cons (je_var 9) (ja_cons (je_var 8) (ja_cons (je_new (jn_tup (ja_cons (je_var 6) (ja_cons (je_var 7) ja_nil)))) (ja_cons (je_var 10) (ja_cons (je_var 11) ja_nil)))))))))) (jss_one (js_ret je_bl)) jss_nil)
      (jss_cons (js_set 13 nd rfl (by first | exact Or.inl rfl | exact Or.inr rfl) (je_new (jn_dictP rfl rfl T.b_dict (ja_cons (je_new (jn_lc rfl nd (ji_enumK rfl T.b_enumerate (je_var 1)) (blkOk_by (own := [("k", 20), ("name", 21)]) (N := N__law_right) (sc := defScope s__law_right) (by decide +kernel)) (fun _ _ _ _ _ => (jx_tup (n := 2) rfl (jgs_cons (jg_name 20 nd rfl (by first | exact Or.inl rfl | exact Or.inr rfl)) (jgs_cons (jg_name 21 nd rfl (by first | exact Or.inl rfl | exact Or.inr rfl)) jgs_nil)))) (gw_tup (gw_cons mg_name (gw_name (by decide)) (gw_cons mg_name (gw_name (by decide)) gw_nil))) (mg_tup (mg_cons mg_name (mg_cons mg_name mg_nil))) (fun _ _ _ _ _ => jts_nil) (fun _ _ _ _ _ => (je_new (jn_tup (ja_cons (je_catS je_str (jy_ix (K := K) rfl je_str (je_var 20))) (ja_cons (je_dget hu1 (je_var 1) (je_var 21)) ja_nil))))))) ja_nil))))
      (jss_cons (js_if (jyt_ne (K := K) rfl hu64 (je_new (jn_listVals rfl (jc F_adjusted_prices (hr.mono (by decide)) rfl (ja_cons (je_var 2) (ja_cons (je_var 13) (ja_cons (je_var 9) (ja_cons (je_var 8) ja_nil))))) rfl T.b_list)) (je_new (jn_lc rfl nd (ji_keys (je_var 1)) (blkOk_by (own := [("name", 21)]) (N := N__law_right) (sc := defScope s__law_right) (by decide +kernel)) (fun _ _ _ _ _ => (jg_name 21 nd rfl (by first | exact Or.inl rfl | exact Or.inr rfl))) (gw_name (by decide)) mg_name (fun _ _ _ _ _ => jts_nil) (fun _ _ _ _ _ => (je_dget hu1 (je_var 10) (je_var 21)))))) (jss_one (js_ret je_bl)) jss_nil)
      (jss_cons (js_set 14 nd rfl (by first | exact Or.inl rfl | exact Or.inr rfl) (je_new (jn_dictP rfl rfl T.b_dict (ja_cons (je_new (jn_lc rfl nd (ji_list (je_new (jyn_slice (K := K) rfl (je_new (jn_listDK rfl rfl T.b_list (ja_cons (je_var 1) ja_nil))) (jo_some je_int) jo_none))) (blkOk_by (own := [("name", 21)]) (N := N__law_right) (sc := defScope s__law_right) (by decide +kernel)) (fun _ _ _ _ _ => (jg_name 21 nd rfl (by first | exact Or.inl rfl | exact Or.inr rfl))) (gw_name (by decide)) mg_name (fun _ _ _ _ _ => jts_nil) (fun _ _ _ _ _ => (je_new (jn_tup (ja_cons (je_var 21) (ja_cons (je_dget hu1 (je_var 1) (je_var 21)) ja_nil))))))) ja_nil))))
      (jss_cons (js_set 15 nd rfl (by first | exact Or.inl rfl | exact Or.inr rfl) (jc F__law_sum (hr.mono (by decide)) rfl (ja_cons (je_new (jn_lst (ja_cons (je_var 2) (ja_cons (jc F__law_over (hr.mono (by decide)) rfl (ja_cons (jy_ix (K := K) rfl (je_dget hu1 (je_var 1) je_str) je_int) (ja_cons (jy_ix (K := K) rfl (je_dget hu1 (je_var 1) je_str) je_int) ja_nil))) ja_nil)))) ja_nil)))
      (jss_one (js_if (JW.pt (jw_and (jyt_dne (K := K) rfl hu65 (je_var 14) (je_new jn_dic0)) (jw_and (jyt_ne (K := K) rfl hu64 (je_var 8) je_str) (jw_and1 (jt_lt (jy_maxT (K := K) rfl rfl rfl T.b_max (ja_cons (jc F__law_pair (hr.mono (by decide)) rfl (ja_cons (je_var 15) ja_nil)) ja_nil)) (je_pow je_int je_int)))))) (jss_cons (js_set 16 nd rfl (by first | exact Or.inl rfl | exact Or.inr rfl) (jc F_adjusted_prices (hr.mono (by decide)) rfl (ja_cons (je_var 15) (ja_cons (je_var 14) (ja_cons (je_var 9) (ja_cons (je_var 8) ja_nil))))))
      (jss_one (js_if (jyt_ne (K := K) rfl hu64 (je_new (jn_lc rfl nd (ji_keys (je_var 14)) (blkOk_by (own := [("name", 21)]) (N := N__law_right) (sc := defScope s__law_right) (by decide +kernel)) (fun _ _ _ _ _ => (jg_name 21 nd rfl (by first | exact Or.inl rfl | exact Or.inr rfl))) (gw_name (by decide)) mg_name (fun _ _ _ _ _ => jts_nil) (fun _ _ _ _ _ => (je_dget hu1 (je_var 16) (je_var 21))))) (je_new (jn_lc rfl nd (ji_keys (je_var 14)) (blkOk_by (own := [("name", 21)]) (N := N__law_right) (sc := defScope s__law_right) (by decide +kernel)) (fun _ _ _ _ _ => (jg_name 21 nd rfl (by first | exact Or.inl rfl | exact Or.inr rfl))) (gw_name (by decide)) mg_name (fun _ _ _ _ _ => jts_nil) (fun _ _ _ _ _ => (je_dget hu1 (je_var 10) (je_var 21)))))) (jss_one (js_ret je_bl)) jss_nil))) jss_nil))))))))))))))
      (jss_one (js_ret je_bl))))))))), ?_⟩
    rintro os args Φ ⟨d, rfl, rfl, hd, hΦ⟩
    walk_at "ss"
    refine i_callX 0 ?_
    walk_at "ss"
    refine ⟨d, rfl, rfl, hd, fun cs d1 DR h1 => ⟨d1, rfl, ?_⟩⟩
    walk_at "ss"
    refine i_callX 0 ?_
    walk_at "ss"
    refine ⟨d1, rfl, rfl, h1, fun com d2 c0 cB h2 => ⟨d2, rfl, ?_⟩⟩
    have k1 := DR.C.ne
    have k3 := DR.l3
    -- the first class
    obtain ⟨cb, hcb, enm⟩ : ∃ c, cs[0]? = some c ∧ c.nm = ("b" : Str) := by
      have h0 : 0 < cs.length := by omega
      refine ⟨cs[0], List.getElem?_eq_getElem h0, ?_⟩
      have := congrArg (fun l => l[0]?) DR.nm
      simp only [List.getElem?_map, List.getElem?_eq_getElem h0, Option.map_some] at this
      rw [List.getElem?_take_of_lt h0] at this
      have e : NML[0]? = some ("b" : Str) := rfl
      rw [e] at this
      exact Option.some.inj this
    have mcb := List.mem_of_getElem? hcb
    have okb := DR.C.ok cb mcb
    walk_at "ss"
    refine i_callX 0 ?_
    walk_at "ss"
    refine ⟨_, 9, rfl, rfl, h2, by decide, by decide, fun r3 d3 r3a r3b h3 => ⟨d3, rfl, ?_⟩⟩
    walk_at "ss"
    have dgb : ∀ {Ψ : PhE} {S : Ab}, Ψ (.tup [qD cb.paid, qD cb.begun]) S → fDg (clD cs) (.str "b") S Ψ := fun h => by
      have := i_dgetCl (Φ := _) DR.C.nd mcb h
      rw [enm] at this
      exact this
    refine dgb ?_
    walk_at "ss"
    have B3 : B 2 (((3 : Int)) : Rat) := B_int (by decide) (by decide) (by decide)
    have p3 : (0 : Rat) < (((3 : Int)) : Rat) := Rat.intCast_pos.mpr (by decide)
    refine ⟨cb.begun, ((3 : Int) : Rat), 110, 2, rfl, by rw [qD_z], okb.bB, B3, by decide, p3, ?_⟩
    walk_at "ss"
    refine i_callX 0 ?_
    walk_at "ss"
    refine ⟨d3, cs, rfl, rfl, h3, DR, fun is d4 I h4 => ⟨d4, rfl, ?_⟩⟩
    let l : Rat × Rat := (((1 + r3 : Int) : Rat), cb.begun / ((3 : Int) : Rat))
    have l1 : 0 < l.1 := Rat.intCast_pos.mpr (by omega)
    have l2 : 0 < l.2 := div_pos okb.b0 p3
    have l1B : B 10 l.1 := B_int (by decide) (by omega) (by omega)
    have l2B : B 112 l.2 := (B_div okb.bB B3).mono (by decide)
    have el1 : qD l.1 = .int (1 + r3) := qD_z _
    have el0 : isD [l] = .lst [.tup [.int (1 + r3), qD l.2]] := by
      show D.lst [.tup [qD l.1, qD l.2]] = _
      rw [el1]
    have el2 : isD (is ++ [l]) = .lst ((is.map fun p => D.tup [qD p.1, qD p.2]) ++ [.tup [.int (1 + r3), qD l.2]]) := by
      show D.lst ((is ++ [l]).map fun p => D.tup [qD p.1, qD p.2]) = _
      rw [List.map_append, List.map_cons, el1]
      rfl
    have e3 : (10 : Int) ^ (3 : Int).toNat = 1000 := by decide
    walk_at "ss"
    refine i_fI ⟨by decide, by decide, by decide⟩ ?_
    walk_at "ss"
    refine ⟨com, cs, is, l, rfl, by rw [el0]; rfl, c0, DR, I, l1, l2, fun few hfew => ?_⟩
    walk_at "ss"
    have okl : ∀ p ∈ is ++ [l], 0 < p.1 ∧ 0 < p.2 ∧ B 300 p.1 ∧ B 300 p.2 := fun p hp => by
      rcases List.mem_append.mp hp with hp | hp
      · exact I.ok p hp
      · rw [List.mem_singleton.mp hp]; exact ⟨l1, l2, l1B.mono (by decide), l2B.mono (by decide)⟩
    have i3 := I.l3
    walk_at "ss"
    refine i_callX 0 ?_
    walk_at "ss"
    refine i_cat (xs := is.map fun p => D.tup [qD p.1, qD p.2]) (ys := [.tup [.int (1 + r3), qD l.2]]) (by rw [List.length_map]; have := I.l3; show is.length + 1 ≤ _; omega) ?_
    rw [← el2]
    walk_at "ss"
    refine ⟨d4, com, cs, is ++ [l], rfl, rfl, h4, c0, cB, DR, by rw [List.length_append]; show is.length + 1 ≤ 4; omega, okl, fun d5 h5 => ⟨d5, rfl, ?_⟩⟩
    walk_at "ss"
    refine i_kR1 ⟨by decide, by decide⟩ ?_
    refine i_kLcG (fun i os acc => ∃ (dF : D) (qs : List Rat), os = [some dF] ∧ Fund dF ∧ acc = qs.map qD ∧ qs.length = i ∧ ∀ q ∈ qs, 0 < q ∧ B 5 q) ⟨d5, [], rfl, h5, rfl, rfl, by simp⟩ ?s1 ?s2
    case s1 =>
      rintro i dd os acc hdd ⟨dF, qs, rfl, hF, rfl, hl, hq⟩
      have hi : i < 2 := (List.getElem?_eq_some_iff.mp hdd).1
      refine ⟨by rw [List.length_map]; omega, ?_⟩
      walk_at "ss"
      refine i_callX 0 ?_
      walk_at "ss"
      refine ⟨_, 9, rfl, rfl, hF, by decide, by decide, fun r6 d6 r6a r6b h6 => ⟨d6, rfl, ?_⟩⟩
      walk_at "ss"
      refine i_callX 0 ?_
      walk_at "ss"
      refine ⟨_, 3, rfl, rfl, h6, by decide, by decide, fun r7 d7 r7a r7b h7 => ⟨d7, rfl, ?_⟩⟩
      walk_at "ss"
      have V1 : Nm 5 (.int 2) := Nm.int (by decide) (by decide) (by decide)
      have V2 : Nm 5 (.tup [.int 1, .int 3]) := ⟨mkRat 1 3, by rfl, mkRat_pos (by decide) (by decide), B_mkI (by decide) (by decide) (by decide) (by decide)⟩
      have V3 : Nm 5 (.int (1 + r6)) := Nm.int (by decide) (by omega) (by omega)
      obtain ⟨q, eq, q0, qB⟩ := Nm.get3 V1 V2 V3 r7a r7b
      refine i_ixL eq ?_
      refine ⟨d7, qs ++ [q], rfl, h7, by rw [List.map_append]; rfl, by rw [List.length_append, hl]; rfl, fun x hx => ?_⟩
      rcases List.mem_append.mp hx with hx | hx
      · exact hq x hx
      · rw [List.mem_singleton.mp hx]; exact ⟨q0, qB⟩
    case s2 =>
      rintro os acc ⟨dF, qs, rfl, hF, rfl, hl, hq⟩
      match qs, hl, hq with
      | [one, two], _, hq =>
        obtain ⟨o0, oB⟩ := hq one (by simp)
        obtain ⟨t0, tB⟩ := hq two (by simp)
        show wgLst 2 _ (.lst [qD one, qD two]) _ _
        walk_at "ss"
        refine i_kFor (fun i S => ∃ (dF : D) (y8 y9 y10 y11 y12 y13 y14 y15 y16 y17 y18 y19 y20 y21 : Option _root_.S.Arg), S = ⟨[some dF], [some (.o 0), some (.v (clD cs)), some (.v (qD com)), some (.v (.tup [.int (1 + r3), qD l.2])), some (.v (isD is)), some (.v (isD few)), some (.v (qD one)), some (.v (qD two)), y8, y9, y10, y11, y12, y13, y14, y15, y16, y17, y18, y19, y20, y21]⟩ ∧ Fund dF) ⟨dF, none, none, none, none, none, none, none, none, none, none, none, none, none, none, rfl, hF⟩ ?t1 ?t2
        case t2 =>
          rintro S ⟨dF, y8, y9, y10, y11, y12, y13, y14, y15, y16, y17, y18, y19, y20, y21, rfl, hF⟩
          walk_at "ss"
          exact hΦ dF hF
        case t1 =>
          rintro i dd S hdd ⟨dF, y8, y9, y10, y11, y12, y13, y14, y15, y16, y17, y18, y19, y20, y21, rfl, hF⟩
          obtain ⟨kind, rfl, hk⟩ : ∃ kind : Str, dd = .str kind ∧ (kind = "full" ∨ kind = "issued" ∨ kind = "converted") := by
            match i, hdd with
            | 0, h => exact ⟨"full", (Option.some.inj h).symm, .inl rfl⟩
            | 1, h => exact ⟨"issued", (Option.some.inj h).symm, .inr (.inl rfl)⟩
            | 2, h => exact ⟨"converted", (Option.some.inj h).symm, .inr (.inr rfl)⟩
            | i + 3, h => cases h
          have hkl : PyData.canLay0 (.str kind) = true := by rcases hk with rfl | rfl | rfl <;> exact lay_s (by decide +kernel)
          have C3 := DR.C.mono (N := 300) (by decide)
          -- the row, and what it needs
          obtain ⟨js, ejs, n, PL, jok⟩ : ∃ js : List (Rat × Rat), js = (if decide (kind = "converted") = true then few else is) ++ [l] ∧ ∃ n : Nat, Plan kind cs com js n 500000 ∧ ∀ p ∈ js, 0 < p.1 ∧ 0 < p.2 ∧ B 300 p.1 ∧ B 300 p.2 := by
            refine ⟨_, rfl, ?_⟩
            by_cases hc : kind = "converted"
            · rw [if_pos (decide_eq_true hc)]
              subst hc
              rcases hfew with rfl | ⟨rfl, q1, q2, q3, q4, q5⟩
              · have ok1 : ∀ p ∈ [] ++ [l], 0 < p.1 ∧ 0 < p.2 ∧ B 300 p.1 ∧ B 300 p.2 := fun p hp => okl p (List.mem_append_right _ (by simpa using hp))
                exact ⟨300, plan_one C3 ⟨by show 1 ≤ 100; decide, ok1⟩ c0 (cB.mono (by decide)) (by show 1 ≤ 1; decide), ok1⟩
              · refine ⟨10, plan_short ⟨DR.C.ne, DR.C.le, DR.C.nd, fun c hc => let o := DR.C.ok c hc; ⟨o.nm, o.p0, o.b0, (q2 c hc).1, (q2 c hc).2⟩⟩ ⟨by rw [List.length_append]; show _ + 1 ≤ _; omega, fun p hp => ?_⟩ c0 q1 (by rw [List.length_append]; show _ + 1 ≤ _; omega), okl⟩
                rcases List.mem_append.mp hp with hp | hp
                · exact ⟨(I.ok p hp).1, (I.ok p hp).2.1, q3 p hp⟩
                · rw [List.mem_singleton.mp hp]; exact ⟨l1, l2, q4, q5⟩
            · rw [if_neg (by rw [decide_eq_false hc]; decide)]
              refine ⟨300, plan_flat (hk.elim .inl fun z => z.elim .inr fun z => absurd z hc) C3 ⟨by rw [List.length_append]; show _ + 1 ≤ _; omega, okl⟩ c0 (cB.mono (by decide)) (by rw [List.length_append]; show _ + 1 ≤ _; omega), okl⟩
          walk_at "ss"
          refine i_eqS hkl (lay_s (by decide +kernel)) ?_
          walk_at "ss"
          refine i_kIfEV rfl rfl ?_
          rw [← apply_ite isD]
          generalize hj0 : (if decide (kind = "converted") = true then few else is) = j0 at ejs ⊢
          have lj0 : j0.length ≤ 3 := by
            rw [← hj0]
            split
            · rcases hfew with rfl | ⟨rfl, _⟩
              · decide
              · exact i3
            · exact i3
          have el3 : isD js = .lst ((j0.map fun p => D.tup [qD p.1, qD p.2]) ++ [.tup [.int (1 + r3), qD l.2]]) := by
            rw [ejs]
            show D.lst ((j0 ++ [l]).map fun p => D.tup [qD p.1, qD p.2]) = _
            rw [List.map_append, List.map_cons, el1]
            rfl
          walk_at "ss"
          refine i_cat (xs := j0.map fun p => D.tup [qD p.1, qD p.2]) (ys := [.tup [.int (1 + r3), qD l.2]]) (by rw [List.length_map]; show j0.length + 1 ≤ _; omega) ?_
          rw [← el3]
          walk_at "ss"
          have ljs : js.length ≤ 4 := by rw [ejs, List.length_append]; show j0.length + 1 ≤ 4; omega
          refine ⟨com, cs, js, kind, n, 500000, rfl, rfl, PL.R, fun ns hp hso => ?_⟩
          have nd2 : ns.Nodup := hp.symm.nodup DR.C.nd
          have mem2 : ∀ c ∈ cs, c.nm ∈ ns := fun c hc => hp.symm.mem_iff.mp (List.mem_map_of_mem hc)
          walk_at "ss"
          refine i_callX 0 ?_
          walk_at "ss"
          refine i_lenL (ds := js.map fun p => D.tup [qD p.1, qD p.2]) ?_
          walk_at "ss"
          refine ⟨_, ((js.map fun p => D.tup [qD p.1, qD p.2]).length : Int) + 1, rfl, rfl, hF, by omega, by rw [List.length_map]; omega, fun r8 d8 r8a r8b h8 => ⟨d8, rfl, ?_⟩⟩
          rw [List.length_map] at r8b
          obtain ⟨at_, rfl⟩ : ∃ j : Nat, r8 = (j : Int) := ⟨r8.toNat, by omega⟩
          obtain ⟨M, m1, m2, m3⟩ := PL.pass at_ (by omega)
          walk_at "ss"
          refine ⟨com, cs, js, kind, at_, n, 500000, M, rfl, rfl, PL.R, by omega, PL.n3, m1, m2, m3, ?_⟩
          walk_at "ss"
          refine ⟨com, cs, js, kind, n, 500000, rfl, rfl, PL.R, ?_⟩
          walk_at "ss"
          have st := PL.R.st js.length (Nat.le_refl _)
          rw [List.take_length] at st
          have n3 := PL.n3
          have f0 := st.f0
          have fB := st.fB
          have sB := st.sB
          have er : (runQ kind cs com js).2 = com + shQ js := run_s
          refine i_kWL (ds := js.map fun p => D.tup [qD p.1, qD p.2]) ?_
          refine i_kLcX (fun p => qD (p.1 / p.2)) (by omega) ?_ ?_
          · intro i p acc hx hi
            have ok := jok p (List.mem_of_getElem? hx)
            walk_at "ss"
            refine ⟨p.1, p.2, 300, 300, rfl, rfl, ok.2.2.1, ok.2.2.2, by decide, ok.2.1, ?_⟩
            walk_at "ss"
            exact i_ivx hx hi rfl rfl
          refine i_cat (by rw [List.length_map]; show 1 + js.length ≤ _; omega) ?_
          walk_at "ss"
          refine i_keysCl ?_
          refine i_kLcX (fun c => qD (c.paid / (runQ kind cs com js).1 c.nm)) (by omega) ?_ ?_
          · intro i c acc hx hi
            have hc := List.mem_of_getElem? hx
            have ok := DR.C.ok c hc
            walk_at "ss"
            refine i_dgetCl DR.C.nd hc ?_
            walk_at "ss"
            refine i_dgetPr nd2 (mem2 c hc) ?_
            walk_at "ss"
            refine ⟨c.paid, _, 110, 500000, rfl, rfl, ok.pB, fB c hc, by decide, f0 c hc, ?_⟩
            walk_at "ss"
            exact i_ivx hx hi rfl rfl
          refine i_cat (by rw [List.length_append, List.length_map, List.length_map]; show 1 + js.length + cs.length ≤ _; omega) ?_
          walk_at "ss"
          refine ⟨(com :: js.map (fun p => p.1 / p.2)) ++ cs.map (fun c => c.paid / (runQ kind cs com js).1 c.nm), 600000, rfl, by rw [List.map_append, List.map_cons, List.map_map, List.map_map]; rfl, fun q hq => ?_, ?_, ?_⟩
          · rcases List.mem_append.mp hq with hq | hq
            · rcases List.mem_cons.mp hq with rfl | hq
              · exact cB.mono (by decide)
              · obtain ⟨p, hp, rfl⟩ := List.mem_map.mp hq
                exact (B_div (jok p hp).2.2.1 (jok p hp).2.2.2).mono (by decide)
            · obtain ⟨c, hc, rfl⟩ := List.mem_map.mp hq
              exact (B_div (DR.C.ok c hc).pB (fB c hc)).mono (by decide)
          · rw [List.length_append, List.length_cons, List.length_map, List.length_map]
            have : (js.length + 1 + cs.length + 1) * (600000 + 1) ≤ 9 * 600001 := Nat.mul_le_mul_right _ (by omega)
            omega
          rw [sumL_append, sumL_cons, show com + sumL (js.map fun p => p.1 / p.2) = (runQ kind cs com js).2 from er.symm]
          walk_at "ss"
          refine i_kIfF (decide_eq_false fun h => h rfl) ?_
          walk_at "ss"
          have wB : B (7 * 500000 + 5) ((runQ kind cs com js).2 + sumL (cs.map fun c => c.paid / (runQ kind cs com js).1 c.nm)) := by
            have := B_sum (n := 110 + 500000) (qs := cs.map fun c => c.paid / (runQ kind cs com js).1 c.nm) fun q hq => by
              obtain ⟨c, hc, rfl⟩ := List.mem_map.mp hq
              exact B_div (DR.C.ok c hc).pB (fB c hc)
            rw [List.length_map] at this
            have l : cs.length * (110 + 500000 + 1) ≤ 3 * 500111 := Nat.mul_le_mul_right _ k3
            exact (B_add sB this).mono (by omega)
          obtain ⟨M2, w1, w2, w3⟩ := PL.scal
          refine ⟨com, cs, js, kind, n, 500000, M2, one, two, ns, _, rfl, rfl, PL.R, w1, w2, w3, o0, t0, oB, tB, hp, rfl, wB, ?_⟩
          walk_at "ss"
          -- the classes by other names
          refine i_enKCl ?_
          rw [enum_cl]
          refine i_kLcX (fun p : Cl × Nat => D.tup [.str (nnQ p.1.nm), .tup [qD p.1.paid, qD p.1.begun]]) (by rw [List.length_zipIdx]; omega) ?_ ?_
          · intro i p acc hx hi
            have hcp : cs[i]? = some p.1 ∧ p.2 = i := by
              rw [List.getElem?_zipIdx] at hx
              obtain ⟨c, hc, rfl⟩ := Option.map_eq_some_iff.mp hx
              exact ⟨hc, by simp⟩
            obtain ⟨hci, hpi⟩ := hcp
            have hc := List.mem_of_getElem? hci
            obtain ⟨hnm, hi3⟩ := nm_at DR.nm k3 hci
            obtain ⟨ch, ech, eq2⟩ : ∃ ch : Nat, atI ("abcdefghijkl" : Str).cps.toList (p.2 : Int) = some ch ∧ (("q" : Str) ++ (⟨#[ch]⟩ : Str)) = nnQ p.1.nm := by
              rw [hpi]
              match i, hi3, hnm with
              | 0, _, h => exact ⟨97, by decide +kernel, by rw [← Option.some.inj h]; decide +kernel⟩
              | 1, _, h => exact ⟨98, by decide +kernel, by rw [← Option.some.inj h]; decide +kernel⟩
              | 2, _, h => exact ⟨99, by decide +kernel, by rw [← Option.some.inj h]; decide +kernel⟩
            walk_at "ss"
            refine ⟨ch, by decide +kernel, ech, ?_⟩
            refine i_catS (show (1 : Nat) + 1 ≤ _ by decide) ?_
            rw [eq2]
            walk_at "ss"
            refine i_dgetCl DR.C.nd hc ?_
            walk_at "ss"
            exact i_ivx hx hi rfl rfl
          have ezip : (cs.zipIdx.map fun p : Cl × Nat => D.tup [.str (nnQ p.1.nm), .tup [qD p.1.paid, qD p.1.begun]]) = (cs.map rnm).map fun c => D.tup [.str c.nm, .tup [qD c.paid, qD c.begun]] := by
            have e : (cs.zipIdx.map fun p : Cl × Nat => D.tup [.str (nnQ p.1.nm), .tup [qD p.1.paid, qD p.1.begun]]) = (cs.zipIdx.map Prod.fst).map fun c => D.tup [.str (nnQ c.nm), .tup [qD c.paid, qD c.begun]] := by rw [List.map_map]; rfl
            rw [e, List.zipIdx_map_fst, List.map_map]
            rfl
          rw [ezip]
          obtain ⟨R2, rn⟩ := rnm_run PL.R DR.nm k3
          have rnJ := rn js.length
          rw [List.take_length] at rnJ
          have hrn := rnm_nm DR.nm k3
          walk_at "ss"
          refine i_dictP (pairs_map (fun c : Cl => c.nm) (fun c => D.tup [qD c.paid, qD c.begun]) _) ?_
          rw [merge_map R2.C.nd]
          walk_at "ss"
          refine ⟨com, cs.map rnm, js, kind, n, 500000, rfl, rfl, R2, fun ms hpm hsm => ?_⟩
          walk_at "ss"
          refine i_lvPr ?_
          have ems : ms = QN.take cs.length := qn_sorted k1 k3 (by rw [← hrn]; exact hpm) hsm
          have evals : (ms.map fun x => qD ((runQ kind (cs.map rnm) com js).1 x)) = cs.map fun c => qD ((runQ kind cs com js).1 c.nm) := by
            rw [ems, ← hrn, List.map_map, List.map_map]
            refine List.map_congr_left fun c hc => ?_
            show qD ((runQ kind (cs.map rnm) com js).1 (nnQ c.nm)) = _
            rw [rnJ c hc]
          rw [evals]
          walk_at "ss"
          refine i_keysCl ?_
          refine i_kLcX (fun c => qD ((runQ kind cs com js).1 c.nm)) (by omega) ?_ ?_
          · intro i c acc hx hi
            have hc := List.mem_of_getElem? hx
            walk_at "ss"
            refine i_dgetPr nd2 (mem2 c hc) ?_
            exact i_ivx hx hi rfl rfl
          have eqm : (cs.map fun c => qD ((runQ kind cs com js).1 c.nm)) = (cs.map fun c => (runQ kind cs com js).1 c.nm).map qD := by rw [List.map_map]; rfl
          rw [eqm]
          refine i_ne (okE_lst _) (okE_lst _) ?_
          rw [decide_eq_true rfl]
          walk_at "ss"
          -- one class less
          refine i_listDKCl ?_
          refine i_kSl (ds := cs.map fun c => D.str c.nm) ?_
          walk_at "ss"
          have ecut : cutD (cs.map fun c => D.str c.nm) (some 1) none = (cs.drop 1).map fun c => D.str c.nm := by
            rw [List.map_drop]
            exact cut_drop (k := 1) (by rw [List.length_map]; omega)
          rw [ecut]
          walk_at "ss"
          refine i_kLcX (xs := cs.drop 1) (fun c => D.tup [.str c.nm, .tup [qD c.paid, qD c.begun]]) (by rw [List.length_drop]; omega) ?_ ?_
          · intro i c acc hx hi
            have hc := List.mem_of_mem_drop (List.mem_of_getElem? hx)
            walk_at "ss"
            refine i_dgetCl DR.C.nd hc ?_
            walk_at "ss"
            exact i_ivx hx hi rfl rfl
          have ndr : ((cs.drop 1).map (·.nm)).Nodup := by rw [List.map_drop]; exact DR.C.nd.sublist (List.drop_sublist _ _)
          walk_at "ss"
          refine i_dictP (pairs_map (fun c : Cl => c.nm) (fun c => D.tup [qD c.paid, qD c.begun]) _) ?_
          rw [merge_map ndr]
          walk_at "ss"
          refine dgb ?_
          walk_at "ss"
          refine dgb ?_
          walk_at "ss"
          refine ⟨cb.paid, cb.begun, 110, 110, rfl, rfl, okb.pB, okb.bB, by decide, okb.b0, ?_⟩
          walk_at "ss"
          have mB : B 220 (cb.paid / cb.begun) := B_div okb.pB okb.bB
          refine ⟨[com, cb.paid / cb.begun], 220, rfl, rfl, fun q hq => ?_, by show (2 + 1) * (220 + 1) < 90000000; decide, ?_⟩
          · rcases List.mem_cons.mp hq with rfl | hq
            · exact cB.mono (by decide)
            · rw [List.mem_singleton.mp hq]; exact mB
          rw [show sumL [com, cb.paid / cb.begun] = com + cb.paid / cb.begun by rw [sumL_cons, sumL_cons, sumL_nil, Rat.add_zero]]
          have more0 : 0 < com + cb.paid / cb.begun := add_pos (Rat.le_of_lt c0) (div_pos okb.p0 okb.b0)
          walk_at "ss"
          refine i_deq (ls := []) (okD_cl _) rfl ?_
          rw [dEq_nil]
          by_cases e1 : cs.drop 1 = []
          · refine i_kTest ?_
            refine i_kAndF (by rw [decide_eq_true e1]; rfl) ?_
            refine i_kIfF rfl ?_
            exact ⟨d8, _, _, _, _, _, _, _, _, _, _, _, _, _, _, rfl, h8⟩
          refine i_kTest ?_
          refine i_kAndT (by rw [decide_eq_false e1]; rfl) ?_
          walk_at "ss"
          refine i_ne (show PyData.canLay0 (.str kind) = true from hkl) (lay_s (by decide +kernel)) ?_
          by_cases e2 : kind = "converted"
          · refine i_kTest ?_
            refine i_kAndF (by rw [e2, decide_eq_true rfl]; rfl) ?_
            refine i_kIfF rfl ?_
            exact ⟨d8, _, _, _, _, _, _, _, _, _, _, _, _, _, _, rfl, h8⟩
          refine i_kTest ?_
          refine i_kAndT (by rw [decide_eq_false (fun z => e2 (by injection z))]; rfl) ?_
          walk_at "ss"
          refine ⟨com + cb.paid / cb.begun, rfl, rfl, ?_⟩
          walk_at "ss"
          refine i_maxT (is := [(com + cb.paid / cb.begun).num, ((com + cb.paid / cb.begun).den : Int)]) rfl (Nat.zero_lt_succ _) (fun m hm1 hm2 => ?_)
          walk_at "ss"
          refine i_fI ⟨by decide, by decide, by decide⟩ ?_
          walk_at "ss"
          refine i_kIf (fun hb => ?_) (fun _ => ⟨d8, _, _, _, _, _, _, _, _, _, _, _, _, _, _, rfl, h8⟩)
          have e30 : (10 : Int) ^ (30 : Int).toNat < 2 ^ 100 := by decide
          have moreB : B 100 (com + cb.paid / cb.begun) := mx_B more0 (Int.le_of_eq (mx_eq hm1 hm2).symm) (by have := of_decide_eq_true hb; omega)
          have hflat : kind = "full" ∨ kind = "issued" := hk.elim .inl fun z => z.elim .inr fun z => absurd z e2
          obtain ⟨csr, ecs⟩ : ∃ csr, cs = cb :: csr := by
            cases cs with
            | nil => cases hcb
            | cons c csr => cases hcb; exact ⟨csr, rfl⟩
          have edr : cs.drop 1 = csr := by rw [ecs]; rfl
          rw [edr] at e1 ndr
          have Cr : CsOk 300 csr := ⟨by
            cases csr with
            | nil => exact absurd rfl e1
            | cons c r => exact Nat.succ_le_succ (Nat.zero_le _), by rw [ecs, List.length_cons] at k3; omega, ndr, fun c hc => C3.ok c (by rw [ecs]; exact List.mem_cons_of_mem _ hc)⟩
          have PR := plan_flat hflat Cr ⟨by omega, jok⟩ more0 (moreB.mono (by decide)) ljs
          have hcv : convB kind = false := by rcases hflat with rfl | rfl <;> decide
          have LR := less_run (com := com) hcv (by rw [← ecs]; exact DR.C.nd) js
          rw [edr]
          walk_at "ss"
          refine ⟨com + cb.paid / cb.begun, csr, js, kind, 300, 500000, rfl, rfl, PR.R, fun ms2 hp2 hs2 => ?_⟩
          have nd3 : ms2.Nodup := hp2.symm.nodup ndr
          walk_at "ss"
          refine i_keysCl ?_
          refine i_kLcX (fun c => qD ((runQ kind csr (com + cb.paid / cb.begun) js).1 c.nm)) (by rw [ecs, List.length_cons] at k3; omega) ?_ ?_
          · intro i c acc hx hi
            have hc := List.mem_of_getElem? hx
            walk_at "ss"
            refine i_dgetPr nd3 (hp2.symm.mem_iff.mp (List.mem_map_of_mem hc)) ?_
            exact i_ivx hx hi rfl rfl
          walk_at "ss"
          refine i_keysCl ?_
          refine i_kLcX (fun c => qD ((runQ kind cs com js).1 c.nm)) (by rw [ecs, List.length_cons] at k3; omega) ?_ ?_
          · intro i c acc hx hi
            have hc := List.mem_of_getElem? hx
            walk_at "ss"
            refine i_dgetPr nd2 (mem2 c (by rw [ecs]; exact List.mem_cons_of_mem _ hc)) ?_
            exact i_ivx hx hi rfl rfl
          have eq3 : (csr.map fun c => qD ((runQ kind cs com js).1 c.nm)) = (csr.map fun c => (runQ kind csr (com + cb.paid / cb.begun) js).1 c.nm).map qD := by
            rw [List.map_map]
            refine List.map_congr_left fun c hc => ?_
            have e := LR c hc
            rw [← ecs] at e
            exact congrArg qD e
          have eq4 : (csr.map fun c => qD ((runQ kind csr (com + cb.paid / cb.begun) js).1 c.nm)) = (csr.map fun c => (runQ kind csr (com + cb.paid / cb.begun) js).1 c.nm).map qD := by rw [List.map_map]; rfl
          rw [eq3, eq4]
          refine i_ne (okE_lst _) (okE_lst _) ?_
          rw [decide_eq_true rfl]
          walk_at "ss"
          exact ⟨d8, _, _, _, _, _, _, _, _, _, _, _, _, _, _, rfl, h8⟩
abbrev ct_law : Ct := fun os args Φ => ∃ zs : List Int, os = [] ∧ args = [.v (.lst (zs.map D.int))] ∧ zs.length ≤ 63 ∧ Φ (.bl true) []
theorem ok_law (T : Txt P K mg base) (F__law_fund : DefMk P w K mg base 37 "_law_fund" ["script", "k"] ct__law_fund) (F__law_right : DefOk P w K mg base 45 "_law_right" ["fund"] [] ct__law_right) {f0 : Addr} {fd0 : FuncData} (F0 : FunD K "law" "law" (defArgs s_law) (defBody s_law) (defScope s_law) [] [] f0 fd0) : FnOk P w K mg base CX0 46 f0 fd0 ["script"] (SpD ct_law) := by
  refine mk_law F0 sc_law (by rintro os args Φ ⟨zs, rfl, rfl, _⟩; rfl) (fun f cdv A outer s H E hr => ?b)
  case b =>
    have nd := (sc_law).nd
    have hu1 : (A.deeper (envOfC "law" (defScope s_law) s.heap.objs.size f cdv)).units + 1 < cLine := by have := hr.un; omega
    have hu64 : (A.deeper (envOfC "law" (defScope s_law) s.heap.objs.size f cdv)).units + 64 < cLine := by have := hr.un; omega
    have hu65 : (A.deeper (envOfC "law" (defScope s_law) s.heap.objs.size f cdv)).units + 65 < cLine := by have := hr.un; omega
    refine ⟨_, _,
      (jss_cons (js_forC PassesOwn.never rfl (ji_range1 rfl T.b_range (ja_cons (je_max2 rfl rfl T.b_max (ja_cons je_int (ja_cons (je_min2 rfl rfl T.b_min (ja_cons je_int (ja_cons (jy_len (K := K) rfl rfl T.b_len (ja_cons (je_var 0) ja_nil)) ja_nil))) ja_nil))) ja_nil)) (jg_name 1 nd rfl (by first | exact Or.inl rfl | exact Or.inr rfl)) (jss_cons (js_own 2 nd rfl (by first | exact Or.inl rfl | exact Or.inr rfl) (jcN F__law_fund (hr.mono (by decide)) rfl (ja_cons (je_var 0) (ja_cons (je_var 1) ja_nil))))
      (jss_one (js_for PassesOwn.never rfl (ji_range1 rfl T.b_range (ja_cons je_int ja_nil)) (jg_name 3 nd rfl (by first | exact Or.inl rfl | exact Or.inr rfl)) (jss_one (js_if (jt_not (jt_val (jcX F__law_right (hr.mono (by decide)) rfl (ja_consO 2 ja_nil)))) (jss_one (js_ret je_bl)) jss_nil))))))
      (jss_one (js_ret je_bl))), ?_⟩
    rintro os args Φ ⟨zs, rfl, rfl, hz, hΦ⟩
    walk_at "ss"
    have hb : ∃ n : Int, (if (if (List.length (zs.map D.int) : Int) < 4 then (List.length (zs.map D.int) : Int) else 4) > 1 then (if (List.length (zs.map D.int) : Int) < 4 then (List.length (zs.map D.int) : Int) else 4) else 1) = n ∧ 1 ≤ n ∧ n ≤ 4 := ⟨_, rfl, by split <;> (try split) <;> omega, by split <;> (try split) <;> omega⟩
    obtain ⟨n, en, n1, n4⟩ := hb
    rw [en]
    refine i_kR1 ⟨by omega, by omega⟩ ?_
    refine i_kForC (fun i S => ∃ x y z : Option _root_.S.Arg, S = ⟨[], [some (.v (.lst (zs.map D.int))), x, y, z]⟩) ⟨none, none, none, rfl⟩ ?h1 ?h2
    case h2 =>
      rintro S ⟨x, y, z, rfl⟩
      walk_at "ss"
      exact hΦ
    case h1 =>
      rintro i dd S hdd ⟨x, y, z, rfl⟩
      unfold rgD at hdd
      rw [List.getElem?_map] at hdd
      obtain ⟨k, hk, rfl⟩ := Option.map_eq_some_iff.mp hdd
      have hk4 : k < 4 := by
        have := List.mem_of_getElem? hk
        rw [List.mem_range] at this
        omega
      walk_at "ss"
      refine ⟨zs, 0 + (k : Int), rfl, rfl, by omega, by omega, fun d hd => ?_⟩
      walk_at "ss"
      refine i_kR1 ⟨by decide, by decide⟩ ?_
      refine i_kFor (fun j S => ∃ (d : D) (w : Option _root_.S.Arg), S = ⟨[some d], [some (.v (.lst (zs.map D.int))), some (.v (.int (0 + (k : Int)))), some (.o 0), w]⟩ ∧ Fund d) ⟨d, z, rfl, hd⟩ ?g1 ?g2
      case g1 =>
        rintro j d2 S hd2 ⟨d, w, rfl, hd⟩
        walk_at "ss"
        refine i_callX 0 ?_
        walk_at "ss"
        refine ⟨d, rfl, rfl, hd, fun d' hd' => ⟨d', rfl, ?_⟩⟩
        walk_at "ss"
        exact ⟨d', _, rfl, hd'⟩
      case g2 =>
        rintro S ⟨d, w, rfl, hd⟩
        exact ⟨_, _, _, rfl⟩
end
end K73
set_option Elab.async false
set_option linter.all false
set_option maxRecDepth 100000
set_option autoImplicit false
set_option maxHeartbeats 0
namespace K73
open PySem L2 S PyProof.Rows
section
variable {P : Program} {w : World} {K : PySem.W.Frag} {mg : Str → Option Value} {base h : Heap}
theorem txt (X : K.In h) (G : h.Ns mainGlobals mg) (bX : K.In base) (nos : h.NoSeer) (sn : seenS K = true) (tr : P.given.tree = none) (c : He.SaysD fa fn K) : Txt P K mg base where
  ns := noSeer_move X bX sn nos
  tr := tr
  g_is_int := by obtain ⟨fd, F⟩ := c.def_ 0 (d := d_is_int) rfl; exact ⟨_, fd, F, He.glo_ok X G (c.fact 0 (f := .glo "is_int") rfl)⟩
  g_common_divisor := by obtain ⟨fd, F⟩ := c.def_ 1 (d := d_common_divisor) rfl; exact ⟨_, fd, F, He.glo_ok X G (c.fact 1 (f := .glo "common_divisor") rfl)⟩
  g_is_number := by obtain ⟨fd, F⟩ := c.def_ 2 (d := d_is_number) rfl; exact ⟨_, fd, F, He.glo_ok X G (c.fact 2 (f := .glo "is_number") rfl)⟩
  g_pair_of := by obtain ⟨fd, F⟩ := c.def_ 3 (d := d_pair_of) rfl; exact ⟨_, fd, F, He.glo_ok X G (c.fact 3 (f := .glo "pair_of") rfl)⟩
  g_number_of := by obtain ⟨fd, F⟩ := c.def_ 4 (d := d_number_of) rfl; exact ⟨_, fd, F, He.glo_ok X G (c.fact 4 (f := .glo "number_of") rfl)⟩
  g_less := by obtain ⟨fd, F⟩ := c.def_ 5 (d := d_less) rfl; exact ⟨_, fd, F, He.glo_ok X G (c.fact 5 (f := .glo "less") rfl)⟩
  g_require_number := by obtain ⟨fd, F⟩ := c.def_ 6 (d := d_require_number) rfl; exact ⟨_, fd, F, He.glo_ok X G (c.fact 6 (f := .glo "require_number") rfl)⟩
  g_require_positive := by obtain ⟨fd, F⟩ := c.def_ 7 (d := d_require_positive) rfl; exact ⟨_, fd, F, He.glo_ok X G (c.fact 7 (f := .glo "require_positive") rfl)⟩
  g_plus := by obtain ⟨fd, F⟩ := c.def_ 8 (d := d_plus) rfl; exact ⟨_, fd, F, He.glo_ok X G (c.fact 8 (f := .glo "plus") rfl)⟩
  g_times := by obtain ⟨fd, F⟩ := c.def_ 9 (d := d_times) rfl; exact ⟨_, fd, F, He.glo_ok X G (c.fact 9 (f := .glo "times") rfl)⟩
  g_over := by obtain ⟨fd, F⟩ := c.def_ 10 (d := d_over) rfl; exact ⟨_, fd, F, He.glo_ok X G (c.fact 10 (f := .glo "over") rfl)⟩
  g_is_less := by obtain ⟨fd, F⟩ := c.def_ 11 (d := d_is_less) rfl; exact ⟨_, fd, F, He.glo_ok X G (c.fact 11 (f := .glo "is_less") rfl)⟩
  g_total := by obtain ⟨fd, F⟩ := c.def_ 12 (d := d_total) rfl; exact ⟨_, fd, F, He.glo_ok X G (c.fact 12 (f := .glo "total") rfl)⟩
  g_least_of := by obtain ⟨fd, F⟩ := c.def_ 13 (d := d_least_of) rfl; exact ⟨_, fd, F, He.glo_ok X G (c.fact 13 (f := .glo "least_of") rfl)⟩
  g_is_name := by obtain ⟨fd, F⟩ := c.def_ 14 (d := d_is_name) rfl; exact ⟨_, fd, F, He.glo_ok X G (c.fact 16 (f := .glo "is_name") rfl)⟩
  g_is_positive := by obtain ⟨fd, F⟩ := c.def_ 15 (d := d_is_positive) rfl; exact ⟨_, fd, F, He.glo_ok X G (c.fact 17 (f := .glo "is_positive") rfl)⟩
  g_is_positive_pair := by obtain ⟨fd, F⟩ := c.def_ 16 (d := d_is_positive_pair) rfl; exact ⟨_, fd, F, He.glo_ok X G (c.fact 22 (f := .glo "is_positive_pair") rfl)⟩
  g_are_classes := by obtain ⟨fd, F⟩ := c.def_ 17 (d := d_are_classes) rfl; exact ⟨_, fd, F, He.glo_ok X G (c.fact 23 (f := .glo "are_classes") rfl)⟩
  g_require_adjusting := by obtain ⟨fd, F⟩ := c.def_ 18 (d := d_require_adjusting) rfl; exact ⟨_, fd, F, He.glo_ok X G (c.fact 24 (f := .glo "require_adjusting") rfl)⟩
  g_shares_by := by obtain ⟨fd, F⟩ := c.def_ 19 (d := d_shares_by) rfl; exact ⟨_, fd, F, He.glo_ok X G (c.fact 25 (f := .glo "shares_by") rfl)⟩
  g_fallen := by obtain ⟨fd, F⟩ := c.def_ 20 (d := d_fallen) rfl; exact ⟨_, fd, F, He.glo_ok X G (c.fact 26 (f := .glo "fallen") rfl)⟩
  g_prices_behind := by obtain ⟨fd, F⟩ := c.def_ 21 (d := d_prices_behind) rfl; exact ⟨_, fd, F, He.glo_ok X G (c.fact 27 (f := .glo "prices_behind") rfl)⟩
  g_adjusted_prices := by obtain ⟨fd, F⟩ := c.def_ 22 (d := d_adjusted_prices) rfl; exact ⟨_, fd, F, He.glo_ok X G (c.fact 28 (f := .glo "adjusted_prices") rfl)⟩
  g_converted_shares := by obtain ⟨fd, F⟩ := c.def_ 23 (d := d_converted_shares) rfl; exact ⟨_, fd, F, He.glo_ok X G (c.fact 29 (f := .glo "converted_shares") rfl)⟩
  g__law_fund := by obtain ⟨fd, F⟩ := c.def_ 24 (d := d__law_fund) rfl; exact ⟨_, fd, F, He.glo_ok X G (c.fact 30 (f := .glo "_law_fund") rfl)⟩
  g__law_pick := by obtain ⟨fd, F⟩ := c.def_ 25 (d := d__law_pick) rfl; exact ⟨_, fd, F, He.glo_ok X G (c.fact 31 (f := .glo "_law_pick") rfl)⟩
  g__law_made := by obtain ⟨fd, F⟩ := c.def_ 26 (d := d__law_made) rfl; exact ⟨_, fd, F, He.glo_ok X G (c.fact 32 (f := .glo "_law_made") rfl)⟩
  g__law_pair := by obtain ⟨fd, F⟩ := c.def_ 27 (d := d__law_pair) rfl; exact ⟨_, fd, F, He.glo_ok X G (c.fact 33 (f := .glo "_law_pair") rfl)⟩
  g__law_sum := by obtain ⟨fd, F⟩ := c.def_ 28 (d := d__law_sum) rfl; exact ⟨_, fd, F, He.glo_ok X G (c.fact 34 (f := .glo "_law_sum") rfl)⟩
  g__law_times := by obtain ⟨fd, F⟩ := c.def_ 29 (d := d__law_times) rfl; exact ⟨_, fd, F, He.glo_ok X G (c.fact 35 (f := .glo "_law_times") rfl)⟩
  g__law_over := by obtain ⟨fd, F⟩ := c.def_ 30 (d := d__law_over) rfl; exact ⟨_, fd, F, He.glo_ok X G (c.fact 36 (f := .glo "_law_over") rfl)⟩
  g__law_less := by obtain ⟨fd, F⟩ := c.def_ 31 (d := d__law_less) rfl; exact ⟨_, fd, F, He.glo_ok X G (c.fact 37 (f := .glo "_law_less") rfl)⟩
  g__law_some := by obtain ⟨fd, F⟩ := c.def_ 32 (d := d__law_some) rfl; exact ⟨_, fd, F, He.glo_ok X G (c.fact 38 (f := .glo "_law_some") rfl)⟩
  g__law_classes := by obtain ⟨fd, F⟩ := c.def_ 33 (d := d__law_classes) rfl; exact ⟨_, fd, F, He.glo_ok X G (c.fact 39 (f := .glo "_law_classes") rfl)⟩
  g__law_issues := by obtain ⟨fd, F⟩ := c.def_ 34 (d := d__law_issues) rfl; exact ⟨_, fd, F, He.glo_ok X G (c.fact 40 (f := .glo "_law_issues") rfl)⟩
  g__law_mixed := by obtain ⟨fd, F⟩ := c.def_ 35 (d := d__law_mixed) rfl; exact ⟨_, fd, F, He.glo_ok X G (c.fact 41 (f := .glo "_law_mixed") rfl)⟩
  g__law_mean_right := by obtain ⟨fd, F⟩ := c.def_ 36 (d := d__law_mean_right) rfl; exact ⟨_, fd, F, He.glo_ok X G (c.fact 42 (f := .glo "_law_mean_right") rfl)⟩
  g__law_few := by obtain ⟨fd, F⟩ := c.def_ 37 (d := d__law_few) rfl; exact ⟨_, fd, F, He.glo_ok X G (c.fact 43 (f := .glo "_law_few") rfl)⟩
  g__law_passed_on_right := by obtain ⟨fd, F⟩ := c.def_ 38 (d := d__law_passed_on_right) rfl; exact ⟨_, fd, F, He.glo_ok X G (c.fact 44 (f := .glo "_law_passed_on_right") rfl)⟩
  g__law_scaled_right := by obtain ⟨fd, F⟩ := c.def_ 39 (d := d__law_scaled_right) rfl; exact ⟨_, fd, F, He.glo_ok X G (c.fact 45 (f := .glo "_law_scaled_right") rfl)⟩
  g__law_right := by obtain ⟨fd, F⟩ := c.def_ 40 (d := d__law_right) rfl; exact ⟨_, fd, F, He.glo_ok X G (c.fact 46 (f := .glo "_law_right") rfl)⟩
  g_law := by obtain ⟨fd, F⟩ := c.def_ 41 (d := d_law) rfl; exact ⟨_, fd, F, He.glo_ok X G (c.fact 47 (f := .glo "law") rfl)⟩
  c_CONVERTED := He.str_ok X G (c.fact 20 (f := .str "CONVERTED" "converted") rfl)
  c_FULL := He.str_ok X G (c.fact 18 (f := .str "FULL" "full") rfl)
  c_ISSUED := He.str_ok X G (c.fact 19 (f := .str "ISSUED" "issued") rfl)
  c_LETTERS := He.str_ok X G (c.fact 14 (f := .str "LETTERS" "abcdefghijklmnopqrstuvwxyz") rfl)
  c_MOST_CLASSES := He.int_ok X G (c.fact 21 (f := .int "MOST_CLASSES" 12) rfl)
  c_MOST_LETTERS := He.int_ok X G (c.fact 15 (f := .int "MOST_LETTERS" 8) rfl)
  b_abs := He.free_ok X G (c.fact 49 (f := .free "abs") rfl)
  b_all := He.free_ok X G (c.fact 50 (f := .free "all") rfl)
  b_bool := He.free_ok X G (c.fact 51 (f := .free "bool") rfl)
  b_dict := He.free_ok X G (c.fact 52 (f := .free "dict") rfl)
  b_enumerate := He.free_ok X G (c.fact 53 (f := .free "enumerate") rfl)
  b_int := He.free_ok X G (c.fact 54 (f := .free "int") rfl)
  b_isinstance := He.free_ok X G (c.fact 55 (f := .free "isinstance") rfl)
  b_len := He.free_ok X G (c.fact 56 (f := .free "len") rfl)
  b_list := He.free_ok X G (c.fact 57 (f := .free "list") rfl)
  b_max := He.free_ok X G (c.fact 58 (f := .free "max") rfl)
  b_min := He.free_ok X G (c.fact 59 (f := .free "min") rfl)
  b_range := He.free_ok X G (c.fact 60 (f := .free "range") rfl)
  b_sorted := He.free_ok X G (c.fact 61 (f := .free "sorted") rfl)
  b_str := He.free_ok X G (c.fact 62 (f := .free "str") rfl)
  b_tuple := He.free_ok X G (c.fact 64 (f := .free "tuple") rfl)
theorem all_ok (T : Txt P K mg base) {f : Addr} {fd : FuncData} (F : FunD K "law" "law" (defArgs s_law) (defBody s_law) (defScope s_law) [] [] f fd) : FnOk P w K mg base CX0 46 f fd ["script"] (SpD ct_law) := by
  have F_is_int : DefOk P w K mg base 37 "is_int" ["value"] [] ct_is_int := ok_is_int T 
  have F_common_divisor : DefOk P w K mg base 37 "common_divisor" ["one", "other"] [] ct_common_divisor := ok_common_divisor T 
  have F_is_number : DefOk P w K mg base 38 "is_number" ["value"] [] ct_is_number := ok_is_number T F_is_int F_common_divisor
  have F_pair_of : DefOk P w K mg base 37 "pair_of" ["one"] [] ct_pair_of := ok_pair_of T 
  have F_number_of : DefOk P w K mg base 38 "number_of" ["top", "bottom"] [] ct_number_of := ok_number_of T F_common_divisor
  have F_less : DefOk P w K mg base 38 "less" ["one", "other"] [] ct_less := ok_less T F_pair_of
  have F_require_number : DefOk P w K mg base 39 "require_number" ["value", "least"] [.non] ct_require_number := ok_require_number T F_less F_is_number
  have F_require_positive : DefOk P w K mg base 39 "require_positive" ["value"] [] ct_require_positive := ok_require_positive T F_less F_is_number
  have F_total : DefOk P w K mg base 39 "total" ["numbers"] [] ct_total := ok_total T F_pair_of F_number_of
  have F_plus : DefOk P w K mg base 40 "plus" ["one", "other"] [] ct_plus := ok_plus T F_require_number F_total
  have F_times : DefOk P w K mg base 40 "times" ["one", "other"] [] ct_times := ok_times T F_require_number F_pair_of F_number_of
  have F_over : DefOk P w K mg base 40 "over" ["one", "other"] [] ct_over := ok_over T F_require_number F_pair_of F_number_of
  have F_is_less : DefOk P w K mg base 40 "is_less" ["one", "other"] [] ct_is_less := ok_is_less T F_require_number F_less
  have F_least_of : DefOk P w K mg base 39 "least_of" ["numbers"] [] ct_least_of := ok_least_of T F_less
  have F_is_name : DefOk P w K mg base 37 "is_name" ["value"] [] ct_is_name := ok_is_name T 
  have F_is_positive : DefOk P w K mg base 39 "is_positive" ["value"] [] ct_is_positive := ok_is_positive T F_less F_is_number
  have F_is_positive_pair : DefOk P w K mg base 40 "is_positive_pair" ["value"] [] ct_is_positive_pair := ok_is_positive_pair T F_is_positive
  have F_are_classes : DefOk P w K mg base 41 "are_classes" ["value"] [] ct_are_classes := ok_are_classes T F_is_positive_pair F_is_name
  have F_require_adjusting : DefOk P w K mg base 42 "require_adjusting" ["common", "classes", "issues", "kind"] [] ct_require_adjusting := ok_require_adjusting T F_require_positive F_are_classes F_is_positive_pair
  have F_shares_by : DefOk P w K mg base 41 "shares_by" ["classes", "prices"] [] ct_shares_by := ok_shares_by T F_total F_over
  have F_fallen : DefOk P w K mg base 41 "fallen" ["price", "issue", "ahead", "kind"] [] ct_fallen := ok_fallen T F_is_less F_least_of F_over F_plus F_times
  have F_prices_behind : DefOk P w K mg base 42 "prices_behind" ["common", "classes", "issues", "kind"] [] ct_prices_behind := ok_prices_behind T F_plus F_shares_by F_fallen F_over
  have F_adjusted_prices : DefOk P w K mg base 43 "adjusted_prices" ["common", "classes", "issues", "kind"] [] ct_adjusted_prices := ok_adjusted_prices T F_require_adjusting F_prices_behind
  have F_converted_shares : DefOk P w K mg base 43 "converted_shares" ["common", "classes", "issues", "kind"] [] ct_converted_shares := ok_converted_shares T F_require_adjusting F_prices_behind F_plus F_shares_by
  have F__law_fund : DefMk P w K mg base 37 "_law_fund" ["script", "k"] ct__law_fund := ok__law_fund T 
  have F__law_pick : DefOk P w K mg base 37 "_law_pick" ["fund", "many"] [] ct__law_pick := ok__law_pick T 
  have F__law_made : DefOk P w K mg base 37 "_law_made" ["top", "bottom"] [] ct__law_made := ok__law_made T 
  have F__law_pair : DefOk P w K mg base 37 "_law_pair" ["one"] [] ct__law_pair := ok__law_pair T 
  have F__law_sum : DefOk P w K mg base 38 "_law_sum" ["numbers"] [] ct__law_sum := ok__law_sum T F__law_pair F__law_made
  have F__law_times : DefOk P w K mg base 38 "_law_times" ["one", "two"] [] ct__law_times := ok__law_times T F__law_pair F__law_made
  have F__law_over : DefOk P w K mg base 38 "_law_over" ["one", "two"] [] ct__law_over := ok__law_over T F__law_pair F__law_made
  have F__law_less : DefOk P w K mg base 38 "_law_less" ["one", "two"] [] ct__law_less := ok__law_less T F__law_pair
  have F__law_some : DefOk P w K mg base 38 "_law_some" ["fund"] [] ct__law_some := ok__law_some T F__law_pick F__law_made
  have F__law_classes : DefOk P w K mg base 39 "_law_classes" ["fund", "most"] [] ct__law_classes := ok__law_classes T F__law_some F__law_pick F__law_made
  have F__law_issues : DefOk P w K mg base 39 "_law_issues" ["fund", "classes", "most"] [] ct__law_issues := ok__law_issues T F__law_pick F__law_over F__law_times F__law_some
  have F__law_mixed : DefOk P w K mg base 38 "_law_mixed" ["fund", "items"] [] ct__law_mixed := ok__law_mixed T F__law_pick
  have F__law_mean_right : DefOk P w K mg base 44 "_law_mean_right" ["fund", "common", "classes", "issues"] [] ct__law_mean_right := ok__law_mean_right T F__law_sum F__law_over F__law_mixed F__law_times F__law_less F_adjusted_prices
  have F__law_few : DefOk P w K mg base 38 "_law_few" ["common", "classes", "issues", "others", "least", "bound"] [] ct__law_few := ok__law_few T F__law_pair
  have F__law_passed_on_right : DefOk P w K mg base 44 "_law_passed_on_right" ["common", "classes", "issues", "kind", "at"] [] ct__law_passed_on_right := ok__law_passed_on_right T F_adjusted_prices F__law_sum F__law_over F__law_times F__law_pair F_converted_shares
  have F__law_scaled_right : DefOk P w K mg base 44 "_law_scaled_right" ["common", "classes", "issues", "kind", "factors", "prices", "shares"] [] ct__law_scaled_right := ok__law_scaled_right T F__law_times F_adjusted_prices F_converted_shares
  have F__law_right : DefOk P w K mg base 45 "_law_right" ["fund"] [] ct__law_right := ok__law_right T F__law_classes F__law_some F__law_pick F__law_over F__law_issues F__law_few F__law_mean_right F_adjusted_prices F__law_passed_on_right F_converted_shares F__law_sum F__law_scaled_right F__law_pair
  exact ok_law T F__law_fund F__law_right F
end
end K73
open PySem PySem.W PySem.Calls PyProof.Rows
theorem PySem.Challenge.cw_salesplit_k73_whole_rows_of_issues_holds : PySem.Challenge.rw_salesplit_k73_whole_rows_of_issues.Holds := by
  w_on; o_law
  refine HandSHeadRun.head_any (r := OpenLaw.row PySem.Challenge.rw_salesplit_k73_whole_rows_of_issues) (q := view (OpenLaw.row PySem.Challenge.rw_salesplit_k73_whole_rows_of_issues).prog [57]) (H := K73.hk) (ob := K73.ob) (M := 4000) (loose := K73.loose)
    (d := HandSHeadRun.topDef (OpenLaw.row PySem.Challenge.rw_salesplit_k73_whole_rows_of_issues).prog 57) (kwd := []) K73.ob_eq (by kernel_rfl) (fun s => by kernel_rfl) K73.run (by kernel_rfl) (by kernel_rfl) (by kernel_rfl)
    (by rfl) (by first | assumption | decide +kernel) (by decide +kernel) ⟨rfl, rfl, rfl, rfl, rfl, by decide +kernel⟩ ?hw ?hc
  case hw => w_witness2
  case hc =>
    refine S.walk_ofS (l := PySem.Challenge.rw_salesplit_k73_whole_rows_of_issues) (n := 63) (k := 46) (x := "script") (CX := L2.CX0) rfl (by decide) (by kernel_rfl) ⟨rfl, by decide, by decide⟩ (by kernel_rfl) ?F (fun _ _ _ _ z => z)
    intro wo mm fo hp Y G nos g0
    obtain ⟨K, kx, nl, sn, c⟩ := Y
    have g1 : mm ("law" : PySem.Str) = some (.ref fo) := by
      have e : (HandSHeadRun.topDef (OpenLaw.row PySem.Challenge.rw_salesplit_k73_whole_rows_of_issues).prog 57).name = ("law" : PySem.Str) := by kernel_rfl
      rw [← e]
      exact g0
    obtain ⟨fd, F⟩ := c.def_ 41 (d := K73.d_law) rfl
    have e := g1.symm.trans (He.glo_ok kx G (c.fact 47 (f := .glo "law") rfl))
    cases e
    have b := L2.FunD.bindsA (ps := ["script"]) F fun _ _ _ _ _ _ us hl => match us, hl with | [_], _ => rfl
    refine ⟨K, fd, S.SpD K73.ct_law, kx, fun s v => b s [v] rfl, fun H a ns hl _ hS => S.law_start nl (fun zs Φ hz hΦ => ⟨zs, rfl, rfl, hz, hΦ⟩) H a ns hl hS, fun base bX _ => K73.all_ok (K73.txt kx G bX nos sn rfl c) F⟩
