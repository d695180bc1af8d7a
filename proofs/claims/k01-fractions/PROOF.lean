import PyProof.Rows.All
import Wide.All
import OpenK.AllK
import Wide.FinOn
import HandS.ForMost
import HandS.ForExc
import HandS.Zip
import HandS.Gcd
import HandS.Wide
import HandS.Deep
import HandS.Flow
import HandS.TupMul
import HandS.TupAny
import HandS.Style
import HandS.IsInst
import KE.DataEq
import KE.LtData
import PySem.Challenge.RW_samebehind_k01_fractions
set_option Elab.async false
set_option linter.all false
set_option maxRecDepth 100000
set_option maxHeartbeats 3000000
namespace Zd
open PySem PySem.Spec
open PyProof.Rows L2

abbrev D := PyData
/-- a run's end: a value, an error of a class with its argument, or nothing told -/
inductive Rs (α : Type) where
  | ok (a : α)
  | ex (c : Str) (a : D)
  | no
def Rs.bind {α β : Type} (x : Rs α) (f : α → Rs β) : Rs β := match x with
  | .ok a => f a
  | .ex c a => .ex c a
  | .no => .no
instance : Monad Rs where
  pure := .ok
  bind := Rs.bind
theorem pure_ok {α : Type} (a : α) : (pure a : Rs α) = .ok a := rfl
theorem ok_bind {α β : Type} (a : α) (f : α → Rs β) : ((Rs.ok a) >>= f) = f a := rfl
theorem ex_bind {α β : Type} (c : Str) (a : D) (f : α → Rs β) : ((Rs.ex c a : Rs α) >>= f) = .ex c a := rfl
theorem no_bind {α β : Type} (f : α → Rs β) : ((Rs.no : Rs α) >>= f) = .no := rfl
def Out {α : Type} (r : Rs α) (q : α → Prop) (e : Str → D → Prop) : Prop := match r with
  | .ok a => q a
  | .ex c a => e c a
  | .no => False
theorem Out.bind {α β : Type} {x : Rs α} {f : α → Rs β} {q : β → Prop} {e : Str → D → Prop} (h : Out (x >>= f) q e) : Out x (fun a => Out (f a) q e) e := by
  cases x with
  | ok a => exact h
  | ex c a => exact h
  | no => exact h
theorem Out.mono {α : Type} {r : Rs α} {q q' : α → Prop} {e e' : Str → D → Prop} (h : Out r q e) (hq : ∀ a, q a → q' a) (he : ∀ c a, e c a → e' c a) : Out r q' e' := by
  cases r with
  | ok a => exact hq a h
  | ex c a => exact he c a h
  | no => exact h

abbrev Om := Addr → Prop
mutual
/-- v stands for d, in lists that nobody may change (ω: those that may be) -/
inductive Rep (K : PySem.W.Frag) (ω : Om) (H : Hp) : V → D → Prop
  | non : Rep K ω H .non .none
  | bl (b : Bool) : Rep K ω H (.bl b) (.bool b)
  | int (i : Int) : Rep K ω H (.int i) (.int i)
  | str (x : Str) : Rep K ω H (.str x) (.str x)
  | tup {a : Addr} {xs : List V} {ds : List D} : SqT K H a xs → Reps K ω H xs ds → Rep K ω H (.ref a) (.tuple ds)
  | lst {a : Addr} {xs : List V} {ds : List D} : (Rd H a (.lst xs) ∧ ¬ ω a) → Reps K ω H xs ds → Rep K ω H (.ref a) (.list ds)
inductive Reps (K : PySem.W.Frag) (ω : Om) (H : Hp) : List V → List D → Prop
  | nil : Reps K ω H [] []
  | cons {v : V} {vs : List V} {d : D} {ds : List D} : Rep K ω H v d → Reps K ω H vs ds → Reps K ω H (v :: vs) (d :: ds)
end

/-- what stays of data that nobody may change -/
structure Grow (ω : Om) (H : Hp) (ω' : Om) (H' : Hp) : Prop where
  keep : ∀ a o, H a = some o → ¬ ω a → H' a = some o
  wf : ∀ a, ω a → ∃ xs, H a = some (.lst xs)
  om : ∀ a, ω' a → ω a ∨ H a = none
section
variable {K : PySem.W.Frag} {ω ω' ω'' : Om} {H H' H'' : Hp}
theorem Grow.nl (g : Grow ω H ω' H') {a : Addr} {o : HO} (h : H a = some o) (hn : ∀ xs, o ≠ .lst xs) : H' a = some o := by
  refine g.keep a o h fun z => ?_
  obtain ⟨xs, e⟩ := g.wf a z
  rw [h] at e
  exact hn xs (Option.some.inj e)
theorem Grow.sqT (g : Grow ω H ω' H') {a : Addr} {xs : List V} (h : SqT K H a xs) : SqT K H' a xs := by
  rcases h with (h
            | ⟨o, h⟩) | h
  · exact .inl (.inl (g.nl h fun _ z => nomatch z))
  · exact .inl (.inr ⟨o, g.nl h fun _ z => nomatch z⟩)
  · exact .inr h
theorem Grow.rdl (g : Grow ω H ω' H') {a : Addr} {xs : List V} (h : Rd H a (.lst xs) ∧ ¬ ω a) : Rd H' a (.lst xs) ∧ ¬ ω' a := by
  obtain ⟨h, n⟩ := h
  refine ⟨?_, fun z => ?_⟩
  · rcases h with h | ⟨o, h⟩
    · exact .inl (g.keep _ _ h n)
    · exact .inr ⟨o, g.keep _ _ h n⟩
  · rcases g.om a z with z | z
    · exact n z
    · rcases h with h | ⟨o, h⟩ <;> (rw [h] at z; cases z)
mutual
theorem Rep.mono (g : Grow ω H ω' H') : ∀ (d : D) (v : V), Rep K ω H v d → Rep K ω' H' v d
  | .none, _, h => by cases h; exact .non
  | .bool b, _, h => by cases h; exact .bl b
  | .int i, _, h => by cases h; exact .int i
  | .str x, _, h => by cases h; exact .str x
  | .tuple ds, _, h => by
    cases h with
    | tup hs ha => exact .tup (g.sqT hs) (Reps.mono g ds _ ha)
  | .list ds, _, h => by
    cases h with
    | lst hs ha =>
      exact .lst (g.rdl hs) (Reps.mono g ds _ ha)
  | .dict _, _, h => by cases h
theorem Reps.mono (g : Grow ω H ω' H') : ∀ (ds : List D) (vs : List V), Reps K ω H vs ds → Reps K ω' H' vs ds
  | [], _, h => by cases h; exact .nil
  | d :: ds, _, h => by
    cases h with
    | cons h1 h2 => exact .cons (Rep.mono g d _ h1) (Reps.mono g ds _ h2)
end
theorem Rep.up {v : V} {d : D} (h : Rep K ω H v d) (g : Grow ω H ω' H') : Rep K ω' H' v d := Rep.mono g d v h
theorem Reps.up {v : List V} {d : List D} (h : Reps K ω H v d) (g : Grow ω H ω' H') : Reps K ω' H' v d := Reps.mono g d v h
theorem Reps.length : ∀ {vs : List V} {ds : List D}, Reps K ω H vs ds → vs.length = ds.length
  | _, [], h => by cases h; rfl
  | _, _ :: _, h => by
    cases h with
    | cons _ t => simp [Reps.length t]
theorem Reps.get : ∀ {vs : List V} {ds : List D} {i : Nat} {v : V}, Reps K ω H vs ds → vs[i]? = some v → ∃ d, ds[i]? = some d ∧ Rep K ω H v d
  | _, [], _, _, h, e => by cases h; simp at e
  | _, _ :: _, 0, _, h, e => by
    cases h with
    | cons r _ => simp at e; subst e; exact ⟨_, rfl, r⟩
  | _, _ :: _, i + 1, _, h, e => by
    cases h with
    | cons _ t => exact Reps.get (i := i) t (by simpa using e)
theorem Reps.getD : ∀ {vs : List V} {ds : List D} {i : Nat} {d : D}, Reps K ω H vs ds → ds[i]? = some d → ∃ v, vs[i]? = some v ∧ Rep K ω H v d
  | _, [], _, _, h, e => by cases h; simp at e
  | _, _ :: _, 0, _, h, e => by
    cases h with
    | cons r _ => simp at e; subst e; exact ⟨_, rfl, r⟩
  | _, _ :: _, i + 1, _, h, e => by
    cases h with
    | cons _ t => exact Reps.getD (i := i) t (by simpa using e)
theorem Reps.append : ∀ {vs ws : List V} {ds es : List D}, Reps K ω H vs ds → Reps K ω H ws es → Reps K ω H (vs ++ ws) (ds ++ es)
  | _, _, [], _, h, t => by cases h; exact t
  | _, _, _ :: _, _, h, t => by
    cases h with
    | cons r q => exact .cons r (Reps.append q t)
theorem Reps.take : ∀ {vs : List V} {ds : List D} (n : Nat), Reps K ω H vs ds → Reps K ω H (vs.take n) (ds.take n)
  | _, [], n, h => by cases h; simp; exact .nil
  | _, _ :: _, 0, h => .nil
  | _, _ :: _, n + 1, h => by
    cases h with
    | cons r q => exact .cons r (Reps.take n q)
theorem Reps.drop : ∀ {vs : List V} {ds : List D} (n : Nat), Reps K ω H vs ds → Reps K ω H (vs.drop n) (ds.drop n)
  | _, [], n, h => by cases h; simp; exact .nil
  | _, _ :: _, 0, h => h
  | _, _ :: _, n + 1, h => by
    cases h with
    | cons r q => exact Reps.drop n q
theorem Reps.snoc {vs : List V} {ds : List D} {v : V} {d : D} (h : Reps K ω H vs ds) (r : Rep K ω H v d) : Reps K ω H (vs ++ [v]) (ds ++ [d]) := h.append (.cons r .nil)
theorem Reps.rep {vs : List V} {ds : List D} (h : Reps K ω H vs ds) : ∀ k : Nat, Reps K ω H (List.replicate k vs).flatten (List.replicate k ds).flatten
  | 0 => .nil
  | k + 1 => by
    rw [List.replicate_succ, List.replicate_succ,
              List.flatten_cons, List.flatten_cons]
    exact h.append (h.rep k)
theorem Reps.dropLast {vs : List V} {ds : List D} (h : Reps K ω H vs ds) : Reps K ω H vs.dropLast ds.dropLast := by
  rw [List.dropLast_eq_take, List.dropLast_eq_take, h.length]
  exact h.take _
theorem Reps.set {v : V} {d : D} (r : Rep K ω H v d) : ∀ {vs : List V} {ds : List D} (i : Nat), Reps K ω H vs ds → Reps K ω H (vs.set i v) (ds.set i d)
  | _, [], _, h => by cases h; exact .nil
  | _, _ :: _, 0, h => by
    cases h with
    | cons _ t => exact .cons r t
  | _, _ :: _, i + 1, h => by
    cases h with
    | cons q t => exact .cons q (Reps.set r i t)
theorem Reps.eraseIdx : ∀ {vs : List V} {ds : List D} (i : Nat), Reps K ω H vs ds → Reps K ω H (vs.eraseIdx i) (ds.eraseIdx i)
  | _, [], _, h => by cases h; exact .nil
  | _, _ :: _, 0, h => by
    cases h with
    | cons _ t => exact t
  | _, _ :: _, i + 1, h => by
    cases h with
    | cons q t => exact .cons q (Reps.eraseIdx i t)
theorem Reps.reverse {vs : List V} {ds : List D} (h : Reps K ω H vs ds) : Reps K ω H vs.reverse ds.reverse := by
  induction ds generalizing vs with
  | nil => cases h; exact .nil
  | cons d ds ih =>
    cases h with
    | cons r q =>
      rw [List.reverse_cons,
                List.reverse_cons]
      exact (ih q).append (.cons r .nil)
mutual
theorem Rep.dp : ∀ (d : D) (v : V), Rep K ω H v d → Dp K H v d
  | .none, _, h => by cases h; exact .non
  | .bool b, _, h => by cases h; exact .bl b
  | .int i, _, h => by cases h; exact .int i
  | .str x, _, h => by cases h; exact .str x
  | .tuple ds, _, h => by
    cases h with
    | tup hs ha => exact .tup hs (Reps.dp ds _ ha)
  | .list ds, _, h => by
    cases h with
    | lst hs ha =>
      exact .lst (.inl hs.1) (Reps.dp ds _ ha)
  | .dict _, _, h => by cases h
theorem Reps.dp : ∀ (ds : List D) (vs : List V), Reps K ω H vs ds → DpAll K H vs ds
  | [], _, h => by cases h; exact .nil
  | d :: ds, _, h => by
    cases h with
    | cons h1 h2 => exact .cons (Rep.dp d _ h1) (Reps.dp ds _ h2)
end
end

/-- how a slot's value is held: nobody may change it; a list of ours (its items of one shape, or each of its own) -/
inductive Sh where
  | im
  | mu (s : Sh)
  | rc (ss : List Sh)
mutual
inductive Own (K : PySem.W.Frag) (ω : Om) (H : Hp) : Sh → V → D → List Addr → Prop
  | im {v : V} {d : D} : Rep K ω H v d → Own K ω H .im v d []
  | mu {s : Sh} {a : Addr} {vs : List V} {ds : List D} {f : List Addr} : H a = some (.lst vs) → Owns K ω H (List.replicate ds.length s) vs ds f → Own K ω H (.mu s) (.ref a) (.list ds) (a :: f)
  | rc {ss : List Sh} {a : Addr} {vs : List V} {ds : List D} {f : List Addr} : H a = some (.lst vs) → Owns K ω H ss vs ds f → Own K ω H (.rc ss) (.ref a) (.list ds) (a :: f)
inductive Owns (K : PySem.W.Frag) (ω : Om) (H : Hp) : List Sh → List V → List D → List Addr → Prop
  | nil : Owns K ω H [] [] [] []
  | cons {s : Sh} {ss : List Sh} {v : V} {vs : List V} {d : D} {ds : List D} {f g : List Addr} : Own K ω H s v d f → Owns K ω H ss vs ds g → Owns K ω H (s :: ss) (v :: vs) (d :: ds) (f ++ g)
end
section
variable {K : PySem.W.Frag} {ω ω' ω'' : Om} {H H' H'' : Hp}
mutual
theorem Own.mono (g : Grow ω H ω' H') : ∀ (d : D) (s : Sh) (v : V) (f : List Addr), (∀ a ∈ f, H' a = H a) → Own K ω H s v d f → Own K ω' H' s v d f
  | .list ds, _, _, _, hf, h => by
    cases h with
    | im r => exact .im (r.up g)
    | mu e t => exact .mu ((hf _ List.mem_cons_self).trans e) (Owns.mono g ds _ _ _ (fun a ha => hf a (List.mem_cons_of_mem _ ha)) t)
    | rc e t => exact .rc ((hf _ List.mem_cons_self).trans e) (Owns.mono g ds _ _ _ (fun a ha => hf a (List.mem_cons_of_mem _ ha)) t)
  | .none, _, _, _, _, h => by cases h with | im r => exact .im (r.up g)
  | .bool _, _, _, _, _, h => by cases h with | im r => exact .im (r.up g)
  | .int _, _, _, _, _, h => by cases h with | im r => exact .im (r.up g)
  | .str _, _, _, _, _, h => by cases h with | im r => exact .im (r.up g)
  | .tuple _, _, _, _, _, h => by cases h with | im r => exact .im (r.up g)
  | .dict _, _, _, _, _, h => by cases h with | im r => exact .im (r.up g)
theorem Owns.mono (g : Grow ω H ω' H') : ∀ (ds : List D) (ss : List Sh) (vs : List V) (f : List Addr), (∀ a ∈ f, H' a = H a) → Owns K ω H ss vs ds f → Owns K ω' H' ss vs ds f
  | [], _, _, _, _, h => by cases h; exact .nil
  | d :: ds, _, _, _, hf, h => by
    cases h with
    | cons r t => exact .cons (Own.mono g d _ _ _ (fun a ha => hf a (List.mem_append_left _ ha)) r) (Owns.mono g ds _ _ _ (fun a ha => hf a (List.mem_append_right _ ha)) t)
end
mutual
theorem Own.lsts : ∀ (d : D) (s : Sh) (v : V) (f : List Addr), Own K ω H s v d f → ∀ a ∈ f, ∃ xs, H a = some (.lst xs)
  | .list ds, _, _, _, h => by
    cases h with
    | im r => exact fun _ z => absurd z (by simp)
    | mu e t =>
      intro a ha
      rcases (List.mem_cons.mp ha) with rfl | ha
      · exact ⟨_, e⟩
      · exact Owns.lsts ds _ _ _ t a ha
    | rc e t =>
      intro a ha
      rcases (List.mem_cons.mp ha) with rfl | ha
      · exact ⟨_, e⟩
      · exact Owns.lsts ds _ _ _ t a ha
  | .none, _, _, _, h => by cases h with | im r => exact fun _ z => absurd z (by simp)
  | .bool _, _, _, _, h => by cases h with | im r => exact fun _ z => absurd z (by simp)
  | .int _, _, _, _, h => by cases h with | im r => exact fun _ z => absurd z (by simp)
  | .str _, _, _, _, h => by cases h with | im r => exact fun _ z => absurd z (by simp)
  | .tuple _, _, _, _, h => by cases h with | im r => exact fun _ z => absurd z (by simp)
  | .dict _, _, _, _, h => by cases h with | im r => exact fun _ z => absurd z (by simp)
theorem Owns.lsts : ∀ (ds : List D) (ss : List Sh) (vs : List V) (f : List Addr), Owns K ω H ss vs ds f → ∀ a ∈ f, ∃ xs, H a = some (.lst xs)
  | [], _, _, _, h => by cases h; exact fun _ z => absurd z (by simp)
  | d :: ds, _, _, _, h => by
    cases h with
    | cons r t =>
      intro a ha
      rcases (List.mem_append.mp ha) with ha | ha
      · exact Own.lsts d _ _ _ r a ha
      · exact Owns.lsts ds _ _ _ t a ha
end
theorem Owns.ims : ∀ {ds : List D} {vs : List V} {f : List Addr}, Owns K ω H (List.replicate ds.length .im) vs ds f → Reps K ω H vs ds ∧ f = []
  | [], _, _, h => by cases h; exact ⟨.nil, rfl⟩
  | d :: ds, _, _, h => by
    rw [List.length_cons, List.replicate_succ] at h
    cases h with
    | cons r t =>
      obtain ⟨q, rfl⟩ := Owns.ims t
      cases r with
      | im r => exact ⟨.cons r q, rfl⟩
theorem Owns.of : ∀ {ds : List D} {vs : List V}, Reps K ω H vs ds → Owns K ω H (List.replicate ds.length .im) vs ds []
  | [], _, h => by cases h; exact .nil
  | d :: ds, _, h => by
    cases h with
    | cons r t => exact .cons (f := []) (g := []) (.im r) (Owns.of t)
theorem Own.mui {a : Addr} {vs : List V} {ds : List D} (h : H a = some (.lst vs)) (r : Reps K ω H vs ds) : Own K ω H (.mu .im) (.ref a) (.list ds) [a] := .mu h (Owns.of r)
theorem Own.mui_inv {v : V} {d : D} {f : List Addr} (h : Own K ω H (.mu .im) v d f) : ∃ a vs ds, v = .ref a ∧ d = .list ds ∧ f = [a] ∧ H a = some (.lst vs) ∧ Reps K ω H vs ds := by
  cases h with
  | mu e t =>
    obtain ⟨r, rfl⟩ := t.ims
    exact ⟨_, _, _, rfl, rfl, rfl, e, r⟩
theorem Own.im_inv {v : V} {d : D} {f : List Addr} (h : Own K ω H .im v d f) : Rep K ω H v d ∧ f = [] := by
  cases h with
  | im r => exact ⟨r, rfl⟩
end
end Zd

namespace Zd
open PySem PySem.Spec
open PyProof.Rows L2

abbrev Dl := List (Option D)
abbrev Fps := Nat → List Addr
abbrev Kn := Nat → Sh
abbrev Fp (φ : Fps) : Om := fun a => ∃ i, a ∈ φ i
/-- the slots σ stand for δ, slot i held as κ i says, with the lists φ i of its own -/
structure Slots (K : PySem.W.Frag) (κ : Kn) (ω : Om) (H : Hp) (σ : L2.St) (δ : Dl) (φ : Fps) : Prop where
  len : σ.length = δ.length
  at_ : ∀ i d, δ[i]? = some (some d) → ∃ v, σ[i]? = some (some v) ∧ Own K ω H (κ i) v d (φ i)
  nod : ∀ i, (φ i).Nodup
  dis : ∀ i j a, i ≠ j → a ∈ φ i → a ∉ φ j
  sub : ∀ a, Fp φ a → ω a
  wf : ∀ a, ω a → ∃ xs, H a = some (.lst xs)
/-- what a run may change: the lists in P; what is new -/
structure Step (ω P : Om) (H : Hp) (ω' P' : Om) (H' : Hp) : Prop where
  keep : ∀ a o, H a = some o → ¬ P a → H' a = some o
  om : ∀ a, ω' a → ω a ∨ H a = none
  stay : ∀ a, ω a → ¬ P a → ω' a
  fp : ∀ a, P' a → P a ∨ H a = none
  sub : ∀ a, P a → ω a
  wf : ∀ a, ω a → ∃ xs, H a = some (.lst xs)
abbrev Ext (H H' : Hp) : Prop := ∀ a o, H a = some o → H' a = some o
theorem Ext.refl (H : Hp) : Ext H H := fun _ _ h => h
theorem Ext.trans {H H1 H2 : Hp} (a : Ext H H1) (b :
          Ext H1 H2) : Ext H H2 := fun c o h => b c o (a c o h)
theorem Ext.upd {H : Hp} {p : Addr} {o : HO} (h : H p = none) : Ext H (upd H p o) := fun a u e => by
  rw [upd_ne (ne_of_none e h)]
  exact e
section
variable {K : PySem.W.Frag} {κ : Kn} {ω ω1 ω2 ω' P P1 P2 P' : Om} {H H1 H2 H' : Hp} {σ : L2.St} {δ : Dl} {φ : Fps}
theorem Step.grow (s : Step ω P H ω' P' H') : Grow ω H ω' H' := ⟨fun a o h n => s.keep a o h fun p => n (s.sub a p), s.wf, s.om⟩
theorem Step.ext (sub : ∀ a, P a → ω a) (wf : ∀ a, ω a → ∃ xs, H a = some (.lst xs)) (e : Ext H H') : Step ω P H ω P H' :=
  ⟨fun a o h _ => e a o h, fun a h => .inl h, fun a h _ => h, fun a h => .inl h, sub, wf⟩
theorem Step.trans (a : Step ω P H ω1 P1 H1) (b : Step ω1 P1 H1 ω2 P2 H2) : Step ω P H ω2 P2 H2 where
  keep := fun c o h n => b.keep c o (a.keep c o h n) fun p => (a.fp c p).elim n fun z => by rw [h] at z; cases z
  om := fun c h => by
    rcases b.om c h with h | h
    · exact a.om c h
    · cases e : H c with
      | none => exact .inr rfl
      | some o =>
        by_cases hp : P c
        · exact .inl (a.sub c hp)
        · rw [a.keep c o e hp] at h; cases h
  stay := fun c h n => b.stay c (a.stay c h n) fun p => (a.fp c p).elim n fun z => by
    obtain ⟨xs, e⟩ := a.wf c h
    rw [e] at z; cases z
  fp := fun c h => by
    rcases b.fp c h with h | h
    · exact a.fp c h
    · cases e : H c with
      | none => exact .inr rfl
      | some o =>
        by_cases hp : P c
        · exact .inl hp
        · rw [a.keep c o e hp] at h; cases h
  sub := a.sub
  wf := a.wf
theorem Slots.refl (s : Slots K κ ω H σ δ φ) : Step ω (Fp φ) H ω (Fp φ) H := .ext s.sub s.wf (Ext.refl H)
theorem Slots.step (s : Slots K κ ω H σ δ φ) (e : Ext H H') : Step ω (Fp φ) H ω (Fp φ) H' := .ext s.sub s.wf e
theorem Slots.ext (s : Slots K κ ω H σ δ φ) (e : Ext H H') : Slots K κ ω H' σ δ φ where
  len := s.len
  at_ := fun i d h => by
    obtain ⟨v, h1, h2⟩ := s.at_ i d h
    refine ⟨v, h1, Own.mono (s.step e).grow d _ _ _ (fun a ha => ?_) h2⟩
    obtain ⟨xs, q⟩ := Own.lsts d _ _ _ h2 a ha
    rw [q, e a _ q]
  nod := s.nod
  dis := s.dis
  sub := s.sub
  wf := fun a h => by
    obtain ⟨xs, q⟩ := s.wf a h
    exact ⟨xs, e a _ q⟩
end

/-- which address a class of errors has -/
abbrev Cl := Str → Addr
/-- an error of the class c with the argument a reaches E -/
def Esc (K : PySem.W.Frag) (cls : Cl) (E : XK) (ω P : Om) (H : Hp) (c : Str) (a : D) : Prop :=
  ∀ ω' P' H' dx v, Step ω P H ω' P' H' → H' dx = some (.xd [("at", v)]) → Rep K ω' H' v a → E (.ref (cls c)) (some dx) H'
theorem Esc.up {K : PySem.W.Frag} {cls : Cl} {E : XK} {ω P ω1 P1 : Om} {H H1 : Hp} {c : Str} {a : D} (h : Esc K cls E ω P H c a) (s : Step ω P H ω1 P1 H1) : Esc K cls E ω1 P1 H1 c a :=
  fun ω' P' H' dx v t e r => h ω' P' H' dx v (s.trans t) e r

/-- the context of a body at this layer -/
structure Gm where
  K : PySem.W.Frag
  cls : Cl
  E : XK
  κ : Kn
abbrev RR := Om → Hp → Fps → V → D → Prop
def tX (G : Gm) (R : L2.St → RR) (m : Dl → Rs (D × Dl)) : TE := fun σ H Q => ∃ ω δ φ, Slots G.K G.κ ω H σ δ φ ∧
  Out (m δ) (fun r => ∀ ω' H' φ' v, Step ω (Fp φ) H ω' (Fp φ') H' → Slots G.K G.κ ω' H' σ r.2 φ' → R σ ω' H' φ' v r.1 → Q v H') (Esc G.K G.cls G.E ω (Fp φ) H)
abbrev tI (G : Gm) (m : Dl → Rs (D × Dl)) : TE := tX G (fun _ ω H _ v d => Rep G.K ω H v d) m
/-- an operand: a value, or the list in a slot as it will stand -/
inductive AV where
  | v (d : D)
  | r (i : Nat)
def Flat : Sh → Prop
  | .im => True
  | .mu .im => True
  | _ => False
def AvR (K : PySem.W.Frag) (κ : Kn) (σ : L2.St) (ω : Om) (H : Hp) (v : V) : AV → Prop
  | .v d => Rep K ω H v d
  | .r i => σ[i]? = some (some v) ∧ Flat (κ i)
theorem AvR.up {K : PySem.W.Frag} {κ : Kn} {σ : L2.St} {ω ω' : Om} {H H' : Hp} {v : V} {a : AV} (h : AvR K κ σ ω H v a) (g : Grow ω H ω' H') : AvR K κ σ ω' H' v a := by
  cases a with
  | v d => exact Rep.up h g
  | r i => exact h
def tA1 (G : Gm) (m : Dl → Rs (AV × Dl)) : TE := fun σ H Q => ∃ ω δ φ, Slots G.K G.κ ω H σ δ φ ∧
  Out (m δ) (fun r => ∀ ω' H' φ' v, Step ω (Fp φ) H ω' (Fp φ') H' → Slots G.K G.κ ω' H' σ r.2 φ' → AvR G.K G.κ σ ω' H' v r.1 → Q v H') (Esc G.K G.cls G.E ω (Fp φ) H)
inductive AvRs (K : PySem.W.Frag) (κ : Kn) (σ : L2.St) (ω : Om) (H : Hp) : List V → List AV → Prop
  | nil : AvRs K κ σ ω H [] []
  | cons {v : V} {vs : List V} {a : AV} {as : List AV} : AvR K κ σ ω H v a → AvRs K κ σ ω H vs as → AvRs K κ σ ω H (v :: vs) (a :: as)
theorem AvRs.up {K : PySem.W.Frag} {κ : Kn} {σ : L2.St} {ω ω' : Om} {H H' : Hp} : ∀ {vs : List V} {as : List AV}, AvRs K κ σ ω H vs as → Grow ω H ω' H' → AvRs K κ σ ω' H' vs as
  | _, _, .nil, _ => .nil
  | _, _, .cons r t, g => .cons (r.up g) (t.up g)
def tAr (G : Gm) (m : Dl → Rs (List AV × Dl)) : TA := fun σ H Q => ∃ ω δ φ, Slots G.K G.κ ω H σ δ φ ∧
  Out (m δ) (fun r => ∀ ω' H' φ' vs, Step ω (Fp φ) H ω' (Fp φ') H' → Slots G.K G.κ ω' H' σ r.2 φ' → AvRs G.K G.κ σ ω' H' vs r.1 → Q vs H') (Esc G.K G.cls G.E ω (Fp φ) H)
/-- a test -/
def tT (G : Gm) (m : Dl → Rs (Bool × Dl)) : TT := fun σ H Q => ∃ ω δ φ, Slots G.K G.κ ω H σ δ φ ∧
  Out (m δ) (fun r => ∀ ω' H' φ', Step ω (Fp φ) H ω' (Fp φ') H' → Slots G.K G.κ ω' H' σ r.2 φ' → Q r.1 H') (Esc G.K G.cls G.E ω (Fp φ) H)
/-- a new list -/
def tF (G : Gm) (m : Dl → Rs (List D × Dl)) : TE := fun σ H Q => ∃ ω δ φ, Slots G.K G.κ ω H σ δ φ ∧
  Out (m δ) (fun r => ∀ ω' H' φ' p vs, Step ω (Fp φ) H ω' (Fp φ') H' → Slots G.K G.κ ω' H' σ r.2 φ' → H' p = none → Reps G.K ω' H' vs r.1 → Q (.ref p) (upd H' p (.lst vs))) (Esc G.K G.cls G.E ω (Fp φ) H)
/-- something of ours -/
def tO (G : Gm) (s : Sh) (m : Dl → Rs (D × Dl)) : TE := fun σ H Q => ∃ ω δ φ, Slots G.K G.κ ω H σ δ φ ∧
  Out (m δ) (fun r => ∀ ω' H' φ' v f, Step ω (Fp φ) H ω' (fun a => Fp φ' a ∨ a ∈ f) H' → Slots G.K G.κ ω' H' σ r.2 φ' → Own G.K ω' H' s v r.1 f → f.Nodup → (∀ a ∈ f, ω' a ∧ ¬ Fp φ' a) → Q v H') (Esc G.K G.cls G.E ω (Fp φ) H)

theorem pe_if {X : Cx} {e : Expr} {t t' : TE} (h : PE X e t) (w : ∀ σ H Q, t' σ H Q → t σ H Q) : PE X e t' := ⟨fun pins s σ H Q I q => h.run pins s σ H Q I (w σ H Q q)⟩
theorem pt_if {X : Cx} {e : Expr} {t t' : TT} (h : PT X e t) (w : ∀ σ H Q, t' σ H Q → t σ H Q) : PT X e t' := ⟨fun pins s σ H Q I q => h.run pins s σ H Q I (w σ H Q q)⟩
theorem pw_if {X : Cx} {e : Expr} {t t' : TT} (h : PW X e t) (w : ∀ σ H Q, t' σ H Q → t σ H Q) : PW X e t' := ⟨fun wh pins s σ H Q I q => h.run wh pins s σ H Q I (w σ H Q q)⟩
theorem pa_if {X : Cx} {es : List Expr} {t t' : TA} (h : PA X es t) (w : ∀ σ H Q, t' σ H Q → t σ H Q) : PA X es t' := ⟨fun pos pins s σ H Q I q => h.run pos pins s σ H Q I (w σ H Q q)⟩
theorem ps_if' {X : Cx} {st : Stmt} {t t' : TS} (h : PS X st t) (w : ∀ D σ H, t' D σ H → t D σ H) : PS X st t' := ⟨fun pins s σ H D I q => h.run pins s σ H D I (w D σ H q)⟩
theorem pss_if' {X : Cx} {st : List Stmt} {t t' : TS} (h : PSs X st t) (w : ∀ D σ H, t' D σ H → t D σ H) : PSs X st t' := ⟨fun pins s σ H D I q => h.run pins s σ H D I (w D σ H q)⟩

/-! ### the runs of the forms -/
abbrev Em := Dl → Rs (D × Dl)
abbrev Am := Dl → Rs (AV × Dl)
abbrev Lm := Dl → Rs (List AV × Dl)
abbrev Tm := Dl → Rs (Bool × Dl)
abbrev Fm := Dl → Rs (List D × Dl)
def mV (i : Nat) : Em := fun δ => match δ[i]? with
  | some (some d) => .ok (d, δ)
  | _ => .no
def mC (d : D) : Em := fun δ => .ok (d, δ)
def vA (m : Em) : Am := fun δ => m δ >>= fun r => .ok (.v r.1, r.2)
def rA (i : Nat) : Am := fun δ => match δ[i]? with
  | some (some _) => .ok (.r i, δ)
  | _ => .no
def get (δ : Dl) : AV → Rs D
  | .v d => .ok d
  | .r i => match δ[i]? with
    | some (some d) => .ok d
    | _ => .no
def gets (δ : Dl) : List AV → Rs (List D)
  | [] => .ok []
  | a :: as => get δ a >>= fun d => gets δ as >>= fun ds => .ok (d :: ds)
def mU (g : D → Rs D) (m : Am) : Em := fun δ => m δ >>= fun r => get r.2 r.1 >>= fun d => g d >>= fun e => .ok (e, r.2)
def mB (g : D → D → Rs D) (m n : Am) : Em := fun δ => m δ >>= fun r => n r.2 >>= fun q => get q.2 r.1 >>= fun d => get q.2 q.1 >>= fun e => g d e >>= fun z => .ok (z, q.2)
def mL (g : List D → Rs D) (m : Lm) : Em := fun δ => m δ >>= fun r => gets r.2 r.1 >>= fun ds => g ds >>= fun e => .ok (e, r.2)
def lNil : Lm := fun δ => .ok ([], δ)
def lCons (m : Am) (n : Lm) : Lm := fun δ => m δ >>= fun r => n r.2 >>= fun q => .ok (r.1 :: q.1, q.2)
def fU (g : D → Rs (List D)) (m : Am) : Fm := fun δ => m δ >>= fun r => get r.2 r.1 >>= fun d => g d >>= fun e => .ok (e, r.2)
def fB (g : D → D → Rs (List D)) (m n : Am) : Fm := fun δ => m δ >>= fun r => n r.2 >>= fun q => get q.2 r.1 >>= fun d => get q.2 q.1 >>= fun e => g d e >>= fun z => .ok (z, q.2)
def fL (m : Lm) : Fm := fun δ => m δ >>= fun r => gets r.2 r.1 >>= fun ds => if ds.length ≤ 1000 then .ok (ds, r.2) else .no
def eF (m : Fm) : Em := fun δ => m δ >>= fun r => .ok (.list r.1, r.2)

/-- to be read: of ours or not -/
def Lk (K : PySem.W.Frag) (ω : Om) (H : Hp) (v : V) (d : D) : Prop := Rep K ω H v d ∨ ∃ a vs ds, v = .ref a ∧ d = .list ds ∧ H a = some (.lst vs) ∧ Reps K ω H vs ds
section
variable {K : PySem.W.Frag} {κ : Kn} {ω : Om} {H : Hp} {σ : L2.St} {δ : Dl} {φ : Fps} {v : V} {d : D}
theorem Lk.of {s : Sh} {f : List Addr} (h : Own K ω H s v d f) (hf : Flat s) : Lk K ω H v d := by
  cases s with
  | im => exact .inl h.im_inv.1
  | mu s =>
    cases s with
    | im =>
      obtain ⟨a, vs, ds, rfl, rfl, _, e, r⟩ := h.mui_inv
      exact .inr ⟨a, vs, ds, rfl, rfl, e, r⟩
    | _ => exact hf.elim
  | rc _ => exact hf.elim
theorem Lk.dp (h : Lk K ω H v d) : Dp K H v d := by
  rcases h with h | ⟨a, vs, ds, rfl, rfl, e, r⟩
  · exact Rep.dp d v h
  · exact .lst (.inl (.inl e)) (Reps.dp ds vs r)
theorem Lk.rdl {ds : List D} (h : Lk K ω H v (.list ds)) : ∃ a vs, v = .ref a ∧ Rd H a (.lst vs) ∧ Reps K ω H vs ds := by
  rcases h with h | ⟨a, vs, es, rfl, e, e1, r⟩
  · cases h with
    | lst hs ha => exact ⟨_, _, rfl, hs.1, ha⟩
  · cases e
    exact ⟨a, vs, rfl, .inl e1, r⟩
theorem Lk.list {ds : List D} (h : Lk K ω H v (.list ds)) : ∃ a vs, v = .ref a ∧ SqL K H a vs ∧ Reps K ω H vs ds := by
  obtain ⟨a, vs, h1, h2, h3⟩ := h.rdl
  exact ⟨a, vs, h1, .inl h2, h3⟩
theorem Lk.tuple {ds : List D} (h : Lk K ω H v (.tuple ds)) : ∃ a vs, v = .ref a ∧ SqT K H a vs ∧ Reps K ω H vs ds := by
  rcases h with h | ⟨a, vs, es, rfl, e, e1, r⟩
  · cases h with
    | tup hs ha => exact ⟨_, _, rfl, hs, ha⟩
  · cases e
theorem Lk.rep (h : Lk K ω H v d) (n : ∀ ds, d ≠ .list ds) : Rep K ω H v d := by
  rcases h with h | ⟨a, vs, es, rfl, e, e1, r⟩
  · exact h
  · exact (n _ e).elim
theorem Lk.int {i : Int} (h : Lk K ω H v (.int i)) : v = .int i := by
  have := h.rep (fun _ z => nomatch z)
  cases this; rfl
theorem Lk.str {x : Str} (h : Lk K ω H v (.str x)) : v = .str x := by
  have := h.rep (fun _ z => nomatch z)
  cases this; rfl
theorem Lk.bool {x : Bool} (h : Lk K ω H v (.bool x)) : v = .bl x := by
  have := h.rep (fun _ z => nomatch z)
  cases this; rfl
theorem Lk.none (h : Lk K ω H v .none) : v = .non := by
  have := h.rep (fun _ z => nomatch z)
  cases this; rfl
theorem Slots.got (s : Slots K κ ω H σ δ φ) {a : AV} (h : AvR K κ σ ω H v a) {q : D → Prop} {e : Str → D → Prop} (hq : Out (get δ a) q e) : ∃ d, Lk K ω H v d ∧ q d := by
  cases a with
  | v d => exact ⟨d, .inl h, hq⟩
  | r i =>
    obtain ⟨h1, h2⟩ := h
    cases e1 : δ[i]? with
    | none => simp only [get, e1] at hq; exact hq.elim
    | some o =>
      simp only [get, e1] at hq
      cases o with
      | none => exact hq.elim
      | some d =>
        obtain ⟨w, h3, h4⟩ := s.at_ i d e1
        rw [h1] at h3
        cases h3
        exact ⟨d, .of h4 h2, hq⟩
inductive Lks (K : PySem.W.Frag) (ω : Om) (H : Hp) : List V → List D → Prop
  | nil : Lks K ω H [] []
  | cons {v : V} {vs : List V} {d : D} {ds : List D} : Lk K ω H v d → Lks K ω H vs ds → Lks K ω H (v :: vs) (d :: ds)
theorem Slots.gots (s : Slots K κ ω H σ δ φ) : ∀ {as : List AV} {vs : List V} {q : List D → Prop} {e : Str → D → Prop}, AvRs K κ σ ω H vs as → Out (gets δ as) q e → ∃ ds, Lks K ω H vs ds ∧ q ds
  | [], _, _, _, h, hq => by cases h; exact ⟨[], .nil, hq⟩
  | a :: as, _, _, _, h, hq => by
    cases h with
    | cons r t =>
      obtain ⟨d, h1, h2⟩ := s.got r (Out.bind hq)
      obtain ⟨ds, h3, h4⟩ := s.gots t (Out.bind h2)
      exact ⟨d :: ds, .cons h1 h3, h4⟩
end

section
variable {X : Cx} {G : Gm} {e a b : Expr} {es : List Expr} {pos : Pos}
/-- an operand that nobody may change -/
theorem av {m : Em} (h : PE X e (tI G m)) : PE X e (tA1 G (vA m)) := by
  refine pe_if h fun σ H Q ⟨ω, δ, φ, s, o⟩ => ⟨ω, δ, φ, s, (Out.bind o).mono (fun r hr ω' H' φ' v h1 h2 h3 => hr ω' H' φ' v h1 h2 h3) fun _ _ z => z⟩
theorem xV (i : Nat) {x : Str} (hN : X.N[i]? = some x := by rfl) (hv : Vis X.env.scope x := by first | exact Or.inl rfl | exact Or.inr (Or.inl rfl) | exact Or.inr (Or.inr rfl)) (hk : G.κ i = .im := by rfl) (hd : (x == ("__debug__" : Str)) = false := by decide)
    (hcd : (x == ("__classdict__" : Str)) = false := by decide) : PE X (.Name x pos) (tI G (mV i)) := by
  refine pe_if (pe_var hN hv hd hcd) fun σ H Q ⟨ω, δ, φ, s, o⟩ => ?_
  unfold mV at o
  cases e1 : δ[i]? with
  | none => rw [e1] at o; exact o.elim
  | some z =>
    rw [e1] at o
    cases z with
    | none => exact o.elim
    | some d =>
      obtain ⟨w, h3, h4⟩ := s.at_ i d e1
      rw [hk] at h4
      exact ⟨w, h3, o ω H φ w s.refl s h4.im_inv.1⟩
/-- the list in a slot, to be read -/
theorem xR (i : Nat) {x : Str} (hN : X.N[i]? = some x := by rfl) (hv : Vis X.env.scope x := by first | exact Or.inl rfl | exact Or.inr (Or.inl rfl) | exact Or.inr (Or.inr rfl)) (hk : Flat (G.κ i) := by exact trivial) (hd : (x == ("__debug__" : Str)) = false := by decide)
    (hcd : (x == ("__classdict__" : Str)) = false := by decide) : PE X (.Name x pos) (tA1 G (rA i)) := by
  refine pe_if (pe_var hN hv hd hcd) fun σ H Q ⟨ω, δ, φ, s, o⟩ => ?_
  cases e1 : δ[i]? with
  | none => simp only [rA, e1] at o; exact o.elim
  | some z =>
    simp only [rA, e1] at o
    cases z with
    | none => exact o.elim
    | some d =>
      obtain ⟨w, h3, h4⟩ := s.at_ i d e1
      exact ⟨w, h3, o ω H φ w s.refl s ⟨h3, hk⟩⟩
theorem xC {v : V} {d : D} (h : PE X e (tC v)) (r : ∀ ω H, Rep G.K ω H v d) : PE X e (tI G (mC d)) :=
  pe_if h fun σ H Q ⟨ω, δ, φ, s, o⟩ => o ω H φ v s.refl s (r ω H)
theorem xi {i j} : PE X (.Constant (.int i) j pos) (tI G (mC (.int i))) := xC pe_int fun _ _ => .int i
theorem xb {i j} : PE X (.Constant (.bool i) j pos) (tI G (mC (.bool i))) := xC pe_bl fun _ _ => .bl i
theorem xn {j} : PE X (.Constant .none j pos) (tI G (mC .none)) := xC pe_non fun _ _ => .non
theorem xs {x j} : PE X (.Constant (.str x) j pos) (tI G (mC (.str x))) := xC pe_str fun _ _ => .str x

/-- what is asked of an operation: it reads, and makes new things alone -/
abbrev Wf (ω : Om) (H : Hp) : Prop := ∀ a, ω a → ∃ xs, H a = some (.lst xs)
def UnD (K : PySem.W.Frag) (r : V → Hp → VK → Prop) (g : D → Rs D) : Prop := ∀ ω H x d Q, Wf ω H → Lk K ω H x d → Out (g d) (fun z => ∀ H' v, Ext H H' → Rep K ω H' v z → Q v H') (fun _ _ => False) → r x H Q
def BiD (K : PySem.W.Frag) (r : R2) (g : D → D → Rs D) : Prop := ∀ ω H x y d e Q, Wf ω H → Lk K ω H x d → Lk K ω H y e → Out (g d e) (fun z => ∀ H' v, Ext H H' → Rep K ω H' v z → Q v H') (fun _ _ => False) → r x y H Q
def LiD (K : PySem.W.Frag) (r : List V → Hp → VK → Prop) (g : List D → Rs D) : Prop := ∀ ω H xs ds Q, Wf ω H → Lks K ω H xs ds → Out (g ds) (fun z => ∀ H' v, Ext H H' → Rep K ω H' v z → Q v H') (fun _ _ => False) → r xs H Q
/-- .. or a new list -/
def BiF (K : PySem.W.Frag) (r : R2) (g : D → D → Rs (List D)) : Prop := ∀ ω H x y d e Q, Wf ω H → Lk K ω H x d → Lk K ω H y e → Out (g d e) (fun z => ∀ p vs, H p = none → Reps K ω H vs z → Q (.ref p) (upd H p (.lst vs))) (fun _ _ => False) → r x y H Q
def LiF (K : PySem.W.Frag) (r : List V → Hp → VK → Prop) (g : List D → Rs (List D)) : Prop := ∀ ω H xs ds Q, Wf ω H → Lks K ω H xs ds → Out (g ds) (fun z => ∀ p vs, H p = none → Reps K ω H vs z → Q (.ref p) (upd H p (.lst vs))) (fun _ _ => False) → r xs H Q

theorem out_no {α : Type} {r : Rs α} {q : α → Prop} {e : Str → D → Prop} (h : Out r q e) (n : ∀ c a, r ≠ .ex c a) : Out r q (fun _ _ => False) := by
  cases r with
  | ok a => exact h
  | ex c a => exact (n c a rfl).elim
  | no => exact h
/-- an operation that raises nothing -/
def NoX {α β : Type} (g : α → Rs β) : Prop := ∀ x c a, g x ≠ .ex c a
def NoX2 {α β γ : Type} (g : α → β → Rs γ) : Prop := ∀ x y c a, g x y ≠ .ex c a

theorem bi_core {ta : Am} {tb : Am} (ha : PE X a (tA1 G ta)) (hb : PE X b (tA1 G tb)) {r : R2} {β : Type} {g : D → D → Rs β} (nx : NoX2 g) {k : Om → Hp → Fps → L2.St → Dl → V → V → D → D → VK → β → Prop}
    {σ : L2.St} {H : Hp} {Q : VK} (h : ∃ ω δ φ, Slots G.K G.κ ω H σ δ φ ∧ Out (ta δ >>= fun r => tb r.2 >>= fun q => get q.2 r.1 >>= fun d => get q.2 q.1 >>= fun e => g d e >>= fun z => .ok (z, q.2))
      (fun r => ∀ ω' H' φ', Step ω (Fp φ) H ω' (Fp φ') H' → Slots G.K G.κ ω' H' σ r.2 φ' → ∀ x y d e, Lk G.K ω' H' x d → Lk G.K ω' H' y e → k ω' H' φ' σ r.2 x y d e Q r.1) (Esc G.K G.cls G.E ω (Fp φ) H))
    (hr : ∀ ω' H' φ' δ' x y d e, Slots G.K G.κ ω' H' σ δ' φ' → Lk G.K ω' H' x d → Lk G.K ω' H' y e → Out (g d e) (fun z => k ω' H' φ' σ δ' x y d e Q z) (fun _ _ => False) → r x y H' Q) :
    tOp r (tA1 G ta) (tA1 G tb) σ H Q := by
  obtain ⟨ω, δ, φ, s, o⟩ := h
  refine ⟨ω, δ, φ, s, (Out.bind o).mono (fun q1 h1 ω1 H1 φ1 x st1 s1 r1 => ⟨ω1, q1.2, φ1, s1, (Out.bind h1).mono (fun q2 h2 ω2 H2 φ2 y st2 s2 r2 => ?_) fun c z q => q.up st1⟩) fun _ _ z => z⟩
  obtain ⟨d, l1, h3⟩ := s2.got (r1.up st2.grow) (Out.bind h2)
  obtain ⟨e, l2, h4⟩ := s2.got r2 (Out.bind h3)
  refine hr ω2 H2 φ2 q2.2 x y d e s2 l1 l2 ((out_no (Out.bind h4) (nx d e)).mono (fun z hz => ?_) fun _ _ z => z)
  exact hz ω2 H2 φ2 (st1.trans st2) s2 x y d e l1 l2
theorem bi {op : Operator} {r : R2} {g : D → D → Rs D} {ta tb : Am} (ho : OpR X (binaryOp op) r) (hd : BiD G.K r g) (nx : NoX2 g) (ha : PE X a (tA1 G ta)) (hb : PE X b (tA1 G tb)) : PE X (.BinOp a op b pos) (tI G (mB g ta tb)) := by
  refine pe_if (pe_op ho ha hb) fun σ H Q h => bi_core ha hb (r := r) nx (k := fun ω H φ σ δ x y d e Q z => ∀ H' v, Ext H H' → Rep G.K ω H' v z → Q v H') ?_ fun ω H φ δ x y d e s l1 l2 o => hd ω H x y d e Q s.wf l1 l2 o
  obtain ⟨ω, δ, φ, s, o⟩ := h
  exact ⟨ω, δ, φ, s, o.mono (fun r hr ω' H' φ' st s' x y d e _ _ H'' v ex rp => hr ω' H'' φ' v (st.trans (s'.step ex)) (s'.ext ex) rp) fun _ _ z => z⟩
/-- .. that makes a new list -/
theorem biF {op : Operator} {r : R2} {g : D → D → Rs (List D)} {ta tb : Am} (ho : OpR X (binaryOp op) r) (hd : BiF G.K r g) (nx : NoX2 g) (ha : PE X a (tA1 G ta)) (hb : PE X b (tA1 G tb)) : PE X (.BinOp a op b pos) (tF G (fB g ta tb)) := by
  refine pe_if (pe_op ho ha hb) fun σ H Q h => bi_core ha hb (r := r) nx (k := fun ω H φ σ δ x y d e Q z => ∀ p vs, H p = none → Reps G.K ω H vs z → Q (.ref p) (upd H p (.lst vs))) ?_ fun ω H φ δ x y d e s l1 l2 o => hd ω H x y d e Q s.wf l1 l2 o
  obtain ⟨ω, δ, φ, s, o⟩ := h
  exact ⟨ω, δ, φ, s, o.mono (fun r hr ω' H' φ' st s' x y d e _ _ p vs hp rp => hr ω' H' φ' p vs st s' hp rp) fun _ _ z => z⟩
end
end Zd

namespace Zd
open PySem PySem.Spec
open PyProof.Rows L2
section
variable {X : Cx} {G : Gm} {e a b c : Expr} {es : List Expr} {pos : Pos}

/-! ### comparisons -/
theorem cm {op : CmpOp} {r : R2} {g : D → D → Rs D} {ta tb : Am} (ho : OpR X (compareOp op) r) (hd : BiD G.K r g) (nx : NoX2 g) (ha : PE X a (tA1 G ta)) (hb : PE X b (tA1 G tb)) (hm : behindInMarks op b = false := by with_unfolding_all rfl) : PE X (.Compare a [op] [b] pos) (tI G (mB g ta tb)) := by
  refine pe_if (pe_cmpR ho ha hb hm) fun σ H Q h => bi_core ha hb (r := r) nx (k := fun ω H φ σ δ x y d e Q z => ∀ H' v, Ext H H' → Rep G.K ω H' v z → Q v H') ?_ fun ω H φ δ x y d e s l1 l2 o => hd ω H x y d e Q s.wf l1 l2 o
  obtain ⟨ω, δ, φ, s, o⟩ := h
  exact ⟨ω, δ, φ, s, o.mono (fun r hr ω' H' φ' st s' x y d e _ _ H'' v ex rp => hr ω' H'' φ' v (st.trans (s'.step ex)) (s'.ext ex) rp) fun _ _ z => z⟩
def bool (d : D) : Rs Bool := match d with
  | .bool b => .ok b
  | _ => .no
theorem bool_inv {d : D} {q : Bool → Prop} {e : Str → D → Prop} (h : Out (bool d) q e) : ∃ b, d = .bool b ∧ q b := by
  cases d with
  | bool b => exact ⟨b, rfl, h⟩
  | _ => exact h.elim
def mT (m : Em) : Tm := fun δ => m δ >>= fun r => bool r.1 >>= fun b => .ok (b, r.2)
theorem cmt {op : CmpOp} {r : R2} {g : D → D → Rs D} {ta tb : Am} (ho : OpR X (compareOp op) r) (hd : BiD G.K r g) (nx : NoX2 g) (ha : PE X a (tA1 G ta)) (hb : PE X b (tA1 G tb)) (hm : behindInMarks op b = false := by with_unfolding_all rfl) : PT X (.Compare a [op] [b] pos) (tT G (mT (mB g ta tb))) := by
  refine pt_if (pt_cmpR ho ha hb hm) fun σ H Q h => ?_
  refine bi_core ha hb (r := r) (Q := fun x H1 => ∃ c, x = .bl c ∧ Q c H1) nx (k := fun ω H φ σ δ x y d e Q z => ∀ H' v, Ext H H' → Rep G.K ω H' v z → Q v H') ?_ fun ω H φ δ x y d e s l1 l2 o => hd ω H x y d e _ s.wf l1 l2 o
  obtain ⟨ω, δ, φ, s, o⟩ := h
  refine ⟨ω, δ, φ, s, (Out.bind o).mono (fun r hr ω' H' φ' st s' x y d e _ _ H'' v ex rp => ?_) fun _ _ z => z⟩
  obtain ⟨b, e1, h1⟩ := bool_inv (Out.bind hr)
  rw [e1] at rp
  cases rp
  exact ⟨b, rfl, h1 ω' H'' φ' (st.trans (s'.step ex)) (s'.ext ex)⟩
/-- any other test: the value's truth -/
def tru (d : D) : Rs Bool := match d with
  | .none => .ok false
  | .bool b => .ok b
  | .int i => .ok (i != 0)
  | .str y => if y.length ≤ sizeLine then .ok ((y.length : Int) != 0) else .no
  | .list ds => .ok (!ds.isEmpty)
  | .tuple ds => .ok (!ds.isEmpty)
  | .dict _ => .no
theorem Reps.isEmpty {K : PySem.W.Frag} {ω : Om} {H : Hp} {vs : List V} {ds : List D} (h : Reps K ω H vs ds) : vs.isEmpty = ds.isEmpty := by
  cases h <;> rfl
theorem tru_ok' {K : PySem.W.Frag} {ω : Om} {H : Hp} {v : V} {d : D} (l : Lk K ω H v d) {q : Bool → Prop} {e : Str → D → Prop} (h : Out (tru d) q e) : ∃ k, TruV K v H k ∧ q k := by
  cases d with
  | none => rw [l.none]; exact ⟨false, rfl, h⟩
  | bool b => rw [l.bool]; exact ⟨b, rfl, h⟩
  | int i => rw [l.int]; exact ⟨_, rfl, h⟩
  | str y =>
    rw [l.str]
    simp only [tru] at h
    by_cases hy : y.length ≤ sizeLine
    · rw [if_pos hy] at h
      exact ⟨_, ⟨hy, rfl⟩, h⟩
    · rw [if_neg hy] at h
      exact h.elim
  | list ds =>
    obtain ⟨a, vs, rfl, hs, r⟩ := l.list
    exact ⟨_, .inl ⟨vs, hs, rfl⟩, by rw [r.isEmpty]; exact h⟩
  | tuple ds =>
    obtain ⟨a, vs, rfl, hs, r⟩ := l.tuple
    exact ⟨_, .inr (.inl ⟨vs, hs, rfl⟩), by rw [r.isEmpty]; exact h⟩
  | dict _ => exact h.elim
def mTr (m : Am) : Tm := fun δ => m δ >>= fun r => get r.2 r.1 >>= fun d => tru d >>= fun b => .ok (b, r.2)
theorem tt {m : Am} (h : PE X e (tA1 G m)) (hK : X.K = G.K := by rfl) (he : ∀ whole, isTrue e X.env whole = (do let v ← whole; standAt e.pos; holding [v] (truthy v)) := by intro _; rfl) : PT X e (tT G (mTr m)) := by
  refine pt_if (pt_truth h he) fun σ H Q ⟨ω, δ, φ, s, o⟩ => ⟨ω, δ, φ, s, (Out.bind o).mono (fun r hr ω' H' φ' v st s' rp => ?_) fun _ _ z => z⟩
  obtain ⟨d, l, h1⟩ := s'.got rp (Out.bind hr)
  obtain ⟨k, h2, h3⟩ := tru_ok' l (Out.bind h1)
  exact ⟨k, hK ▸ h2, h3 ω' H' φ' st s'⟩
def mNot (m : Tm) : Tm := fun δ => m δ >>= fun r => .ok (!r.1, r.2)
def mAnd (m n : Tm) : Tm := fun δ => m δ >>= fun r => if r.1 = true then n r.2 else .ok (false, r.2)
def mOr (m n : Tm) : Tm := fun δ => m δ >>= fun r => if r.1 = true then .ok (true, r.2) else n r.2
theorem tn {m : Tm} (h : PT X a (tT G m)) : PT X (.UnaryOp .Not a pos) (tT G (mNot m)) := by
  refine pt_if (pt_not h) fun σ H Q ⟨ω, δ, φ, s, o⟩ => ⟨ω, δ, φ, s, (Out.bind o).mono (fun r hr ω' H' φ' st s' => hr ω' H' φ' st s') fun _ _ z => z⟩
theorem wa1 {m : Tm} (h : PT X a (tT G m)) : PW X (.BoolOp .And [a] pos) (tT G m) := pw_and1 h
theorem wo1 {m : Tm} (h : PT X a (tT G m)) : PW X (.BoolOp .Or [a] pos) (tT G m) := pw_or1 h
theorem wa {m n : Tm} (h : PT X a (tT G m)) (h' : PW X (.BoolOp .And (b :: es) pos) (tT G n)) : PW X (.BoolOp .And (a :: b :: es) pos) (tT G (mAnd m n)) := by
  refine pw_if (pw_and h h') fun σ H Q ⟨ω, δ, φ, s, o⟩ => ⟨ω, δ, φ, s, (Out.bind o).mono (fun r hr ω' H' φ' st s' => ?_) fun _ _ z => z⟩
  cases e1 : r.1 with
  | true =>
    rw [if_pos rfl]
    rw [e1, if_pos rfl] at hr
    exact ⟨ω', r.2, φ', s', hr.mono (fun q hq ω2 H2 φ2 st2 s2 => hq ω2 H2 φ2 (st.trans st2) s2) fun _ _ z => z.up st⟩
  | false =>
    rw [if_neg
              Bool.false_ne_true]
    rw [e1, if_neg Bool.false_ne_true] at hr
    exact hr ω' H' φ' st s'
theorem wo {m n : Tm} (h : PT X a (tT G m)) (h' : PW X (.BoolOp .Or (b :: es) pos) (tT G n)) : PW X (.BoolOp .Or (a :: b :: es) pos) (tT G (mOr m n)) := by
  refine pw_if (pw_or h h') fun σ H Q ⟨ω, δ, φ, s, o⟩ => ⟨ω, δ, φ, s, (Out.bind o).mono (fun r hr ω' H' φ' st s' => ?_) fun _ _ z => z⟩
  cases e1 : r.1 with
  | true =>
    rw [if_pos rfl]
    rw [e1, if_pos rfl] at hr
    exact hr ω' H' φ' st s'
  | false =>
    rw [if_neg
              Bool.false_ne_true]
    rw [e1, if_neg Bool.false_ne_true] at hr
    exact ⟨ω', r.2, φ', s', hr.mono (fun q hq ω2 H2 φ2 st2 s2 => hq ω2 H2 φ2 (st.trans st2) s2) fun _ _ z => z.up st⟩
theorem tw {m : Tm} (h : PW X e (tT G m)) : PT X e (tT G m) := h.pt
/-- and, or, not as values -/
def eNot (m : Em) : Em := fun δ => m δ >>= fun r => bool r.1 >>= fun b => .ok (.bool (!b), r.2)
def eAnd (m n : Em) : Em := fun δ => m δ >>= fun r => bool r.1 >>= fun b => if b = true then n r.2 else .ok (.bool false, r.2)
def eOr (m n : Em) : Em := fun δ => m δ >>= fun r => bool r.1 >>= fun b => if b = true then .ok (.bool true, r.2) else n r.2
theorem en {m : Em} (h : PE X a (tI G m)) : PE X (.UnaryOp .Not a pos) (tI G (eNot m)) := by
  refine pe_if (pe_not h) fun σ H Q ⟨ω, δ, φ, s, o⟩ => ⟨ω, δ, φ, s, (Out.bind o).mono (fun r hr ω' H' φ' v st s' rp => ?_) fun _ _ z => z⟩
  obtain ⟨b, e1, h1⟩ := bool_inv (Out.bind hr)
  rw [e1] at rp
  cases rp
  exact ⟨b, rfl, h1 ω' H' φ' _ st s' (.bl _)⟩
theorem e1' {op} {m : Em} (h : PE X a (tI G m)) : PE X (.BoolOp op [a] pos) (tI G m) := pe_one h
theorem ea {m n : Em} (h : PE X a (tI G m)) (h' : PE X (.BoolOp .And (b :: es) pos) (tI G n)) : PE X (.BoolOp .And (a :: b :: es) pos) (tI G (eAnd m n)) := by
  refine pe_if (pe_and h h') fun σ H Q ⟨ω, δ, φ, s, o⟩ => ⟨ω, δ, φ, s, (Out.bind o).mono (fun r hr ω' H' φ' v st s' rp => ?_) fun _ _ z => z⟩
  obtain ⟨b, e1, h1⟩ := bool_inv (Out.bind hr)
  rw [e1] at rp
  cases rp
  refine ⟨b, rfl, ?_⟩
  cases b with
  | true =>
    rw [if_pos rfl] at h1 ⊢
    exact ⟨ω', r.2, φ', s', h1.mono (fun q hq ω2 H2 φ2 v st2 s2 r2 => hq ω2 H2 φ2 v (st.trans st2) s2 r2) fun _ _ z => z.up st⟩
  | false =>
    rw [if_neg Bool.false_ne_true] at h1 ⊢
    exact h1 ω' H' φ' _ st s' (.bl _)
theorem eo {m n : Em} (h : PE X a (tI G m)) (h' : PE X (.BoolOp .Or (b :: es) pos) (tI G n)) : PE X (.BoolOp .Or (a :: b :: es) pos) (tI G (eOr m n)) := by
  refine pe_if (pe_or h h') fun σ H Q ⟨ω, δ, φ, s, o⟩ => ⟨ω, δ, φ, s, (Out.bind o).mono (fun r hr ω' H' φ' v st s' rp => ?_) fun _ _ z => z⟩
  obtain ⟨b, e1, h1⟩ := bool_inv (Out.bind hr)
  rw [e1] at rp
  cases rp
  refine ⟨b, rfl, ?_⟩
  cases b with
  | true =>
    rw [if_pos rfl] at h1 ⊢
    exact h1 ω' H' φ' _ st s' (.bl _)
  | false =>
    rw [if_neg Bool.false_ne_true] at h1 ⊢
    exact ⟨ω', r.2, φ', s', h1.mono (fun q hq ω2 H2 φ2 v st2 s2 r2 => hq ω2 H2 φ2 v (st.trans st2) s2 r2) fun _ _ z => z.up st⟩
/-- x if t else y -/
def mIf (t : Tm) (m n : Em) : Em := fun δ => t δ >>= fun r => if r.1 = true then m r.2 else n r.2
theorem ie {t : Tm} {m n : Em} (hc : PT X c (tT G t)) (ha : PE X a (tI G m)) (hb : PE X b (tI G n)) : PE X (.IfExp c a b pos) (tI G (mIf t m n)) := by
  refine pe_if (pe_ifExp hc ha hb) fun σ H Q ⟨ω, δ, φ, s, o⟩ => ⟨ω, δ, φ, s, (Out.bind o).mono (fun r hr ω' H' φ' st s' => ?_) fun _ _ z => z⟩
  cases e1 : r.1 with
  | true =>
    rw [if_pos rfl]
    rw [e1, if_pos rfl] at hr
    exact ⟨ω', r.2, φ', s', hr.mono (fun q hq ω2 H2 φ2 v st2 s2 r2 => hq ω2 H2 φ2 v (st.trans st2) s2 r2) fun _ _ z => z.up st⟩
  | false =>
    rw [if_neg
              Bool.false_ne_true]
    rw [e1, if_neg Bool.false_ne_true] at hr
    exact ⟨ω', r.2, φ', s', hr.mono (fun q hq ω2 H2 φ2 v st2 s2 r2 => hq ω2 H2 φ2 v (st.trans st2) s2 r2) fun _ _ z => z.up st⟩

/-! ### displays, argument lists -/
abbrev Sm := Dl → Rs (List D × Dl)
def tS (G : Gm) (m : Sm) : TA := fun σ H Q => ∃ ω δ φ, Slots G.K G.κ ω H σ δ φ ∧
  Out (m δ) (fun r => ∀ ω' H' φ' vs, Step ω (Fp φ) H ω' (Fp φ') H' → Slots G.K G.κ ω' H' σ r.2 φ' → Reps G.K ω' H' vs r.1 → Q vs H') (Esc G.K G.cls G.E ω (Fp φ) H)
def sNil : Sm := fun δ => .ok ([], δ)
def sCons (m : Em) (n : Sm) : Sm := fun δ => m δ >>= fun r => n r.2 >>= fun q => .ok (r.1 :: q.1, q.2)
theorem sn : PA X [] (tS G sNil) := pa_if pa_nil fun σ H Q ⟨ω, δ, φ, s, o⟩ => o ω H φ [] s.refl s .nil
theorem sc {m : Em} {n : Sm} (h : PE X e (tI G m)) (hr : PA X es (tS G n)) (hs : starEach (e :: es) X.env = (false, eval e X.env) :: starEach es X.env := by rfl) : PA X (e :: es) (tS G (sCons m n)) := by
  refine pa_if (pa_cons h hr hs) fun σ H Q ⟨ω, δ, φ, s, o⟩ => ⟨ω, δ, φ, s, (Out.bind o).mono (fun r h1 ω' H' φ' v st s' rp => ⟨ω', r.2, φ', s', (Out.bind h1).mono (fun q hq ω2 H2 φ2 vs st2 s2 r2 => ?_) fun _ _ z => z.up st⟩) fun _ _ z => z⟩
  exact hq ω2 H2 φ2 (v :: vs) (st.trans st2) s2 (.cons (Rep.up rp st2.grow) r2)
theorem ln : PA X [] (tAr G lNil) := pa_if pa_nil fun σ H Q ⟨ω, δ, φ, s, o⟩ => o ω H φ [] s.refl s .nil
theorem lc {m : Am} {n : Lm} (h : PE X e (tA1 G m)) (hr : PA X es (tAr G n)) (hs : starEach (e :: es) X.env = (false, eval e X.env) :: starEach es X.env := by rfl) : PA X (e :: es) (tAr G (lCons m n)) := by
  refine pa_if (pa_cons h hr hs) fun σ H Q ⟨ω, δ, φ, s, o⟩ => ⟨ω, δ, φ, s, (Out.bind o).mono (fun r h1 ω' H' φ' v st s' rp => ⟨ω', r.2, φ', s', (Out.bind h1).mono (fun q hq ω2 H2 φ2 vs st2 s2 r2 => ?_) fun _ _ z => z.up st⟩) fun _ _ z => z⟩
  exact hq ω2 H2 φ2 (v :: vs) (st.trans st2) s2 (.cons (AvR.up rp st2.grow) r2)
def mTup (m : Sm) : Em := fun δ => m δ >>= fun r => if r.1.length ≤ sizeLine then .ok (.tuple r.1, r.2) else .no
theorem Rep.newT {K : PySem.W.Frag} {ω : Om} {H : Hp} {p : Addr} {vs : List V} {ds : List D} (wf : Wf ω H) (hp : H p = none) (h : Reps K ω H vs ds) : Rep K ω (upd H p (.tup vs)) (.ref p) (.tuple ds) :=
  .tup (.inl (.inl upd_same)) (h.up ⟨fun a o e _ => Ext.upd hp a o e, wf, fun a z => .inl z⟩)
theorem Rep.newL {K : PySem.W.Frag} {ω : Om} {H : Hp} {p : Addr} {vs : List V} {ds : List D} (wf : Wf ω H) (hp : H p = none) (h : Reps K ω H vs ds) : Rep K ω (upd H p (.lst vs)) (.ref p) (.list ds) :=
  .lst ⟨.inl upd_same, fun z => by obtain ⟨xs, e⟩ := wf p z; rw [hp] at e; cases e⟩ (h.up ⟨fun a o e _ => Ext.upd hp a o e, wf, fun a z => .inl z⟩)
theorem et {x1} {m : Sm} (h : PA X es (tS G m)) : PE X (.Tuple es x1 pos) (tI G (mTup m)) := by
  refine pe_if (pe_tup h) fun σ H Q ⟨ω, δ, φ, s, o⟩ => ⟨ω, δ, φ, s, (Out.bind o).mono (fun r hr ω' H' φ' vs st s' rp => ?_) fun _ _ z => z⟩
  by_cases hl : r.1.length ≤ sizeLine
  · rw [if_pos hl] at hr
    refine ⟨by rw [rp.length]; exact hl, fun p hp => ?_⟩
    exact hr ω' _ φ' _ (st.trans (s'.step (Ext.upd hp))) (s'.ext (Ext.upd hp)) (Rep.newT s'.wf hp rp)
  · rw [if_neg hl] at hr
    exact hr.elim
def fLst (m : Sm) : Fm := fun δ => m δ >>= fun r => if r.1.length ≤ sizeLine then .ok (r.1, r.2) else .no
theorem fl {m : Sm} (h : PA X es (tS G m)) : PE X (.List es pos) (tF G (fLst m)) := by
  refine pe_if (pe_lst h) fun σ H Q ⟨ω, δ, φ, s, o⟩ => ⟨ω, δ, φ, s, (Out.bind o).mono (fun r hr ω' H' φ' vs st s' rp => ?_) fun _ _ z => z⟩
  by_cases hl : r.1.length ≤ sizeLine
  · rw [if_pos hl] at hr
    refine ⟨by rw [rp.length]; exact hl, fun p hp => ?_⟩
    exact hr ω' H' φ' p vs st s' hp rp
  · rw [if_neg hl] at hr
    exact hr.elim
/-- a new list as a value that nobody changes -/
theorem fi {m : Fm} (h : PE X e (tF G m)) : PE X e (tI G (eF m)) := by
  refine pe_if h fun σ H Q ⟨ω, δ, φ, s, o⟩ => ⟨ω, δ, φ, s, (Out.bind o).mono (fun r hr ω' H' φ' p vs st s' hp rp => ?_) fun _ _ z => z⟩
  exact hr ω' _ φ' _ (st.trans (s'.step (Ext.upd hp))) (s'.ext (Ext.upd hp)) (Rep.newL s'.wf hp rp)
/-- .. as one of ours -/
theorem Own.newL {K : PySem.W.Frag} {ω : Om} {H : Hp} {p : Addr} {vs : List V} {ds : List D} (wf : Wf ω H) (hp : H p = none) (h : Reps K ω H vs ds) : Own K (fun a => ω a ∨ a = p) (upd H p (.lst vs)) (.mu .im) (.ref p) (.list ds) [p] :=
  .mui upd_same (h.up ⟨fun a o e _ => Ext.upd hp a o e, wf, fun a z => z.elim .inl fun e => .inr (e ▸ hp)⟩)
theorem Slots.more {K : PySem.W.Frag} {κ : Kn} {ω ω' : Om} {H H' : Hp} {σ : L2.St} {δ : Dl} {φ : Fps} (s : Slots K κ ω H σ δ φ) (e : Ext H H') (h1 : ∀ a, ω a → ω' a) (h2 : ∀ a, ω' a → ω a ∨ H a = none) (h3 : ∀ a, ω' a → ∃ xs, H' a = some (.lst xs)) : Slots K κ ω' H' σ δ φ where
  len := s.len
  at_ := fun i d h => by
    obtain ⟨v, q1, q2⟩ := s.at_ i d h
    refine ⟨v, q1, Own.mono (ω' := ω') ⟨fun a o h _ => e a o h, s.wf, h2⟩ d _ _ _ (fun a ha => ?_) q2⟩
    obtain ⟨xs, q⟩ := Own.lsts d _ _ _ q2 a ha
    rw [q, e a _ q]
  nod := s.nod
  dis := s.dis
  sub := fun a h => h1 a (s.sub a h)
  wf := h3
theorem fo {m : Fm} (h : PE X e (tF G m)) : PE X e (tO G (.mu .im) (eF m)) := by
  refine pe_if h fun σ H Q ⟨ω, δ, φ, s, o⟩ => ⟨ω, δ, φ, s, (Out.bind o).mono (fun r hr ω' H' φ' p vs st s' hp rp => ?_) fun _ _ z => z⟩
  have wf2 : ∀ a, ω' a ∨ a = p → ∃ xs, (upd H' p (.lst vs)) a = some (.lst xs) := fun a h => by
    rcases h with h | rfl
    · obtain ⟨xs, q⟩ := s'.wf a h
      exact ⟨xs, Ext.upd hp a _ q⟩
    · exact ⟨vs, upd_same⟩
  have np : ¬ Fp φ' p := fun z => by
    obtain ⟨xs, q⟩ := s'.wf p (s'.sub p z)
    rw [hp] at q; cases q
  refine hr (fun a => ω' a ∨ a = p) _ φ' _ [p] (st.trans ⟨fun a o e _ => Ext.upd hp a o e, fun a z => z.elim .inl fun e => .inr (e ▸ hp), fun a z _ => .inl z, fun a z => z.elim .inl fun e => .inr ((List.mem_singleton.mp e) ▸ hp), s'.sub, s'.wf⟩)
    (s'.more (Ext.upd hp) (fun a z => .inl z) (fun a z => z.elim .inl fun e => .inr (e ▸ hp)) wf2) (Own.newL s'.wf hp rp) (by simp) fun a ha => ?_
  rw [List.mem_singleton.mp ha]
  exact ⟨.inr rfl, np⟩
theorem oim {m : Em} (h : PE X e (tI G m)) : PE X e (tO G .im m) := by
  refine pe_if h fun σ H Q ⟨ω, δ, φ, s, o⟩ => ⟨ω, δ, φ, s, o.mono (fun r hr ω' H' φ' v st s' rp => ?_) fun _ _ z => z⟩
  refine hr ω' H' φ' v [] ⟨st.keep, st.om, st.stay, fun a z => z.elim (st.fp a) fun z => absurd z (by simp), st.sub, st.wf⟩ s' (.im rp) .nil fun a ha => absurd ha (by simp)
/-- what is ours, let go -/
def without (ω : Om) (f : List Addr) : Om := fun a => ω a ∧ a ∉ f
end
section
variable {K : PySem.W.Frag} {ω : Om} {H : Hp}
mutual
theorem Own.let (F : List Addr) : ∀ (d : D) (s : Sh) (v : V) (f : List Addr), (∀ a ∈ f, a ∈ F) → Own K ω H s v d f → (∀ a, ω a → ∃ xs, H a = some (.lst xs)) → Rep K (without ω F) H v d
  | .list ds, _, _, _, hf, h, wf => by
    cases h with
    | im r => exact r.up ⟨fun a o e _ => e, wf, fun a z => .inl z.1⟩
    | mu e t => exact .lst ⟨.inl e, fun z => z.2 (hf _ List.mem_cons_self)⟩ (Owns.let F ds _ _ _ (fun a ha => hf a (List.mem_cons_of_mem _ ha)) t wf)
    | rc e t => exact .lst ⟨.inl e, fun z => z.2 (hf _ List.mem_cons_self)⟩ (Owns.let F ds _ _ _ (fun a ha => hf a (List.mem_cons_of_mem _ ha)) t wf)
  | .none, _, _, _, _, h, wf => by cases h with | im r => exact r.up ⟨fun a o e _ => e, wf, fun a z => .inl z.1⟩
  | .bool _, _, _, _, _, h, wf => by cases h with | im r => exact r.up ⟨fun a o e _ => e, wf, fun a z => .inl z.1⟩
  | .int _, _, _, _, _, h, wf => by cases h with | im r => exact r.up ⟨fun a o e _ => e, wf, fun a z => .inl z.1⟩
  | .str _, _, _, _, _, h, wf => by cases h with | im r => exact r.up ⟨fun a o e _ => e, wf, fun a z => .inl z.1⟩
  | .tuple _, _, _, _, _, h, wf => by cases h with | im r => exact r.up ⟨fun a o e _ => e, wf, fun a z => .inl z.1⟩
  | .dict _, _, _, _, _, h, wf => by cases h with | im r => exact r.up ⟨fun a o e _ => e, wf, fun a z => .inl z.1⟩
theorem Owns.let (F : List Addr) : ∀ (ds : List D) (ss : List Sh) (vs : List V) (f : List Addr), (∀ a ∈ f, a ∈ F) → Owns K ω H ss vs ds f → (∀ a, ω a → ∃ xs, H a = some (.lst xs)) → Reps K (without ω F) H vs ds
  | [], _, _, _, _, h, _ => by cases h; exact .nil
  | d :: ds, _, _, _, hf, h, wf => by
    cases h with
    | cons r t => exact .cons (Own.let F d _ _ _ (fun a ha => hf a (List.mem_append_left _ ha)) r wf) (Owns.let F ds _ _ _ (fun a ha => hf a (List.mem_append_right _ ha)) t wf)
end
theorem Slots.less {κ : Kn} {σ : L2.St} {δ : Dl} {φ : Fps} {F : List Addr} (s : Slots K κ ω H σ δ φ) (h : ∀ a ∈ F, ¬ Fp φ a) : Slots K κ (without ω F) H σ δ φ where
  len := s.len
  at_ := fun i d h => by
    obtain ⟨v, q1, q2⟩ := s.at_ i d h
    exact ⟨v, q1, Own.mono (ω' := without ω F) ⟨fun a o e _ => e, s.wf, fun a z => .inl z.1⟩ d _ _ _ (fun a ha => rfl) q2⟩
  nod := s.nod
  dis := s.dis
  sub := fun a z => ⟨s.sub a z, fun m => h a m z⟩
  wf := fun a z => s.wf a z.1
end
section
variable {X : Cx} {G : Gm} {e a b c : Expr} {es : List Expr} {pos : Pos}
theorem oI {sh : Sh} {m : Em} (h : PE X e (tO G sh m)) : PE X e (tI G m) := by
  refine pe_if h fun σ H Q ⟨ω, δ, φ, s, o⟩ => ⟨ω, δ, φ, s, o.mono (fun r hr ω' H' φ' v f st s' ow nd hf => ?_) fun _ _ z => z⟩
  refine hr (without ω' f) H' φ' v ⟨st.keep, fun a z => st.om a z.1, fun a z n => ⟨st.stay a z n, fun m => ?_⟩, fun a z => st.fp a (.inl z), st.sub, st.wf⟩ (s'.less fun a ha => (hf a ha).2) (Own.let f _ _ _ _ (fun a ha => ha) ow s'.wf)
  rcases st.fp a (.inr m) with q | q
  · exact n q
  · obtain ⟨xs, q2⟩ := st.wf a z
    rw [q] at q2; cases q2
/-- a slot's own list, moved out -/
def mM (i : Nat) : Em := fun δ => match δ[i]? with
  | some (some d) => .ok (d, δ.set i none)
  | _ => .no
theorem Slots.out {K : PySem.W.Frag} {κ : Kn} {ω : Om} {H : Hp} {σ : L2.St} {δ : Dl} {φ : Fps} (s : Slots K κ ω H σ δ φ) (i : Nat) : Slots K κ ω H σ (δ.set i none) (fun j => if j = i then [] else φ j) where
  len := by rw [List.length_set]; exact s.len
  at_ := fun j d h => by
    by_cases e : i = j
    · subst e
      rw [List.getElem?_set] at h
      simp at h
    · rw [List.getElem?_set_ne e] at h
      rw [if_neg (Ne.symm e)]
      exact s.at_ j d h
  nod := fun j => by split <;> simp [s.nod]
  dis := fun j k a n h => by
    split at h
    · simp at h
    · split
      · simp
      · exact s.dis j k a n h
  sub := fun a ⟨j, h⟩ => by
    dsimp only at h
    split at h
    · simp at h
    · exact s.sub a ⟨j, h⟩
  wf := s.wf
theorem xM (i : Nat) {x : Str} (hN : X.N[i]? = some x := by rfl) (hv : Vis X.env.scope x := by first | exact Or.inl rfl | exact Or.inr (Or.inl rfl) | exact Or.inr (Or.inr rfl)) (hd : (x == ("__debug__" : Str)) = false := by decide)
    (hcd : (x == ("__classdict__" : Str)) = false := by decide) : PE X (.Name x pos) (tO G (G.κ i) (mM i)) := by
  refine pe_if (pe_var hN hv hd hcd) fun σ H Q ⟨ω, δ, φ, s, o⟩ => ?_
  cases e1 : δ[i]? with
  | none => simp only [mM, e1] at o; exact o.elim
  | some z =>
    simp only [mM, e1] at o
    cases z with
    | none => exact o.elim
    | some d =>
      obtain ⟨w, h3, h4⟩ := s.at_ i d e1
      have np : ∀ a ∈ φ i, ¬ Fp (fun j => if j = i then [] else φ j) a := fun a ha ⟨j, hj⟩ => by
        dsimp only at hj
        by_cases e : j = i
        · rw [if_pos e] at hj; simp at hj
        · rw [if_neg e] at hj
          exact s.dis j i a e hj ha
      refine ⟨w, h3, o ω H (fun j => if j = i then [] else φ j) w (φ i) ⟨fun a o h _ => h, fun a h => .inl h, fun a h _ => h, fun a h => .inl ?_, s.sub, s.wf⟩ (s.out i) h4 (s.nod i) fun a ha => ⟨s.sub a ⟨i, ha⟩, np a ha⟩⟩
      rcases h with ⟨j, hj⟩ | h
      · dsimp only at hj
        split at hj
        · simp at hj
        · exact ⟨j, hj⟩
      · exact ⟨i, h⟩
end
end Zd

namespace Zd
open PySem PySem.Spec
open PyProof.Rows L2

/-! ### statements -/
inductive Fl where
  | nx
  | rt (d : D)
  | bk
  | ct
abbrev Pm := Dl → Rs (Fl × Dl)
/-- the slots at pin hold what they held -/
abbrev Pin (pin : Nat → Bool) (σ σ' : L2.St) : Prop := ∀ i, pin i = true → σ'[i]? = σ[i]?
/-- a body's own: what stays in its slot, how what is handed back is held -/
structure Gs extends Gm where
  pin : Nat → Bool
  ret : Sh
def Ret (G : Gs) (D : Ends) (ω P : Om) (H : Hp) (pin : Nat → Bool) (σ : L2.St) (d : PySem.PyData) (δ' : Dl) : Prop :=
  ∀ ω' H' σ' φ' v f, Step ω P H ω' (fun a => Fp φ' a ∨ a ∈ f) H' → Slots G.K G.κ ω' H' σ' δ' φ' → Pin pin σ σ' → Own G.K ω' H' G.ret v d f → f.Nodup → (∀ a ∈ f, ω' a ∧ ¬ Fp φ' a) → D.rt v H'
def tP (G : Gs) (σ0 : L2.St) (m : Pm) : TS := fun D σ H => Pin G.pin σ0 σ ∧ ∃ ω δ φ, Slots G.K G.κ ω H σ δ φ ∧
  Out (m δ) (fun r => match r.1 with
    | .nx => ∀ ω' H' σ' φ', Step ω (Fp φ) H ω' (Fp φ') H' → Slots G.K G.κ ω' H' σ' r.2 φ' → Pin G.pin σ0 σ' → D.nx σ' H'
    | .bk => ∀ ω' H' σ' φ', Step ω (Fp φ) H ω' (Fp φ') H' → Slots G.K G.κ ω' H' σ' r.2 φ' → Pin G.pin σ0 σ' → D.bk σ' H'
    | .ct => ∀ ω' H' σ' φ', Step ω (Fp φ) H ω' (Fp φ') H' → Slots G.K G.κ ω' H' σ' r.2 φ' → Pin G.pin σ0 σ' → D.ct σ' H'
    | .rt d => ∀ ω' H' σ' φ' v f, Step ω (Fp φ) H ω' (fun a => Fp φ' a ∨ a ∈ f) H' → Slots G.K G.κ ω' H' σ' r.2 φ' → Pin G.pin σ0 σ' → Own G.K ω' H' G.ret v d f → f.Nodup → (∀ a ∈ f, ω' a ∧ ¬ Fp φ' a) → D.rt v H')
    (Esc G.K G.cls G.E ω (Fp φ) H)
def pNil : Pm := fun δ => .ok (.nx, δ)
def pSeq (m n : Pm) : Pm := fun δ => m δ >>= fun r => match r.1 with
  | .nx => n r.2
  | .rt d => .ok (.rt d, r.2)
  | .bk => .ok (.bk, r.2)
  | .ct => .ok (.ct, r.2)
section
variable {X : Cx} {G : Gs} {σ0 : L2.St} {st : Stmt} {sts a b : List Stmt} {e c : Expr} {pos : Pos}
/-- the ends of a run that follows on another's -/
theorem tP_go {m : Pm} {D : Ends} {σ : L2.St} {H : Hp} {ω P : Om} {ω1 : Om} {H1 : Hp} {φ1 : Fps} {δ1 : Dl} {σ1 : L2.St} (st : Step ω P H ω1 (Fp φ1) H1) (s1 : Slots G.K G.κ ω1 H1 σ1 δ1 φ1) (p1 : Pin G.pin σ0 σ1)
    (o : Out (m δ1) (fun r => match r.1 with
    | .nx => ∀ ω' H' σ' φ', Step ω P H ω' (Fp φ') H' → Slots G.K G.κ ω' H' σ' r.2 φ' → Pin G.pin σ0 σ' → D.nx σ' H'
    | .bk => ∀ ω' H' σ' φ', Step ω P H ω' (Fp φ') H' → Slots G.K G.κ ω' H' σ' r.2 φ' → Pin G.pin σ0 σ' → D.bk σ' H'
    | .ct => ∀ ω' H' σ' φ', Step ω P H ω' (Fp φ') H' → Slots G.K G.κ ω' H' σ' r.2 φ' → Pin G.pin σ0 σ' → D.ct σ' H'
    | .rt d => ∀ ω' H' σ' φ' v f, Step ω P H ω' (fun a => Fp φ' a ∨ a ∈ f) H' → Slots G.K G.κ ω' H' σ' r.2 φ' → Pin G.pin σ0 σ' → Own G.K ω' H' G.ret v d f → f.Nodup → (∀ a ∈ f, ω' a ∧ ¬ Fp φ' a) → D.rt v H')
    (Esc G.K G.cls G.E ω P H)) : tP G σ0 m D σ1 H1 := by
  refine ⟨p1, ω1, δ1, φ1, s1, o.mono (fun r hr => ?_) fun _ _ z => z.up st⟩
  cases e1 : r.1 with
  | nx => simp only [e1] at hr ⊢; exact fun ω' H' σ' φ' t => hr ω' H' σ' φ' (st.trans t)
  | bk => simp only [e1] at hr ⊢; exact fun ω' H' σ' φ' t => hr ω' H' σ' φ' (st.trans t)
  | ct => simp only [e1] at hr ⊢; exact fun ω' H' σ' φ' t => hr ω' H' σ' φ' (st.trans t)
  | rt d => simp only [e1] at hr ⊢; exact fun ω' H' σ' φ' v f t => hr ω' H' σ' φ' v f (st.trans t)
theorem pn : PSs X [] (tP G σ0 pNil) := pss_if' pss_nil fun D σ H ⟨p, ω, δ, φ, s, o⟩ => o ω H σ φ s.refl s p
theorem tP_seq {m n : Pm} {D : Ends} {σ : L2.St} {H : Hp} (h : tP G σ0 (pSeq m n) D σ H) : tP G σ0 m { D with nx := tP G σ0 n D } σ H := by
  obtain ⟨p, ω, δ, φ, s, o⟩ := h
  refine ⟨p, ω, δ, φ, s, (Out.bind o).mono (fun r hr => ?_) fun _ _ z => z⟩
  cases e1 : r.1 with
  | nx => simp only [e1] at hr ⊢; exact fun ω' H' σ' φ' t s' p' => tP_go (σ := σ) t s' p' hr
  | bk => simp only [e1] at hr ⊢; exact hr
  | ct => simp only [e1] at hr ⊢; exact hr
  | rt d => simp only [e1] at hr ⊢; exact hr
theorem pc {m n : Pm} (h : PS X st (tP G σ0 m)) (h' : PSs X sts (tP G σ0 n)) : PSs X (st :: sts) (tP G σ0 (pSeq m n)) :=
  pss_if' (pss_cons h h') fun D σ H q => tP_seq q
theorem p1 {m : Pm} (h : PS X st (tP G σ0 m)) : PSs X [st] (tP G σ0 m) := pss_one h
def pBk : Pm := fun δ => .ok (.bk, δ)
def pCt : Pm := fun δ => .ok (.ct, δ)
theorem pps : PS X (.Pass pos) (tP G σ0 pNil) := ps_if' ps_pass fun D σ H ⟨p, ω, δ, φ, s, o⟩ => o ω H σ φ s.refl s p
theorem pbk : PS X (.Break pos) (tP G σ0 pBk) := ps_if' ps_break fun D σ H ⟨p, ω, δ, φ, s, o⟩ => o ω H σ φ s.refl s p
theorem pct : PS X (.Continue pos) (tP G σ0 pCt) := ps_if' ps_continue fun D σ H ⟨p, ω, δ, φ, s, o⟩ => o ω H σ φ s.refl s p
def pIf (t : Tm) (m n : Pm) : Pm := fun δ => t δ >>= fun r => if r.1 = true then m r.2 else n r.2
theorem pif {t : Tm} {m n : Pm} (hc : PT X c (tT G.toGm t)) (ha : PSs X a (tP G σ0 m)) (hb : PSs X b (tP G σ0 n)) : PS X (.If c a b pos) (tP G σ0 (pIf t m n)) := by
  refine ps_if' (ps_if hc ha hb) fun D σ H ⟨p, ω, δ, φ, s, o⟩ => ⟨ω, δ, φ, s, (Out.bind o).mono (fun r hr ω' H' φ' st s' => ?_) fun _ _ z => z⟩
  cases e1 : r.1 with
  | true =>
    rw [if_pos rfl]
    rw [e1, if_pos rfl] at hr
    exact tP_go (σ := σ) st s' p hr
  | false =>
    rw [if_neg
              Bool.false_ne_true]
    rw [e1, if_neg Bool.false_ne_true] at hr
    exact tP_go (σ := σ) st s' p hr
def pRet (m : Em) : Pm := fun δ => m δ >>= fun r => .ok (.rt r.1, r.2)
theorem pr {sh : Sh} {m : Em} (h : PE X e (tO G.toGm sh m)) (hs : G.ret = sh := by rfl) : PS X (.Return (some e) pos) (tP G σ0 (pRet m)) := by
  refine ps_if' (ps_ret h) fun D σ H ⟨p, ω, δ, φ, s, o⟩ => ⟨ω, δ, φ, s, (Out.bind o).mono (fun r hr ω' H' φ' v f st s' ow nd hf => ?_) fun _ _ z => z⟩
  exact hr ω' H' σ φ' v f st s' p (hs ▸ ow) nd hf
theorem pri {m : Em} (h : PE X e (tI G.toGm m)) (hs : G.ret = .im := by rfl) : PS X (.Return (some e) pos) (tP G σ0 (pRet m)) := pr (oim h) hs
theorem prn (hs : G.ret = .im := by rfl) : PS X (.Return none pos) (tP G σ0 (pRet (mC .none))) := by
  refine ps_if' ps_retN fun D σ H ⟨p, ω, δ, φ, s, o⟩ => ?_
  exact o ω H σ φ .non [] ⟨fun a o h _ => h, fun a h => .inl h, fun a h _ => h, fun a h => h.elim .inl fun h => absurd h (by simp), s.sub, s.wf⟩ s p (by rw [hs]; exact .im .non) .nil fun a ha => absurd ha (by simp)

/-! ### stores -/
theorem Slots.put {K : PySem.W.Frag} {κ : Kn} {ω : Om} {H : Hp} {σ : L2.St} {δ : Dl} {φ : Fps} (s : Slots K κ ω H σ δ φ) (i : Nat) (hi : i < δ.length) {v : V} {d : PySem.PyData} {f : List Addr} (ow : Own K ω H (κ i) v d f) (nd : f.Nodup) (hf : ∀ a ∈ f, ω a ∧ ¬ Fp φ a) :
    Slots K κ ω H (σ.set i (some v)) (δ.set i (some d)) (fun j => if j = i then f else φ j) where
  len := by rw [List.length_set, List.length_set]; exact s.len
  at_ := fun j e h => by
    by_cases q : i = j
    · subst q
      rw [List.getElem?_set_self hi] at h
      cases h
      refine ⟨v, List.getElem?_set_self (by rw [s.len]; exact hi), ?_⟩
      rw [if_pos rfl]
      exact ow
    · rw [List.getElem?_set_ne q] at h
      rw [if_neg (Ne.symm q), List.getElem?_set_ne q]
      exact s.at_ j e h
  nod := fun j => by split <;> first | exact nd | exact s.nod j
  dis := fun j k a n h => by
    split at h
    · rename_i ej
      rw [if_neg (by rw [← ej]; exact Ne.symm n)]
      exact fun z => (hf a h).2 ⟨k, z⟩
    · split
      · exact fun z => (hf a z).2 ⟨j, h⟩
      · exact s.dis j k a n h
  sub := fun a ⟨j, h⟩ => by
    dsimp only at h
    split at h
    · exact (hf a h).1
    · exact s.sub a ⟨j, h⟩
  wf := s.wf
def put (δ : Dl) (i : Nat) (d : PySem.PyData) : Rs Dl := if i < δ.length then .ok (δ.set i (some d)) else .no
def pSet (i : Nat) (m : Em) : Pm := fun δ => m δ >>= fun r => put r.2 i r.1 >>= fun δ' => .ok (.nx, δ')
theorem put_inv {δ : Dl} {i : Nat} {d : PySem.PyData} {q : Dl → Prop} {e : Str → PySem.PyData → Prop} (h : Out (put δ i d) q e) : i < δ.length ∧ q (δ.set i (some d)) := by
  unfold put at h
  by_cases hi : i < δ.length
  · rw [if_pos hi] at h
    exact ⟨hi, h⟩
  · rw [if_neg hi] at h
    exact h.elim
theorem pin_set {pin : Nat → Bool} {σ σ' : L2.St} {i : Nat} {v : V} (p : Pin pin σ σ') (hp : pin i = false) : Pin pin σ (σ'.set i (some v)) := fun j hj => by
  rw [List.getElem?_set_ne (by rintro rfl; rw [hp] at hj; cases hj)]
  exact p j hj
/-- what a store at a slot leaves -/
theorem put_step {K : PySem.W.Frag} {κ : Kn} {ω ω' P : Om} {H H' : Hp} {σ : L2.St} {δ : Dl} {φ : Fps} {f : List Addr} (st : Step ω P H ω' (fun a => Fp φ a ∨ a ∈ f) H') (i : Nat) : Step ω P H ω' (Fp (fun j => if j = i then f else φ j)) H' :=
  ⟨st.keep, st.om, st.stay, fun a ⟨j, h⟩ => by
    dsimp only at h
    split at h
    · exact st.fp a (.inr h)
    · exact st.fp a (.inl ⟨j, h⟩), st.sub, st.wf⟩
theorem pso {i : Nat} {x : Str} {m : Em} {pos' : Pos} {sh : Sh} (hN : X.N.Nodup) (he : PE X e (tO G.toGm sh m)) (hsh : G.κ i = sh := by rfl) (hi : X.N[i]? = some x := by rfl) (hx : Loc X.env.scope x := by first | exact Or.inl rfl | exact Or.inr rfl) (hp : G.pin i = false := by rfl) (hs : swapsWith e (some (.Name x pos')) pos.line X.env = pure false := by rfl) (hf : X.fn x = true ∨ X.env.scope.names.lookup x = some .local := by first | exact .inl rfl | exact .inr rfl | assumption) :
    PS X (.Assign [.Name x pos'] e pos) (tP G σ0 (pSet i m)) := by
  refine ps_if' (ps_set hN hi hx he hs hf) fun D σ H ⟨p, ω, δ, φ, s, o⟩ => ⟨ω, δ, φ, s, (Out.bind o).mono (fun r hr ω' H' φ' v f st s' ow nd hf => ?_) fun _ _ z => z⟩
  obtain ⟨hi', hr⟩ := put_inv (Out.bind hr)
  rw [← hsh] at ow
  exact hr ω' H' _ _ (put_step (K := G.K) (κ := G.κ) (σ := σ) (δ := δ) st i) (s'.put i hi' ow nd hf) (pin_set p hp)
theorem ps {i : Nat} {x : Str} {m : Em} {pos' : Pos} (hN : X.N.Nodup) (he : PE X e (tI G.toGm m)) (hsh : G.κ i = .im := by rfl) (hi : X.N[i]? = some x := by rfl) (hx : Loc X.env.scope x := by first | exact Or.inl rfl | exact Or.inr rfl) (hp : G.pin i = false := by rfl) (hs : swapsWith e (some (.Name x pos')) pos.line X.env = pure false := by rfl) (hf : X.fn x = true ∨ X.env.scope.names.lookup x = some .local := by first | exact .inl rfl | exact .inr rfl | assumption) :
    PS X (.Assign [.Name x pos'] e pos) (tP G σ0 (pSet i m)) := pso hN (oim he) hsh hi hx hp hs hf
/-- an expression for what it does -/
def pEx (m : Em) : Pm := fun δ => m δ >>= fun r => .ok (.nx, r.2)
theorem pe {m : Em} (he : PE X e (tI G.toGm m)) (hs : swapsWith e none pos.line X.env = pure false := by rfl) : PS X (.Expr e pos) (tP G σ0 (pEx m)) := by
  refine ps_if' (ps_expr he hs) fun D σ H ⟨p, ω, δ, φ, s, o⟩ => ⟨ω, δ, φ, s, (Out.bind o).mono (fun r hr ω' H' φ' v st s' rp => ?_) fun _ _ z => z⟩
  exact hr ω' H' σ φ' st s' p

/-! ### targets -/
abbrev Tg := PySem.PyData → Dl → Rs Dl
def tG (G : Gs) (σ0 : L2.St) (t : Tg) : TG := fun v σ H Q => Pin G.pin σ0 σ ∧ ∃ ω δ φ d, Slots G.K G.κ ω H σ δ φ ∧ Rep G.K ω H v d ∧
  Out (t d δ) (fun δ' => ∀ σ' φ', Step ω (Fp φ) H ω (Fp φ') H → Slots G.K G.κ ω H σ' δ' φ' → Pin G.pin σ0 σ' → σ'.length = σ.length → Q σ' H) (fun _ _ => False)
def gN (i : Nat) : Tg := fun d δ => put δ i d
theorem Slots.puti {K : PySem.W.Frag} {κ : Kn} {ω : Om} {H : Hp} {σ : L2.St} {δ : Dl} {φ : Fps} (s : Slots K κ ω H σ δ φ) (i : Nat) (hi : i < δ.length) {v : V} {d : PySem.PyData} (hk : κ i = .im) (r : Rep K ω H v d) :
    Slots K κ ω H (σ.set i (some v)) (δ.set i (some d)) (fun j => if j = i then [] else φ j) ∧ Step ω (Fp φ) H ω (Fp (fun j => if j = i then [] else φ j)) H :=
  ⟨s.put i hi (by rw [hk]; exact .im r) .nil fun a ha => absurd ha (by simp), fun a o h _ => h, fun a h => .inl h, fun a h _ => h, fun a ⟨j, h⟩ => by
    dsimp only at h
    split at h
    · exact absurd h (by simp)
    · exact .inl ⟨j, h⟩, s.sub, s.wf⟩
theorem gn {i : Nat} {x : Str} (hN : X.N.Nodup) (hi : X.N[i]? = some x := by rfl) (hk : G.κ i = .im := by rfl) (hp : G.pin i = false := by rfl) (hx : Loc X.env.scope x := by first | exact Or.inl rfl | exact Or.inr rfl) (hf : X.fn x = true ∨ X.env.scope.names.lookup x = some .local := by first | exact .inl rfl | exact .inr rfl | assumption) :
    PG X (.Name x pos) (tG G σ0 (gN i)) := by
  refine ⟨fun pins s σ H v u Q I r h => (pg_name hN hi hx hf).run pins s σ H v u Q I r ?_⟩
  obtain ⟨p, ω, δ, φ, d, sl, rp, o⟩ := h
  obtain ⟨hi', q⟩ := put_inv o
  obtain ⟨s2, st⟩ := sl.puti i hi' hk rp
  exact q _ _ st s2 (pin_set p hp) (List.length_set ..)
abbrev Tgs := List PySem.PyData → Dl → Rs Dl
def tGs (G : Gs) (σ0 : L2.St) (t : Tgs) : TGs := fun vs σ H Q => Pin G.pin σ0 σ ∧ ∃ ω δ φ ds, Slots G.K G.κ ω H σ δ φ ∧ Reps G.K ω H vs ds ∧
  Out (t ds δ) (fun δ' => ∀ σ' φ', Step ω (Fp φ) H ω (Fp φ') H → Slots G.K G.κ ω H σ' δ' φ' → Pin G.pin σ0 σ' → σ'.length = σ.length → Q σ' H) (fun _ _ => False)
def gE : Tgs := fun ds δ => match ds with
  | [] => .ok δ
  | _ => .no
def gC (t : Tg) (u : Tgs) : Tgs := fun ds δ => match ds with
  | d :: ds => t d δ >>= fun δ' => u ds δ'
  | [] => .no
theorem ge : PGs X [] (tGs G σ0 gE) := by
  refine ⟨fun pins s σ H vs us Q I r h => pgs_nil.run pins s σ H vs us Q I r ?_⟩
  obtain ⟨p, ω, δ, φ, ds, sl, rp, o⟩ := h
  cases ds with
  | nil =>
    cases rp
    exact ⟨rfl, o σ φ sl.refl sl p rfl⟩
  | cons d ds => exact o.elim
theorem gc {es : List Expr} {t : Tg} {u : Tgs} (h1 : PG X e (tG G σ0 t)) (h2 : PGs X es (tGs G σ0 u)) (hs : (assignEach (e :: es) X.env).map (·.2) = assign e X.env :: (assignEach es X.env).map (·.2) := by rfl) : PGs X (e :: es) (tGs G σ0 (gC t u)) := by
  refine ⟨fun pins s σ H vs us Q I r h => (pgs_cons h1 h2 hs).run pins s σ H vs us Q I r ?_⟩
  obtain ⟨p, ω, δ, φ, ds, sl, rp, o⟩ := h
  cases ds with
  | nil => exact o.elim
  | cons d ds =>
    cases rp with
    | cons r1 r2 =>
      refine ⟨_, _, rfl, p, ω, δ, φ, d, sl, r1, (Out.bind o).mono (fun δ1 h1 σ1 φ1 st1 s1 p1 l1 => ⟨p1, ω, δ1, φ1, ds, s1, r2, h1.mono (fun δ2 h2 σ2 φ2 st2 s2 p2 l2 => h2 σ2 φ2 (st1.trans st2) s2 p2 (l2.trans l1)) fun _ _ z => z⟩) fun _ _ z => z⟩
def gT (n : Nat) (t : Tgs) : Tg := fun d δ => match d with
  | .tuple ds => if ds.length = n then t ds δ else .no
  | _ => .no
theorem gt {es : List Expr} {k : Nat} {t : Tgs} {n : Nat} (hc : X.calm = true) (h : PGs X es (tGs G σ0 t)) (hK : X.K = G.K := by rfl)
    (hn : (assignEach es X.env).length = n := by rfl) (hst : (assignEach es X.env).findIdx? (·.1) = none := by rfl) : PG X (.Tuple es k pos) (tG G σ0 (gT n t)) := by
  refine ⟨fun pins s σ H v u Q I r q => (pg_tup hc h hn hst).run pins s σ H v u Q I r ?_⟩
  obtain ⟨p, ω, δ, φ, d, sl, rp, o⟩ := q
  cases d with
  | tuple ds =>
    simp only [gT] at o
    by_cases hl : ds.length = n
    · rw [if_pos hl] at o
      obtain ⟨a, vs, rfl, hs, rs⟩ := Lk.tuple (.inl rp)
      exact ⟨a, vs, rfl, hK ▸ hs, by rw [rs.length]; exact hl, p, ω, δ, φ, ds, sl, rs, o⟩
    · rw [if_neg hl] at o
      exact o.elim
  | _ => exact o.elim
/-- target = e -/
def pAs (t : Tg) (m : Em) : Pm := fun δ => m δ >>= fun r => t r.1 r.2 >>= fun δ' => .ok (.nx, δ')
theorem ex_no {α : Type} {r : Rs α} {q : α → Prop} {e : Str → PySem.PyData → Prop} (h : Out r q e) (n : ∀ c a, ¬ e c a) : Out r q (fun _ _ => False) := h.mono (fun _ z => z) fun c a z => n c a z
/-- a target raises nothing -/
def NoG (t : Tg) : Prop := ∀ d δ c a, t d δ ≠ .ex c a
def NoGs (t : Tgs) : Prop := ∀ d δ c a, t d δ ≠ .ex c a
theorem put_nx {δ : Dl} {i : Nat} {d : PySem.PyData} {c : Str} {a : PySem.PyData} : put δ i d ≠ .ex c a := by unfold put; split <;> (intro z; cases z)
theorem ng_n {i : Nat} : NoG (gN i) := fun _ _ _ _ => put_nx
theorem ng_e : NoGs gE := fun ds _ _ _ => by cases ds <;> (intro z; cases z)
theorem bind_nx {α β : Type} {x : Rs α} {f : α → Rs β} {c : Str} {a : PySem.PyData} (h1 : ∀ c a, x ≠ .ex c a) (h2 : ∀ y c a, f y ≠ .ex c a) : (x >>= f) ≠ .ex c a := by
  cases x with
  | ok y => exact h2 y c a
  | ex c a => exact fun _ => h1 c a rfl
  | no => intro z; cases z
theorem ng_c {t : Tg} {u : Tgs} (h : NoG t) (h' : NoGs u) : NoGs (gC t u) := fun ds δ c a => by
  cases ds with
  | nil => intro z; cases z
  | cons d ds => exact bind_nx (fun c a => h d δ c a) fun y c a => h' ds y c a
theorem ng_t {n : Nat} {t : Tgs} (h : NoGs t) : NoG (gT n t) := fun d δ c a => by
  cases d with
  | tuple ds =>
    show (if ds.length = n then t ds δ else .no) ≠ _
    split
    · exact h ds δ c a
    · intro z; cases z
  | _ => intro z; cases z
theorem pas {tg : Expr} {m : Em} {t : Tg} (he : PE X e (tI G.toGm m)) (hg : PG X tg (tG G σ0 t)) (nx : NoG t) (hs : swapsWithSole [tg] e pos.line X.env = pure false := by rfl) (hw : swappedStores [tg] e X.env = pure none := by rfl)
    (h1 : (assignEach [tg] X.env).map (·.2) = [assign tg X.env] := by rfl) : PS X (.Assign [tg] e pos) (tP G σ0 (pAs t m)) := by
  refine ps_if' (ps_asg he hg hs hw h1) fun D σ H ⟨p, ω, δ, φ, s, o⟩ => ⟨ω, δ, φ, s, (Out.bind o).mono (fun r hr ω' H' φ' v st s' rp => ?_) fun _ _ z => z⟩
  refine ⟨p, ω', r.2, φ', r.1, s', rp, (out_no (Out.bind hr) (nx _ _)).mono (fun δ' hq σ' φ2 st2 s2 p2 _ => ?_) fun _ _ z => z⟩
  exact hq ω' H' σ' φ2 (st.trans st2) s2 p2
/-- a, b = x, y with plain names -/
def pPar (i j : Nat) (m : Sm) : Pm := fun δ => m δ >>= fun r => match r.1 with
  | [d, e] => put r.2 i d >>= fun δ1 => put δ1 j e >>= fun δ2 => .ok (.nx, δ2)
  | _ => .no
theorem ppar {i j : Nat} {x y : Str} {ea eb : Expr} {m : Sm} {px py pt : Pos} {kt k2 pt2} (hc : X.calm = true) (hN : X.N.Nodup) (ha : PA X [ea, eb] (tS G.toGm m)) (hi : X.N[i]? = some x := by rfl) (hj : X.N[j]? = some y := by rfl) (hij : i ≠ j := by decide)
    (hki : G.κ i = .im := by rfl) (hkj : G.κ j = .im := by rfl) (hpi : G.pin i = false := by rfl) (hpj : G.pin j = false := by rfl) (hx : X.env.scope.names.lookup x = some .local := by rfl) (hy : X.env.scope.names.lookup y = some .local := by rfl)
    (hw : swappedStores [.Tuple [.Name x px, .Name y py] kt pt] (.Tuple [ea, eb] k2 pt2) X.env = pure (some [x, y]) := by rfl)
    (hs : swapsWithSole [.Tuple [.Name x px, .Name y py] kt pt] (.Tuple [ea, eb] k2 pt2) pos.line X.env = pure false := by rfl) :
    PS X (.Assign [.Tuple [.Name x px, .Name y py] kt pt] (.Tuple [ea, eb] k2 pt2) pos) (tP G σ0 (pPar i j m)) := by
  refine ps_if' (ps_par hc hN hi hj hij hx hy ha hw hs) fun D σ H ⟨p, ω, δ, φ, s, o⟩ => ⟨ω, δ, φ, s, (Out.bind o).mono (fun r hr ω' H' φ' vs st s' rp => ?_) fun _ _ z => z⟩
  obtain ⟨ds, δ1⟩ := r
  match ds, rp, hr with
  | [], _, hr => exact hr.elim
  | [d], _, hr => exact hr.elim
  | d :: e :: f :: g, _, hr => exact hr.elim
  | [d, e], rp, hr =>
    cases rp with
    | cons r1 r2 =>
      cases r2 with
      | cons r2 r3 =>
        cases r3
        obtain ⟨h1, h2⟩ := put_inv (Out.bind hr)
        obtain ⟨h3, h4⟩ := put_inv (Out.bind h2)
        obtain ⟨s2, st2⟩ := s'.puti i h1 hki r1
        obtain ⟨s3, st3⟩ := s2.puti j h3 hkj r2
        exact ⟨_, _, rfl, h4 ω' H' _ _ ((st.trans st2).trans st3) s3 (pin_set (pin_set p hpi) hpj)⟩

/-! ### while -/
def loopW (t : Tm) (m : Pm) : Nat → Pm
  | 0 => fun _ => .no
  | n + 1 => fun δ => t δ >>= fun r => if r.1 = true then m r.2 >>= fun q => match q.1 with
    | .nx => loopW t m n q.2
    | .ct => loopW t m n q.2
    | .bk => .ok (.nx, q.2)
    | .rt d => .ok (.rt d, q.2)
  else .ok (.nx, r.2)
theorem pw {t : Tm} {m : Pm} (n : Nat) (hp : PassesOwn (model X.prog X.w) X.A X.env X.xe) (hc : PT X c (tT G.toGm t)) (hb : PSs X a (tP G σ0 m)) : PS X (.While c a [] pos) (tP G σ0 (loopW t m n)) := by
  refine ps_if' (ps_while hp hc hb) fun D σ H h => ?_
  refine ⟨fun k σ H => tP G σ0 (loopW t m k) D σ H, ⟨n, h⟩, ?_⟩
  intro k σ H ⟨p, ω, δ, φ, s, o⟩
  cases k with
  | zero => exact o.elim
  | succ k =>
    refine ⟨ω, δ, φ, s, (Out.bind o).mono (fun r hr ω' H' φ' st s' => ?_) fun _ _ z => z⟩
    cases e1 : r.1 with
    | true =>
      rw [if_pos rfl]
      rw [e1, if_pos rfl] at hr
      refine ⟨fun σ' H' => tP G σ0 (loopW t m k) D σ' H', fun σ' H' q => ⟨k, Nat.lt_succ_self k, q⟩, p, ω', r.2, φ', s', (Out.bind hr).mono (fun q hq => ?_) fun _ _ z => z.up st⟩
      cases e2 : q.1 with
      | nx => simp only [e2] at hq ⊢; exact fun ω2 H2 σ2 φ2 st2 s2 p2 => tP_go (σ := σ) (st.trans st2) s2 p2 hq
      | ct => simp only [e2] at hq ⊢; exact fun ω2 H2 σ2 φ2 st2 s2 p2 => tP_go (σ := σ) (st.trans st2) s2 p2 hq
      | bk => simp only [e2] at hq ⊢; exact fun ω2 H2 σ2 φ2 st2 s2 p2 => hq ω2 H2 σ2 φ2 (st.trans st2) s2 p2
      | rt d => simp only [e2] at hq ⊢; exact fun ω2 H2 σ2 φ2 v f st2 s2 p2 => hq ω2 H2 σ2 φ2 v f (st.trans st2) s2 p2
    | false =>
      rw [if_neg
                Bool.false_ne_true]
      rw [e1, if_neg Bool.false_ne_true] at hr
      exact hr ω' H' σ φ' st s' p
end
end Zd

namespace Zd
open PySem PySem.Spec
open PyProof.Rows L2

/-! ### loops over things -/
/-- J gives xs, while W stands -/
structure Wk (K : PySem.W.Frag) (J : It) (xs : List D) (W : Om → Hp → Prop) : Prop where
  goes : ∀ i ω H, i < xs.length → W ω H → J.go i H
  stops : ∀ ω H, W ω H → J.stop xs.length H
  yields : ∀ i ω H x H', W ω H → Wf ω H → i < xs.length → J.yld i H x H' → Ext H H' ∧ ∃ d, xs[i]? = some d ∧ Rep K ω H' x d
  stay : ∀ ω P H ω' P' H', Step ω P H ω' P' H' → W ω H → W ω' H'
def tW (G : Gm) (m : Sm) : TI := fun σ H R => ∃ ω δ φ, Slots G.K G.κ ω H σ δ φ ∧
  Out (m δ) (fun r => ∀ ω' H' φ' J W, Step ω (Fp φ) H ω' (Fp φ') H' → Slots G.K G.κ ω' H' σ r.2 φ' → Wk G.K J r.1 W → W ω' H' → R J H') (Esc G.K G.cls G.E ω (Fp φ) H)
theorem pi_if {X : Cx} {tg e : Expr} {t t' : TI} (h : PI X tg e t) (w : ∀ σ H R, t' σ H R → t σ H R) : PI X tg e t' := ⟨fun pins s σ H R I q => h.run pins s σ H R I (w σ H R q)⟩
def loopF (t : Tg) (m : Pm) : List D → Pm
  | [] => fun δ => .ok (.nx, δ)
  | d :: ds => fun δ => t d δ >>= fun δ1 => m δ1 >>= fun q => match q.1 with
    | .nx => loopF t m ds q.2
    | .ct => loopF t m ds q.2
    | .bk => .ok (.nx, q.2)
    | .rt d => .ok (.rt d, q.2)
def pFor (w : Sm) (t : Tg) (m : Pm) : Pm := fun δ => w δ >>= fun r => loopF t m r.1 r.2
theorem Slots.gup {K : PySem.W.Frag} {κ : Kn} {ω : Om} {H H' : Hp} {σ : L2.St} {δ : Dl} {φ : Fps} (s : Slots K κ ω H σ δ φ) (e : Ext H H') : Step ω (Fp φ) H ω (Fp φ) H' ∧ Slots K κ ω H' σ δ φ := ⟨s.step e, s.ext e⟩
section
variable {X : Cx} {G : Gs} {σ0 : L2.St} {body : List Stmt} {tg iter : Expr} {pos : Pos}
theorem pf {w : Sm} {t : Tg} {m : Pm} (hp : PassesOwn (model X.prog X.w) X.A X.env X.xe) (hc : X.calm = true) (hi : PI X tg iter (tW G.toGm w)) (hg : PG X tg (tG G σ0 t)) (nx : NoG t) (hb : PSs X body (tP G σ0 m))
    (hs : ∀ x, foldedSetIterable iter X.env x = pure x := by intro _; rfl) : PS X (.For tg iter body [] pos) (tP G σ0 (pFor w t m)) := by
  refine ps_if' (ps_for hp hc hi hg hb hs) fun D σ H ⟨p, ω, δ, φ, s, o⟩ => ⟨ω, δ, φ, s, (Out.bind o).mono (fun r hr ω' H' φ' J W st s' wk hW => ?_) fun _ _ z => z⟩
  obtain ⟨xs, δ1⟩ := r
  refine ⟨fun i k σ' H1 => k = xs.length - i ∧ i ≤ xs.length ∧ ∃ ω1 δ1 φ1, Step ω (Fp φ) H ω1 (Fp φ1) H1 ∧ Slots G.K G.κ ω1 H1 σ' δ1 φ1 ∧ Pin G.pin σ0 σ' ∧ W ω1 H1 ∧
    Out (loopF t m (xs.drop i) δ1) (fun r => match r.1 with
    | .nx => ∀ ω' H' σ' φ', Step ω (Fp φ) H ω' (Fp φ') H' → Slots G.K G.κ ω' H' σ' r.2 φ' → Pin G.pin σ0 σ' → D.nx σ' H'
    | .bk => ∀ ω' H' σ' φ', Step ω (Fp φ) H ω' (Fp φ') H' → Slots G.K G.κ ω' H' σ' r.2 φ' → Pin G.pin σ0 σ' → D.bk σ' H'
    | .ct => ∀ ω' H' σ' φ', Step ω (Fp φ) H ω' (Fp φ') H' → Slots G.K G.κ ω' H' σ' r.2 φ' → Pin G.pin σ0 σ' → D.ct σ' H'
    | .rt d => ∀ ω' H' σ' φ' v f, Step ω (Fp φ) H ω' (fun a => Fp φ' a ∨ a ∈ f) H' → Slots G.K G.κ ω' H' σ' r.2 φ' → Pin G.pin σ0 σ' → Own G.K ω' H' G.ret v d f → f.Nodup → (∀ a ∈ f, ω' a ∧ ¬ Fp φ' a) → D.rt v H')
    (Esc G.K G.cls G.E ω (Fp φ) H), ⟨xs.length, by simp, Nat.zero_le _, ω', δ1, φ', st, s', p, hW, hr⟩, ?_⟩
  rintro i k σ1 H1 ⟨rfl, hle, ω1, δ1, φ1, st1, s1, p1, hW1, o1⟩
  by_cases hlt : i < xs.length
  · right
    refine ⟨wk.goes i ω1 H1 hlt hW1, _, fun σ' H' (q : (fun σ' H1 => i + 1 ≤ xs.length ∧ ∃ ω1 δ1 φ1, Step ω (Fp φ) H ω1 (Fp φ1) H1 ∧ Slots G.K G.κ ω1 H1 σ' δ1 φ1 ∧ Pin G.pin σ0 σ' ∧ W ω1 H1 ∧ Out (loopF t m (xs.drop (i + 1)) δ1) _ _) σ' H') => ⟨xs.length - (i + 1), by omega, rfl, q⟩, fun x H2 y => ?_⟩
    obtain ⟨ex, d, hd, rp⟩ := wk.yields i ω1 H1 x H2 hW1 s1.wf hlt y
    have hdrop : xs.drop i = d :: xs.drop (i + 1) := by
      rw [List.drop_eq_getElem_cons
                hlt]
      rw [List.getElem?_eq_getElem hlt] at hd
      rw [Option.some.inj hd]
    rw [hdrop] at o1
    obtain ⟨st2, s2⟩ := s1.gup ex
    refine ⟨p1, ω1, δ1, φ1, d, s2, rp, (out_no (Out.bind o1) (nx _ _)).mono (fun δ3 h3 σ3 φ3 st3 s3 p3 _ => ?_) fun _ _ z => z⟩
    have st13 := (st1.trans st2).trans st3
    have hW3 : W ω1 H2 := wk.stay _ _ _ _ _ _ (st2.trans st3) hW1
    refine ⟨p3, ω1, δ3, φ3, s3, (Out.bind h3).mono (fun q hq => ?_) fun _ _ z => z.up st13⟩
    cases e1 : q.1 with
    | nx => simp only [e1] at hq ⊢; exact fun ω4 H4 σ4 φ4 st4 s4 p4 => ⟨hlt, ω4, q.2, φ4, st13.trans st4, s4, p4, wk.stay _ _ _ _ _ _ st4 hW3, hq⟩
    | ct => simp only [e1] at hq ⊢; exact fun ω4 H4 σ4 φ4 st4 s4 p4 => ⟨hlt, ω4, q.2, φ4, st13.trans st4, s4, p4, wk.stay _ _ _ _ _ _ st4 hW3, hq⟩
    | bk => simp only [e1] at hq ⊢; exact fun ω4 H4 σ4 φ4 st4 s4 p4 => hq ω4 H4 σ4 φ4 (st13.trans st4) s4 p4
    | rt d => simp only [e1] at hq ⊢; exact fun ω4 H4 σ4 φ4 v f st4 s4 p4 => hq ω4 H4 σ4 φ4 v f (st13.trans st4) s4 p4
  · left
    have e : i = xs.length := by omega
    subst e
    rw [List.drop_length] at o1
    exact ⟨wk.stops ω1 H1 hW1, o1 ω1 H1 σ1 φ1 st1 s1 p1⟩
end

/-! ### list comprehensions -/
def wipeD (δ : Dl) : List Nat → Dl
  | [] => δ
  | v :: vs => (wipeD δ vs).set v none
def back (δ δ' : Dl) : List Nat → Dl
  | [] => δ'
  | v :: vs => (back δ δ' vs).set v (δ.getD v none)
theorem wipeD_len (δ : Dl) : ∀ vs, (wipeD δ vs).length = δ.length
  | [] => rfl
  | v :: vs => by rw [wipeD, List.length_set, wipeD_len δ vs]
theorem wipeD_some {δ : Dl} {i : Nat} {d : D} : ∀ {vs : List Nat}, (wipeD δ vs)[i]? = some (some d) → δ[i]? = some (some d) ∧ i ∉ vs
  | [], h => ⟨h, by simp⟩
  | v :: vs, h => by
    unfold wipeD at h
    by_cases hi : v = i
    · subst hi
      by_cases hv : v < (wipeD δ vs).length
      · rw [List.getElem?_set_self
                hv] at h; cases h
      · rw [List.getElem?_eq_none
                (by simpa using hv)] at h; cases h
    · rw [List.getElem?_set_ne
              hi] at h
      obtain ⟨h1, h2⟩ := wipeD_some h
      exact ⟨h1, by simp only [List.mem_cons,
                not_or]; exact ⟨fun e => hi e.symm, h2⟩⟩
theorem wipe_at {σ : L2.St} {i : Nat} {vs : List Nat} (h : i ∉ vs) : (wipe σ vs)[i]? = σ[i]? := wipe_out h
theorem back_len (δ δ' : Dl) : ∀ vs, (back δ δ' vs).length = δ'.length
  | [] => rfl
  | v :: vs => by rw [back, List.length_set, back_len δ δ' vs]
theorem back_out {δ δ' : Dl} {i : Nat} : ∀ {vs : List Nat}, i ∉ vs → (back δ δ' vs)[i]? = δ'[i]?
  | [], _ => rfl
  | v :: vs, h => by
    simp only [List.mem_cons, not_or] at h
    rw [back, List.getElem?_set_ne (Ne.symm h.1), back_out h.2]
theorem back_in {δ δ' : Dl} {i : Nat} (hl : i < δ'.length) : ∀ {vs : List Nat}, i ∈ vs → (back δ δ' vs)[i]? = some (δ.getD i none)
  | v :: vs, h => by
    rw [back]
    by_cases e : v = i
    · subst e
      rw [List.getElem?_set_self (by rw [back_len]; exact hl)]
    · rw [List.getElem?_set_ne e]
      exact back_in hl ((List.mem_cons.mp h).resolve_left (Ne.symm e))
/-- within the block its own names are nobody's lists -/
def kin (κ : Kn) (vs : List Nat) : Kn := fun i => if vs.contains i = true then .im else κ i
def fin (φ : Fps) (vs : List Nat) : Fps := fun i => if vs.contains i = true then [] else φ i
theorem cont {vs : List Nat} {i : Nat} : vs.contains i = true ↔ i ∈ vs := by simp
theorem Slots.wipe {K : PySem.W.Frag} {κ : Kn} {ω : Om} {H : Hp} {σ : L2.St} {δ : Dl} {φ : Fps} (s : Slots K κ ω H σ δ φ) (vs : List Nat) : Slots K (kin κ vs) ω H (wipe σ vs) (wipeD δ vs) (fin φ vs) where
  len := by rw [wipe_length, wipeD_len]; exact s.len
  at_ := fun i d h => by
    obtain ⟨h1, h2⟩ := wipeD_some h
    obtain ⟨v, h3, h4⟩ := s.at_ i d h1
    refine ⟨v, by rw [wipe_out h2]; exact h3, ?_⟩
    unfold kin fin
    rw [if_neg (fun z => h2 (cont.mp z)), if_neg (fun z => h2 (cont.mp z))]
    exact h4
  nod := fun i => by unfold fin; split <;> simp [s.nod]
  dis := fun i j a n h => by
    unfold fin at h ⊢
    split at h
    · simp at h
    · split
      · simp
      · exact s.dis i j a n h
  sub := fun a ⟨i, h⟩ => by
    unfold fin at h
    split at h
    · simp at h
    · exact s.sub a ⟨i, h⟩
  wf := s.wf
theorem fin_sub {φ : Fps} {vs : List Nat} {a : Addr} (h : Fp (fin φ vs) a) : Fp φ a := by
  obtain ⟨i, h⟩ := h
  unfold fin at h
  split at h
  · simp at h
  · exact ⟨i, h⟩
/-- behind a turn: the outer names are as they were -/
theorem Slots.unwipe {K : PySem.W.Frag} {κ : Kn} {ω ω4 : Om} {H H4 : Hp} {σ σ2 : L2.St} {δ δ4 : Dl} {φ φ4 : Fps} {vs : List Nat} (s : Slots K κ ω H σ δ φ) (st : Step ω (Fp (fin φ vs)) H ω4 (Fp φ4) H4) (s4 : Slots K (kin κ vs) ω4 H4 σ2 δ4 φ4)
    (hl : σ2.length = σ.length) (ho : ∀ i, i ∉ vs → σ2[i]? = σ[i]?) : Slots K κ ω4 H4 σ (back δ δ4 vs) (fun i => if vs.contains i = true then φ i else φ4 i) ∧ Step ω (Fp φ) H ω4 (Fp (fun i => if vs.contains i = true then φ i else φ4 i)) H4 := by
  have lst : ∀ i a, a ∈ φ i → ∃ xs, H a = some (.lst xs) := fun i a h => s.wf a (s.sub a ⟨i, h⟩)
  -- an outer list of a name of the block's
  have apart : ∀ i a, i ∈ vs → a ∈ φ i → ¬ Fp (fin φ vs) a := fun i a hi h ⟨j, hj⟩ => by
    unfold fin at hj
    split at hj
    · simp at hj
    · rename_i hn
      exact s.dis i j a (fun e => hn (cont.mpr (e ▸ hi))) h hj
  have apart4 : ∀ i a, i ∈ vs → a ∈ φ i → ¬ Fp φ4 a := fun i a hi h z => by
    rcases st.fp a z with q | q
    · exact apart i a hi h q
    · obtain ⟨xs, e⟩ := lst i a h
      rw [e] at q; cases q
  refine ⟨⟨?_, fun i d h => ?_, fun i => ?_, fun i j a n h => ?_, fun a ⟨i, h⟩ => ?_, s4.wf⟩, ?_⟩
  · rw [back_len, ← s4.len, hl]
  · by_cases hi : i ∈ vs
    · have hlt : i < δ4.length := by
        have := (List.getElem?_eq_some_iff.mp h).1
        rwa [back_len] at this
      rw [back_in hlt hi] at h
      have e : δ[i]? = some (some d) := by
        have e := Option.some.inj h
        rw [List.getD_eq_getElem?_getD] at e
        cases q : δ[i]? with
        | none => rw [q] at e; exact nomatch e
        | some o => rw [q] at e; exact congrArg some e
      obtain ⟨v, h1, h2⟩ := s.at_ i d e
      refine ⟨v, h1, ?_⟩
      rw [if_pos (cont.mpr hi)]
      refine Own.mono st.grow d _ _ _ (fun a ha => ?_) h2
      obtain ⟨xs, q⟩ := lst i a ha
      rw [q, st.keep a _ q (apart i a hi ha)]
    · rw [back_out hi] at h
      obtain ⟨v, h1, h2⟩ := s4.at_ i d h
      have e2 : kin κ vs i = κ i := if_neg fun z => hi (cont.mp z)
      rw [e2] at h2
      rw [ho i hi] at h1
      rw [if_neg (fun z => hi (cont.mp z))]
      exact ⟨v, h1, h2⟩
  · split
    · exact s.nod i
    · exact s4.nod i
  · split at h
    · rename_i hi
      split
      · exact s.dis i j a n h
      · exact fun z => apart4 i a (cont.mp hi) h ⟨j, z⟩
    · split
      · rename_i hj
        exact fun z => apart4 j a (cont.mp hj) z ⟨i, h⟩
      · exact s4.dis i j a n h
  · dsimp only at h
    split at h
    · rename_i hi
      exact st.stay a (s.sub a ⟨i, h⟩) (apart i a (cont.mp hi) h)
    · exact s4.sub a ⟨i, h⟩
  · refine ⟨fun a o h n => st.keep a o h fun z => n (fin_sub z), st.om, fun a h n => st.stay a h fun z => n (fin_sub z), fun a ⟨i, h⟩ => ?_, s.sub, s.wf⟩
    dsimp only at h
    split at h
    · exact .inl ⟨i, h⟩
    · exact (st.fp a ⟨i, h⟩).imp fin_sub id

/-- no error -/
def nox {α : Type} : Rs α → Rs α
  | .ok a => .ok a
  | _ => .no
theorem nox_inv {α : Type} {r : Rs α} {q : α → Prop} {e : Str → D → Prop} (h : Out (nox r) q e) : Out r q (fun _ _ => False) := by
  cases r with
  | ok a => exact h
  | ex c a => exact h
  | no => exact h
def compF (vs : List Nat) (t : Tg) (c : Tm) (e : Em) : List D → Fm
  | [] => fun δ => .ok ([], δ)
  | d :: ds => fun δ => t d (wipeD δ vs) >>= fun δ1 => c δ1 >>= fun r => if r.1 = true then e r.2 >>= fun q => compF vs t c e ds (back δ q.2 vs) >>= fun z => .ok (q.1 :: z.1, z.2)
    else compF vs t c e ds (back δ r.2 vs)
def fComp (vs : List Nat) (w : Sm) (t : Tg) (c : Tm) (e : Em) : Fm := fun δ => w δ >>= fun r => if r.1.length ≤ sizeLine then nox (compF vs t c e r.1 r.2) else .no
def tmY : Tm := fun δ => .ok (true, δ)
theorem py {X : Cx} {G : Gm} : PTs X [] (tT G tmY) := ⟨fun pins s σ H Q I ⟨ω, δ, φ, sl, o⟩ => pts_nil.run pins s σ H Q I (o ω H φ sl.refl sl)⟩
theorem py1 {X : Cx} {G : Gm} {c : Expr} {m : Tm} (h : PT X c (tT G m)) : PTs X [c] (tT G m) := pts_one h
/-- what stands within the block -/
abbrev inB (G : Gm) (vs : List Nat) : Gs := { K := G.K, cls := G.cls, E := E0, κ := kin G.κ vs, pin := fun i => !vs.contains i, ret := .im }

section
variable {X : Cx} {G : Gm}
theorem tLc_of {w : Sm} {t : Tg} {c : Tm} {e : Em} {vs : List Nat} (nx : NoG t) {σ : L2.St} {H : Hp} {Q : VK} (h : tO G (.mu .im) (eF (fComp vs w t c e)) σ H Q) :
    tLc (tW G w) (fun v σ' H' Q' => tG (inB G vs) σ' t v σ' H' Q') (tT (inB G vs).toGm c) (tI (inB G vs).toGm e) vs σ H Q := by
  obtain ⟨ω, δ, φ, s, o⟩ := h
  refine ⟨ω, δ, φ, s, (Out.bind (Out.bind o)).mono (fun r hr ω' H' φ' J W st s' wk hW => ?_) fun _ _ z => z⟩
  intro L hL
  obtain ⟨xs, δ1⟩ := r
  by_cases hsz : xs.length ≤ sizeLine
  rotate_left
  · rw [if_neg hsz] at hr
    exact hr.elim
  rw [if_pos hsz] at hr
  have hr := nox_inv hr
  -- the state of the loop
  refine ⟨fun i k H1 => k = xs.length - i ∧ i ≤ xs.length ∧ ∃ ω1 δ1 φ1 acc ds, Step ω (Fp φ) H ω1 (fun a => Fp φ1 a ∨ a ∈ [L]) H1 ∧ Slots G.K G.κ ω1 H1 σ δ1 φ1 ∧ W ω1 H1 ∧ H1 L = some (.lst acc) ∧ Reps G.K ω1 H1 acc ds ∧ acc.length ≤ i ∧ ω1 L ∧ ¬ Fp φ1 L ∧
    Out (compF vs t c e (xs.drop i) δ1) (fun z => ∀ ω' H' φ' v f, Step ω (Fp φ) H ω' (fun a => Fp φ' a ∨ a ∈ f) H' → Slots G.K G.κ ω' H' σ z.2 φ' → Own G.K ω' H' (.mu .im) v (.list (ds ++ z.1)) f → f.Nodup → (∀ a ∈ f, ω' a ∧ ¬ Fp φ' a) → Q v H') (fun _ _ => False),
    ⟨xs.length, by simp, Nat.zero_le _, fun a => ω' a ∨ a = L, δ1, φ', [], [], ?_, ?_, ?_, upd_same, .nil, Nat.le_refl _, .inr rfl, ?_, ?_⟩, ?_⟩
  · exact st.trans ⟨fun a o e _ => Ext.upd hL a o e, fun a z => z.elim .inl fun e => .inr (e ▸ hL), fun a z _ => .inl z, fun a z => z.elim .inl fun e => .inr ((List.mem_singleton.mp e) ▸ hL), s'.sub, s'.wf⟩
  · refine s'.more (Ext.upd hL) (fun a z => .inl z) (fun a z => z.elim .inl fun e => .inr (e ▸ hL)) fun a h => ?_
    rcases h with h | rfl
    · obtain ⟨xs, q⟩ := s'.wf a h
      exact ⟨xs, Ext.upd hL a _ q⟩
    · exact ⟨[], upd_same⟩
  · exact wk.stay _ (Fp φ') _ _ (fun a => Fp φ' a ∨ a ∈ [L]) _ ⟨fun a o e _ => Ext.upd hL a o e, fun a z => z.elim .inl fun e => .inr (e ▸ hL), fun a z _ => .inl z, fun a z => z.elim .inl fun e => .inr ((List.mem_singleton.mp e) ▸ hL), s'.sub, s'.wf⟩ hW
  · intro z
    obtain ⟨xs, q⟩ := s'.wf L (s'.sub L z)
    rw [hL] at q; cases q
  · exact hr
  rintro i k H1 ⟨rfl, hle, ω1, δ1, φ1, acc, ds, st1, s1, hW1, hLa, ra, hla, oL, nL, o1⟩
  by_cases hlt : i < xs.length
  · right
    refine ⟨wk.goes i ω1 H1 hlt hW1, _, fun H' (q : (fun H1 => i + 1 ≤ xs.length ∧ ∃ ω1 δ1 φ1 acc ds, Step ω (Fp φ) H ω1 (fun a => Fp φ1 a ∨ a ∈ [L]) H1 ∧ Slots G.K G.κ ω1 H1 σ δ1 φ1 ∧ W ω1 H1 ∧ H1 L = some (.lst acc) ∧ Reps G.K ω1 H1 acc ds ∧ acc.length ≤ i + 1 ∧ ω1 L ∧ ¬ Fp φ1 L ∧ Out (compF vs t c e (xs.drop (i + 1)) δ1) (fun z => ∀ ω' H' φ' v f, Step ω (Fp φ) H ω' (fun a => Fp φ' a ∨ a ∈ f) H' → Slots G.K G.κ ω' H' σ z.2 φ' → Own G.K ω' H' (.mu .im) v (.list (ds ++ z.1)) f → f.Nodup → (∀ a ∈ f, ω' a ∧ ¬ Fp φ' a) → Q v H') (fun _ _ => False)) H') => ⟨xs.length - (i + 1), by omega, rfl, q⟩, fun x H2 y => ?_⟩
    obtain ⟨ex, d, hd, rp⟩ := wk.yields i ω1 H1 x H2 hW1 s1.wf hlt y
    have hdrop : xs.drop i = d :: xs.drop (i + 1) := by
      rw [List.drop_eq_getElem_cons
                hlt]
      rw [List.getElem?_eq_getElem hlt] at hd
      rw [Option.some.inj hd]
    rw [hdrop] at o1
    have s2 := s1.ext ex
    have st2 : Step ω1 (Fp (fin φ1 vs)) H1 ω1 (Fp (fin φ1 vs)) H2 := .ext (fun a z => s1.sub a (fin_sub z)) s1.wf ex
    refine ⟨fun j _ => rfl, ω1, wipeD δ1 vs, fin φ1 vs, d, s2.wipe vs, rp, (out_no (Out.bind o1) (nx _ _)).mono (fun δ3 h3 σ3 φ3 st3 s3 p3 l3 => ?_) fun _ _ z => z⟩
    have p3' : ∀ j, j ∉ vs → σ3[j]? = (wipe σ vs)[j]? := fun j hj => p3 j (by
      show (!vs.contains j) = true
      rw [Bool.not_eq_true']
      exact Bool.eq_false_iff.mpr fun z => hj (cont.mp z))
    have ho : ∀ j, j ∉ vs → σ3[j]? = σ[j]? := fun j hj => (p3' j hj).trans (wipe_out hj)
    have hl3 : σ3.length = σ.length := l3.trans (wipe_length σ vs)
    -- the block's names forgotten again
    have hwp : wipe σ3 vs = wipe σ vs := by
      apply List.ext_getElem?
      intro j
      by_cases hj : j ∈ vs
      · have wn : ∀ (τ : L2.St) (us : List Nat), j ∈ us → j < τ.length → (L2.wipe τ us)[j]? = some none := by
          intro τ us
          induction us with
          | nil => intro h; simp at h
          | cons u us ih =>
            intro h hlt
            unfold L2.wipe
            by_cases e : u = j
            · subst e
              rw [List.getElem?_set_self (by rw [wipe_length]; exact hlt)]
            · rw [List.getElem?_set_ne e]
              exact ih ((List.mem_cons.mp h).resolve_left (Ne.symm e)) hlt
        by_cases hjl : j < σ.length
        · rw [wn σ vs hj hjl, wn σ3 vs hj (by omega)]
        · rw [List.getElem?_eq_none (by rw [wipe_length]; omega), List.getElem?_eq_none (by rw [wipe_length]; omega)]
      · rw [wipe_out hj, wipe_out hj, ho j hj]
    refine ⟨hwp, ω1, δ3, φ3, s3, (Out.bind h3).mono (fun r hr ω4 H4 φ4 st4 s4 => ?_) fun _ _ z => z.elim⟩
    show (if r.1 = true then _ else _)
    have st14 := (st2.trans st3).trans st4
    -- what the element's run leaves of the outer state
    have outer : ∀ {ω5 : Om} {H5 : Hp} {φ5 : Fps} {δ5 : Dl}, Step ω1 (Fp (fin φ1 vs)) H1 ω5 (Fp φ5) H5 → Slots G.K (kin G.κ vs) ω5 H5 σ3 δ5 φ5 →
        ∃ φ6, Slots G.K G.κ ω5 H5 σ (back δ1 δ5 vs) φ6 ∧ Step ω (Fp φ) H ω5 (fun a => Fp φ6 a ∨ a ∈ [L]) H5 ∧ W ω5 H5 ∧ H5 L = some (.lst acc) ∧ Reps G.K ω5 H5 acc ds ∧ ω5 L ∧ ¬ Fp φ6 L := fun {ω5 H5 φ5 δ5} st5 s5 => by
      obtain ⟨s6, st6⟩ := s1.unwipe st5 s5 hl3 ho
      have nf : ¬ Fp (fin φ1 vs) L := fun z => nL (fin_sub z)
      have keepL := st5.keep L _ hLa nf
      have st6' : Step ω1 (fun a => Fp φ1 a ∨ a ∈ [L]) H1 ω5 (fun a => Fp (fun i => if vs.contains i = true then φ1 i else φ5 i) a ∨ a ∈ [L]) H5 :=
        ⟨fun a o h n => st6.keep a o h fun z => n (.inl z), st6.om, fun a h n => st6.stay a h fun z => n (.inl z), fun a z => z.elim (fun z => (st6.fp a z).imp .inl id) fun z => .inl (.inr z), fun a z => z.elim (st6.sub a) fun z => (List.mem_singleton.mp z) ▸ oL, st6.wf⟩
      refine ⟨_, s6, st1.trans st6', wk.stay _ _ _ _ _ _ st6 hW1, keepL, ra.up st6.grow, st6.stay L oL nL, fun z => ?_⟩
      rcases st6.fp L z with q | q
      · exact nL q
      · rw [hLa] at q; cases q
    cases e1 : r.1 with
    | true =>
      rw [if_pos rfl]
      rw [e1, if_pos rfl] at hr
      refine ⟨ω4, r.2, φ4, s4, (Out.bind hr).mono (fun q hq ω5 H5 φ5 yv st5 s5 ry => ?_) fun _ _ z => z.elim⟩
      obtain ⟨φ6, s6, st6, hW6, hL6, ra6, oL6, nL6⟩ := outer (st14.trans st5) s5
      refine ⟨acc, hL6, by omega, hlt, ω5, back δ1 q.2 vs, φ6, acc ++ [yv], ds ++ [q.1], ?_, ?_, ?_, upd_same, ?_, by rw [List.length_append]; show acc.length + 1 ≤ i + 1; omega, oL6, nL6, ?_⟩
      all_goals (have gr : Grow ω5 H5 ω5 (upd H5 L (.lst (acc ++ [yv]))) := ⟨fun a o h n => by rw [upd_ne (fun e => n (by rw [e]; exact oL6))]; exact h, s6.wf, fun a z => .inl z⟩)
      · refine st6.trans ⟨fun a o h n => by rw [upd_ne (fun e => n (.inr (by simp [e])))]; exact h, fun a z => .inl z, fun a z _ => z, fun a z => .inl z, fun a z => z.elim (s6.sub a) fun z => (List.mem_singleton.mp z) ▸ oL6, s6.wf⟩
      · refine ⟨s6.len, fun j dd h => ?_, s6.nod, s6.dis, s6.sub, fun a h => ?_⟩
        · obtain ⟨v, h1, h2⟩ := s6.at_ j dd h
          exact ⟨v, h1, Own.mono gr dd _ _ _ (fun a ha => by rw [upd_ne (fun e => nL6 ⟨j, by rw [← e]; exact ha⟩)]) h2⟩
        · by_cases e : a = L
          · subst e; exact ⟨_, upd_same⟩
          · rw [upd_ne e]; exact s6.wf a h
      · exact wk.stay _ (fun a => a ∈ [L]) _ _ (fun a => a ∈ [L]) _ ⟨fun a o h n => by rw [upd_ne (fun e => n (by simp [e]))]; exact h, fun a z => .inl z, fun a z _ => z, fun a z => .inl z, fun a z => (List.mem_singleton.mp z) ▸ oL6, s6.wf⟩ hW6
      · exact (ra6.up gr).snoc (Rep.up ry gr)
      · refine (Out.bind hq).mono (fun z hz ω' H' φ' v f a1 a2 a3 a4 a5 => ?_) fun _ _ z => z.elim
        rw [List.append_assoc] at a3
        exact hz ω' H' φ' v f a1 a2 a3 a4 a5
    | false =>
      rw [if_neg
                Bool.false_ne_true]
      rw [e1, if_neg Bool.false_ne_true] at hr
      obtain ⟨φ6, s6, st6, hW6, hL6, ra6, oL6, nL6⟩ := outer st14 s4
      exact ⟨hlt, ω4, back δ1 r.2 vs, φ6, acc, ds, st6, s6, hW6, hL6, ra6, by omega, oL6, nL6, hr⟩
  · left
    have e : i = xs.length := by omega
    subst e
    rw [List.drop_length] at o1
    refine ⟨wk.stops ω1 H1 hW1, ?_⟩
    have o1 : ∀ ω' H' φ' v f, Step ω (Fp φ) H ω' (fun a => Fp φ' a ∨ a ∈ f) H' → Slots G.K G.κ ω' H' σ δ1 φ' → Own G.K ω' H' (.mu .im) v (.list (ds ++ [])) f → f.Nodup → (∀ a ∈ f, ω' a ∧ ¬ Fp φ' a) → Q v H' := o1
    rw [List.append_nil] at o1
    exact o1 ω1 H1 φ1 (.ref L) [L] st1 s1 (.mui hLa ra) (by simp) fun a ha => by
      rw [List.mem_singleton.mp ha]
      exact ⟨oL, nL⟩
end
end Zd

namespace Zd
open PySem PySem.Spec
open PyProof.Rows L2
section
variable {X : Cx} {G : Gm}
theorem pg_any {G : Gs} {tg : Expr} {t : Tg} (h : ∀ σ0, PG X tg (tG G σ0 t)) : PG X tg (fun v σ' H' Q' => tG G σ' t v σ' H' Q') := ⟨fun pins s σ H v u Q I r q => (h σ).run pins s σ H v u Q I r q⟩
/-- a list comprehension of one clause -/
theorem cp {elt tg iter : Expr} {ifs : List Expr} {scope : Scope} {own : List (Str × Nat)} {pos : Pos} {w : Sm} {t : Tg} {c : Tm} {e : Em} (hc : X.calm = true) (hN : X.N.Nodup) (hi : PI X tg iter (tW G w)) (ok : BlkOk X.N X.env.scope scope own) (nx : NoG t)
    (hg : ∀ (s : Shared) (H : Hp) (C : Addr) (cl : List (Str × Addr)) (fp : List Addr) (σ0 : L2.St), PG (X.blk s H scope (compEnvC scope cl C X.env) fp) tg (tG (inB G (own.map (·.2))) σ0 t)) (ht : ∀ (s : Shared) (H : Hp) (C : Addr) (cl : List (Str × Addr)) (fp : List Addr), PTs (X.blk s H scope (compEnvC scope cl C X.env) fp) ifs (tT (inB G (own.map (·.2))).toGm c))
    (he : ∀ (s : Shared) (H : Hp) (C : Addr) (cl : List (Str × Addr)) (fp : List Addr), PE (X.blk s H scope (compEnvC scope cl C X.env) fp) elt (tI (inB G (own.map (·.2))).toGm e)) (hs : ∀ x, foldedSetIterable iter X.env x = pure x := by intro _; rfl) :
    PE X (.ListComp elt [⟨tg, iter, ifs, 0⟩] scope pos) (tO G (.mu .im) (eF (fComp (own.map (·.2)) w t c e))) :=
  pe_if (pe_lc hc hN hi ok (fun s H C cl fp => pg_any (hg s H C cl fp)) ht he hs) fun σ H Q h => tLc_of nx h
end
section
variable {X : Cx} {G : Gs} {σ0 : L2.St}
/-- name = [..], on one line, the name a plain local -/
theorem pcp {i : Nat} {y : Str} {py : Pos} {elt tg iter : Expr} {ifs : List Expr} {scope : Scope} {own : List (Str × Nat)} {pos spos : Pos} {w : Sm} {t : Tg} {c : Tm} {e : Em} (hc : X.calm = true) (hN : X.N.Nodup) (hi : PI X tg iter (tW G.toGm w)) (ok : BlkOk X.N X.env.scope scope own) (nx : NoG t)
    (hg : ∀ (s : Shared) (H : Hp) (C : Addr) (cl : List (Str × Addr)) (fp : List Addr) (σ0 : L2.St), PG (X.blk s H scope (compEnvC scope cl C X.env) fp) tg (tG (inB G.toGm (own.map (·.2))) σ0 t)) (ht : ∀ (s : Shared) (H : Hp) (C : Addr) (cl : List (Str × Addr)) (fp : List Addr), PTs (X.blk s H scope (compEnvC scope cl C X.env) fp) ifs (tT (inB G.toGm (own.map (·.2))).toGm c))
    (he : ∀ (s : Shared) (H : Hp) (C : Addr) (cl : List (Str × Addr)) (fp : List Addr), PE (X.blk s H scope (compEnvC scope cl C X.env) fp) elt (tI (inB G.toGm (own.map (·.2))).toGm e))
    (hsh : (G.κ i = .mu .im) ∨ G.κ i = .im := by first | exact Or.inl rfl | exact Or.inr rfl) (hp : G.pin i = false := by rfl) (hy : X.N[i]? = some y := by rfl) (hyl : X.env.scope.names.lookup y = some .local := by rfl)
    (hsw : swapsWith (.ListComp elt [⟨tg, iter, ifs, 0⟩] scope pos) (some (.Name y py)) spos.line X.env = pure true := by first | exact sw_true rfl rfl rfl rfl | exact sw_true rfl rfl rfl (by decide +kernel)) (hs : ∀ x, foldedSetIterable iter X.env x = pure x := by intro _; rfl) :
    PS X (.Assign [.Name y py] (.ListComp elt [⟨tg, iter, ifs, 0⟩] scope pos) spos) (tP G σ0 (pSet i (eF (fComp (own.map (·.2)) w t c e)))) := by
  refine ps_if' (ps_setLc hc hN hy hyl hsw hi ok (fun s H C cl fp => pg_any (hg s H C cl fp)) ht he hs) fun D σ H ⟨p, ω, δ, φ, s, o⟩ => ?_
  have key : ∀ {sh : Sh} {m : Em}, G.κ i = sh → ∀ (ω δ φ), Slots G.K G.κ ω H σ δ φ → Out (pSet i m δ) (fun r => match r.1 with
    | .nx => ∀ ω' H' σ' φ', Step ω (Fp φ) H ω' (Fp φ') H' → Slots G.K G.κ ω' H' σ' r.2 φ' → Pin G.pin σ0 σ' → D.nx σ' H'
    | .bk => ∀ ω' H' σ' φ', Step ω (Fp φ) H ω' (Fp φ') H' → Slots G.K G.κ ω' H' σ' r.2 φ' → Pin G.pin σ0 σ' → D.bk σ' H'
    | .ct => ∀ ω' H' σ' φ', Step ω (Fp φ) H ω' (Fp φ') H' → Slots G.K G.κ ω' H' σ' r.2 φ' → Pin G.pin σ0 σ' → D.ct σ' H'
    | .rt d => ∀ ω' H' σ' φ' v f, Step ω (Fp φ) H ω' (fun a => Fp φ' a ∨ a ∈ f) H' → Slots G.K G.κ ω' H' σ' r.2 φ' → Pin G.pin σ0 σ' → Own G.K ω' H' G.ret v d f → f.Nodup → (∀ a ∈ f, ω' a ∧ ¬ Fp φ' a) → D.rt v H')
    (Esc G.K G.cls G.E ω (Fp φ) H) → tO G.toGm sh m σ H (fun x H1 => gName i x σ H1 D.nx) := fun {sh m} hsh ω δ φ s o => ⟨ω, δ, φ, s, (Out.bind o).mono (fun r hr ω' H' φ' v f st s' ow nd hf => by
      obtain ⟨hi', hr⟩ := put_inv (Out.bind hr)
      rw [← hsh] at ow
      exact hr ω' H' _ _ (put_step (K := G.K) (κ := G.κ) (σ := σ) (δ := δ) st i) (s'.put i hi' ow nd hf) (pin_set p hp)) fun _ _ z => z⟩
  show tLc _ _ _ _ _ σ H (fun x H1 => gName i x σ H1 D.nx)
  refine tLc_of nx ?_
  rcases hsh with hsh | hsh
  · exact key hsh ω δ φ s o
  · -- let go at once
    obtain ⟨ω, δ, φ, s, o⟩ := key (m := eF (fComp (own.map (·.2)) w t c e)) hsh ω δ φ s o
    refine ⟨ω, δ, φ, s, o.mono (fun r hr ω' H' φ' v f st s' ow nd hf => ?_) fun _ _ z => z⟩
    refine hr (without ω' f) H' φ' v [] ⟨st.keep, fun a z => st.om a z.1, fun a z n => ⟨st.stay a z n, fun m => ?_⟩, fun a z => z.elim (fun z => st.fp a (.inl z)) fun z => absurd z (by simp), st.sub, st.wf⟩ (s'.less fun a ha => (hf a ha).2) (.im (Own.let f _ _ _ _ (fun a ha => ha) ow s'.wf)) .nil fun a ha => absurd ha (by simp)
    rcases st.fp a (.inr m) with q | q
    · exact n q
    · obtain ⟨xs, q2⟩ := st.wf a z
      rw [q] at q2; cases q2
end

/-! ### defs: promises, calls -/
def spP (K : PySem.W.Frag) (cls : Cl) (s : Sh) (n : Nat) (F : List D → Rs D) : Sp := fun vs H Q E => vs.length = n ∧ ∃ ω ds, Wf ω H ∧ Reps K ω H vs ds ∧
  Out (F ds) (fun d => ∀ ω' H' v f, Step ω (fun _ => False) H ω' (fun a => a ∈ f) H' → Wf ω' H' → Own K ω' H' s v d f → f.Nodup → (∀ a ∈ f, ω' a) → Q v H') (Esc K cls E ω (fun _ => False) H)
/-- .. the first argument a list of the caller's, that may be changed -/
def spM (K : PySem.W.Frag) (cls : Cl) (s0 s : Sh) (n : Nat) (F : List D → Rs (D × D)) : Sp := fun vs H Q E => vs.length = n ∧ ∃ ω v0 vr d0 ds f0, vs = v0 :: vr ∧ Wf ω H ∧ Own K ω H s0 v0 d0 f0 ∧ f0.Nodup ∧ (∀ a ∈ f0, ω a) ∧ Reps K ω H vr ds ∧
  Out (F (d0 :: ds)) (fun r => ∀ ω' H' v f f0', Step ω (fun a => a ∈ f0) H ω' (fun a => a ∈ f0' ∨ a ∈ f) H' → Wf ω' H' → Own K ω' H' s0 v0 r.2 f0' → f0'.Nodup → (∀ a ∈ f0', ω' a) → Own K ω' H' s v r.1 f → f.Nodup → (∀ a ∈ f, ω' a ∧ a ∉ f0') → Q v H') (Esc K cls E ω (fun a => a ∈ f0) H)
theorem Slots.frame {K : PySem.W.Frag} {κ : Kn} {ω ω' P P' : Om} {H H' : Hp} {σ : L2.St} {δ : Dl} {φ : Fps} (s : Slots K κ ω H σ δ φ) (st : Step ω P H ω' P' H') (n : ∀ a, Fp φ a → ¬ P a) (wf : Wf ω' H') : Slots K κ ω' H' σ δ φ where
  len := s.len
  at_ := fun i d h => by
    obtain ⟨v, h1, h2⟩ := s.at_ i d h
    refine ⟨v, h1, Own.mono st.grow d _ _ _ (fun a ha => ?_) h2⟩
    obtain ⟨xs, q⟩ := Own.lsts d _ _ _ h2 a ha
    rw [q, st.keep a _ q (n a ⟨i, ha⟩)]
  nod := s.nod
  dis := s.dis
  sub := fun a h => st.stay a (s.sub a h) (n a h)
  wf := wf
def mCall (F : List D → Rs D) (m : Sm) : Em := fun δ => m δ >>= fun r => F r.1 >>= fun d => .ok (d, r.2)
section
variable {X : Cx} {G : Gm} {k : Nat} {f : Addr} {fd : FuncData} {ps : List Str} {x : Str} {p pos : Pos} {e : Expr} {es : List Expr}
theorem call_of {n : Nat} {F : List D → Rs D} {s : Sh} {m : Sm} {σ : L2.St} {H : Hp} {Q : VK} (hn : ps.length = n) (h : tO G s (mCall F m) σ H Q) (hl : ∀ δ r, m δ = .ok r → r.1.length = n) : tCall (spP G.K G.cls s n F) [] G.E (tS G m) σ H Q := by
  obtain ⟨ω, δ, φ, sl, o⟩ := h
  have o1 := Out.bind o
  refine ⟨ω, δ, φ, sl, ?_⟩
  cases em : m δ with
  | no => rw [em] at o1; exact o1.elim
  | ex c a => rw [em] at o1; exact o1
  | ok r =>
    rw [em] at o1
    intro ω' H' φ' vs st s' rp
    have o2 : Out (F r.1 >>= fun d => .ok (d, r.2)) _ _ := o1
    refine ⟨by rw [List.append_nil, rp.length]; exact hl δ r em, ω', r.1, s'.wf, by rw [List.append_nil]; exact rp, (Out.bind o2).mono (fun d hd ω2 H2 v f2 st2 wf2 ow nd hf => ?_) fun c a z => ?_⟩
    · have s2 := s'.frame st2 (fun _ _ z => z) wf2
      have fresh : ∀ a ∈ f2, H' a = none := fun a ha => (st2.fp a ha).resolve_left id
      refine hd ω2 H2 φ' v f2 (st.trans ⟨fun a o h _ => st2.keep a o h id, st2.om, fun a h _ => st2.stay a h id, fun a z => z.elim .inl fun z => .inr (fresh a z), s'.sub, s'.wf⟩) s2 ow nd fun a ha => ⟨hf a ha, fun z => ?_⟩
      obtain ⟨xs, q⟩ := s'.wf a (s'.sub a z)
      rw [fresh a ha] at q; cases q
    · exact fun ω2 P2 H2 dx v st2 e2 r2 => z ω2 P2 H2 dx v (st.trans ⟨fun a o h n => st2.keep a o h (fun z => z), st2.om, fun a h _ => st2.stay a h id, fun a z => (st2.fp a z).elim False.elim .inr, s'.sub, s'.wf⟩) e2 r2
/-- a list of so many runs -/
def Len (n : Nat) (m : Sm) : Prop := ∀ δ r, m δ = .ok r → r.1.length = n
theorem len0 : Len 0 sNil := fun δ r h => by cases h; rfl
theorem lenS {n : Nat} {m : Em} {ms : Sm} (h : Len n ms) : Len (n + 1) (sCons m ms) := fun δ r q => by
  unfold sCons at q
  cases e1 : m δ with
  | ok a =>
    rw [e1] at q
    cases e2 : ms a.2 with
    | ok b =>
      have q : (ms a.2 >>= fun q => Rs.ok (a.1 :: q.1, q.2)) = .ok r := q
      rw [e2] at q
      cases q
      simp [h _ _ e2]
    | ex c a' => have q : (ms a.2 >>= fun q => Rs.ok (a.1 :: q.1, q.2)) = .ok r := q; rw [e2] at q; cases q
    | no => have q : (ms a.2 >>= fun q => Rs.ok (a.1 :: q.1, q.2)) = .ok r := q; rw [e2] at q; cases q
  | ex c a => rw [e1] at q; cases q
  | no => rw [e1] at q; cases q
/-- f(e, ..) -/
theorem xcO {n : Nat} {F : List D → Rs D} {s : Sh} {m : Sm} (FF : FnOk X.prog X.w X.K X.mg X.base (L2.CX X.prog X.w) k f fd ps (spP G.K G.cls s n F)) (hr : Room k X.A) (hm : X.mg x = some (.ref f)) (hk : PySem.W.keepIn X.K (.ref f) = true) (hb : Binds X.K fd ps []) (hx : Passes (L2.CX X.prog X.w) X G.E)
    (ha : PA X (e :: es) (tS G m)) (hl : Len n m) (hn : ps.length = n := by rfl) (hg : Gl X x := by rfl) (hdb : (x == ("__debug__" : Str)) = false := by decide) (he : starEach (e :: es) X.env = (false, eval e X.env) :: starEach es X.env := by rfl) (hpl : (backTo pos (starEach es X.env)).any (·.1) = false := by rfl) :
    PE X (.Call (.Name x p) (e :: es) [] pos) (tO G s (mCall F m)) :=
  pe_if (pe_call FF hr hg hm hk hb .nil hx ha hdb he hpl) fun σ H Q h => call_of hn h hl
theorem xc0 {F : List D → Rs D} {s : Sh} (FF : FnOk X.prog X.w X.K X.mg X.base (L2.CX X.prog X.w) k f fd ps (spP G.K G.cls s 0 F)) (hr : Room k X.A) (hm : X.mg x = some (.ref f)) (hk : PySem.W.keepIn X.K (.ref f) = true) (hb : Binds X.K fd ps []) (hx : Passes (L2.CX X.prog X.w) X G.E)
    (hn : ps.length = 0 := by rfl) (hg : Gl X x := by rfl) (hdb : (x == ("__debug__" : Str)) = false := by decide) : PE X (.Call (.Name x p) [] [] pos) (tO G s (mCall F sNil)) := by
  refine pe_if (pe_call0 FF hr hg hm hk hb .nil hx hdb) fun σ H Q h => ?_
  obtain ⟨ω, δ, φ, s1, h⟩ := call_of hn h len0
  exact h ω H φ [] s1.refl s1 .nil
/-- f(own, e, ..), own a list of ours in a slot, that f may change -/
def mCallM (i : Nat) (F : List D → Rs (D × D)) (m : Sm) : Em := fun δ => match δ[i]? with
  | some (some _) => m δ >>= fun r => match r.2[i]? with
    | some (some d0) => F (d0 :: r.1) >>= fun q => .ok (q.1, r.2.set i (some q.2))
    | _ => .no
  | _ => .no
theorem Slots.swap {K : PySem.W.Frag} {κ : Kn} {ω ω' : Om} {H H' : Hp} {σ : L2.St} {δ : Dl} {φ : Fps} {i : Nat} {f0 f : List Addr} {v0 : V} {d0 : D} (s : Slots K κ ω H σ δ φ) (hi : σ[i]? = some (some v0)) (hil : i < δ.length) (st : Step ω (fun a => a ∈ φ i) H ω' (fun a => a ∈ f0 ∨ a ∈ f) H') (wf : Wf ω' H')
    (o0 : Own K ω' H' (κ i) v0 d0 f0) (n0 : f0.Nodup) (h0 : ∀ a ∈ f0, ω' a) (hf : ∀ a ∈ f, ω' a ∧ a ∉ f0) :
    Slots K κ ω' H' σ (δ.set i (some d0)) (fun j => if j = i then f0 else φ j) ∧ Step ω (Fp φ) H ω' (fun a => Fp (fun j => if j = i then f0 else φ j) a ∨ a ∈ f) H' ∧ ∀ a ∈ f, ω' a ∧ ¬ Fp (fun j => if j = i then f0 else φ j) a := by
  have ap : ∀ j a, j ≠ i → a ∈ φ j → a ∉ f0 ∧ a ∉ f := fun j a n h => by
    obtain ⟨xs, q⟩ := s.wf a (s.sub a ⟨j, h⟩)
    constructor
    · intro z
      rcases st.fp a (.inl z) with z | z
      · exact s.dis j i a n h z
      · rw [q] at z; cases z
    · intro z
      rcases st.fp a (.inr z) with z | z
      · exact s.dis j i a n h z
      · rw [q] at z; cases z
  refine ⟨⟨by rw [List.length_set]; exact s.len, fun j d h => ?_, fun j => by split <;> first | exact n0 | exact s.nod j, fun j k a n h => ?_, fun a ⟨j, h⟩ => ?_, wf⟩, ⟨fun a o h n => st.keep a o h fun z => n ⟨i, z⟩, st.om, fun a h n => st.stay a h fun z => n ⟨i, z⟩, fun a z => ?_, s.sub, s.wf⟩, fun a ha => ⟨(hf a ha).1, fun ⟨j, h⟩ => ?_⟩⟩
  · by_cases e : i = j
    · subst e
      rw [List.getElem?_set_self hil] at h
      cases h
      rw [if_pos rfl]
      exact ⟨v0, hi, o0⟩
    · rw [List.getElem?_set_ne e] at h
      rw [if_neg (Ne.symm e)]
      obtain ⟨v, h1, h2⟩ := s.at_ j d h
      refine ⟨v, h1, Own.mono st.grow d _ _ _ (fun a ha => ?_) h2⟩
      obtain ⟨xs, q⟩ := Own.lsts d _ _ _ h2 a ha
      rw [q, st.keep a _ q fun z => s.dis j i a (Ne.symm e) ha z]
  · split at h
    · rename_i ej
      rw [if_neg (by rw [← ej]; exact Ne.symm n)]
      exact fun z => (ap k a (by rw [← ej]; exact Ne.symm n) z).1 h
    · rename_i nj
      split
      · exact (ap j a nj h).1
      · exact s.dis j k a n h
  · dsimp only at h
    split at h
    · exact h0 a h
    · rename_i nj
      exact st.stay a (s.sub a ⟨j, h⟩) fun z => s.dis j i a nj h z
  · rcases z with ⟨j, h⟩ | z
    · dsimp only at h
      split at h
      · exact (st.fp a (.inl h)).imp (fun z => ⟨i, z⟩) id
      · exact .inl ⟨j, h⟩
    · exact (st.fp a (.inr z)).imp (fun z => ⟨i, z⟩) id
  · dsimp only at h
    split at h
    · exact (hf a ha).2 h
    · rename_i nj
      exact (ap j a nj h).2 ha
theorem xcM (i : Nat) {n : Nat} {F : List D → Rs (D × D)} {s0 s : Sh} {m : Sm} {y : Str} {py : Pos} (FF : FnOk X.prog X.w X.K X.mg X.base (L2.CX X.prog X.w) k f fd ps (spM G.K G.cls s0 s (n + 1) F)) (hr : Room k X.A) (hm : X.mg x = some (.ref f)) (hk : PySem.W.keepIn X.K (.ref f) = true) (hb : Binds X.K fd ps []) (hx : Passes (L2.CX X.prog X.w) X G.E)
    (ha : PA X es (tS G m)) (hl : Len n m) (hs0 : G.κ i = s0 := by rfl) (hN : X.N[i]? = some y := by rfl) (hv : Vis X.env.scope y := by first | exact Or.inl rfl | exact Or.inr (Or.inl rfl) | exact Or.inr (Or.inr rfl)) (hyd : (y == ("__debug__" : Str)) = false := by decide)
    (hcd : (y == ("__classdict__" : Str)) = false := by decide) (hg : Gl X x := by rfl) (hdb : (x == ("__debug__" : Str)) = false := by decide) (he : starEach (.Name y py :: es) X.env = (false, eval (.Name y py) X.env) :: starEach es X.env := by rfl) (hpl : (backTo pos (starEach es X.env)).any (·.1) = false := by rfl) :
    PE X (.Call (.Name x p) (.Name y py :: es) [] pos) (tO G s (mCallM i F m)) := by
  refine pe_if (pe_call FF hr hg hm hk hb .nil hx (pa_cons (pe_var hN hv hyd hcd) ha he) hdb he hpl) fun σ H Q ⟨ω, δ, φ, sl, o⟩ => ?_
  cases e0 : δ[i]? with
  | none => simp only [mCallM, e0] at o; exact o.elim
  | some z0 =>
  cases z0 with
  | none => simp only [mCallM, e0] at o; exact o.elim
  | some dd =>
  simp only [mCallM, e0] at o
  obtain ⟨v0, hv0, _⟩ := sl.at_ i dd e0
  refine ⟨v0, hv0, ω, δ, φ, sl, ?_⟩
  have o1 := Out.bind o
  cases em : m δ with
  | no => rw [em] at o1; exact o1.elim
  | ex c a => rw [em] at o1; exact o1
  | ok r =>
    rw [em] at o1
    intro ω' H' φ' vs st s' rp
    have o2 : Out (match r.2[i]? with
      | some (some d0) => F (d0 :: r.1) >>= fun q => .ok (q.1, r.2.set i (some q.2))
      | _ => .no) _ _ := o1
    cases e1 : r.2[i]? with
    | none => simp only [e1] at o2; exact o2.elim
    | some z =>
    cases z with
    | none => simp only [e1] at o2; exact o2.elim
    | some d0 =>
    simp only [e1] at o2
    obtain ⟨v1, hv1, ow1⟩ := s'.at_ i d0 e1
    rw [hv0] at hv1
    cases hv1
    rw [hs0] at ow1
    have hil : i < r.2.length := (List.getElem?_eq_some_iff.mp e1).1
    show spM G.K G.cls s0 s (n + 1) F (v0 :: vs ++ []) H' Q G.E
    rw [List.append_nil]
    refine ⟨by rw [List.length_cons, rp.length, hl δ r em], ω', v0, vs, d0, r.1, φ' i, rfl, s'.wf, ow1, s'.nod i, fun a ha => s'.sub a ⟨i, ha⟩, rp, (Out.bind o2).mono (fun q hq ω2 H2 v f2 f0 st2 wf2 o0 n0 h0 ow nd hf => ?_) fun c a z => ?_⟩
    · rw [← hs0] at o0
      obtain ⟨s2, st3, hf2⟩ := s'.swap hv0 hil st2 wf2 o0 n0 h0 hf
      exact hq ω2 H2 _ v f2 (st.trans st3) s2 ow nd hf2
    · exact fun ω2 P2 H2 dx v st2 e2 r2 => z ω2 P2 H2 dx v (st.trans ⟨fun a o h n => st2.keep a o h fun z => n ⟨i, z⟩, st2.om, fun a h n => st2.stay a h fun z => n ⟨i, z⟩, fun a z => (st2.fp a z).imp (fun z => ⟨i, z⟩) id, s'.sub, s'.wf⟩) e2 r2
end

/-! ### a def keeps its promise, by its body -/
def flo (s : Sh) (f : Fl) : Rs D := match f with
  | .rt d => .ok d
  | .nx => match s with
    | .im => .ok .none
    | _ => .no
  | _ => .no
/-- a def without lists of its caller's -/
def runP (s : Sh) (N : Nat) (m : Pm) : List D → Rs D := fun ds => m (ds.map some ++ List.replicate (N - ds.length) none) >>= fun r => flo s r.1
/-- .. with one, the first -/
def runM (s : Sh) (N : Nat) (m : Pm) : List D → Rs (D × D) := fun ds => m (ds.map some ++ List.replicate (N - ds.length) none) >>= fun r => flo s r.1 >>= fun d => match r.2[0]? with
  | some (some d0) => .ok (d, d0)
  | _ => .no
theorem slots_start {K : PySem.W.Frag} {κ : Kn} {ω : Om} {H : Hp} {N : List Str} {vs : List V} {ds : List D} (r : Reps K ω H vs ds) (wf : Wf ω H) (hk : ∀ i, i < ds.length → κ i = .im) : Slots K κ ω H (L2.start N vs) (ds.map some ++ List.replicate (N.length - ds.length) none) (fun _ => []) where
  len := by unfold L2.start; simp [r.length]
  at_ := fun i d h => by
    have hi : i < ds.length := by
      by_cases hi : i < ds.length
      · exact hi
      · rw [List.getElem?_append_right (by simpa using hi), List.getElem?_replicate] at h
        split at h <;> cases h
    rw [List.getElem?_append_left (by simpa using hi), List.getElem?_map] at h
    have h2 : ds[i]? = some d := by
      cases q : ds[i]? with
      | none => rw [q] at h; cases h
      | some e => rw [q] at h; cases h; rfl
    obtain ⟨v, h3, h4⟩ := r.getD h2
    refine ⟨v, ?_, by rw [hk i hi]; exact .im h4⟩
    unfold L2.start
    rw [List.getElem?_append_left (by simpa [r.length] using hi), List.getElem?_map, h3]
    rfl
  nod := fun _ => .nil
  dis := fun _ _ _ _ h => absurd h (by simp)
  sub := fun a ⟨_, h⟩ => absurd h (by simp)
  wf := wf
theorem slots_startM {K : PySem.W.Frag} {κ : Kn} {ω : Om} {H : Hp} {N : List Str} {v0 : V} {d0 : D} {f0 : List Addr} {vs : List V} {ds : List D} (o : Own K ω H (κ 0) v0 d0 f0) (nd : f0.Nodup) (h0 : ∀ a ∈ f0, ω a) (r : Reps K ω H vs ds) (wf : Wf ω H) (hk : ∀ i, 0 < i → i < ds.length + 1 → κ i = .im) :
    Slots K κ ω H (L2.start N (v0 :: vs)) ((d0 :: ds).map some ++ List.replicate (N.length - (d0 :: ds).length) none) (fun i => if i = 0 then f0 else []) where
  len := by unfold L2.start; simp [r.length]
  at_ := fun i d h => by
    cases i with
    | zero =>
      have e : d0 = d := by simpa using h
      subst e
      exact ⟨v0, by unfold L2.start; simp, by rw [if_pos rfl]; exact o⟩
    | succ i =>
      have s := slots_start (N := N.drop 1) (κ := fun j => κ (j + 1)) r wf (fun j hj => hk (j + 1) (Nat.succ_pos j) (by omega))
      have hlen : (N.drop 1).length - ds.length = N.length - (ds.length + 1) := by rw [List.length_drop]; omega
      have h' : (ds.map some ++ List.replicate ((N.drop 1).length - ds.length) none)[i]? = some (some d) := by
        rw [hlen]
        simpa using h
      obtain ⟨v, h1, h2⟩ := s.at_ i d h'
      refine ⟨v, ?_, by rw [if_neg (Nat.succ_ne_zero i)]; exact h2⟩
      unfold L2.start at h1 ⊢
      rw [r.length, hlen] at h1
      rw [List.length_cons, r.length]
      simpa using h1
  nod := fun i => by split <;> simp [nd]
  dis := fun i j a n h => by
    split at h
    · rename_i e
      rw [if_neg (by rw [← e]; exact Ne.symm n)]
      simp
    · simp at h
  sub := fun a ⟨i, h⟩ => by
    dsimp only at h
    split at h
    · exact h0 a h
    · simp at h
  wf := wf
abbrev gsOf (K : PySem.W.Frag) (cls : Cl) (E : XK) (κ : Kn) (pin : Nat → Bool) (ret : Sh) : Gs := { K := K, cls := cls, E := E, κ := κ, pin := pin, ret := ret }
section
variable {P : Program} {w : World} {K :
          PySem.W.Frag} {mg : Str → Option Value} {base : Heap}
theorem passes_cx {N ps : List Str} {qual : Str} {scope : Scope} {f : Addr} {cd : Value} {A : Around} {outer : List Env} {s : Shared} {H : Hp} {E : XK} : Passes (L2.CX P w) (cxOf (L2.CX P w) P w K mg base N qual scope f cd A outer s H E) E :=
  passes_call (W := fun cls d σ H => E cls d H) (takes_of rfl rfl rfl rfl) fun _ _ _ _ h => h
theorem passes_own {N ps : List Str} {qual : Str} {scope : Scope} {f : Addr} {cd : Value} {A : Around} {outer : List Env} {s : Shared} {H : Hp} {E : XK} : PassesOwn (model P w) (cxOf (L2.CX P w) P w K mg base N qual scope f cd A outer s H E).A (cxOf (L2.CX P w) P w K mg base N qual scope f cd A outer s H E).env (cxOf (L2.CX P w) P w K mg base N qual scope f cd A outer s H E).xe :=
  passes_of (X := cxOf (L2.CX P w) P w K mg base N qual scope f cd A outer s H E) rfl
theorem fl_inv {s : Sh} {f : Fl} {q : D → Prop} {e : Str → D → Prop} (h : Out (flo s f) q e) : (∃ d, f = .rt d ∧ q d) ∨ (f = .nx ∧ s = .im ∧ q .none) := by
  cases f with
  | rt d => exact .inl ⟨d, rfl, h⟩
  | nx =>
    cases s with
    | im => exact .inr ⟨rfl, rfl, h⟩
    | _ => exact h.elim
  | _ => exact h.elim
theorem def_okP {x qual : Str} {st : Stmt} {f : Addr} {fd : FuncData} {N ps : List Str} {k n : Nat} {cls : Cl} {κ : Kn} {ret : Sh} {m : Pm} (F : Fun K x qual st f fd) (S : FnScope N ps (defScope st)) (hn : ps.length = n) (hk : ∀ i, i < n → κ i = .im)
    (hb : ∀ (cdv : Value) (A : Around) (outer : List Env) (s : Shared) (H : Hp) (E : XK) (σ0 : L2.St), Room k (A.deeper (envOfC qual (defScope st) s.heap.objs.size f cdv)) →
      PSs (cxOf (L2.CX P w) P w K mg base N qual (defScope st) f cdv A outer s H E) (defBody st) (tP (gsOf K cls E κ (fun _ => false) ret) σ0 m)) :
    FnOk P w K mg base (L2.CX P w) (k + 1) f fd ps (spP K cls ret n (runP ret N.length m)) := by
  refine F.okX S (fun vs H Q E h => by rw [h.1, hn]) (fun cdv A outer s H vs Q E hr h => ⟨_, hb cdv A outer s H E (L2.start N vs) hr, ?_⟩)
  obtain ⟨hl, ω, ds, wf, rp, o⟩ := h
  have sl := slots_start (N := N) (κ := κ) rp wf (fun i hi => hk i (by rw [← hl, rp.length]; exact hi))
  refine ⟨fun _ _ => rfl, ω, _, _, sl, (Out.bind o).mono (fun r hr => ?_) fun c a z => ?_⟩
  · have em : ∀ a, ¬ Fp (fun _ => ([] : List Addr)) a := fun a ⟨_, z⟩ => by simp at z
    rcases fl_inv hr with ⟨d, e1, hq⟩ | ⟨e1, e2, hq⟩
    · simp only [e1]
      intro ω' H' σ' φ' v f st s' _ ow nd hf
      exact hq ω' H' v f ⟨fun a o h n => st.keep a o h (em a), st.om, fun a h n => st.stay a h (em a), fun a z => (st.fp a (.inr z)).imp (fun z => (em a z).elim) id, fun _ z => z.elim, st.wf⟩ s'.wf ow nd fun a ha => (hf a ha).1
    · simp only [e1]
      intro ω' H' σ' φ' st s' _
      subst e2
      exact hq ω' H' .non [] ⟨fun a o h n => st.keep a o h (em a), st.om, fun a h n => st.stay a h (em a), fun a z => absurd z (by simp), fun _ z => z.elim, st.wf⟩ s'.wf (.im .non) .nil fun a ha => absurd ha (by simp)
  · intro ω' P' H' dx v st e r
    have em : ∀ a, ¬ Fp (fun _ => ([] : List Addr)) a := fun a ⟨_, z⟩ => by simp at z
    exact z ω' P' H' dx v ⟨fun a o h n => st.keep a o h (em a), st.om, fun a h n => st.stay a h (em a), fun a z => (st.fp a z).imp (fun z => (em a z).elim) id, fun _ z => z.elim, st.wf⟩ e r
theorem def_okM {x qual : Str} {st : Stmt} {f : Addr} {fd : FuncData} {N ps : List Str} {k n : Nat} {cls : Cl} {κ : Kn} {ret s0 : Sh} {m : Pm} (F : Fun K x qual st f fd) (S : FnScope N ps (defScope st)) (hn : ps.length = n) (hk : ∀ i, 0 < i → i < n → κ i = .im) (h0 : κ 0 = s0)
    (hb : ∀ (cdv : Value) (A : Around) (outer : List Env) (s : Shared) (H : Hp) (E : XK) (σ0 : L2.St), Room k (A.deeper (envOfC qual (defScope st) s.heap.objs.size f cdv)) →
      PSs (cxOf (L2.CX P w) P w K mg base N qual (defScope st) f cdv A outer s H E) (defBody st) (tP (gsOf K cls E κ (fun i => i == 0) ret) σ0 m)) :
    FnOk P w K mg base (L2.CX P w) (k + 1) f fd ps (spM K cls s0 ret n (runM ret N.length m)) := by
  refine F.okX S (fun vs H Q E h => by rw [h.1, hn]) (fun cdv A outer s H vs Q E hr h => ⟨_, hb cdv A outer s H E (L2.start N vs) hr, ?_⟩)
  obtain ⟨hl, ω, v0, vr, d0, ds, f0, rfl, wf, o0, n0, hf0, rp, o⟩ := h
  rw [← h0] at o0
  have sl := slots_startM (N := N) (κ := κ) o0 n0 hf0 rp wf (fun i h1 hi => hk i h1 (by rw [← hl, List.length_cons, rp.length]; exact hi))
  have em : ∀ a, Fp (fun i => if i = 0 then f0 else []) a ↔ a ∈ f0 := fun a => ⟨fun ⟨i, z⟩ => by
    dsimp only at z
    split at z
    · exact z
    · simp at z, fun z => ⟨0, (if_pos rfl : (if (0 : Nat) = 0 then f0 else []) = f0) ▸ z⟩⟩
  refine ⟨fun _ _ => rfl, ω, _, _, sl, (Out.bind o).mono (fun r hr => ?_) fun c a z => ?_⟩
  · have fin : ∀ (d : D), Out (match r.2[0]? with | some (some d0) => (.ok (d, d0) : Rs (D × D)) | _ => .no) (fun r => ∀ ω' H' v f f0', Step ω (fun a => a ∈ f0) H ω' (fun a => a ∈ f0' ∨ a ∈ f) H' → Wf ω' H' → Own K ω' H' s0 v0 r.2 f0' → f0'.Nodup → (∀ a ∈ f0', ω' a) → Own K ω' H' ret v r.1 f → f.Nodup → (∀ a ∈ f, ω' a ∧ a ∉ f0') → Q v H') (Esc K cls E ω (fun a => a ∈ f0) H) → ∀ ω' H' σ' φ' v f, Step ω (Fp (fun i => if i = 0 then f0 else [])) H ω' (fun a => Fp φ' a ∨ a ∈ f) H' → Slots K κ ω' H' σ' r.2 φ' → Pin (fun i => i == 0) (L2.start N (v0 :: vr)) σ' → Own K ω' H' ret v d f → f.Nodup → (∀ a ∈ f, ω' a ∧ ¬ Fp φ' a) → Q v H' := by
      intro d hq ω' H' σ' φ' v f st s' pn ow nd hf
      cases e0 : r.2[0]? with
      | none => simp only [e0] at hq; exact hq.elim
      | some z =>
      cases z with
      | none => simp only [e0] at hq; exact hq.elim
      | some d1 =>
      simp only [e0] at hq
      obtain ⟨v1, hv1, ow1⟩ := s'.at_ 0 d1 e0
      have hp : σ'[0]? = some (some v0) := by
        rw [pn 0 rfl]
        unfold L2.start
        simp
      rw [hp] at hv1
      cases hv1
      rw [h0] at ow1
      exact hq ω' H' v f (φ' 0) ⟨fun a o h n => st.keep a o h fun z => n ((em a).mp z), st.om, fun a h n => st.stay a h fun z => n ((em a).mp z), fun a z => (z.elim (fun z => st.fp a (.inl ⟨0, z⟩)) fun z => st.fp a (.inr z)).imp (fun z => (em a).mp z) id, hf0, st.wf⟩ s'.wf ow1 (s'.nod 0) (fun a ha => s'.sub a ⟨0, ha⟩) ow nd fun a ha => ⟨(hf a ha).1, fun z => (hf a ha).2 ⟨0, z⟩⟩
    rcases fl_inv (Out.bind hr) with ⟨d, e1, hq⟩ | ⟨e1, e2, hq⟩
    · simp only [e1]
      exact fin d hq
    · simp only [e1]
      intro ω' H' σ' φ' st s' pn
      subst e2
      exact fin .none hq ω' H' σ' φ' .non [] ⟨st.keep, st.om, st.stay, fun a z => z.elim (st.fp a) fun z => absurd z (by simp), st.sub, st.wf⟩ s' pn (.im .non) .nil fun a ha => absurd ha (by simp)
  · intro ω' P' H' dx v st e r
    exact z ω' P' H' dx v ⟨fun a o h n => st.keep a o h fun z => n ((em a).mp z), st.om, fun a h n => st.stay a h fun z => n ((em a).mp z), fun a z => (st.fp a z).imp (fun z => (em a).mp z) id, hf0, st.wf⟩ e r
end
end Zd

namespace Zd
open PySem PySem.Spec
open PyProof.Rows L2

theorem OpR.or {X : Cx} {f : Value → Value → Sem Value} {r r' : R2} (h : OpR X f r) (h' : OpR X f r') : OpR X f (fun x y H Q => r x y H Q ∨ r' x y H Q) := by
  intro pins s σ H x y v u
  intro Q I rx ry q
  rcases q with q | q
  · exact (h pins s σ H x y) v u Q I rx ry q
  · exact (h' pins s σ H x y) v u Q I rx ry q
section
variable {K : PySem.W.Frag} {ω : Om} {H H' : Hp}
theorem ext_grow (wf : Wf ω H) (e : Ext H H') : Grow ω H ω H' := ⟨fun a o h _ => e a o h, wf, fun a z => .inl z⟩
theorem Lk.ext {v : V} {d : D} (h : Lk K ω H v d) (wf : Wf ω H) (e : Ext H H') : Lk K ω H' v d := by
  rcases h with h | ⟨a, vs, ds, rfl, rfl, q, r⟩
  · exact .inl (Rep.up h (ext_grow wf e))
  · exact .inr ⟨a, vs, ds, rfl, rfl, e a _ q, r.up (ext_grow wf e)⟩
theorem Rep.of_int {i : Int} : Rep K ω H (.int i) (.int i) := .int i
end

/-! ### + -/
def gAdd : D → D → Rs D
  | .int i, .int j => .ok (.int (i + j))
  | .str x, .str y => if x.length + y.length ≤ sizeLine then .ok (.str (x ++ y)) else .no
  | .tuple xs, .tuple ys => if xs.length + ys.length ≤ sizeLine then .ok (.tuple (xs ++ ys)) else .no
  | .list xs, .list ys => if xs.length + ys.length ≤ sizeLine then .ok (.list (xs ++ ys)) else .no
  | _, _ => .no
def fAdd : D → D → Rs (List D)
  | .list xs, .list ys => if xs.length + ys.length ≤ sizeLine then .ok (xs ++ ys) else .no
  | _, _ => .no
def rCatR : R2 := fun x y H Q => ∃ l b xs zs, x = .ref l ∧ y = .ref b ∧ Rd H l (.lst xs) ∧ Rd H b (.lst zs) ∧ xs.length + zs.length ≤ sizeLine ∧ ∀ p, H p = none → Q (.ref p) (upd H p (.lst (xs ++ zs)))
section
variable {X : Cx}
theorem op_catR : OpR X (binaryOp .Add) rCatR := by
  rintro pins s σ H x y v u Q I rx ry ⟨a, b, us, ws, rfl, rfl, hU, hW, small, q⟩
  cases rx; cases ry
  obtain ⟨_, is1, _, v1, g1⟩ := hU.ok I.hok
  obtain ⟨_, is2, _, v2, g2⟩ := hW.ok I.hok
  have sz : is1.length + is2.length ≤ sizeLine := by rw [← v1.length, ← v2.length]; exact small
  refine PySem.P.add_list g1 g2 ?_ (by simpa using sz)
  rw [show is1.toArray ++ is2.toArray = (is1 ++ is2).toArray by simp]
  have fits : (us ++ ws).length ≤ sizeLine := by rw [List.length_append]; exact small
  exact ⟨.ref _, _, I.lnew (t' := s.toks) (v1.append v2) fits, rfl, q _ I.fresh⟩
def rAddA (K : PySem.W.Frag) : R2 := fun x y H Q => ((((fun x y H Q => ∃ i j, x = .int i ∧ y = .int j ∧ Q (.int (i + j)) H) x y H Q ∨ (fun x y H Q => ∃ i j, x = .str i ∧ y = .str j ∧ i.length + j.length ≤ sizeLine ∧ Q (.str (i ++ j)) H) x y H Q) ∨ rCatA K x y H Q) ∨ rCatR x y H Q)
theorem op_addA : OpR X (binaryOp .Add) (rAddA X.K) := ((op_add.or op_add_str).or op_catA).or op_catR
end
theorem if_inv {α : Type} {c : Prop} [Decidable c] {x : Rs α} {q : α → Prop} {e : Str → D → Prop} (h : Out (if c then x else .no) q e) : c ∧ Out x q e := by
  by_cases hc : c
  · rw [if_pos hc] at h; exact ⟨hc, h⟩
  · rw [if_neg hc] at h; exact h.elim
theorem bi_add {K : PySem.W.Frag} : BiD K (rAddA K) gAdd := by
  intro ω H x y d e Q wf l1 l2 o
  cases d with
  | int i => cases e with
    | int j => rw [l1.int, l2.int]; exact .inl (.inl (.inl ⟨i, j, rfl, rfl, o H _ (Ext.refl H) (.int _)⟩))
    | _ => exact o.elim
  | str a => cases e with
    | str b =>
      obtain ⟨hc, o⟩ := if_inv o
      rw [l1.str, l2.str]; exact .inl (.inl (.inr ⟨a, b, rfl, rfl, hc, o H _ (Ext.refl H) (.str _)⟩))
    | _ => exact o.elim
  | tuple xs => cases e with
    | tuple ys =>
      obtain ⟨hc, o⟩ := if_inv o
      obtain ⟨a, vs, rfl, h1, r1⟩ := l1.tuple
      obtain ⟨b, ws, rfl, h2, r2⟩ := l2.tuple
      refine .inl (.inr ⟨a, b, vs, ws, rfl, rfl, h1, h2, by rw [r1.length, r2.length]; exact hc, fun e => ?_, fun e1 e2 => ?_, fun _ _ p hp => ?_⟩)
      · subst e
        cases r1
        exact o H _ (Ext.refl H) (.tup h2 r2)
      · subst e2
        cases r2
        rw [List.append_nil] at o
        exact o H _ (Ext.refl H) (.tup h1 r1)
      · exact o _ _ (Ext.upd hp) (Rep.newT wf hp (r1.append r2))
    | _ => exact o.elim
  | list xs => cases e with
    | list ys =>
      obtain ⟨hc, o⟩ := if_inv o
      obtain ⟨a, vs, rfl, h1, r1⟩ := l1.rdl
      obtain ⟨b, ws, rfl, h2, r2⟩ := l2.rdl
      exact .inr ⟨a, b, vs, ws, rfl, rfl, h1, h2, by rw [r1.length, r2.length]; exact hc, fun p hp => o _ _ (Ext.upd hp) (Rep.newL wf hp (r1.append r2))⟩
    | _ => exact o.elim
  | _ => cases e <;> exact o.elim
theorem bf_add {K : PySem.W.Frag} : BiF K (rAddA K) fAdd := by
  intro ω H x y d e Q wf l1 l2 o
  cases d with
  | list xs => cases e with
    | list ys =>
      obtain ⟨hc, o⟩ := if_inv o
      obtain ⟨a, vs, rfl, h1, r1⟩ := l1.rdl
      obtain ⟨b, ws, rfl, h2, r2⟩ := l2.rdl
      exact .inr ⟨a, b, vs, ws, rfl, rfl, h1, h2, by rw [r1.length, r2.length]; exact hc, fun p hp => o p _ hp (r1.append r2)⟩
    | _ => exact o.elim
  | _ => cases e <;> exact o.elim
theorem nx_if {α : Type} {c : Prop} [Decidable c] {a : α} {k : Str} {b : D} : (if c then Rs.ok a else .no) ≠ .ex k b := by
  split <;> (intro z; cases z)
theorem nx_add : NoX2 gAdd := fun x y c a => by
  cases x <;> cases y <;> first | exact nx_if | (intro z; cases z)
theorem nx_fadd : NoX2 fAdd := fun x y c a => by
  cases x <;> cases y <;> first | exact nx_if | (intro z; cases z)

/-! ### - -/
def gSub : D → D → Rs D
  | .int i, .int j => .ok (.int (i - j))
  | _, _ => .no
theorem bi_sub {K : PySem.W.Frag} : BiD K (rI0 fun i j => .int (i - j)) gSub := by
  intro ω H x y d e Q wf l1 l2 o
  cases d with
  | int i => cases e with
    | int j => rw [l1.int, l2.int]; exact ⟨i, j, rfl, rfl, o H _ (Ext.refl H) (.int _)⟩
    | _ => exact o.elim
  | _ => cases e <;> exact o.elim
theorem nx_sub : NoX2 gSub := fun x y c a => by cases x <;> cases y <;> (intro z; cases z)

/-! ### * -/
def rep {α : Type} (k : Int) (xs : List α) : List α := (List.replicate k.toNat xs).flatten
def gMul : D → D → Rs D
  | .int i, .int j => if i.natAbs.log2 + j.natAbs.log2 < 1000000 then .ok (.int (i * j)) else .no
  | .list xs, .int k => if -(2 ^ 63) ≤ k ∧ k < 2 ^ 63 ∧ xs.length * k.toNat ≤ sizeLine then .ok (.list (rep k xs)) else .no
  | _, _ => .no
def rRepR : R2 := fun x y H Q => ∃ l k xs, x = .ref l ∧ y = .int k ∧ Rd H l (.lst xs) ∧ -(2 ^ 63) ≤ k ∧ k < 2 ^ 63 ∧ xs.length * k.toNat ≤ sizeLine ∧
  ∀ p, H p = none → Q (.ref p) (upd H p (.lst (rep k xs)))
/-- what the model makes of a list, so many times -/
theorem rep_arr (n : Nat) (is : List Value) : List.foldl (fun a b => a ++ b) #[] (List.replicate (if is.toArray.isEmpty = true then 0 else n) is.toArray) = (List.replicate n is).flatten.toArray := by
  have all : ∀ m : Nat, List.foldl (fun a b => a ++ b) #[] (List.replicate m is.toArray) = (List.replicate m is).flatten.toArray := fun m => by
    have h := foldl_rep is m []
    rwa [List.nil_append] at h
  rw [all]
  cases is <;> simp
theorem op_repR {X : Cx} : OpR X (binaryOp .Mult) rRepR := by
  rintro pins s σ H x y v u Q I rx ry ⟨a, n, us, rfl, rfl, hU, lo, hi, small, q⟩
  cases rx
  obtain ⟨tk, rfl⟩ := ry
  obtain ⟨_, is, m, vs, g⟩ := hU.ok I.hok
  have sz : is.toArray.size * n.toNat ≤ sizeLine := by rw [List.size_toArray, ← vs.length]; exact small
  have cap : ¬ is.toArray.size * n.toNat > (2 ^ 63 - 1) / 8 := fun z => absurd (Nat.lt_of_lt_of_le z sz) (by decide)
  have fit : ¬ (!Builtin.List.listFitsIndex n) = true := by rw [fitsIndex_both lo hi]; decide
  have few : ¬ Builtin.List.listTooLong (is.toArray.size * n.toNat) = true := by rw [notLongL sz]; decide
  refine wpAny_binaryOp_repeat_ref (T := "list") (U := "int") (by decide) ⟨_, g, rfl⟩ (fun z => typeIs_int z n tk) noFill_list_mul
    F.fills_int_mul F.slot_int_rmul repeat_list F.slot_int_index.lookup ?_
  refine call_meets F.slot_int_rmul (typeIs_int s n tk) F.entry_int_rmul (F.args_int_rmul_2 _ _)
    (int___rmul___int_list n tk a is.toArray m) ⟨g, rfl, ⟨_, g, rfl⟩, ?_⟩
  refine call_meets F.slot_list_mul ⟨_, g, rfl⟩ F.entry_list_mul (F.args_list_mul_2 _ _)
    (AutoListH.list___mul___list_int_3 a is.toArray m n tk fit cap few) ⟨g, ?_⟩
  rw [rep_arr]
  have fits : ((List.replicate n.toNat us).flatten).length ≤ sizeLine := by rw [PyProof.Rows.lm_len_rep_flat, Nat.mul_comm]; exact small
  exact ⟨.ref _, _, I.lnew (t' := s.toks) (vs.rep n.toNat) fits, rfl, q _ I.fresh⟩
theorem bi_mul {K : PySem.W.Frag} : BiD K (fun x y H Q => rI CMulW (fun i j => .int (i * j)) x y H Q ∨ rRepR x y H Q) gMul := by
  intro ω H x y d e Q wf l1 l2 o
  cases d with
  | int i => cases e with
    | int j =>
      obtain ⟨hc, o⟩ := if_inv o
      rw [l1.int, l2.int]; exact .inl ⟨i, j, rfl, rfl, hc, o H _ (Ext.refl H) (.int _)⟩
    | _ => exact o.elim
  | list xs => cases e with
    | int k =>
      obtain ⟨⟨c1, c2, c3⟩, o⟩ := if_inv o
      obtain ⟨a, vs, rfl, h1, r1⟩ := l1.rdl
      rw [l2.int]
      exact .inr ⟨a, k, vs, rfl, rfl, h1, c1, c2, by rw [r1.length]; exact c3, fun p hp => o _ _ (Ext.upd hp) (Rep.newL wf hp (r1.rep k.toNat))⟩
    | _ => exact o.elim
  | _ => cases e <;> exact o.elim
theorem nx_mul : NoX2 gMul := fun x y c a => by
  cases x <;> cases y <;> first | exact nx_if | (intro z; cases z)
theorem op_mulA {X : Cx} : OpR X (binaryOp .Mult) (fun x y H Q => rI CMulW (fun i j => .int (i * j)) x y H Q ∨ rRepR x y H Q) := op_mulW.or op_repR

/-! ### // and % -/
def gDiv : D → D → Rs D
  | .int i, .int j => if j ≠ 0 ∧ j.natAbs.log2 < 9000 then .ok (.int (i.fdiv j)) else .no
  | _, _ => .no
def gMod : D → D → Rs D
  | .int i, .int j => if j ≠ 0 then .ok (.int (i.fmod j)) else .no
  | _, _ => .no
def gPow : D → D → Rs D
  | .int i, .int j => if 0 ≤ j ∧ j ≤ 1000000 ∧ i.natAbs < 2 ^ 64 then .ok (.int (i ^ j.toNat)) else .no
  | _, _ => .no
def CDivX (_ j : Int) : Prop := j ≠ 0 ∧ j.natAbs.log2 < 9000
theorem op_fdivX {X : Cx} : OpR X (binaryOp .FloorDiv) (rI CDivX fun i j => .int (i.fdiv j)) := opI fun i j _ _ _ _ _ hc q => floordiv_int hc.1 q (.inl (PyProof.noPylong_of_log2 hc.2))
theorem bi_div {K : PySem.W.Frag} : BiD K (rI CDivX fun i j => .int (i.fdiv j)) gDiv := by
  intro ω H x y d e Q wf l1 l2 o
  cases d with
  | int i => cases e with
    | int j =>
      obtain ⟨hc, o⟩ := if_inv o
      rw [l1.int, l2.int]; exact ⟨i, j, rfl, rfl, hc, o H _ (Ext.refl H) (.int _)⟩
    | _ => exact o.elim
  | _ => cases e <;> exact o.elim
theorem bi_mod {K : PySem.W.Frag} : BiD K (rI (fun _ j => j ≠ 0) fun i j => .int (i.fmod j)) gMod := by
  intro ω H x y d e Q wf l1 l2 o
  cases d with
  | int i => cases e with
    | int j =>
      obtain ⟨hc, o⟩ := if_inv o
      rw [l1.int, l2.int]; exact ⟨i, j, rfl, rfl, hc, o H _ (Ext.refl H) (.int _)⟩
    | _ => exact o.elim
  | _ => cases e <;> exact o.elim
theorem bi_pow {K : PySem.W.Frag} : BiD K (rI CPow fun i j => .int (i ^ j.toNat)) gPow := by
  intro ω H x y d e Q wf l1 l2 o
  cases d with
  | int i => cases e with
    | int j =>
      obtain ⟨hc, o⟩ := if_inv o
      rw [l1.int, l2.int]; exact ⟨i, j, rfl, rfl, hc, o H _ (Ext.refl H) (.int _)⟩
    | _ => exact o.elim
  | _ => cases e <;> exact o.elim
theorem nx_div : NoX2 gDiv := fun x y c a => by cases x <;> cases y <;> first | exact nx_if | (intro z; cases z)
theorem nx_mod : NoX2 gMod := fun x y c a => by cases x <;> cases y <;> first | exact nx_if | (intro z; cases z)
theorem nx_pow : NoX2 gPow := fun x y c a => by cases x <;> cases y <;> first | exact nx_if | (intro z; cases z)

section
variable {X : Cx} {G : Gm} {a b : Expr} {pos : Pos} {ta tb : Am}
theorem xAdd (ha : PE X a (tA1 G ta)) (hb : PE X b (tA1 G tb)) (hK : X.K = G.K := by rfl) : PE X (.BinOp a .Add b pos) (tI G (mB gAdd ta tb)) := bi (r := rAddA G.K) (hK ▸ op_addA) bi_add nx_add ha hb
theorem fAddL (ha : PE X a (tA1 G ta)) (hb : PE X b (tA1 G tb)) (hK : X.K = G.K := by rfl) : PE X (.BinOp a .Add b pos) (tF G (fB fAdd ta tb)) := biF (r := rAddA G.K) (hK ▸ op_addA) bf_add nx_fadd ha hb
theorem xSub (ha : PE X a (tA1 G ta)) (hb : PE X b (tA1 G tb)) : PE X (.BinOp a .Sub b pos) (tI G (mB gSub ta tb)) := bi op_sub bi_sub nx_sub ha hb
theorem xMul (ha : PE X a (tA1 G ta)) (hb : PE X b (tA1 G tb)) : PE X (.BinOp a .Mult b pos) (tI G (mB gMul ta tb)) := bi op_mulA bi_mul nx_mul ha hb
theorem xDiv (ha : PE X a (tA1 G ta)) (hb : PE X b (tA1 G tb)) : PE X (.BinOp a .FloorDiv b pos) (tI G (mB gDiv ta tb)) := bi op_fdivX bi_div nx_div ha hb
theorem xMod (ha : PE X a (tA1 G ta)) (hb : PE X b (tA1 G tb)) : PE X (.BinOp a .Mod b pos) (tI G (mB gMod ta tb)) := bi op_modN bi_mod nx_mod ha hb
theorem xPow (ha : PE X a (tA1 G ta)) (hb : PE X b (tA1 G tb)) : PE X (.BinOp a .Pow b pos) (tI G (mB gPow ta tb)) := bi op_pow bi_pow nx_pow ha hb
end

/-! ### one-place operations -/
section
variable {X : Cx} {G : Gm} {a b : Expr} {pos : Pos} {ta tb : Am}
theorem un {op : UnaryOp} {r : V → Hp → VK → Prop} {g : D → Rs D} (ho : UnR X (unaryOp op) r) (hd : UnD G.K r g) (nx : NoX g) (ha : PE X a (tA1 G ta)) : PE X (.UnaryOp op a pos) (tI G (mU g ta)) := by
  refine pe_if (pe_un ho ha) fun σ H Q ⟨ω, δ, φ, s, o⟩ => ⟨ω, δ, φ, s, (Out.bind o).mono (fun r1 h1 ω1 H1 φ1 x st1 s1 rx => ?_) fun _ _ z => z⟩
  obtain ⟨d, l1, h2⟩ := s1.got rx (Out.bind h1)
  refine hd ω1 H1 x d Q s1.wf l1 ((out_no (Out.bind h2) (nx d)).mono (fun z hz H' v ex rp => ?_) fun _ _ z => z)
  exact hz ω1 H' φ1 v (st1.trans (s1.step ex)) (s1.ext ex) rp
def gNeg : D → Rs D
  | .int i => .ok (.int (-i))
  | _ => .no
theorem ud_neg {K : PySem.W.Frag} : UnD K (rU fun i => .int (-i)) gNeg := by
  intro ω H x d Q wf l o
  cases d with
  | int i => rw [l.int]; exact ⟨i, rfl, o H _ (Ext.refl H) (.int _)⟩
  | _ => exact o.elim
theorem nx_neg : NoX gNeg := fun x c a => by cases x <;> (intro z; cases z)
theorem xNeg (ha : PE X a (tA1 G ta)) : PE X (.UnaryOp .USub a pos) (tI G (mU gNeg ta)) := un un_neg ud_neg nx_neg ha
end

/-! ### == != -/
mutual
theorem Rep.plain {K : PySem.W.Frag} {ω : Om} {H : Hp} : ∀ (d : D) (v : V), Rep K ω H v d → d.plain = true
  | .none, _, _ => rfl
  | .bool _, _, _ => rfl
  | .int _, _, _ => rfl
  | .str _, _, _ => rfl
  | .tuple ds, _, h => by
    cases h with
    | tup hs ha => simp only [PyData.plain]; exact Reps.plain ds _ ha
  | .list ds, _, h => by
    cases h with
    | lst hs ha => simp only [PyData.plain]; exact Reps.plain ds _ ha
  | .dict _, _, h => by cases h
theorem Reps.plain {K : PySem.W.Frag} {ω : Om} {H : Hp} : ∀ (ds : List D) (vs : List V), Reps K ω H vs ds → PyData.plainAll ds = true
  | [], _, _ => by simp only [PyData.plainAll]
  | d :: ds, _, h => by
    cases h with
    | cons h1 h2 => simp only [PyData.plainAll, Rep.plain d _ h1, Reps.plain ds _ h2, Bool.and_self]
end
theorem Lk.plain {K : PySem.W.Frag} {ω : Om} {H : Hp} {v : V} {d : D} (h : Lk K ω H v d) : d.plain = true := by
  rcases h with h | ⟨a, vs, ds, rfl, rfl, q, r⟩
  · exact Rep.plain d v h
  · simp only [PyData.plain]; exact Reps.plain ds vs r
def gEq (d e : D) : Rs D := if min d.depth e.depth ≤ 60 then .ok (.bool (PyData.eqv d e)) else .no
def gNe (d e : D) : Rs D := if min d.depth e.depth ≤ 60 then .ok (.bool (!PyData.eqv d e)) else .no
def rEqP (K : PySem.W.Frag) : R2 := fun x y H Q => ∃ d e, Dp K H x d ∧ Dp K H y e ∧ d.plain = true ∧ e.plain = true ∧ min d.depth e.depth ≤ 60 ∧ Q (.bl (PyData.eqv d e)) H
def rNeP (K : PySem.W.Frag) : R2 := fun x y H Q => ∃ d e, Dp K H x d ∧ Dp K H y e ∧ d.plain = true ∧ e.plain = true ∧ min d.depth e.depth ≤ 60 ∧ Q (.bl (!PyData.eqv d e)) H
section
variable {X : Cx}
theorem op_eqP {k : Nat} (hr : Room k X.A) : OpR X (compareOp .Eq) (rEqP X.K) := by
  intro pins s σ H x y v u
  intro Q I rx ry h
  obtain ⟨d, e, hd, he, sd, se, hm, q⟩ := h
  obtain ⟨as,
            r1⟩ := Dp.reads I d x v hd rx
  obtain ⟨bs,
            r2⟩ := Dp.reads I e y u he ry
  exact SeqAt.eq_plain r1 r2 sd se (by have := hr.units; omega) ⟨.bl _, H, I, rfl, q⟩
theorem op_neP {k : Nat} (hr : Room k X.A) : OpR X (compareOp .NotEq) (rNeP X.K) := by
  intro pins s σ H x y v u
  intro Q I rx ry h
  obtain ⟨d, e, hd, he, sd, se, hm, q⟩ := h
  obtain ⟨as,
            r1⟩ := Dp.reads I d x v hd rx
  obtain ⟨bs,
            r2⟩ := Dp.reads I e y u he ry
  exact SeqAt.ne_plain r1 r2 sd se (by have := hr.units; omega) ⟨.bl _, H, I, rfl, q⟩
end
theorem bi_eq {K : PySem.W.Frag} : BiD K (rEqP K) gEq := by
  intro ω H x y d e Q wf l1 l2 o
  obtain ⟨hc, o⟩ := if_inv o
  exact ⟨d, e, l1.dp, l2.dp, l1.plain, l2.plain, hc, o H _ (Ext.refl H) (.bl _)⟩
theorem bi_ne {K : PySem.W.Frag} : BiD K (rNeP K) gNe := by
  intro ω H x y d e Q wf l1 l2 o
  obtain ⟨hc, o⟩ := if_inv o
  exact ⟨d, e, l1.dp, l2.dp, l1.plain, l2.plain, hc, o H _ (Ext.refl H) (.bl _)⟩
theorem nx_eq : NoX2 gEq := fun x y c a => nx_if
theorem nx_ne : NoX2 gNe := fun x y c a => nx_if

/-! ### < <= > >= -/
def some? : D → Bool
  | .none => false
  | _ => true
theorem some_ne {d : D} (h : some? d = true) : d ≠ .none := by rintro rfl; cases h
def gLt (d e : D) : Rs D := match d, e with
  | .int i, .int j => .ok (.bool (decide (i < j)))
  | d, e => if PySem.W.alike d e = true ∧ some? d = true ∧ min d.depth e.depth ≤ 60 then .ok (.bool (PySem.W.dataLt d e)) else .no
def gLe : D → D → Rs D
  | .int i, .int j => .ok (.bool (decide (i ≤ j)))
  | _, _ => .no
def gGt : D → D → Rs D
  | .int i, .int j => .ok (.bool (decide (j < i)))
  | _, _ => .no
def gGe : D → D → Rs D
  | .int i, .int j => .ok (.bool (decide (j ≤ i)))
  | _, _ => .no
def rLtD (K : PySem.W.Frag) : R2 := fun x y H Q => ∃ d e, Dp K H x d ∧ Dp K H y e ∧ PySem.W.alike d e = true ∧ d ≠ .none ∧ min d.depth e.depth ≤ 60 ∧ Q (.bl (PySem.W.dataLt d e)) H
theorem op_ltD {X : Cx} {k : Nat} (hr : Room k X.A) : OpR X (compareOp .Lt) (rLtD X.K) := by
  intro pins s σ H x y v u
  intro Q I rx ry h
  obtain ⟨d, e, hd, he, ha, hn, hm, q⟩ := h
  obtain ⟨as,
            r1⟩ := Dp.reads I d x v hd rx
  obtain ⟨bs,
            r2⟩ := Dp.reads I e y u he ry
  exact PySem.W.rcLt_alike d e X.A s v u as bs r1 r2 ha hn (by have := hr.units; omega) _ _ _ _ ⟨.bl _, H, I, rfl, q⟩
theorem bi_lt {K : PySem.W.Frag} : BiD K (fun x y H Q => (rI0 fun i j => .bl (decide (i < j))) x y H Q ∨ rLtD K x y H Q) gLt := by
  intro ω H x y d e Q wf l1 l2 o
  have gen : Out (if PySem.W.alike d e = true ∧ some? d = true ∧ min d.depth e.depth ≤ 60 then .ok (.bool (PySem.W.dataLt d e)) else .no) (fun z => ∀ H' v, Ext H H' → Rep K ω H' v z → Q v H') (fun _ _ => False) → rLtD K x y H Q := fun o => by
    obtain ⟨⟨h1, h2, h3⟩, o⟩ := if_inv o
    exact ⟨d, e, l1.dp, l2.dp, h1, some_ne h2, h3, o H _ (Ext.refl H) (.bl _)⟩
  unfold gLt at o
  split at o
  · rw [l1.int, l2.int]; exact .inl ⟨_, _, rfl, rfl, o H _ (Ext.refl H) (.bl _)⟩
  · exact .inr (gen o)
theorem bi_le {K : PySem.W.Frag} : BiD K (rI0 fun i j => .bl (decide (i ≤ j))) gLe := by
  intro ω H x y d e Q wf l1 l2 o
  cases d with
  | int i => cases e with
    | int j => rw [l1.int, l2.int]; exact ⟨i, j, rfl, rfl, o H _ (Ext.refl H) (.bl _)⟩
    | _ => exact o.elim
  | _ => cases e <;> exact o.elim
theorem bi_gt {K : PySem.W.Frag} : BiD K (rI0 fun i j => .bl (decide (j < i))) gGt := by
  intro ω H x y d e Q wf l1 l2 o
  cases d with
  | int i => cases e with
    | int j => rw [l1.int, l2.int]; exact ⟨i, j, rfl, rfl, o H _ (Ext.refl H) (.bl _)⟩
    | _ => exact o.elim
  | _ => cases e <;> exact o.elim
theorem bi_ge {K : PySem.W.Frag} : BiD K (rI0 fun i j => .bl (decide (j ≤ i))) gGe := by
  intro ω H x y d e Q wf l1 l2 o
  cases d with
  | int i => cases e with
    | int j => rw [l1.int, l2.int]; exact ⟨i, j, rfl, rfl, o H _ (Ext.refl H) (.bl _)⟩
    | _ => exact o.elim
  | _ => cases e <;> exact o.elim
theorem nx_lt : NoX2 gLt := fun x y c a => by unfold gLt; split <;> first | exact nx_if | (intro z; cases z)
theorem nx_le : NoX2 gLe := fun x y c a => by cases x <;> cases y <;> (intro z; cases z)
theorem nx_gt : NoX2 gGt := fun x y c a => by cases x <;> cases y <;> (intro z; cases z)
theorem nx_ge : NoX2 gGe := fun x y c a => by cases x <;> cases y <;> (intro z; cases z)

/-! ### in, not in; is, is not -/
def isIn (d : D) : D → Rs Bool
  | .list xs => if min (PyData.depthAll xs) d.depth ≤ 60 then .ok (xs.any fun y => PyData.eqv y d) else .no
  | .tuple xs => if min (PyData.depthAll xs) d.depth ≤ 60 then .ok (xs.any fun y => PyData.eqv y d) else .no
  | .str z => match d with
    | .str x => .ok (!(Builtin.Str.occurrences z x 0 z.length 1).isEmpty)
    | _ => .no
  | _ => .no
def gIn (d e : D) : Rs D := isIn d e >>= fun b => .ok (.bool b)
def gNi (d e : D) : Rs D := isIn d e >>= fun b => .ok (.bool (!b))
def rInP (K : PySem.W.Frag) (neg : Bool) : R2 := fun x y H Q => ∃ d xs, Dp K H x d ∧ (Dp K H y (.list xs) ∨ Dp K H y (.tuple xs)) ∧ d.plain = true ∧ PyData.plainAll xs = true ∧ min (PyData.depthAll xs) d.depth ≤ 60 ∧
  Q (.bl (if neg then !(xs.any fun y => PyData.eqv y d) else xs.any fun y => PyData.eqv y d)) H
theorem op_inP {X : Cx} {k : Nat} (hr : Room k X.A) : OpR X (compareOp .In) (rInP X.K false) := by
  intro pins s σ H x y v u
  intro Q I rx ry h
  obtain ⟨d, xs, hd, he, sd, se, hm, q⟩ := h
  have hu := hr.units
  obtain ⟨as,
            r1⟩ := Dp.reads I d x v hd rx
  rcases he with he | he
  · obtain ⟨bs, r2⟩ := Dp.reads I _ y u he ry
    exact SeqAt.in_list_data r2 r1 se sd (by omega) ⟨.bl _, H, I, rfl, q⟩
  · obtain ⟨bs, r2⟩ := Dp.reads I _ y u he ry
    exact SeqAt.in_tuple_data r2 r1 se sd (by omega) ⟨.bl _, H, I, rfl, q⟩
theorem op_niP {X : Cx} {k : Nat} (hr : Room k X.A) : OpR X (compareOp .NotIn) (rInP X.K true) := by
  intro pins s σ H x y v u
  intro Q I rx ry h
  obtain ⟨d, xs, hd, he, sd, se, hm, q⟩ := h
  have hu := hr.units
  obtain ⟨as,
            r1⟩ := Dp.reads I d x v hd rx
  rcases he with he | he
  · obtain ⟨bs, r2⟩ := Dp.reads I _ y u he ry
    exact SeqAt.notIn_list_data r2 r1 se sd (by omega) ⟨.bl _, H, I, rfl, q⟩
  · obtain ⟨bs, r2⟩ := Dp.reads I _ y u he ry
    exact SeqAt.notIn_tuple_data r2 r1 se sd (by omega) ⟨.bl _, H, I, rfl, q⟩
abbrev rInA (K : PySem.W.Frag) : R2 := fun x y H Q => rInP K false x y H Q ∨ (fun x y H Q => ∃ i j, x = .str i ∧ y = .str j ∧ Q (.bl (!(Builtin.Str.occurrences j i 0 j.length 1).isEmpty)) H) x y H Q
abbrev rNiA (K : PySem.W.Frag) : R2 := fun x y H Q => rInP K true x y H Q ∨ (fun x y H Q => ∃ i j, x = .str i ∧ y = .str j ∧ Q (.bl (!(!(Builtin.Str.occurrences j i 0 j.length 1).isEmpty))) H) x y H Q
theorem isIn_inv {K : PySem.W.Frag} {ω : Om} {H : Hp} {x y : V} {d e : D} (l1 : Lk K ω H x d) (l2 : Lk K ω H y e) {q : Bool → Prop} (o : Out (isIn d e) q (fun _ _ => False)) :
    (∃ d xs, Dp K H x d ∧ (Dp K H y (.list xs) ∨ Dp K H y (.tuple xs)) ∧ d.plain = true ∧ PyData.plainAll xs = true ∧ min (PyData.depthAll xs) d.depth ≤ 60 ∧ q (xs.any fun y => PyData.eqv y d)) ∨
    ∃ i j, x = .str i ∧ y = .str j ∧ q (!(Builtin.Str.occurrences j i 0 j.length 1).isEmpty) := by
  cases e with
  | list xs =>
    obtain ⟨hc, o⟩ := if_inv o
    have hp := l2.plain
    simp only [PyData.plain] at hp
    exact .inl ⟨d, xs, l1.dp, .inl l2.dp, l1.plain, hp, hc, o⟩
  | tuple xs =>
    obtain ⟨hc, o⟩ := if_inv o
    have hp := l2.plain
    simp only [PyData.plain] at hp
    exact .inl ⟨d, xs, l1.dp, .inr l2.dp, l1.plain, hp, hc, o⟩
  | str z =>
    cases d with
    | str i => exact .inr ⟨i, z, l1.str, l2.str, o⟩
    | _ => exact o.elim
  | _ => exact o.elim
theorem bi_in {K : PySem.W.Frag} : BiD K (rInA K) gIn := by
  intro ω H x y d e Q wf l1 l2 o
  rcases isIn_inv l1 l2 (Out.bind o) with ⟨d, xs, h1, h2, h3, h4, h5, q⟩ | ⟨i, j, h1, h2, q⟩
  · exact .inl ⟨d, xs, h1, h2, h3, h4, h5, q H _ (Ext.refl H) (.bl _)⟩
  · exact .inr ⟨i, j, h1, h2, q H _ (Ext.refl H) (.bl _)⟩
theorem bi_ni {K : PySem.W.Frag} : BiD K (rNiA K) gNi := by
  intro ω H x y d e Q wf l1 l2 o
  rcases isIn_inv l1 l2 (Out.bind o) with ⟨d, xs, h1, h2, h3, h4, h5, q⟩ | ⟨i, j, h1, h2, q⟩
  · exact .inl ⟨d, xs, h1, h2, h3, h4, h5, q H _ (Ext.refl H) (.bl _)⟩
  · exact .inr ⟨i, j, h1, h2, q H _ (Ext.refl H) (.bl _)⟩
theorem isIn_nx {d e : D} : ∀ c a, isIn d e ≠ .ex c a := fun c a => by
  cases e with
  | list xs => exact nx_if
  | tuple xs => exact nx_if
  | str z => cases d <;> (intro z; cases z)
  | _ => intro z; cases z
theorem nx_in : NoX2 gIn := fun x y c a => bind_nx isIn_nx fun _ _ _ => by intro z; cases z
theorem nx_ni : NoX2 gNi := fun x y c a => bind_nx isIn_nx fun _ _ _ => by intro z; cases z
def isNo : D → Bool
  | .none => true
  | _ => false
def isBo (b : Bool) : D → Bool
  | .bool c => decide (c = b)
  | _ => false
def gIs (d e : D) : Rs D := match e with
  | .none => .ok (.bool (isNo d))
  | .bool b => .ok (.bool (isBo b d))
  | _ => .no
def gIsN (d e : D) : Rs D := match e with
  | .none => .ok (.bool (!isNo d))
  | .bool b => .ok (.bool (!isBo b d))
  | _ => .no
/-- x is b -/
theorem op_isC {X : Cx} : OpR X (compareOp .Is) (fun x y H Q => (y = .non ∧ Q (.bl (decide (x = .non))) H) ∨ ∃ b, y = .bl b ∧ Q (.bl (decide (x = .bl b))) H) := by
  intro pins s σ H x y v u
  intro Q I rx ry h
  rcases h with ⟨rfl, q⟩ | ⟨b, rfl, q⟩
  · exact op_isN pins s σ H x .non v u Q I rx ry ⟨rfl, q⟩
  · cases (show u = Value.bool b from ry)
    by_cases e : x = .bl b
    · subst e
      cases (show v = Value.bool b from rx)
      exact wpAny_is_self rfl ⟨.bl true,
                H, I, rfl, by simpa using q⟩
    · have ne : v ≠ Value.bool b := fun z => e (RelV.inj (u := v) rx (by rw [z]; exact rfl))
      have q' : Q (.bl false) H := by rw [decide_eq_false e] at q; exact q
      refine wpAny_is_other ?_ ne ⟨.bl false, H, I, rfl, q'⟩
      cases x <;> first
        | (cases rx; rfl)
        | (obtain ⟨t,
                  rfl⟩ := rx; rfl)
theorem op_isNC {X : Cx} : OpR X (compareOp .IsNot) (fun x y H Q => (y = .non ∧ Q (.bl (!decide (x = .non))) H) ∨ ∃ b, y = .bl b ∧ Q (.bl (!decide (x = .bl b))) H) := by
  intro pins s σ H x y v u
  intro Q I rx ry h
  rcases h with ⟨rfl, q⟩ | ⟨b, rfl, q⟩
  · exact op_notN pins s σ H x .non v u Q I rx ry ⟨rfl, q⟩
  · cases (show u = Value.bool b from ry)
    by_cases e : x = .bl b
    · subst e
      cases (show v = Value.bool b from rx)
      exact wpAny_isNot_self rfl ⟨.bl
                false, H, I, rfl, by simpa using q⟩
    · have ne : v ≠ Value.bool b := fun z => e (RelV.inj (u := v) rx (by rw [z]; exact rfl))
      have q' : Q (.bl true) H := by rw [decide_eq_false e] at q; exact q
      refine wpAny_isNot_other ?_ ne ⟨.bl true, H, I, rfl, q'⟩
      cases x <;> first
        | (cases rx; rfl)
        | (obtain ⟨t,
                  rfl⟩ := rx; rfl)

theorem Lk.isNone {K : PySem.W.Frag} {ω : Om} {H : Hp} {v : V} {d : D} (l : Lk K ω H v d) : decide (v = .non) = isNo d := by
  rcases l with h | ⟨a, vs, ds, rfl, rfl, _, _⟩
  · cases h <;> simp [isNo]
  · simp [isNo]
theorem Lk.isBool {K : PySem.W.Frag} {ω : Om} {H : Hp} {v : V} {d : D} {b : Bool} (l : Lk K ω H v d) : decide (v = .bl b) = isBo b d := by
  rcases l with h | ⟨a, vs, ds, rfl, rfl, _, _⟩
  · cases h <;> simp [isBo]
  · simp [isBo]
theorem bi_is {K : PySem.W.Frag} : BiD K (fun x y H Q => (y = .non ∧ Q (.bl (decide (x = .non))) H) ∨ ∃ b, y = .bl b ∧ Q (.bl (decide (x = .bl b))) H) gIs := by
  intro ω H x y d e Q wf l1 l2 o
  cases e with
  | none => exact .inl ⟨l2.none, by rw [l1.isNone]; exact o H _ (Ext.refl H) (.bl _)⟩
  | bool b => exact .inr ⟨b, l2.bool, by rw [l1.isBool]; exact o H _ (Ext.refl H) (.bl _)⟩
  | _ => exact o.elim
theorem bi_isN {K : PySem.W.Frag} : BiD K (fun x y H Q => (y = .non ∧ Q (.bl (!decide (x = .non))) H) ∨ ∃ b, y = .bl b ∧ Q (.bl (!decide (x = .bl b))) H) gIsN := by
  intro ω H x y d e Q wf l1 l2 o
  cases e with
  | none => exact .inl ⟨l2.none, by rw [l1.isNone]; exact o H _ (Ext.refl H) (.bl _)⟩
  | bool b => exact .inr ⟨b, l2.bool, by rw [l1.isBool]; exact o H _ (Ext.refl H) (.bl _)⟩
  | _ => exact o.elim
theorem nx_is : NoX2 gIs := fun x y c a => by cases y <;> (intro z; cases z)
theorem nx_isN : NoX2 gIsN := fun x y c a => by cases y <;> (intro z; cases z)
section
variable {X : Cx} {G : Gm} {a b : Expr} {pos : Pos} {ta tb : Am} {k : Nat}
theorem cEq (hr : Room k X.A) (ha : PE X a (tA1 G ta)) (hb : PE X b (tA1 G tb)) (hK : X.K = G.K := by rfl) : PE X (.Compare a [.Eq] [b] pos) (tI G (mB gEq ta tb)) := cm (r := rEqP G.K) (hK ▸ op_eqP hr) bi_eq nx_eq ha hb (nomark _)
theorem cNe (hr : Room k X.A) (ha : PE X a (tA1 G ta)) (hb : PE X b (tA1 G tb)) (hK : X.K = G.K := by rfl) : PE X (.Compare a [.NotEq] [b] pos) (tI G (mB gNe ta tb)) := cm (r := rNeP G.K) (hK ▸ op_neP hr) bi_ne nx_ne ha hb (nomark _)
theorem cLt (hr : Room k X.A) (ha : PE X a (tA1 G ta)) (hb : PE X b (tA1 G tb)) (hK : X.K = G.K := by rfl) : PE X (.Compare a [.Lt] [b] pos) (tI G (mB gLt ta tb)) := cm (OpR.or op_lt (hK ▸ op_ltD hr)) bi_lt nx_lt ha hb (nomark _)
theorem cLe (hr : Room k X.A) (ha : PE X a (tA1 G ta)) (hb : PE X b (tA1 G tb)) : PE X (.Compare a [.LtE] [b] pos) (tI G (mB gLe ta tb)) := cm op_le bi_le nx_le ha hb (nomark _)
theorem cGt (hr : Room k X.A) (ha : PE X a (tA1 G ta)) (hb : PE X b (tA1 G tb)) : PE X (.Compare a [.Gt] [b] pos) (tI G (mB gGt ta tb)) := cm op_gt bi_gt nx_gt ha hb (nomark _)
theorem cGe (hr : Room k X.A) (ha : PE X a (tA1 G ta)) (hb : PE X b (tA1 G tb)) : PE X (.Compare a [.GtE] [b] pos) (tI G (mB gGe ta tb)) := cm op_ge bi_ge nx_ge ha hb (nomark _)
theorem cIn (hr : Room k X.A) (ha : PE X a (tA1 G ta)) (hb : PE X b (tA1 G tb)) (hK : X.K = G.K := by rfl) (hm : behindInMarks .In b = false := by with_unfolding_all rfl) : PE X (.Compare a [.In] [b] pos) (tI G (mB gIn ta tb)) := cm (OpR.or (hK ▸ op_inP hr) op_in_str) bi_in nx_in ha hb hm
theorem cNi (hr : Room k X.A) (ha : PE X a (tA1 G ta)) (hb : PE X b (tA1 G tb)) (hK : X.K = G.K := by rfl) (hm : behindInMarks .NotIn b = false := by with_unfolding_all rfl) : PE X (.Compare a [.NotIn] [b] pos) (tI G (mB gNi ta tb)) := cm (OpR.or (hK ▸ op_niP hr) L2.op_notin_str) bi_ni nx_ni ha hb hm
theorem cIs (hr : Room k X.A) (ha : PE X a (tA1 G ta)) (hb : PE X b (tA1 G tb)) : PE X (.Compare a [.Is] [b] pos) (tI G (mB gIs ta tb)) := cm op_isC bi_is nx_is ha hb (nomark _)
theorem cIN (hr : Room k X.A) (ha : PE X a (tA1 G ta)) (hb : PE X b (tA1 G tb)) : PE X (.Compare a [.IsNot] [b] pos) (tI G (mB gIsN ta tb)) := cm op_isNC bi_isN nx_isN ha hb (nomark _)
/-- a comparison as a test -/
theorem ct {op : CmpOp} {m : Em} (h : PE X (.Compare a [op] [b] pos) (tI G m)) (hc : PT X (.Compare a [op] [b] pos) (tT G (mT m))) : PT X (.Compare a [op] [b] pos) (tT G (mT m)) := hc
theorem tEq (hr : Room k X.A) (ha : PE X a (tA1 G ta)) (hb : PE X b (tA1 G tb)) (hK : X.K = G.K := by rfl) : PT X (.Compare a [.Eq] [b] pos) (tT G (mT (mB gEq ta tb))) := cmt (r := rEqP G.K) (hK ▸ op_eqP hr) bi_eq nx_eq ha hb (nomark _)
theorem tNe (hr : Room k X.A) (ha : PE X a (tA1 G ta)) (hb : PE X b (tA1 G tb)) (hK : X.K = G.K := by rfl) : PT X (.Compare a [.NotEq] [b] pos) (tT G (mT (mB gNe ta tb))) := cmt (r := rNeP G.K) (hK ▸ op_neP hr) bi_ne nx_ne ha hb (nomark _)
theorem tLt (hr : Room k X.A) (ha : PE X a (tA1 G ta)) (hb : PE X b (tA1 G tb)) (hK : X.K = G.K := by rfl) : PT X (.Compare a [.Lt] [b] pos) (tT G (mT (mB gLt ta tb))) := cmt (OpR.or op_lt (hK ▸ op_ltD hr)) bi_lt nx_lt ha hb (nomark _)
theorem tLe (hr : Room k X.A) (ha : PE X a (tA1 G ta)) (hb : PE X b (tA1 G tb)) : PT X (.Compare a [.LtE] [b] pos) (tT G (mT (mB gLe ta tb))) := cmt op_le bi_le nx_le ha hb (nomark _)
theorem tGt (hr : Room k X.A) (ha : PE X a (tA1 G ta)) (hb : PE X b (tA1 G tb)) : PT X (.Compare a [.Gt] [b] pos) (tT G (mT (mB gGt ta tb))) := cmt op_gt bi_gt nx_gt ha hb (nomark _)
theorem tGe (hr : Room k X.A) (ha : PE X a (tA1 G ta)) (hb : PE X b (tA1 G tb)) : PT X (.Compare a [.GtE] [b] pos) (tT G (mT (mB gGe ta tb))) := cmt op_ge bi_ge nx_ge ha hb (nomark _)
theorem tIn (hr : Room k X.A) (ha : PE X a (tA1 G ta)) (hb : PE X b (tA1 G tb)) (hK : X.K = G.K := by rfl) (hm : behindInMarks .In b = false := by with_unfolding_all rfl) : PT X (.Compare a [.In] [b] pos) (tT G (mT (mB gIn ta tb))) := cmt (OpR.or (hK ▸ op_inP hr) op_in_str) bi_in nx_in ha hb hm
theorem tNi (hr : Room k X.A) (ha : PE X a (tA1 G ta)) (hb : PE X b (tA1 G tb)) (hK : X.K = G.K := by rfl) (hm : behindInMarks .NotIn b = false := by with_unfolding_all rfl) : PT X (.Compare a [.NotIn] [b] pos) (tT G (mT (mB gNi ta tb))) := cmt (OpR.or (hK ▸ op_niP hr) L2.op_notin_str) bi_ni nx_ni ha hb hm
theorem tIs (hr : Room k X.A) (ha : PE X a (tA1 G ta)) (hb : PE X b (tA1 G tb)) : PT X (.Compare a [.Is] [b] pos) (tT G (mT (mB gIs ta tb))) := cmt op_isC bi_is nx_is ha hb (nomark _)
theorem tIN (hr : Room k X.A) (ha : PE X a (tA1 G ta)) (hb : PE X b (tA1 G tb)) : PT X (.Compare a [.IsNot] [b] pos) (tT G (mT (mB gIsN ta tb))) := cmt op_isNC bi_isN nx_isN ha hb (nomark _)
end

/-! ### items, slices -/
section
variable {X : Cx} {G : Gm} {a b : Expr} {pos : Pos} {ta tb : Am} {k : Nat}
def optR {α : Type} : Option α → Rs α
  | some x => .ok x
  | none => .no
def gIx (d e : D) : Rs D := match d, e with
  | .list xs, .int i => optR (atI xs i)
  | .tuple xs, .int i => optR (atI xs i)
  | .str z, .int i => if z.length ≤ sizeLine then optR ((atI z.cps.toList i).map fun c => PyData.str ⟨#[c]⟩) else .no
  | _, _ => .no
theorem Reps.atI {K : PySem.W.Frag} {ω : Om} {H : Hp} {vs : List V} {ds : List D} {i : Int} {d : D} (r : Reps K ω H vs ds) (h : L2.atI ds i = some d) : ∃ v, L2.atI vs i = some v ∧ Rep K ω H v d := by
  unfold L2.atI at h ⊢
  rw [r.length]
  cases e : ixN ds.length i with
  | none => rw [e] at h; exact nomatch h
  | some j =>
    rw [e] at h
    exact r.getD h
theorem opt_inv {α : Type} {o : Option α} {q : α → Prop} {e : Str → D → Prop} (h : Out (optR o) q e) : ∃ x, o = some x ∧ q x := by
  cases o with
  | some x => exact ⟨x, rfl, h⟩
  | none => exact h.elim
theorem ifx_inv {α : Type} {c : Prop} [Decidable c] {x : Rs α} {q : α → Prop} {e : Str → D → Prop} (h : Out (if c then x else .no) q e) : c ∧ Out x q e := by
  by_cases hc : c
  · rw [if_pos hc] at h; exact ⟨hc, h⟩
  · rw [if_neg hc] at h; exact h.elim
theorem bi_ix {K : PySem.W.Frag} : BiD K (rIx K) gIx := by
  intro ω H x y d e Q wf l1 l2 o
  cases d with
  | list xs => cases e with
    | int i =>
      obtain ⟨z, hz, o⟩ := opt_inv o
      obtain ⟨a, vs, rfl, h1, r1⟩ := l1.list
      obtain ⟨v, hv, rv⟩ := r1.atI hz
      rw [l2.int]
      exact .inl ⟨a, vs, i, v, rfl, rfl, h1, hv, o H _ (Ext.refl H) rv⟩
    | _ => exact o.elim
  | tuple xs => cases e with
    | int i =>
      obtain ⟨z, hz, o⟩ := opt_inv o
      obtain ⟨a, vs, rfl, h1, r1⟩ := l1.tuple
      obtain ⟨v, hv, rv⟩ := r1.atI hz
      rw [l2.int]
      exact .inr (.inl ⟨a, vs, i, v, rfl, rfl, h1, hv, o H _ (Ext.refl H) rv⟩)
    | _ => exact o.elim
  | str z => cases e with
    | int i =>
      obtain ⟨hl, o⟩ := ifx_inv o
      obtain ⟨w, hw, o⟩ := opt_inv o
      obtain ⟨c, hc, rfl⟩ := Option.map_eq_some_iff.mp hw
      rw [l1.str, l2.int]
      exact .inr (.inr ⟨z, i, c, rfl, rfl, hl, hc, o H _ (Ext.refl H) (.str _)⟩)
    | _ => exact o.elim
  | _ => cases e <;> exact o.elim
theorem nx_opt {α : Type} {o : Option α} {c : Str} {a : D} : optR o ≠ .ex c a := by cases o <;> (intro z; cases z)
theorem nx_ifx {α : Type} {c : Prop} [Decidable c] {r : Rs α} {k : Str} {b : D} (h : r ≠ .ex k b) : (if c then r else .no) ≠ .ex k b := by
  split
  · exact h
  · intro z; cases z
theorem nx_ix : NoX2 gIx := fun x y c a => by
  cases x <;> cases y <;> first
    | exact nx_opt
    | exact nx_ifx nx_opt
    | (intro z; cases z)
theorem xIx (ha : PE X a (tA1 G ta)) (hb : PE X b (tA1 G tb)) (hs : PlainIx b := by exact fun _ _ => rfl) (hK : X.K = G.K := by rfl) : PE X (.Subscript a b pos) (tI G (mB gIx ta tb)) := by
  refine pe_if (pe_ix (r := rIx G.K) (hK ▸ ix_seq) ha hb hs) fun σ H Q h => bi_core ha hb (r := rIx G.K) nx_ix (k := fun ω H φ σ δ x y d e Q z => ∀ H' v, Ext H H' → Rep G.K ω H' v z → Q v H') ?_ fun ω H φ δ x y d e s l1 l2 o => bi_ix ω H x y d e Q s.wf l1 l2 o
  obtain ⟨ω, δ, φ, s, o⟩ := h
  exact ⟨ω, δ, φ, s, o.mono (fun r hr ω' H' φ' st s' x y d e _ _ H'' v ex rp => hr ω' H'' φ' v (st.trans (s'.step ex)) (s'.ext ex) rp) fun _ _ z => z⟩
end
end Zd

namespace Zd
open PySem PySem.Spec
open PyProof.Rows L2

/-! ### slices -/
abbrev Om' := Dl → Rs (Option Int × Dl)
def tPo (G : Gm) (m : Om') : TO := fun σ H Q => ∃ ω δ φ, Slots G.K G.κ ω H σ δ φ ∧
  Out (m δ) (fun r => ∀ ω' H' φ', Step ω (Fp φ) H ω' (Fp φ') H' → Slots G.K G.κ ω' H' σ r.2 φ' → Q r.1 H') (Esc G.K G.cls G.E ω (Fp φ) H)
def oN : Om' := fun δ => .ok (none, δ)
def toI : D → Rs Int
  | .int i => .ok i
  | _ => .no
def oS (m : Em) : Om' := fun δ => m δ >>= fun r => toI r.1 >>= fun i => .ok (some i, r.2)
section
variable {X : Cx} {G : Gm} {e : Expr} {lo hi : Option Expr} {pos p2 : Pos}
theorem po_if {o : Option Expr} {t t' : TO} (h : PO X o t) (w : ∀ σ H Q, t' σ H Q → t σ H Q) : PO X o t' := ⟨fun pins s σ H Q I q => h.run pins s σ H Q I (w σ H Q q)⟩
theorem on : PO X none (tPo G oN) := po_if po_none fun σ H Q ⟨ω, δ, φ, s, o⟩ => o ω H φ s.refl s
theorem os {m : Em} (h : PE X e (tI G m)) : PO X (some e) (tPo G (oS m)) := by
  refine po_if (po_some h) fun σ H Q ⟨ω, δ, φ, s, o⟩ => ⟨ω, δ, φ, s, (Out.bind o).mono (fun r hr ω' H' φ' v st s' rp => ?_) fun _ _ z => z⟩
  obtain ⟨d, δ1⟩ := r
  cases d with
  | int i =>
    cases rp
    exact ⟨i, rfl, hr ω' H' φ' st s'⟩
  | _ => exact hr.elim
def cut {α : Type} (xs : List α) (lo hi : Option Int) : List α := (xs.drop (HT.sIx xs.length 0 lo)).take (HT.sIx xs.length xs.length hi - HT.sIx xs.length 0 lo)
def gCut (lo hi : Option Int) : D → Rs D
  | .list xs => .ok (.list (cut xs lo hi))
  | .tuple xs => .ok (.tuple (cut xs lo hi))
  | .str z => if z.length ≤ sizeLine then .ok (.str (cutS z lo hi)) else .no
  | _ => .no
def fCut (lo hi : Option Int) : D → Rs (List D)
  | .list xs => .ok (cut xs lo hi)
  | _ => .no
def mSl (m : Am) (lo hi : Om') : Em := fun δ => m δ >>= fun r => lo r.2 >>= fun l => hi l.2 >>= fun h => get h.2 r.1 >>= fun d => gCut l.1 h.1 d >>= fun e => .ok (e, h.2)
def fSl (m : Am) (lo hi : Om') : Fm := fun δ => m δ >>= fun r => lo r.2 >>= fun l => hi l.2 >>= fun h => get h.2 r.1 >>= fun d => fCut l.1 h.1 d >>= fun e => .ok (e, h.2)
abbrev rSl (K : PySem.W.Frag) : V → Option Int → Option Int → Hp → VK → Prop := fun x lo hi H Q => (rSlL K x lo hi H Q ∨ rSlA K x lo hi H Q) ∨ rSlS x lo hi H Q
theorem Reps.cut {K : PySem.W.Frag} {ω : Om} {H : Hp} {vs : List V} {ds : List D} (r : Reps K ω H vs ds) (lo hi : Option Int) : Reps K ω H (cutV vs lo hi) (Zd.cut ds lo hi) := by
  unfold cutV Zd.cut
  rw [r.length]
  exact (r.drop _).take _
theorem cut_all {α : Type} {xs : List α} {lo hi : Option Int} (h : HT.sIx xs.length 0 lo = 0 ∧ HT.sIx xs.length xs.length hi = xs.length) : cut xs lo hi = xs := by
  unfold cut
  rw [h.1, h.2]
  simp
theorem sl_ok {K : PySem.W.Frag} {ω : Om} {H : Hp} {x : V} {d : D} {lo hi : Option Int} {Q : VK} (wf : Wf ω H) (l : Lk K ω H x d) (o : Out (gCut lo hi d) (fun z => ∀ H' v, Ext H H' → Rep K ω H' v z → Q v H') (fun _ _ => False)) : rSl K x lo hi H Q := by
  cases d with
  | list xs =>
    obtain ⟨a, vs, rfl, h1, r1⟩ := l.list
    exact .inl (.inl ⟨a, vs, rfl, h1, fun p hp => o _ _ (Ext.upd hp) (Rep.newL wf hp (r1.cut lo hi))⟩)
  | tuple xs =>
    obtain ⟨a, vs, rfl, h1, r1⟩ := l.tuple
    refine .inl (.inr ⟨a, vs, rfl, h1, fun hw => ?_, fun _ p hp => o _ _ (Ext.upd hp) (Rep.newT wf hp (r1.cut lo hi))⟩)
    rw [r1.length] at hw
    have o : ∀ H' v, Ext H H' → Rep K ω H' v (.tuple (cut xs lo hi)) → Q v H' := o
    rw [cut_all hw] at o
    exact o H _ (Ext.refl H) (.tup h1 r1)
  | str z =>
    obtain ⟨hc, o⟩ := if_inv o
    rw [l.str]
    exact .inr ⟨z, rfl, hc, o H _ (Ext.refl H) (.str _)⟩
  | _ => exact o.elim
theorem nx_cut {lo hi : Option Int} : NoX (gCut lo hi) := fun x c a => by cases x <;> first | exact nx_if | (intro z; cases z)
theorem xSl {m : Am} {l h : Om'} (he : PE X e (tA1 G m)) (hl : PO X lo (tPo G l)) (hh : PO X hi (tPo G h)) (hK : X.K = G.K := by rfl) : PE X (.Subscript e (.Slice lo hi none p2) pos) (tI G (mSl m l h)) := by
  refine pe_if (pe_slice (r := rSl G.K) (SlR.or (SlR.or (hK ▸ sl_list) (hK ▸ sl_tupA)) sl_str) he hl hh) fun σ H Q ⟨ω, δ, φ, s, o⟩ => ⟨ω, δ, φ, s, (Out.bind o).mono (fun r1 h1 ω1 H1 φ1 x st1 s1 rx => ⟨ω1, r1.2, φ1, s1, (Out.bind h1).mono (fun r2 h2 ω2 H2 φ2 st2 s2 => ⟨ω2, r2.2, φ2, s2, (Out.bind h2).mono (fun r3 h3 ω3 H3 φ3 st3 s3 => ?_) fun _ _ z => z.up (st1.trans st2)⟩) fun _ _ z => z.up st1⟩) fun _ _ z => z⟩
  obtain ⟨d, l1, h4⟩ := s3.got (rx.up (st2.trans st3).grow) (Out.bind h3)
  refine sl_ok s3.wf l1 ((out_no (Out.bind h4) (nx_cut d)).mono (fun z hz H' v ex rp => ?_) fun _ _ z => z)
  exact hz ω3 H' φ3 v (((st1.trans st2).trans st3).trans (s3.step ex)) (s3.ext ex) rp
theorem xSlF {m : Am} {l h : Om'} (he : PE X e (tA1 G m)) (hl : PO X lo (tPo G l)) (hh : PO X hi (tPo G h)) (hK : X.K = G.K := by rfl) : PE X (.Subscript e (.Slice lo hi none p2) pos) (tF G (fSl m l h)) := by
  refine pe_if (pe_slice (r := rSl G.K) (SlR.or (SlR.or (hK ▸ sl_list) (hK ▸ sl_tupA)) sl_str) he hl hh) fun σ H Q ⟨ω, δ, φ, s, o⟩ => ⟨ω, δ, φ, s, (Out.bind o).mono (fun r1 h1 ω1 H1 φ1 x st1 s1 rx => ⟨ω1, r1.2, φ1, s1, (Out.bind h1).mono (fun r2 h2 ω2 H2 φ2 st2 s2 => ⟨ω2, r2.2, φ2, s2, (Out.bind h2).mono (fun r3 h3 ω3 H3 φ3 st3 s3 => ?_) fun _ _ z => z.up (st1.trans st2)⟩) fun _ _ z => z.up st1⟩) fun _ _ z => z⟩
  obtain ⟨d, l1, h4⟩ := s3.got (rx.up (st2.trans st3).grow) (Out.bind h3)
  cases d with
  | list xs =>
    obtain ⟨a, vs, rfl, h1, r1'⟩ := l1.list
    exact .inl (.inl ⟨a, vs, rfl, h1, fun p hp => h4 ω3 H3 φ3 p _ ((st1.trans st2).trans st3) s3 hp (r1'.cut _ _)⟩)
  | _ => exact h4.elim
/-- xs[::-1] -/
def fRev (m : Am) : Fm := fun δ => m δ >>= fun r => get r.2 r.1 >>= fun d => match d with
  | .list xs => .ok (xs.reverse, r.2)
  | _ => .no
theorem xRevF {m : Am} {k : Nat} {p1 p3 : Pos} (he : PE X e (tA1 G m)) (hK : X.K = G.K := by rfl) : PE X (.Subscript e (.Slice none none (some (.UnaryOp .USub (.Constant (.int 1) k p1) p2)) p3) pos) (tF G (fRev m)) := by
  refine pe_if (pe_revL he) fun σ H Q ⟨ω, δ, φ, s, o⟩ => ⟨ω, δ, φ, s, (Out.bind o).mono (fun r hr ω' H' φ' v st s' rx => ?_) fun _ _ z => z⟩
  obtain ⟨d, l, h⟩ := s'.got rx (Out.bind hr)
  cases d with
  | list xs =>
    obtain ⟨a, vs, rfl, h1, r1⟩ := l.list
    exact ⟨a, vs, rfl, hK ▸ h1, fun p hp => h ω' H' φ' p _ st s' hp r1.reverse⟩
  | _ => exact h.elim
end

/-! ### built-in functions -/
section
variable {X : Cx} {G : Gm} {e : Expr} {es : List Expr} {pos p : Pos} {x : Str} {id T : String} {ms : Lm} {r : List V → Hp → VK → Prop} {g : List D → Rs D}
def NoXL (g : List D → Rs D) : Prop := ∀ ds c a, g ds ≠ .ex c a
theorem li_core {t : TA → TE} (hd : LiD G.K r g) (nx : NoXL g) {σ : L2.St} {H : Hp} {Q : VK} (h : tI G (mL g ms) σ H Q) : tCB r (tAr G ms) σ H Q := by
  obtain ⟨ω, δ, φ, s, o⟩ := h
  refine ⟨ω, δ, φ, s, (Out.bind o).mono (fun r1 h1 ω1 H1 φ1 vs st1 s1 rx => ?_) fun _ _ z => z⟩
  obtain ⟨ds, l1, h2⟩ := s1.gots rx (Out.bind h1)
  refine hd ω1 H1 vs ds Q s1.wf l1 ((out_no (Out.bind h2) (nx ds)).mono (fun z hz H' v ex rp => ?_) fun _ _ z => z)
  exact hz ω1 H' φ1 v (st1.trans (s1.step ex)) (s1.ext ex) rp
theorem xB (hc : CallR X (.builtin id) r) (hd : LiD G.K r g) (nx : NoXL g) (hm : X.mg x = none) (hv : bootBuiltins x = some (.builtin id)) (ha : PA X (e :: es) (tAr G ms)) (hg : Gl X x := by rfl) (hn : x ≠ "__name__" := by decide) (hdb : (x == ("__debug__" : Str)) = false := by decide)
    (he : starEach (e :: es) X.env = (false, eval e X.env) :: starEach es X.env := by rfl) (hpl : (backTo pos (starEach es X.env)).any (·.1) = false := by rfl) : PE X (.Call (.Name x p) (e :: es) [] pos) (tI G (mL g ms)) :=
  pe_if (pe_callB hc hg hm hv ha hn hdb he hpl) fun σ H Q h => li_core (t := fun _ => fun _ _ _ => True) hd nx h
theorem xT (hc : CallR X (.type T) r) (hd : LiD G.K r g) (nx : NoXL g) (hm : X.mg x = none) (hv : bootBuiltins x = some (.type T)) (ha : PA X (e :: es) (tAr G ms)) (hg : Gl X x := by rfl) (hn : x ≠ "__name__" := by decide) (hdb : (x == ("__debug__" : Str)) = false := by decide)
    (he : starEach (e :: es) X.env = (false, eval e X.env) :: starEach es X.env := by rfl) (hpl : (backTo pos (starEach es X.env)).any (·.1) = false := by rfl) : PE X (.Call (.Name x p) (e :: es) [] pos) (tI G (mL g ms)) :=
  pe_if (pe_callTy hc hg hm hv ha hn hdb he hpl) fun σ H Q h => li_core (t := fun _ => fun _ _ _ => True) hd nx h
theorem xBf (hc : CallR X (.builtin id) r) (hd : LiD G.K r g) (nx : NoXL g) (hm : X.mg x = some (.builtin id)) (ha : PA X (e :: es) (tAr G ms)) (hg : Gl X x := by rfl) (hdb : (x == ("__debug__" : Str)) = false := by decide)
    (he : starEach (e :: es) X.env = (false, eval e X.env) :: starEach es X.env := by rfl) (hpl : (backTo pos (starEach es X.env)).any (·.1) = false := by rfl) : PE X (.Call (.Name x p) (e :: es) [] pos) (tI G (mL g ms)) :=
  pe_if (pe_callBfun hc hg hm ha hdb he hpl) fun σ H Q h => li_core (t := fun _ => fun _ _ _ => True) hd nx h
end
def gLen : List D → Rs D
  | [.list xs] => .ok (.int xs.length)
  | [.tuple xs] => .ok (.int xs.length)
  | [.str z] => if z.length ≤ sizeLine then .ok (.int z.length) else .no
  | _ => .no
theorem Lks.one {K : PySem.W.Frag} {ω : Om} {H : Hp} {vs : List V} {d : D} (h : Lks K ω H vs [d]) : ∃ v, vs = [v] ∧ Lk K ω H v d := by
  cases h with
  | cons r t => cases t; exact ⟨_, rfl, r⟩
theorem Lks.two {K : PySem.W.Frag} {ω : Om} {H : Hp} {vs : List V} {d e : D} (h : Lks K ω H vs [d, e]) : ∃ v w, vs = [v, w] ∧ Lk K ω H v d ∧ Lk K ω H w e := by
  cases h with
  | cons r t =>
    obtain ⟨w, rfl, q⟩ := t.one
    exact ⟨_, w, rfl, r, q⟩
abbrev rLen (K : PySem.W.Frag) : List V → Hp → VK → Prop := fun xs H Q => (∃ p ys, xs = [.ref p] ∧ (SqL K H p ys ∨ SqT K H p ys) ∧ Q (.int ys.length) H) ∨ ∃ z, xs = [.str z] ∧ z.length ≤ sizeLine ∧ Q (.int z.length) H
theorem ld_len {K : PySem.W.Frag} : LiD K (rLen K) gLen := by
  intro ω H xs ds Q wf l o
  unfold gLen at o
  split at o
  · obtain ⟨v, rfl, lk⟩ := l.one
    obtain ⟨a, vs, rfl, h1, r1⟩ := lk.list
    exact .inl ⟨a, vs, rfl, .inl h1, by rw [r1.length]; exact o H _ (Ext.refl H) (.int _)⟩
  · obtain ⟨v, rfl, lk⟩ := l.one
    obtain ⟨a, vs, rfl, h1, r1⟩ := lk.tuple
    exact .inl ⟨a, vs, rfl, .inr h1, by rw [r1.length]; exact o H _ (Ext.refl H) (.int _)⟩
  · obtain ⟨hc, o⟩ := if_inv o
    obtain ⟨v, rfl, lk⟩ := l.one
    rw [lk.str]
    exact .inr ⟨_, rfl, hc, o H _ (Ext.refl H) (.int _)⟩
  · exact o.elim
theorem nx_len : NoXL gLen := fun ds c a => by unfold gLen; split <;> first | exact nx_if | (intro z; cases z)
def gAbs : List D → Rs D
  | [.int i] => .ok (.int (if i < 0 then -i else i))
  | _ => .no
theorem ld_abs {K : PySem.W.Frag} : LiD K (fun xs H Q => ∃ i, xs = [.int i] ∧ Q (.int (if i < 0 then -i else i)) H) gAbs := by
  intro ω H xs ds Q wf l o
  unfold gAbs at o
  split at o
  · obtain ⟨v, rfl, lk⟩ := l.one
    rw [lk.int]
    exact ⟨_, rfl, o H _ (Ext.refl H) (.int _)⟩
  · exact o.elim
theorem nx_abs : NoXL gAbs := fun ds c a => by unfold gAbs; split <;> (intro z; cases z)
def gInt : List D → Rs D
  | [.int i] => .ok (.int i)
  | [.bool b] => .ok (.int (if b = true then 1 else 0))
  | _ => .no
theorem ld_int {K : PySem.W.Frag} : LiD K (fun xs H Q => (∃ i, xs = [.int i] ∧ Q (.int i) H) ∨ ∃ k : Bool, xs = [.bl k] ∧ Q (.int (if k then 1 else 0)) H) gInt := by
  intro ω H xs ds Q wf l o
  unfold gInt at o
  split at o
  · obtain ⟨v, rfl, lk⟩ := l.one
    rw [lk.int]
    exact .inl ⟨_, rfl, o H _ (Ext.refl H) (.int _)⟩
  · obtain ⟨v, rfl, lk⟩ := l.one
    rw [lk.bool]
    exact .inr ⟨_, rfl, o H _ (Ext.refl H) (.int _)⟩
  · exact o.elim
theorem nx_int : NoXL gInt := fun ds c a => by unfold gInt; split <;> (intro z; cases z)
def gStr : List D → Rs D
  | [.int i] => if i.natAbs.log2 < 1920 then .ok (.str (toString i)) else .no
  | _ => .no
theorem ld_str {K : PySem.W.Frag} : LiD K (fun xs H Q => ∃ i : Int, xs = [.int i] ∧ i.natAbs.log2 < 1920 ∧ Q (.str (toString i)) H) gStr := by
  intro ω H xs ds Q wf l o
  unfold gStr at o
  split at o
  · obtain ⟨hc, o⟩ := if_inv o
    obtain ⟨v, rfl, lk⟩ := l.one
    rw [lk.int]
    exact ⟨_, rfl, hc, o H _ (Ext.refl H) (.str _)⟩
  · exact o.elim
theorem nx_str : NoXL gStr := fun ds c a => by unfold gStr; split <;> first | exact nx_if | (intro z; cases z)
def gGcd : List D → Rs D
  | [.int i, .int j] => .ok (.int ((Nat.gcd i.natAbs j.natAbs : Nat) : Int))
  | _ => .no
theorem ld_gcd {K : PySem.W.Frag} : LiD K rGcd gGcd := by
  intro ω H xs ds Q wf l o
  unfold gGcd at o
  split at o
  · obtain ⟨v, w, rfl, l1, l2⟩ := l.two
    rw [l1.int, l2.int]
    exact ⟨_, _, rfl, o H _ (Ext.refl H) (.int _)⟩
  · exact o.elim
theorem nx_gcd : NoXL gGcd := fun ds c a => by unfold gGcd; split <;> (intro z; cases z)
def gMax : List D → Rs D
  | [.int i, .int j] => .ok (.int (if j > i then j else i))
  | _ => .no
def gMin : List D → Rs D
  | [.int i, .int j] => .ok (.int (if j < i then j else i))
  | _ => .no
theorem ld_max {K : PySem.W.Frag} : LiD K (fun xs H Q => ∃ i j : Int, xs = [.int i, .int j] ∧ Q (.int (if j > i then j else i)) H) gMax := by
  intro ω H xs ds Q wf l o
  unfold gMax at o
  split at o
  · obtain ⟨v, w, rfl, l1, l2⟩ := l.two
    rw [l1.int, l2.int]
    exact ⟨_, _, rfl, o H _ (Ext.refl H) (.int _)⟩
  · exact o.elim
theorem ld_min {K : PySem.W.Frag} : LiD K (fun xs H Q => ∃ i j : Int, xs = [.int i, .int j] ∧ Q (.int (if j < i then j else i)) H) gMin := by
  intro ω H xs ds Q wf l o
  unfold gMin at o
  split at o
  · obtain ⟨v, w, rfl, l1, l2⟩ := l.two
    rw [l1.int, l2.int]
    exact ⟨_, _, rfl, o H _ (Ext.refl H) (.int _)⟩
  · exact o.elim
theorem nx_max : NoXL gMax := fun ds c a => by unfold gMax; split <;> (intro z; cases z)
theorem nx_min : NoXL gMin := fun ds c a => by unfold gMin; split <;> (intro z; cases z)
def bools : List D → Rs (List Bool)
  | [] => .ok []
  | .bool b :: ds => bools ds >>= fun bs => .ok (b :: bs)
  | _ => .no
def gAll : List D → Rs D
  | [.list xs] => bools xs >>= fun bs => .ok (.bool (bs.all id))
  | _ => .no
theorem bools_inv {K : PySem.W.Frag} {ω : Om} {H : Hp} : ∀ {ds : List D} {vs : List V} {q : List Bool → Prop} {e : Str → D → Prop}, Reps K ω H vs ds → Out (bools ds) q e → ∃ bs : List Bool, vs = bs.map V.bl ∧ q bs
  | [], _, _, _, r, o => by cases r; exact ⟨[], rfl, o⟩
  | d :: ds, _, _, _, r, o => by
    cases d with
    | bool b =>
      cases r with
      | cons r1 r2 =>
        obtain ⟨bs, rfl, h⟩ := bools_inv r2 (Out.bind o)
        cases r1
        exact ⟨b :: bs, rfl, h⟩
    | _ => exact o.elim
theorem bools_nx : ∀ {ds : List D} {c : Str} {a : D}, bools ds ≠ .ex c a
  | [], _, _ => by intro z; cases z
  | d :: ds, c, a => by
    cases d with
    | bool b => exact bind_nx (fun c a => bools_nx) fun _ _ _ => by intro z; cases z
    | _ => intro z; cases z
theorem ld_all {K : PySem.W.Frag} : LiD K (rAll K) gAll := by
  intro ω H xs ds Q wf l o
  unfold gAll at o
  split at o
  · obtain ⟨v, rfl, lk⟩ := l.one
    obtain ⟨a, vs, rfl, h1, r1⟩ := lk.list
    obtain ⟨bs, rfl, h⟩ := bools_inv r1 (Out.bind o)
    exact ⟨a, bs, rfl, h1, h H _ (Ext.refl H) (.bl _)⟩
  · exact o.elim
theorem nx_all : NoXL gAll := fun ds c a => by unfold gAll; split <;> first | exact bind_nx (fun c a => bools_nx) (fun _ _ _ => by intro z; cases z) | (intro z; cases z)
def gTup : List D → Rs D
  | [.list xs] => .ok (.tuple xs)
  | [.tuple xs] => .ok (.tuple xs)
  | _ => .no
abbrev rTup (K : PySem.W.Frag) : List V → Hp → VK → Prop := fun xs H Q => ∃ p ys, xs = [.ref p] ∧ ((SqL K H p ys ∧ ∀ l, H l = none → Q (.ref l) (upd H l (.tup ys))) ∨ (SqT K H p ys ∧ Q (.ref p) H))
theorem ld_tup {K : PySem.W.Frag} : LiD K (rTup K) gTup := by
  intro ω H xs ds Q wf l o
  unfold gTup at o
  split at o
  · obtain ⟨v, rfl, lk⟩ := l.one
    obtain ⟨a, vs, rfl, h1, r1⟩ := lk.list
    exact ⟨a, vs, rfl, .inl ⟨h1, fun p hp => o _ _ (Ext.upd hp) (Rep.newT wf hp r1)⟩⟩
  · obtain ⟨v, rfl, lk⟩ := l.one
    obtain ⟨a, vs, rfl, h1, r1⟩ := lk.tuple
    exact ⟨a, vs, rfl, .inr ⟨h1, o H _ (Ext.refl H) (.tup h1 r1)⟩⟩
  · exact o.elim
theorem nx_tup : NoXL gTup := fun ds c a => by unfold gTup; split <;> (intro z; cases z)
section
variable {X : Cx} {G : Gm} {a b : Expr} {es : List Expr} {pos p : Pos} {ms : Lm}
theorem xLen (hm : X.mg "len" = none) (ha : PA X (a :: es) (tAr G ms)) (hK : X.K = G.K := by rfl) (hg : Gl X "len" := by rfl) (he : starEach (a :: es) X.env = (false, eval a X.env) :: starEach es X.env := by rfl) (hpl : (backTo pos (starEach es X.env)).any (·.1) = false := by rfl) :
    PE X (.Call (.Name "len" p) (a :: es) [] pos) (tI G (mL gLen ms)) := xB (r := rLen G.K) (CallR.or (hK ▸ call_len_seq) call_len_str) ld_len nx_len hm PySem.boot_len ha hg (by decide) (by decide) he hpl
theorem xAbs (hm : X.mg "abs" = none) (ha : PA X (a :: es) (tAr G ms)) (hg : Gl X "abs" := by rfl) (he : starEach (a :: es) X.env = (false, eval a X.env) :: starEach es X.env := by rfl) (hpl : (backTo pos (starEach es X.env)).any (·.1) = false := by rfl) :
    PE X (.Call (.Name "abs" p) (a :: es) [] pos) (tI G (mL gAbs ms)) := xB call_abs ld_abs nx_abs hm PyProof.Rows.boot_abs ha hg (by decide) (by decide) he hpl
theorem xInt (hm : X.mg "int" = none) (ha : PA X (a :: es) (tAr G ms)) (hg : Gl X "int" := by rfl) (he : starEach (a :: es) X.env = (false, eval a X.env) :: starEach es X.env := by rfl) (hpl : (backTo pos (starEach es X.env)).any (·.1) = false := by rfl) :
    PE X (.Call (.Name "int" p) (a :: es) [] pos) (tI G (mL gInt ms)) := xT call_int1 ld_int nx_int hm PyProof.Rows.boot_int ha hg (by decide) (by decide) he hpl
theorem xStr (hm : X.mg "str" = none) (ha : PA X (a :: es) (tAr G ms)) (hg : Gl X "str" := by rfl) (he : starEach (a :: es) X.env = (false, eval a X.env) :: starEach es X.env := by rfl) (hpl : (backTo pos (starEach es X.env)).any (·.1) = false := by rfl) :
    PE X (.Call (.Name "str" p) (a :: es) [] pos) (tI G (mL gStr ms)) := xT call_str_int ld_str nx_str hm PyProof.Rows.boot_str ha hg (by decide) (by decide) he hpl
theorem xGcd (hm : X.mg "gcd" = some (.builtin "math.gcd")) (ha : PA X (a :: es) (tAr G ms)) (hg : Gl X "gcd" := by rfl) (he : starEach (a :: es) X.env = (false, eval a X.env) :: starEach es X.env := by rfl) (hpl : (backTo pos (starEach es X.env)).any (·.1) = false := by rfl) :
    PE X (.Call (.Name "gcd" p) (a :: es) [] pos) (tI G (mL gGcd ms)) := xBf cr_gcd ld_gcd nx_gcd hm ha hg (by decide) he hpl
theorem xMax (hc : X.calm = true) (hm : X.mg "max" = none) (ha : PA X (a :: es) (tAr G ms)) (hg : Gl X "max" := by rfl) (he : starEach (a :: es) X.env = (false, eval a X.env) :: starEach es X.env := by rfl) (hpl : (backTo pos (starEach es X.env)).any (·.1) = false := by rfl) :
    PE X (.Call (.Name "max" p) (a :: es) [] pos) (tI G (mL gMax ms)) := xB (call_max2 hc) ld_max nx_max hm PyProof.Rows.boot_max ha hg (by decide) (by decide) he hpl
theorem xMin (hc : X.calm = true) (hm : X.mg "min" = none) (ha : PA X (a :: es) (tAr G ms)) (hg : Gl X "min" := by rfl) (he : starEach (a :: es) X.env = (false, eval a X.env) :: starEach es X.env := by rfl) (hpl : (backTo pos (starEach es X.env)).any (·.1) = false := by rfl) :
    PE X (.Call (.Name "min" p) (a :: es) [] pos) (tI G (mL gMin ms)) := xB (call_min2 hc) ld_min nx_min hm PyProof.Rows.boot_min ha hg (by decide) (by decide) he hpl
theorem xAll (hc : X.calm = true) (hm : X.mg "all" = none) (ha : PA X (a :: es) (tAr G ms)) (hK : X.K = G.K := by rfl) (hg : Gl X "all" := by rfl) (he : starEach (a :: es) X.env = (false, eval a X.env) :: starEach es X.env := by rfl) (hpl : (backTo pos (starEach es X.env)).any (·.1) = false := by rfl) :
    PE X (.Call (.Name "all" p) (a :: es) [] pos) (tI G (mL gAll ms)) := xB (r := rAll G.K) (hK ▸ cr_all hc) ld_all nx_all hm PyProof.Rows.boot_all ha hg (by decide) (by decide) he hpl
theorem xTup (hm : X.mg "tuple" = none) (ha : PA X (a :: es) (tAr G ms)) (hK : X.K = G.K := by rfl) (hg : Gl X "tuple" := by rfl) (he : starEach (a :: es) X.env = (false, eval a X.env) :: starEach es X.env := by rfl) (hpl : (backTo pos (starEach es X.env)).any (·.1) = false := by rfl) :
    PE X (.Call (.Name "tuple" p) (a :: es) [] pos) (tI G (mL gTup ms)) := xT (r := rTup G.K) (hK ▸ call_tuple_of) ld_tup nx_tup hm PyProof.Rows.boot_tuple ha hg (by decide) (by decide) he hpl
end
end Zd

namespace Zd
open PySem PySem.Spec
open PyProof.Rows L2

/-! ### isinstance -/
def tyN : D → String
  | .none => "NoneType"
  | .bool _ => "bool"
  | .int _ => "int"
  | .str _ => "str"
  | .list _ => "list"
  | .tuple _ => "tuple"
  | .dict _ => "dict"
theorem Lk.ty {K : PySem.W.Frag} {ω : Om} {H : Hp} {x : V} {d : D} (l : Lk K ω H x d) : TyX K H x (.type (tyN d)) := by
  cases d with
  | none => rw [l.none]; exact .base .non
  | bool b => rw [l.bool]; exact .base (.bl b)
  | int i => rw [l.int]; exact .base (.int i)
  | str z => rw [l.str]; exact .base (.str z)
  | list ds =>
    obtain ⟨a, vs, rfl, h, _⟩ := l.rdl
    rcases h with h | ⟨o, h⟩
    · exact .base (.lst h)
    · exact .base (.frz h)
  | tuple ds =>
    obtain ⟨a, vs, rfl, h, _⟩ := l.tuple
    rcases h with (h | ⟨o, h⟩) | ⟨o, its, n, h, hc, _⟩
    · exact .base (.tup h)
    · exact .fTuple h
    · exact .kTuple h hc
  | dict _ =>
    rcases l with h | ⟨a, vs, ds, _, e, _⟩
    · cases h
    · cases e
def gIsi (p : D → Bool) (d : D) : Rs D := .ok (.bool (p d))
def isInt : D → Bool
  | .int _ => true
  | .bool _ => true
  | _ => false
def isBool : D → Bool
  | .bool _ => true
  | _ => false
def isStr : D → Bool
  | .str _ => true
  | _ => false
def isTup : D → Bool
  | .tuple _ => true
  | _ => false
def isList : D → Bool
  | .list _ => true
  | _ => false
def isSeq : D → Bool
  | .list _ => true
  | .tuple _ => true
  | _ => false
theorem kis : (["NoneType", "bool", "int", "str", "list", "tuple", "dict"].all fun t => ["int", "bool", "str", "tuple", "list"].all fun u =>
    decide (kitB t u = some (t == u || (t == "bool" && u == "int")))) = true := by decide +kernel
theorem ki_of {t u : String} (ht : t ∈ ["NoneType", "bool", "int", "str", "list", "tuple", "dict"]) (hu : u ∈ ["int", "bool", "str", "tuple", "list"]) : kitB t u = some (t == u || (t == "bool" && u == "int")) :=
  of_decide_eq_true (List.all_eq_true.mp (List.all_eq_true.mp kis t ht) u hu)
theorem ki_int (d : D) : kitB (tyN d) "int" = some (isInt d) := by
  rw [ki_of (by cases d <;> simp [tyN]) (by simp)]
  cases d <;> simp [tyN, isInt]
theorem ki_bool (d : D) : kitB (tyN d) "bool" = some (isBool d) := by
  rw [ki_of (by cases d <;> simp [tyN]) (by simp)]
  cases d <;> simp [tyN, isBool]
theorem ki_str (d : D) : kitB (tyN d) "str" = some (isStr d) := by
  rw [ki_of (by cases d <;> simp [tyN]) (by simp)]
  cases d <;> simp [tyN, isStr]
theorem ki_tup (d : D) : kitB (tyN d) "tuple" = some (isTup d) := by
  rw [ki_of (by cases d <;> simp [tyN]) (by simp)]
  cases d <;> simp [tyN, isTup]
theorem ki_list (d : D) : kitB (tyN d) "list" = some (isList d) := by
  rw [ki_of (by cases d <;> simp [tyN]) (by simp)]
  cases d <;> simp [tyN, isList]
section
variable {X : Cx} {G : Gm} {a b : Expr} {es : List Expr} {pos p p2 : Pos} {m : Am}
theorem xIsi {T : String} {nm : Str} {pd : D → Bool} (ht : ∀ d, kitB (tyN d) T = some (pd d)) (hm : X.mg "isinstance" = none) (hmT : X.mg nm = none) (hv : bootBuiltins nm = some (.type T)) (ha : PE X a (tA1 G m)) (hK : X.K = G.K := by rfl) (hg : Gl X "isinstance" := by rfl) (hgT : Gl X nm := by rfl)
    (hn : nm ≠ "__name__" := by decide) (hd : (nm == ("__debug__" : Str)) = false := by decide) (h1 : starEach [a, .Name nm p2] X.env = (false, eval a X.env) :: starEach [.Name nm p2] X.env := by rfl) (h2 : starEach [.Name nm p2] X.env = (false, eval (.Name nm p2) X.env) :: starEach [] X.env := by rfl)
    (hpl : (backTo pos (starEach [.Name nm p2] X.env)).any (·.1) = false := by rfl) : PE X (.Call (.Name "isinstance" p) [a, .Name nm p2] [] pos) (tI G (mU (gIsi pd) m)) := by
  refine pe_if (pe_callB call_isi hg hm PyProof.Rows.boot_isinstance (pa_cons ha (pa_cons (pe_bltn hgT hmT hv (v := .ty T) rfl hn hd) pa_nil h2) h1) (by decide) (by decide) h1 hpl) fun σ H Q ⟨ω, δ, φ, s, o⟩ => ⟨ω, δ, φ, s, (Out.bind o).mono (fun r h1 ω1 H1 φ1 x st1 s1 rx => ?_) fun _ _ z => z⟩
  obtain ⟨d, l1, h2⟩ := s1.got rx (Out.bind h1)
  rw [hK]
  exact ⟨x, .ty T, _, _, pd d, rfl, .ty T, l1.ty, kit_ty (ht d), h2 ω1 H1 φ1 (.bl (pd d)) st1 s1 (.bl _)⟩
def isTy2 (p q : D → Bool) (d : D) : Bool := p d || q d
/-- isinstance(x, (S, T)) -/
theorem xIsi2 {S T : String} {nm nm2 : Str} {pd qd : D → Bool} {k1} {pt p3 : Pos} (ht : ∀ d, kitB (tyN d) S = some (pd d)) (ht2 : ∀ d, kitB (tyN d) T = some (qd d)) (hm : X.mg "isinstance" = none) (hmS : X.mg nm = none) (hvS : bootBuiltins nm = some (.type S)) (hmT : X.mg nm2 = none) (hvT : bootBuiltins nm2 = some (.type T))
    (ha : PE X a (tA1 G m)) (hK : X.K = G.K := by rfl) (hg : Gl X "isinstance" := by rfl) (hgS : Gl X nm := by rfl) (hgT : Gl X nm2 := by rfl)
    (hn : nm ≠ "__name__" := by decide) (hd : (nm == ("__debug__" : Str)) = false := by decide) (hn2 : nm2 ≠ "__name__" := by decide) (hd2 : (nm2 == ("__debug__" : Str)) = false := by decide)
    (h1 : starEach [a, .Tuple [.Name nm p2, .Name nm2 p3] k1 pt] X.env = (false, eval a X.env) :: starEach [.Tuple [.Name nm p2, .Name nm2 p3] k1 pt] X.env := by rfl) (h2 : starEach [.Tuple [.Name nm p2, .Name nm2 p3] k1 pt] X.env = (false, eval (.Tuple [.Name nm p2, .Name nm2 p3] k1 pt) X.env) :: starEach [] X.env := by rfl)
    (h3 : starEach [.Name nm p2, .Name nm2 p3] X.env = (false, eval (.Name nm p2) X.env) :: starEach [.Name nm2 p3] X.env := by rfl) (h4 : starEach [.Name nm2 p3] X.env = (false, eval (.Name nm2 p3) X.env) :: starEach [] X.env := by rfl)
    (hpl : (backTo pos (starEach [.Tuple [.Name nm p2, .Name nm2 p3] k1 pt] X.env)).any (·.1) = false := by rfl) : PE X (.Call (.Name "isinstance" p) [a, .Tuple [.Name nm p2, .Name nm2 p3] k1 pt] [] pos) (tI G (mU (gIsi (isTy2 pd qd)) m)) := by
  refine pe_if (pe_callB call_isiT hg hm PyProof.Rows.boot_isinstance (pa_cons ha (pa_cons (pe_tup (pa_cons (pe_bltn hgS hmS hvS (v := .ty S) rfl hn hd) (pa_cons (pe_bltn hgT hmT hvT (v := .ty T) rfl hn2 hd2) pa_nil h4) h3)) pa_nil h2) h1) (by decide) (by decide) h1 hpl) fun σ H Q ⟨ω, δ, φ, s, o⟩ => ⟨ω, δ, φ, s, (Out.bind o).mono (fun r h1 ω1 H1 φ1 x st1 s1 rx => ?_) fun _ _ z => z⟩
  obtain ⟨d, l1, h2⟩ := s1.got rx (Out.bind h1)
  refine ⟨by show 2 ≤ sizeLine; decide, fun q hq => ?_⟩
  have ex := Ext.upd (o := .tup [V.ty S, V.ty T]) hq
  have l2 := l1.ext s1.wf ex
  have hr := h2 ω1 _ φ1 (.bl (isTy2 pd qd d)) (st1.trans (s1.step ex)) (s1.ext ex) (.bl _)
  refine ⟨x, q, [.ty S, .ty T], _, [.type S, .type T], isTy2 pd qd d, rfl, upd_same, .cons (.ty S) (.cons (.ty T) .nil), hK ▸ l2.ty, ?_, hr⟩
  refine kitAny_cons (kit_ty (ht d)) (fun e => ?_) (fun e => by unfold isTy2; rw [e]; rfl)
  refine kitAny_cons (r := isTy2 pd qd d) (kit_ty (ht2 d)) (fun e2 => ?_) (fun e2 => by unfold isTy2; rw [e2, Bool.or_true])
  unfold isTy2
  rw [e, e2]
  rfl
end

/-! ### what is walked -/
def seqOf : D → Rs (List D)
  | .list xs => .ok xs
  | .tuple xs => .ok xs
  | .str z => .ok (z.cps.toList.map fun c => .str ⟨#[c]⟩)
  | _ => .no
def wSeq (m : Em) : Sm := fun δ => m δ >>= fun r => seqOf r.1 >>= fun xs => .ok (xs, r.2)
def iAny (K : PySem.W.Frag) (te : TE) : TI := fun σ H R => te σ H fun x H1 => (∃ a, x = .ref a ∧ (∃ xs, SqL K H1 a xs) ∧ R (Itl K a) H1) ∨ (∃ a, x = .ref a ∧ (∃ xs, SqT K H1 a xs) ∧ R (Itt K a) H1) ∨ ∃ z, x = .str z ∧ R (Its z) H1
section
variable {X : Cx} {tg e : Expr} {te : TE}
theorem pi_any (he : PE X e te) : PI X tg e (iAny X.K te) := by
  constructor
  intro pins s σ H R I h
  refine thn (he.run pins s σ H _ I h) ?_
  rintro v s1 ⟨x, G, J, rx, ⟨a, rfl, ⟨xs, hq⟩, q⟩ | ⟨a, rfl, ⟨xs, hq⟩, q⟩ | ⟨z, rfl, q⟩⟩
  -- a new object at the heap's end, nothing else
  · cases rx
    obtain ⟨its, _, isL, _⟩ := J.list hq
    refine (show wpAny _ _ (pyIter (.ref a)) _ _ _ from ?_)
    refine wpAny_pyIter_list isL.isList
      ⟨s1.heap.objs.size, [s1.heap.objs.size], _, _, G, rfl, J.kept (t' := s1.toks) fun c o e => Heap.get?_push_of_some _ e, turn_list a _,
        ⟨_, Heap.get?_push_size _ rfl, rfl, rfl⟩, fun c hc => ?_, q⟩
    cases List.mem_singleton.mp hc
    exact J.fpOk (Nat.le_refl _) (J.hok.fresh (Nat.le_refl s1.heap.objs.size))
  · cases rx
    obtain ⟨its, _, isT, _⟩ := J.tuple hq
    refine (show wpAny _ _ (pyIter (.ref a)) _ _ _ from ?_)
    refine wpAny_pyIter_tuple (show s1.heap.IsTuple a its.toArray from isT)
      ⟨s1.heap.objs.size, [s1.heap.objs.size], _, _, G, rfl, J.kept (t' := s1.toks) fun c o e => Heap.get?_push_of_some _ e, turn_tuple a _,
        ⟨_, Heap.get?_push_size _ rfl, rfl, rfl⟩, fun c hc => ?_, q⟩
    cases List.mem_singleton.mp hc
    exact J.fpOk (Nat.le_refl _) (J.hok.fresh (Nat.le_refl s1.heap.objs.size))
  · obtain ⟨tk, rfl⟩ := rx
    refine (show wpAny _ _ (pyIter (.str z tk)) _ _ _ from ?_)
    cases wide : z.cps.all (· < 128)
    · exact wpAny_pyIter_wide wide (pi_one (tk := s1.toks) J _ (turn_str _ z tk "str_iterator" (.inr rfl)) ⟨_, Heap.get?_push_size _ rfl, rfl, rfl⟩ q)
    · exact wpAny_pyIter_ascii wide (pi_one (tk := s1.toks) J _ (turn_str _ z tk "str_ascii_iterator" (.inl rfl)) ⟨_, Heap.get?_push_size _ rfl, rfl, rfl⟩ q)
end
section
variable {K : PySem.W.Frag}
theorem wk_list {a : Addr} {xs : List D} : Wk K (Itl K a) xs (fun ω H => ∃ vs, (Rd H a (.lst vs) ∧ ¬ ω a) ∧ Reps K ω H vs xs) where
  goes := fun i ω H hi ⟨vs, h, r⟩ => by
    obtain ⟨v, hv, _⟩ := r.getD (List.getElem?_eq_getElem hi)
    exact ⟨vs, v, .inl h.1, hv⟩
  stops := fun ω H ⟨vs, h, r⟩ => ⟨vs, .inl h.1, by rw [r.length]; exact Nat.le_refl _⟩
  yields := fun i ω H x H' ⟨vs, h, r⟩ wf hi ⟨e, y⟩ => by
    subst e
    obtain ⟨d, hd, rp⟩ := r.get (y vs (.inl h.1))
    exact ⟨Ext.refl _, d, hd, rp⟩
  stay := fun ω P H ω' P' H' st ⟨vs, h, r⟩ => ⟨vs, st.grow.rdl h, r.up st.grow⟩
theorem wk_tup {a : Addr} {xs : List D} : Wk K (Itt K a) xs (fun ω H => ∃ vs, SqT K H a vs ∧ Reps K ω H vs xs) where
  goes := fun i ω H hi ⟨vs, h, r⟩ => by
    obtain ⟨v, hv, _⟩ := r.getD (List.getElem?_eq_getElem hi)
    exact ⟨vs, v, h, hv⟩
  stops := fun ω H ⟨vs, h, r⟩ => ⟨vs, h, by rw [r.length]; exact Nat.le_refl _⟩
  yields := fun i ω H x H' ⟨vs, h, r⟩ wf hi ⟨e, y⟩ => by
    subst e
    obtain ⟨d, hd, rp⟩ := r.get (y vs h)
    exact ⟨Ext.refl _, d, hd, rp⟩
  stay := fun ω P H ω' P' H' st ⟨vs, h, r⟩ => ⟨vs, st.grow.sqT h, r.up st.grow⟩
theorem wk_str {z : Str} : Wk K (Its z) (z.cps.toList.map fun c => PyData.str ⟨#[c]⟩) (fun _ _ => True) where
  goes := fun i ω H hi _ => by simpa [Its] using hi
  stops := fun ω H _ => by simp [Its]
  yields := fun i ω H x H' _ wf hi y => by
    obtain ⟨e, c, hc, rfl⟩ := y
    subst e
    refine ⟨Ext.refl _, .str ⟨#[c]⟩, ?_, .str _⟩
    rw [List.getElem?_map]
    have : z.cps.toList[i]? = some c := by simpa using hc
    rw [this]
    rfl
  stay := fun _ _ _ _ _ _ _ _ => trivial
theorem wk_range {n : Nat} : Wk K (Itr 0 n) ((List.range n).map fun i => PyData.int (i : Nat)) (fun _ _ => True) where
  goes := fun i ω H hi _ => by simpa [Itr] using hi
  stops := fun ω H _ => by simp [Itr]
  yields := fun i ω H x H' _ wf hi y => by
    obtain ⟨e, rfl⟩ := y
    subst e
    have hi : i < n := by simpa using hi
    refine ⟨Ext.refl _, .int (i : Nat), ?_, ?_⟩
    · rw [List.getElem?_map, List.getElem?_range hi]
      rfl
    · rw [Int.zero_add]
      exact .int _
  stay := fun _ _ _ _ _ _ _ _ => trivial
def pairs : List D → List D → List D
  | x :: xs, y :: ys => .tuple [x, y] :: pairs xs ys
  | _, _ => []
theorem pairs_len : ∀ xs ys : List D, (pairs xs ys).length = min xs.length ys.length
  | [], ys => by simp [pairs]
  | x :: xs, [] => by simp [pairs]
  | x :: xs, y :: ys => by simp only [pairs, List.length_cons, pairs_len xs ys]; omega
theorem pairs_get : ∀ {xs ys : List D} {i : Nat} {x y : D}, xs[i]? = some x → ys[i]? = some y → (pairs xs ys)[i]? = some (.tuple [x, y])
  | [], _, _, _, _, h, _ => absurd h (by simp)
  | _ :: _, [], _, _, _, _, h => absurd h (by simp)
  | x :: xs, y :: ys, 0, _, _, h1, h2 => by simp at h1 h2; subst h1; subst h2; simp [pairs]
  | x :: xs, y :: ys, i + 1, _, _, h1, h2 => by
    simp only [pairs, List.getElem?_cons_succ] at h1 h2 ⊢
    exact pairs_get h1 h2
theorem wk_zip {a b : Addr} {xs ys : List D} : Wk K (Itz K a b) (pairs xs ys) (fun ω H => ∃ vs ws, ((Rd H a (.lst vs) ∧ ¬ ω a) ∧ Reps K ω H vs xs) ∧ (Rd H b (.lst ws) ∧ ¬ ω b) ∧ Reps K ω H ws ys) where
  goes := fun i ω H hi ⟨vs, ws, ⟨h1, r1⟩, h2, r2⟩ => by
    rw [pairs_len] at hi
    obtain ⟨v, hv, _⟩ := r1.getD (List.getElem?_eq_getElem (show i < xs.length by omega))
    obtain ⟨w, hw, _⟩ := r2.getD (List.getElem?_eq_getElem (show i < ys.length by omega))
    exact ⟨vs, ws, v, w, .inl h1.1, .inl h2.1, hv, hw⟩
  stops := fun ω H ⟨vs, ws, ⟨h1, r1⟩, h2, r2⟩ => ⟨vs, ws, .inl h1.1, .inl h2.1, by rw [r1.length, r2.length, pairs_len]; omega⟩
  yields := fun i ω H x H' ⟨vs, ws, ⟨h1, r1⟩, h2, r2⟩ wf hi y => by
    obtain ⟨T, x, y, rfl, hT, rfl, f1, f2⟩ := y
    obtain ⟨d, hd, rd⟩ := r1.get (f1 vs (.inl h1.1))
    obtain ⟨e, he, re⟩ := r2.get (f2 ws (.inl h2.1))
    exact ⟨Ext.upd hT, _, pairs_get hd he, Rep.newT wf hT (.cons rd (.cons re .nil))⟩
  stay := fun ω P H ω' P' H' st ⟨vs, ws, ⟨h1, r1⟩, h2, r2⟩ => ⟨vs, ws, ⟨st.grow.rdl h1, r1.up st.grow⟩, st.grow.rdl h2, r2.up st.grow⟩
theorem wk_zipT {a b : Addr} {xs ys : List D} : Wk K (RZ.ItzT K a b) (pairs xs ys) (fun ω H => ∃ vs ws, (SqT K H a vs ∧ Reps K ω H vs xs) ∧ SqT K H b ws ∧ Reps K ω H ws ys) where
  goes := fun i ω H hi ⟨vs, ws, ⟨h1, r1⟩, h2, r2⟩ => by
    rw [pairs_len] at hi
    obtain ⟨v, hv, _⟩ := r1.getD (List.getElem?_eq_getElem (show i < xs.length by omega))
    obtain ⟨w, hw, _⟩ := r2.getD (List.getElem?_eq_getElem (show i < ys.length by omega))
    exact ⟨vs, ws, v, w, h1, h2, hv, hw⟩
  stops := fun ω H ⟨vs, ws, ⟨h1, r1⟩, h2, r2⟩ => ⟨vs, ws, h1, h2, by rw [r1.length, r2.length, pairs_len]; omega⟩
  yields := fun i ω H x H' ⟨vs, ws, ⟨h1, r1⟩, h2, r2⟩ wf hi y => by
    obtain ⟨T, x, y, rfl, hT, rfl, f1, f2⟩ := y
    obtain ⟨d, hd, rd⟩ := r1.get (f1 vs h1)
    obtain ⟨e, he, re⟩ := r2.get (f2 ws h2)
    exact ⟨Ext.upd hT, _, pairs_get hd he, Rep.newT wf hT (.cons rd (.cons re .nil))⟩
  stay := fun ω P H ω' P' H' st ⟨vs, ws, ⟨h1, r1⟩, h2, r2⟩ => ⟨vs, ws, ⟨st.grow.sqT h1, r1.up st.grow⟩, st.grow.sqT h2, r2.up st.grow⟩
end
section
variable {X : Cx} {G : Gm} {tg e a b : Expr} {p pos : Pos}
theorem iq {m : Em} (he : PE X e (tI G m)) (hK : X.K = G.K := by rfl) : PI X tg e (tW G (wSeq m)) := by
  refine pi_if (pi_any he) fun σ H R ⟨ω, δ, φ, s, o⟩ => ⟨ω, δ, φ, s, (Out.bind o).mono (fun r hr ω' H' φ' v st s' rp => ?_) fun _ _ z => z⟩
  obtain ⟨d, δ1⟩ := r
  rw [hK]
  cases d with
  | list xs =>
    cases rp with
    | lst hs ha => exact .inl ⟨_, rfl, ⟨_, .inl hs.1⟩, hr ω' H' φ' _ _ st s' wk_list ⟨_, hs, ha⟩⟩
  | tuple xs =>
    cases rp with
    | tup hs ha => exact .inr (.inl ⟨_, rfl, ⟨_, hs⟩, hr ω' H' φ' _ _ st s' wk_tup ⟨_, hs, ha⟩⟩)
  | str z =>
    cases rp
    exact .inr (.inr ⟨z, rfl, hr ω' H' φ' _ _ st s' wk_str trivial⟩)
  | _ => exact hr.elim
def wRng (m : Sm) : Sm := fun δ => m δ >>= fun r => match r.1 with
  | [.int j] => if -(2 ^ 62) ≤ j ∧ j < 2 ^ 62 then .ok ((List.range j.toNat).map fun i => PyData.int (i : Nat), r.2) else .no
  | _ => .no
theorem ir {m : Sm} (hm : X.mg "range" = none) (ha : PA X [a] (tS G m)) (hg : Gl X "range" := by rfl) (hs : starEach [a] X.env = [(false, eval a X.env)] := by rfl) : PI X tg (.Call (.Name "range" p) [a] [] pos) (tW G (wRng m)) := by
  refine pi_if (pi_range1 hg hm ha hs) fun σ H R ⟨ω, δ, φ, s, o⟩ => ⟨ω, δ, φ, s, (Out.bind o).mono (fun r hr ω' H' φ' vs st s' rp => ?_) fun _ _ z => z⟩
  obtain ⟨ds, δ1⟩ := r
  simp only at hr
  split at hr
  · rename_i j
    obtain ⟨⟨c1, c2⟩, hr⟩ := if_inv hr
    cases rp with
    | cons r1 r2 =>
      cases r2
      cases r1
      exact ⟨j, rfl, c1, c2, hr ω' H' φ' _ _ st s' wk_range trivial⟩
  · exact hr.elim
def wZip (m : Sm) : Sm := fun δ => m δ >>= fun r => match r.1 with
  | [.list xs, .list ys] => .ok (pairs xs ys, r.2)
  | [.tuple xs, .tuple ys] => .ok (pairs xs ys, r.2)
  | _ => .no
theorem iz {m : Sm} {elts : List Expr} {kk : Nat} {tpos : Pos} (hm : X.mg "zip" = none) (ha : PA X [a, b] (tS G m)) (hK : X.K = G.K := by rfl) (hg : Gl X "zip" := by rfl) (hs : starEach [a, b] X.env = (false, eval a X.env) :: starEach [b] X.env := by rfl) (hpl : (backTo pos (starEach [b] X.env)).any (·.1) = false := by rfl) :
    PI X (.Tuple elts kk tpos) (.Call (.Name "zip" p) [a, b] [] pos) (tW G (wZip m)) := by
  refine pi_if (RZ.pi_zipA hg hm ha hs hpl) fun σ H R ⟨ω, δ, φ, s, o⟩ => ⟨ω, δ, φ, s, (Out.bind o).mono (fun r hr ω' H' φ' vs st s' rp => ?_) fun _ _ z => z⟩
  obtain ⟨ds, δ1⟩ := r
  rw [hK]
  simp only at hr
  split at hr
  · rename_i xs ys
    cases rp with
    | cons r1 r2 =>
      cases r2 with
      | cons r2 r3 =>
        cases r3
        cases r1 with
        | lst h1 q1 =>
          cases r2 with
          | lst h2 q2 => exact ⟨_, _, _, _, rfl, .inl ⟨.inl h1.1, .inl h2.1, hr ω' H' φ' _ _ st s' wk_zip ⟨_, _, ⟨h1, q1⟩, h2, q2⟩⟩⟩
  · rename_i xs ys
    cases rp with
    | cons r1 r2 =>
      cases r2 with
      | cons r2 r3 =>
        cases r3
        cases r1 with
        | tup h1 q1 =>
          cases r2 with
          | tup h2 q2 => exact ⟨_, _, _, _, rfl, .inr ⟨h1, h2, hr ω' H' φ' _ _ st s' wk_zipT ⟨_, _, ⟨h1, q1⟩, h2, q2⟩⟩⟩
  · exact hr.elim
end
end Zd

namespace Zd
open PySem PySem.Spec
open PyProof.Rows L2

/-! ### a list of ours is written -/
section
variable {K : PySem.W.Frag} {κ : Kn} {ω : Om} {H : Hp} {σ : L2.St} {δ : Dl} {φ : Fps}
theorem own_grow {a : Addr} {vs : List V} (wf : Wf ω H) (ha : ω a) : Grow ω H ω (upd H a (.lst vs)) := ⟨fun b o h n => by rw [upd_ne (fun e => n (by rw [e]; exact ha))]; exact h, wf, fun b z => .inl z⟩
theorem Slots.write (s : Slots K κ ω H σ δ φ) {i : Nat} {v : V} {a : Addr} {vs : List V} {d : D} (hv : σ[i]? = some (some v)) (hl : i < δ.length) (ha : a ∈ φ i) (ow : Own K ω (upd H a (.lst vs)) (κ i) v d (φ i)) :
    Slots K κ ω (upd H a (.lst vs)) σ (δ.set i (some d)) φ ∧ Step ω (Fp φ) H ω (Fp φ) (upd H a (.lst vs)) := by
  have oa : ω a := s.sub a ⟨i, ha⟩
  refine ⟨⟨by rw [List.length_set]; exact s.len, fun j e h => ?_, s.nod, s.dis, s.sub, fun b hb => ?_⟩, fun b o h n => by rw [upd_ne (fun e => n (by rw [e]; exact ⟨i, ha⟩))]; exact h, fun b z => .inl z, fun b z _ => z, fun b z => .inl z, s.sub, s.wf⟩
  · by_cases q : i = j
    · subst q
      rw [List.getElem?_set_self hl] at h
      cases h
      exact ⟨v, hv, ow⟩
    · rw [List.getElem?_set_ne q] at h
      obtain ⟨w, h1, h2⟩ := s.at_ j e h
      exact ⟨w, h1, Own.mono (own_grow s.wf oa) e _ _ _ (fun b hb => by rw [upd_ne (fun e => s.dis i j a q ha (by rw [← e]; exact hb))]) h2⟩
  · by_cases e : b = a
    · subst e; exact ⟨_, upd_same⟩
    · rw [upd_ne e]; exact s.wf b hb
/-- the flat list in a slot -/
theorem Slots.flat (s : Slots K κ ω H σ δ φ) {i : Nat} {d : D} (hk : κ i = .mu .im) (h : δ[i]? = some (some d)) : ∃ a vs ds, σ[i]? = some (some (.ref a)) ∧ d = .list ds ∧ φ i = [a] ∧ H a = some (.lst vs) ∧ Reps K ω H vs ds := by
  obtain ⟨v, h1, h2⟩ := s.at_ i d h
  rw [hk] at h2
  obtain ⟨a, vs, ds, rfl, rfl, h3, h4, h5⟩ := h2.mui_inv
  exact ⟨a, vs, ds, h1, rfl, h3, h4, h5⟩
theorem Slots.writeFlat (s : Slots K κ ω H σ δ φ) {i : Nat} {a : Addr} {vs : List V} {ds : List D} (hk : κ i = .mu .im) (hv : σ[i]? = some (some (.ref a))) (hl : i < δ.length) (hf : φ i = [a]) (r : Reps K ω H vs ds) :
    Slots K κ ω (upd H a (.lst vs)) σ (δ.set i (some (.list ds))) φ ∧ Step ω (Fp φ) H ω (Fp φ) (upd H a (.lst vs)) := by
  have ha : a ∈ φ i := by rw [hf]; simp
  refine s.write hv hl ha ?_
  rw [hk, hf]
  exact .mui upd_same (r.up (own_grow s.wf (s.sub a ⟨i, ha⟩)))
end
def listAt (δ : Dl) (i : Nat) : Rs (List D) := match δ[i]? with
  | some (some (.list xs)) => .ok xs
  | _ => .no
theorem listAt_inv {δ : Dl} {i : Nat} {q : List D → Prop} {e : Str → D → Prop} (h : Out (listAt δ i) q e) : ∃ xs, δ[i]? = some (some (.list xs)) ∧ q xs := by
  unfold listAt at h
  split at h
  · rename_i xs e1
    exact ⟨xs, e1, h⟩
  · exact h.elim
section
variable {X : Cx} {G : Gm} {e a b : Expr} {es : List Expr} {pos p apos cpos : Pos} {y : Str} {py : Pos}
theorem tBM_list {K : PySem.W.Frag} {a : Addr} {vs : List V} {H : Hp} (h : H a = some (.lst vs)) : tyV K "list" (.ref a) H := .inl ⟨rfl, vs, .inl (.inl h)⟩
/-- x.append(e) -/
def mApp (i : Nat) (m : Em) : Em := fun δ => listAt δ i >>= fun _ => m δ >>= fun r => listAt r.2 i >>= fun xs => if xs.length < sizeLine then .ok (.none, r.2.set i (some (.list (xs ++ [r.1])))) else .no
theorem xApp (i : Nat) {m : Em} (he : PE X e (tI G m)) (hk : G.κ i = .mu .im := by rfl) (hK : X.K = G.K := by rfl) (hN : X.N[i]? = some y := by rfl) (hv : Vis X.env.scope y := by first | exact Or.inl rfl | exact Or.inr (Or.inl rfl) | exact Or.inr (Or.inr rfl)) (hd : (y == ("__debug__" : Str)) = false := by decide) (hcd : (y == ("__classdict__" : Str)) = false := by decide)
    (he1 : starEach [e] X.env = (false, eval e X.env) :: starEach [] X.env := by rfl)
    (hbase : attributeBase (.Name y py) "append" X.env (eval (.Name y py) X.env) = eval (.Name y py) X.env := by rfl)
    (hfew : ((backTo cpos (starEach (e :: []) X.env)).all (fun x => !x.1) && (backToKw cpos (keywordEach [] X.env)).all (fun x => x.1.isSome)
      && decide ((e :: ([] : List Expr)).length + ([] : List Keyword).length + (if ([] : List Keyword).isEmpty then 0 else 1) < 30)) = true := by rfl)
    (hline : (apos.endLine == cpos.line) = true := by rfl) (hplain : (backTo cpos (starEach ([] : List Expr) X.env)).any (·.1) = false := by rfl) :
    PE X (.Call (.Attribute (.Name y py) "append" apos) [e] [] cpos) (tI G (mApp i m)) := by
  refine pe_if (pe_bm PySem.F.plainAttrs_list PySem.F.slot_list_append PySem.F.type_list_append mt_append (pe_var hN hv hd hcd) (pa_cons he pa_nil he1) hbase hfew hline he1 hplain) fun σ H Q ⟨ω, δ, φ, s, o⟩ => ?_
  obtain ⟨xs0, e0, o⟩ := listAt_inv (Out.bind o)
  obtain ⟨a, vs0, _, hσ, _, hf, hH, _⟩ := s.flat hk e0
  refine ⟨_, hσ, tBM_list hH, ω, δ, φ, s, (Out.bind o).mono (fun r hr ω' H' φ' v st s' rp => ?_) fun _ _ z => z⟩
  obtain ⟨xs, e1, hr⟩ := listAt_inv (Out.bind hr)
  obtain ⟨hc, hr⟩ := if_inv hr
  obtain ⟨a', vs, ds, hσ', ed, hf', hH', rs⟩ := s'.flat hk e1
  rw [hσ] at hσ'
  cases hσ'
  cases ed
  obtain ⟨s2, st2⟩ := s'.writeFlat hk hσ (List.getElem?_eq_some_iff.mp e1).1 hf' (rs.snoc rp)
  exact ⟨a, vs, v, rfl, rfl, hH', by rw [rs.length]; exact hc, hr ω' _ φ' .non (st.trans st2) s2 .non⟩
/-- x.pop() -/
def mPop (i : Nat) : Em := fun δ => listAt δ i >>= fun xs => optR xs.getLast? >>= fun d => .ok (d, δ.set i (some (.list xs.dropLast)))
theorem xPop (i : Nat) (hk : G.κ i = .mu .im := by rfl) (hN : X.N[i]? = some y := by rfl) (hv : Vis X.env.scope y := by first | exact Or.inl rfl | exact Or.inr (Or.inl rfl) | exact Or.inr (Or.inr rfl)) (hd : (y == ("__debug__" : Str)) = false := by decide) (hcd : (y == ("__classdict__" : Str)) = false := by decide)
    (hbase : attributeBase (.Name y py) "pop" X.env (eval (.Name y py) X.env) = eval (.Name y py) X.env := by rfl) (hline : (apos.endLine == cpos.line) = true := by rfl) :
    PE X (.Call (.Attribute (.Name y py) "pop" apos) [] [] cpos) (tI G (mPop i)) := by
  refine pe_if (pe_bm0 PySem.F.plainAttrs_list PySem.F.slot_list_pop PySem.F.type_list_pop mt_pop (pe_var hN hv hd hcd) hbase hline) fun σ H Q ⟨ω, δ, φ, s, o⟩ => ?_
  obtain ⟨xs, e1, o⟩ := listAt_inv (Out.bind o)
  obtain ⟨d, hl, o⟩ := opt_inv (Out.bind o)
  obtain ⟨a, vs, ds, hσ, ed, hf, hH, rs⟩ := s.flat hk e1
  cases ed
  rw [List.getLast?_eq_getElem?] at hl
  obtain ⟨v, hv', rv⟩ := rs.getD hl
  obtain ⟨s2, st2⟩ := s.writeFlat hk hσ (List.getElem?_eq_some_iff.mp e1).1 hf rs.dropLast
  have oa : ω a := s.sub a ⟨i, by rw [hf]; simp⟩
  exact ⟨_, hσ, tBM_list hH, a, vs, v, rfl, rfl, hH, by rw [rs.length]; exact hv', o ω _ φ v st2 s2 (Rep.up rv (own_grow s.wf oa))⟩
/-- x.pop(k) -/
def mPopAt (i : Nat) (m : Em) : Em := fun δ => listAt δ i >>= fun _ => m δ >>= fun r => listAt r.2 i >>= fun xs => toI r.1 >>= fun k => if -(2 ^ 63) ≤ k ∧ k < 2 ^ 63 then optR ((seqIndex? k xs.length).bind fun j => xs[j]?.map fun d => (j, d)) >>= fun jd => .ok (jd.2, r.2.set i (some (.list (xs.eraseIdx jd.1)))) else .no
theorem toI_inv {d : D} {q : Int → Prop} {e : Str → D → Prop} (h : Out (toI d) q e) : ∃ i, d = .int i ∧ q i := by
  cases d with
  | int i => exact ⟨i, rfl, h⟩
  | _ => exact h.elim
theorem xPopAt (i : Nat) {m : Em} (he : PE X e (tI G m)) (hk : G.κ i = .mu .im := by rfl) (hN : X.N[i]? = some y := by rfl) (hv : Vis X.env.scope y := by first | exact Or.inl rfl | exact Or.inr (Or.inl rfl) | exact Or.inr (Or.inr rfl)) (hd : (y == ("__debug__" : Str)) = false := by decide) (hcd : (y == ("__classdict__" : Str)) = false := by decide)
    (he1 : starEach [e] X.env = (false, eval e X.env) :: starEach [] X.env := by rfl)
    (hbase : attributeBase (.Name y py) "pop" X.env (eval (.Name y py) X.env) = eval (.Name y py) X.env := by rfl)
    (hfew : ((backTo cpos (starEach (e :: []) X.env)).all (fun x => !x.1) && (backToKw cpos (keywordEach [] X.env)).all (fun x => x.1.isSome)
      && decide ((e :: ([] : List Expr)).length + ([] : List Keyword).length + (if ([] : List Keyword).isEmpty then 0 else 1) < 30)) = true := by rfl)
    (hline : (apos.endLine == cpos.line) = true := by rfl) (hplain : (backTo cpos (starEach ([] : List Expr) X.env)).any (·.1) = false := by rfl) :
    PE X (.Call (.Attribute (.Name y py) "pop" apos) [e] [] cpos) (tI G (mPopAt i m)) := by
  refine pe_if (pe_bm PySem.F.plainAttrs_list PySem.F.slot_list_pop PySem.F.type_list_pop mt_popAt (pe_var hN hv hd hcd) (pa_cons he pa_nil he1) hbase hfew hline he1 hplain) fun σ H Q ⟨ω, δ, φ, s, o⟩ => ?_
  obtain ⟨xs0, e0, o⟩ := listAt_inv (Out.bind o)
  obtain ⟨a, vs0, _, hσ, _, hf, hH, _⟩ := s.flat hk e0
  refine ⟨_, hσ, tBM_list hH, ω, δ, φ, s, (Out.bind o).mono (fun r hr ω' H' φ' v st s' rp => ?_) fun _ _ z => z⟩
  obtain ⟨xs, e1, hr⟩ := listAt_inv (Out.bind hr)
  obtain ⟨k, ek, hr⟩ := toI_inv (Out.bind hr)
  obtain ⟨⟨c1, c2⟩, hr⟩ := if_inv hr
  obtain ⟨⟨j, d⟩, ej, hr⟩ := opt_inv (Out.bind hr)
  obtain ⟨j', hj, ej⟩ := Option.bind_eq_some_iff.mp ej
  obtain ⟨d', hd', ej⟩ := Option.map_eq_some_iff.mp ej
  cases ej
  obtain ⟨a', vs, ds, hσ', ed, hf', hH', rs⟩ := s'.flat hk e1
  rw [hσ] at hσ'
  cases hσ'
  cases ed
  rw [ek] at rp
  cases rp
  obtain ⟨w, hw, rw'⟩ := rs.getD hd'
  obtain ⟨s2, st2⟩ := s'.writeFlat hk hσ (List.getElem?_eq_some_iff.mp e1).1 hf' (rs.eraseIdx j)
  have oa : ω' a := s'.sub a ⟨i, by rw [hf']; simp⟩
  exact ⟨a, vs, k, j, w, rfl, rfl, hH', c1, c2, by rw [rs.length]; exact hj, hw, hr ω' _ φ' w (st.trans st2) s2 (Rep.up rw' (own_grow s'.wf oa))⟩
end
section
variable {X : Cx} {G : Gs} {σ0 : L2.St} {e ei : Expr} {pos p : Pos} {y : Str} {py : Pos}
/-- x[k] = e -/
def pStore (i : Nat) (m k : Em) : Pm := fun δ => m δ >>= fun r => listAt r.2 i >>= fun _ => k r.2 >>= fun q => listAt q.2 i >>= fun xs => toI q.1 >>= fun j => optR (ixN xs.length j) >>= fun n => .ok (.nx, q.2.set i (some (.list (xs.set n r.1))))
theorem pst (i : Nat) {m k : Em} (he : PE X e (tI G.toGm m)) (hi : PE X ei (tI G.toGm k)) (hk : G.κ i = .mu .im := by rfl) (hN : X.N[i]? = some y := by rfl) (hv : Vis X.env.scope y := by first | exact Or.inl rfl | exact Or.inr (Or.inl rfl) | exact Or.inr (Or.inr rfl)) (hd : (y == ("__debug__" : Str)) = false := by decide) (hcd : (y == ("__classdict__" : Str)) = false := by decide)
    (ha : ∀ v, assign (.Subscript (.Name y py) ei p) X.env v = (do
      let ov ← holding [v] (eval (.Name y py) X.env)
      let iv ← holding [v, ov] (eval ei X.env)
      standAt p
      holding [v, ov,
                iv] (setItem ov iv v)
      release [v, ov, iv] []) := by intro _; rfl)
    (hs : swapsWithSole [.Subscript (.Name y py) ei p] e pos.line X.env = pure false := by rfl) (hw : swappedStores [.Subscript (.Name y py) ei p] e X.env = pure none := by rfl)
    (h1 : (assignEach [.Subscript (.Name y py) ei p] X.env).map (·.2) = [assign (.Subscript (.Name y py) ei p) X.env] := by rfl) : PS X (.Assign [.Subscript (.Name y py) ei p] e pos) (tP G σ0 (pStore i m k)) := by
  refine ps_if' (ps_asg he (pg_sub (pe_var hN hv hd hcd) hi set_list ha) hs hw h1) fun D σ H ⟨pn, ω, δ, φ, s, o⟩ => ⟨ω, δ, φ, s, (Out.bind o).mono (fun r hr ω1 H1 φ1 v st1 s1 rp => ?_) fun _ _ z => z⟩
  obtain ⟨xs0, e0, hr⟩ := listAt_inv (Out.bind hr)
  obtain ⟨a, vs0, _, hσ, _, hf, hH, _⟩ := s1.flat hk e0
  refine ⟨_, hσ, ω1, r.2, φ1, s1, (Out.bind hr).mono (fun q hq ω2 H2 φ2 w st2 s2 rw' => ?_) fun _ _ z => z.up st1⟩
  obtain ⟨xs, e1, hq⟩ := listAt_inv (Out.bind hq)
  obtain ⟨j, ej, hq⟩ := toI_inv (Out.bind hq)
  obtain ⟨n, en, hq⟩ := opt_inv (Out.bind hq)
  obtain ⟨a', vs, ds, hσ', ed, hf', hH', rs⟩ := s2.flat hk e1
  rw [hσ] at hσ'
  cases hσ'
  cases ed
  rw [ej] at rw'
  cases rw'
  obtain ⟨s3, st3⟩ := s2.writeFlat hk hσ (List.getElem?_eq_some_iff.mp e1).1 hf' (rs.set (Rep.up rp st2.grow) n)
  exact ⟨a, vs, j, n, rfl, rfl, hH', by rw [rs.length]; exact en, hq ω2 _ σ φ2 ((st1.trans st2).trans st3) s3 pn⟩
end

/-! ### places within a list of unlike things -/
section
variable {K : PySem.W.Frag} {ω : Om} {H : Hp}
theorem Owns.at : ∀ {ss : List Sh} {vs : List V} {ds : List D} {f : List Addr} {k : Nat} {s : Sh} {d : D}, Owns K ω H ss vs ds f → ss[k]? = some s → ds[k]? = some d →
    ∃ v g1 fk g2, vs[k]? = some v ∧ f = g1 ++ fk ++ g2 ∧ Own K ω H s v d fk ∧
      ∀ (ω' : Om) (H' : Hp) (v' : V) (d' : D), Grow ω H ω' H' → (∀ a ∈ g1 ++ g2, H' a = H a) → Own K ω' H' s v' d' fk → Owns K ω' H' ss (vs.set k v') (ds.set k d') f
  | _, _, [], _, _, _, _, _, _, h => by simp at h
  | _, _, d0 :: ds, _, 0, s, d, o, hs, hd => by
    cases o with
    | @cons s0 ss v vs _ _ f g r t =>
      simp at hs hd
      subst hs hd
      refine ⟨v, [], f, g, rfl, by simp, r, fun ω' H' v' d' gr hk ow => .cons ow (Owns.mono gr ds _ _ _ (fun a ha => hk a (by simpa using ha)) t)⟩
  | _, _, d0 :: ds, _, k + 1, s, d, o, hs, hd => by
    cases o with
    | @cons s0 ss v vs _ _ f g r t =>
      obtain ⟨w, g1, fk, g2, h1, h2, h3, h4⟩ := Owns.at t (by simpa using hs) (by simpa using hd)
      refine ⟨w, f ++ g1, fk, g2, by simpa using h1, by rw [h2]; simp, h3, fun ω' H' v' d' gr hk ow => ?_⟩
      exact .cons (Own.mono gr d0 _ _ _ (fun a ha => hk a (by simp [ha])) r) (h4 ω' H' v' d' gr (fun a ha => hk a (by rcases List.mem_append.mp ha with h | h <;> simp [h])) ow)
end
/-- the shape at a place of a slot's list -/
def shAt (s : Sh) (k : Nat) : Option Sh := match s with
  | .rc ss => ss[k]?
  | _ => none
def itemAt (δ : Dl) (i k : Nat) : Rs D := listAt δ i >>= fun xs => optR xs[k]?
def putAt (δ : Dl) (i k : Nat) (d : D) : Rs Dl := listAt δ i >>= fun xs => .ok (δ.set i (some (.list (xs.set k d))))
theorem itemAt_inv {δ : Dl} {i k : Nat} {q : D → Prop} {e : Str → D → Prop} (h : Out (itemAt δ i k) q e) : ∃ xs d, δ[i]? = some (some (.list xs)) ∧ xs[k]? = some d ∧ q d := by
  obtain ⟨xs, e1, h⟩ := listAt_inv (Out.bind h)
  obtain ⟨d, e2, h⟩ := opt_inv h
  exact ⟨xs, d, e1, e2, h⟩
section
variable {K : PySem.W.Frag} {κ : Kn} {ω : Om} {H : Hp} {σ : L2.St} {δ : Dl} {φ : Fps}
/-- what stands at the place; what a change there leaves -/
theorem Slots.place (s : Slots K κ ω H σ δ φ) {i k : Nat} {sh : Sh} {xs : List D} {d : D} (hk : shAt (κ i) k = some sh) (hx : δ[i]? = some (some (.list xs))) (hd : xs[k]? = some d) :
    ∃ a vs v fk, σ[i]? = some (some (.ref a)) ∧ H a = some (.lst vs) ∧ vs[k]? = some v ∧ Own K ω H sh v d fk ∧ (∀ b ∈ fk, b ∈ φ i ∧ b ≠ a) ∧ a ∈ φ i ∧
      (∀ (b : Addr) (ws : List V) (d' : D), b ∈ fk → Own K ω (upd H b (.lst ws)) sh v d' fk → Slots K κ ω (upd H b (.lst ws)) σ (δ.set i (some (.list (xs.set k d')))) φ ∧ Step ω (Fp φ) H ω (Fp φ) (upd H b (.lst ws))) ∧
      (∀ (v' : V) (d' : D), sh = .im → Rep K ω H v' d' → Slots K κ ω (upd H a (.lst (vs.set k v'))) σ (δ.set i (some (.list (xs.set k d')))) φ ∧ Step ω (Fp φ) H ω (Fp φ) (upd H a (.lst (vs.set k v')))) := by
  obtain ⟨v0, h1, h2⟩ := s.at_ i _ hx
  have hl := (List.getElem?_eq_some_iff.mp hx).1
  cases hs : κ i with
  | im => rw [hs] at hk; cases hk
  | mu _ => rw [hs] at hk; cases hk
  | rc ss =>
    have hk : ss[k]? = some sh := by rw [hs] at hk; exact hk
    rw [hs] at h2
    generalize hφ : φ i = f at h2
    cases h2 with
    | rc e t =>
      rename_i a vs f
      obtain ⟨v, g1, fk, g2, p1, p2, p3, p4⟩ := Owns.at t hk hd
      have nd : (a :: f).Nodup := hφ ▸ s.nod i
      have inf : ∀ b ∈ fk, b ∈ f := fun b hb => by rw [p2]; simp [hb]
      have apart : ∀ b ∈ fk, b ∉ g1 ++ g2 := fun b hb hm => by
        have nd2 := (List.nodup_cons.mp nd).2
        rw [p2] at nd2
        rcases List.mem_append.mp hm with h | h
        · exact (List.nodup_append.mp (List.nodup_append.mp nd2).1).2.2 b h b hb rfl
        · exact (List.nodup_append.mp nd2).2.2 b (by simp [hb]) b h rfl
      have nea : ∀ b ∈ f, b ≠ a := fun b hb e => (List.nodup_cons.mp nd).1 (e ▸ hb)
      refine ⟨a, vs, v, fk, h1, e, p1, p3, fun b hb => ⟨List.mem_cons_of_mem _ (inf b hb), nea b (inf b hb)⟩, List.mem_cons_self, fun b ws d' hb ow => ?_, fun v' d' him rp => ?_⟩
      · have hbi : b ∈ φ i := by rw [hφ]; exact List.mem_cons_of_mem _ (inf b hb)
        refine s.write h1 hl hbi ?_
        rw [hs, hφ]
        have gr : Grow ω H ω (upd H b (.lst ws)) := own_grow s.wf (s.sub b ⟨i, hbi⟩)
        have t' := p4 ω _ v d' gr (fun c hc => upd_ne (fun e => apart b hb (by rw [← e]; exact hc))) ow
        have hvs : vs.set k v = vs := List.ext_getElem? fun j => by
          by_cases ej : k = j
          · subst ej
            rw [List.getElem?_set_self (List.getElem?_eq_some_iff.mp p1).1, p1]
          · rw [List.getElem?_set_ne ej]
        rw [hvs] at t'
        exact .rc (by rw [upd_ne (fun e => nea b (inf b hb) e.symm)]; exact e) t'
      · subst him
        obtain ⟨_, efk⟩ := p3.im_inv
        have hai : a ∈ φ i := by rw [hφ]; simp
        refine s.write h1 hl hai ?_
        rw [hs, hφ]
        have gr : Grow ω H ω (upd H a (.lst (vs.set k v'))) := own_grow s.wf (s.sub a ⟨i, hai⟩)
        have t' := p4 ω _ v' d' gr (fun c hc => upd_ne (nea c (by rw [p2]; rcases List.mem_append.mp hc with h | h <;> simp [h]))) (by rw [efk]; exact .im (Rep.up rp gr))
        exact .rc upd_same t'
end
section
variable {X : Cx} {G : Gm} {e a b : Expr} {es : List Expr} {pos p p2 apos cpos : Pos} {y : Str} {py : Pos} {j1 : Nat}
/-- x[k], of a slot's list of unlike things, a value -/
def mAt (i k : Nat) : Em := fun δ => itemAt δ i k >>= fun d => .ok (d, δ)
theorem atI_lit {vs : List V} {k : Nat} {v : V} (h : vs[k]? = some v) : atI vs (k : Int) = some v := atI_nat h
theorem xAt (i k : Nat) (kk : Int) (hkk : (k : Int) = kk := by rfl) (hs : shAt (G.κ i) k = some .im := by rfl) (hK : X.K = G.K := by rfl) (hN : X.N[i]? = some y := by rfl) (hv : Vis X.env.scope y := by first | exact Or.inl rfl | exact Or.inr (Or.inl rfl) | exact Or.inr (Or.inr rfl)) (hd : (y == ("__debug__" : Str)) = false := by decide) (hcd : (y == ("__classdict__" : Str)) = false := by decide) :
    PE X (.Subscript (.Name y py) (.Constant (.int kk) j1 p2) pos) (tI G (mAt i k)) := by
  subst hkk
  refine pe_if (pe_ix ix_list (pe_var hN hv hd hcd) pe_int (fun _ _ => rfl)) fun σ H Q ⟨ω, δ, φ, s, o⟩ => ?_
  obtain ⟨xs, d, e1, e2, o⟩ := itemAt_inv (Out.bind o)
  obtain ⟨a, vs, v, fk, h1, h2, h3, h4, _⟩ := s.place hs e1 e2
  exact ⟨_, h1, a, vs, (k : Int), v, rfl, rfl, .inl (.inl h2), atI_lit h3, o ω H φ v s.refl s h4.im_inv.1⟩
/-- what is read where it stands -/
def tU (G : Gm) (g : Dl → Rs D) : TE := fun σ H Q => ∃ ω δ φ, Slots G.K G.κ ω H σ δ φ ∧ Out (g δ) (fun d => ∀ H' v, Ext H H' → Lk G.K ω H' v d → Q v H') (fun _ _ => False)
abbrev Um := Dl → Rs D
def uAt (i k : Nat) : Um := fun δ => itemAt δ i k
theorem uP (i k : Nat) (kk : Int) (hkk : (k : Int) = kk := by rfl) (hs : shAt (G.κ i) k = some (.mu .im) := by rfl) (hK : X.K = G.K := by rfl) (hN : X.N[i]? = some y := by rfl) (hv : Vis X.env.scope y := by first | exact Or.inl rfl | exact Or.inr (Or.inl rfl) | exact Or.inr (Or.inr rfl)) (hd : (y == ("__debug__" : Str)) = false := by decide) (hcd : (y == ("__classdict__" : Str)) = false := by decide) :
    PE X (.Subscript (.Name y py) (.Constant (.int kk) j1 p2) pos) (tU G (uAt i k)) := by
  subst hkk
  refine pe_if (pe_ix ix_list (pe_var hN hv hd hcd) pe_int (fun _ _ => rfl)) fun σ H Q ⟨ω, δ, φ, s, o⟩ => ?_
  obtain ⟨xs, d, e1, e2, o⟩ := itemAt_inv o
  obtain ⟨a, vs, v, fk, h1, h2, h3, h4, _⟩ := s.place hs e1 e2
  exact ⟨_, h1, a, vs, (k : Int), v, rfl, rfl, .inl (.inl h2), atI_lit h3, o H v (Ext.refl H) (Lk.of h4 trivial)⟩
def uC (d : D) : Um := fun _ => .ok d
theorem uK {v : V} {d : D} (h : PE X e (tC v)) (r : ∀ ω H, Rep G.K ω H v d) : PE X e (tU G (uC d)) := pe_if h fun σ H Q ⟨ω, δ, φ, s, o⟩ => o H v (Ext.refl H) (.inl (r ω H))
theorem ui {i : Int} : PE X (.Constant (.int i) j1 pos) (tU G (uC (.int i))) := uK pe_int fun _ _ => .int i
theorem un1 {i : Int} : PE X (.UnaryOp .USub (.Constant (.int i) j1 p) pos) (tU G (uC (.int (-i)))) := pe_if (pe_un un_neg pe_int) fun σ H Q ⟨ω, δ, φ, s, o⟩ => ⟨i, rfl, o H _ (Ext.refl H) (.inl (.int _))⟩
theorem ue : PE X (.List [] pos) (tU G (uC (.list []))) := pe_if (pe_lst pa_nil) fun σ H Q ⟨ω, δ, φ, s, o⟩ => ⟨Nat.zero_le _, fun p hp => o _ _ (Ext.upd hp) (.inl (Rep.newL s.wf hp .nil))⟩
def mUB (g : D → D → Rs D) (f h : Um) : Em := fun δ => f δ >>= fun d => h δ >>= fun e => g d e >>= fun z => .ok (z, δ)
theorem u_core {r : R2} {g : D → D → Rs D} {f h : Um} (hd : BiD G.K r g) (nx : NoX2 g) (nf : ∀ δ c a, f δ ≠ .ex c a) (nh : ∀ δ c a, h δ ≠ .ex c a) {σ : L2.St} {H : Hp} {Q : VK} (q : tI G (mUB g f h) σ H Q) : tOp r (tU G f) (tU G h) σ H Q := by
  obtain ⟨ω, δ, φ, s, o⟩ := q
  refine ⟨ω, δ, φ, s, (out_no (Out.bind o) (nf δ)).mono (fun d hd1 H1 x e1 l1 => ⟨ω, δ, φ, s.ext e1, (out_no (Out.bind hd1) (nh δ)).mono (fun e he H2 y e2 l2 => ?_) fun _ _ z => z⟩) fun _ _ z => z⟩
  have s2 := (s.ext e1).ext e2
  refine hd ω H2 x y d e Q s2.wf (l1.ext (s.ext e1).wf e2) l2 ((out_no (Out.bind he) (nx d e)).mono (fun z hz H' v ex rp => ?_) fun _ _ z => z)
  exact hz ω H' φ v (s.step ((e1.trans e2).trans ex)) (s2.ext ex) rp
theorem nx_at {i k : Nat} : ∀ δ c a, uAt i k δ ≠ .ex c a := fun δ c a => by
  unfold uAt itemAt listAt
  split
  · exact nx_opt
  · intro z; cases z
theorem nx_uc {d : D} : ∀ δ c a, uC d δ ≠ .ex c a := fun δ c a => by intro z; cases z
theorem uIx {f h : Um} (nf : ∀ δ c a, f δ ≠ .ex c a) (nh : ∀ δ c a, h δ ≠ .ex c a) (ha : PE X a (tU G f)) (hb : PE X b (tU G h)) (hs : PlainIx b := by exact fun _ _ => rfl) (hK : X.K = G.K := by rfl) : PE X (.Subscript a b pos) (tI G (mUB gIx f h)) :=
  pe_if (pe_ix (r := rIx G.K) (hK ▸ ix_seq) ha hb hs) fun σ H Q q => u_core bi_ix nx_ix nf nh q
theorem uNe {k : Nat} {f h : Um} (hr : Room k X.A) (nf : ∀ δ c a, f δ ≠ .ex c a) (nh : ∀ δ c a, h δ ≠ .ex c a) (ha : PE X a (tU G f)) (hb : PE X b (tU G h)) (hK : X.K = G.K := by rfl) : PT X (.Compare a [.NotEq] [b] pos) (tT G (mT (mUB gNe f h))) := by
  refine pt_if (pt_cmpR (r := rNeP G.K) (hK ▸ op_neP hr) ha hb (nomark _)) fun σ H Q q => u_core (Q := fun x H1 => ∃ c, x = .bl c ∧ Q c H1) bi_ne nx_ne nf nh ?_
  obtain ⟨ω, δ, φ, s, o⟩ := q
  refine ⟨ω, δ, φ, s, (Out.bind o).mono (fun r hr ω' H' φ' v st s' rp => ?_) fun _ _ z => z⟩
  obtain ⟨b, e1, h1⟩ := bool_inv (Out.bind hr)
  rw [e1] at rp
  cases rp
  exact ⟨b, rfl, h1 ω' H' φ' st s'⟩
/-- x[k].pop() -/
def mPopIn (i k : Nat) : Em := fun δ => itemAt δ i k >>= fun d => (match d with | .list xs => .ok xs | _ => .no) >>= fun xs => optR xs.getLast? >>= fun z => putAt δ i k (.list xs.dropLast) >>= fun δ' => .ok (z, δ')
theorem list_inv {d : D} {q : List D → Prop} {e : Str → D → Prop} (h : Out (match d with | .list xs => (.ok xs : Rs (List D)) | _ => .no) q e) : ∃ xs, d = .list xs ∧ q xs := by
  cases d with
  | list xs => exact ⟨xs, rfl, h⟩
  | _ => exact h.elim
theorem xPopIn (i k : Nat) (kk : Int) (hkk : (k : Int) = kk := by rfl) (hs : shAt (G.κ i) k = some (.mu .im) := by rfl) (hK : X.K = G.K := by rfl) (hN : X.N[i]? = some y := by rfl) (hv : Vis X.env.scope y := by first | exact Or.inl rfl | exact Or.inr (Or.inl rfl) | exact Or.inr (Or.inr rfl)) (hd : (y == ("__debug__" : Str)) = false := by decide) (hcd : (y == ("__classdict__" : Str)) = false := by decide)
    (hbase : attributeBase (.Subscript (.Name y py) (.Constant (.int kk) j1 p2) p) "pop" X.env (eval (.Subscript (.Name y py) (.Constant (.int kk) j1 p2) p) X.env) = eval (.Subscript (.Name y py) (.Constant (.int kk) j1 p2) p) X.env := by rfl) (hline : (apos.endLine == cpos.line) = true := by rfl) :
    PE X (.Call (.Attribute (.Subscript (.Name y py) (.Constant (.int kk) j1 p2) p) "pop" apos) [] [] cpos) (tI G (mPopIn i k)) := by
  subst hkk
  refine pe_if (pe_bm0 PySem.F.plainAttrs_list PySem.F.slot_list_pop PySem.F.type_list_pop mt_pop (pe_ix ix_list (pe_var hN hv hd hcd) pe_int (fun _ _ => rfl)) hbase hline) fun σ H Q ⟨ω, δ, φ, s, o⟩ => ?_
  obtain ⟨xs, d, e1, e2, o⟩ := itemAt_inv (Out.bind o)
  obtain ⟨ds, rfl, o⟩ := list_inv (Out.bind o)
  obtain ⟨z, hl, o⟩ := opt_inv (Out.bind o)
  obtain ⟨a, vs, v, fk, h1, h2, h3, h4, h5, h6, h7, _⟩ := s.place hs e1 e2
  obtain ⟨b, ws, ds', rfl, ed, rfl, hH, rs⟩ := h4.mui_inv
  cases ed
  rw [List.getLast?_eq_getElem?] at hl
  obtain ⟨w, hw, rw'⟩ := rs.getD hl
  have ob : ω b := s.sub b ⟨i, (h5 b (by simp)).1⟩
  obtain ⟨s2, st2⟩ := h7 b ws.dropLast (.list ds.dropLast) (by simp) (.mui upd_same (rs.dropLast.up (own_grow s.wf ob)))
  obtain ⟨xs', e3, o⟩ := listAt_inv (Out.bind (Out.bind o))
  rw [e1] at e3
  cases e3
  exact ⟨_, h1, a, vs, (k : Int), _, rfl, rfl, hK ▸ .inl (.inl h2), atI_lit h3, tBM_list hH, b, ws, w, rfl, rfl, hH, by rw [rs.length]; exact hw, o ω _ φ w st2 s2 (Rep.up rw' (own_grow s.wf ob))⟩
end
section
variable {X : Cx} {G : Gs} {σ0 : L2.St} {e : Expr} {pos p p2 apos cpos : Pos} {y : Str} {py : Pos} {j1 : Nat}
/-- a value that leaves all as it is -/
def tV (G : Gm) (g : Um) : TE := fun σ H Q => ∃ ω δ φ, Slots G.K G.κ ω H σ δ φ ∧ Out (g δ) (fun d => ∀ H' v, Ext H H' → Rep G.K ω H' v d → Q v H') (fun _ _ => False)
theorem vV (i : Nat) {x : Str} (hN : X.N[i]? = some x := by rfl) (hv : Vis X.env.scope x := by first | exact Or.inl rfl | exact Or.inr (Or.inl rfl) | exact Or.inr (Or.inr rfl)) (hk : G.κ i = .im := by rfl) (hd : (x == ("__debug__" : Str)) = false := by decide)
    (hcd : (x == ("__classdict__" : Str)) = false := by decide) : PE X (.Name x pos) (tV G.toGm (fun δ => get δ (.r i))) := by
  refine pe_if (pe_var hN hv hd hcd) fun σ H Q ⟨ω, δ, φ, s, o⟩ => ?_
  cases e1 : δ[i]? with
  | none => simp only [get, e1] at o; exact o.elim
  | some z =>
    simp only [get, e1] at o
    cases z with
    | none => exact o.elim
    | some d =>
      obtain ⟨w, h3, h4⟩ := s.at_ i d e1
      rw [hk] at h4
      exact ⟨w, h3, o H w (Ext.refl H) h4.im_inv.1⟩
def vB (g : D → D → Rs D) (f h : Um) : Um := fun δ => f δ >>= fun d => h δ >>= fun e => g d e
theorem vDiv {a b : Expr} {f h : Um} (nf : ∀ δ c a, f δ ≠ .ex c a) (nh : ∀ δ c a, h δ ≠ .ex c a) (ha : PE X a (tV G.toGm f)) (hb : PE X b (tV G.toGm h)) : PE X (.BinOp a .FloorDiv b pos) (tV G.toGm (vB gDiv f h)) := by
  refine pe_if (pe_op op_fdivX ha hb) fun σ H Q ⟨ω, δ, φ, s, o⟩ => ⟨ω, δ, φ, s, (out_no (Out.bind o) (nf δ)).mono (fun d hd1 H1 x e1 l1 => ⟨ω, δ, φ, s.ext e1, (out_no (Out.bind hd1) (nh δ)).mono (fun e he H2 y e2 l2 => ?_) fun _ _ z => z⟩) fun _ _ z => z⟩
  have s2 := (s.ext e1).ext e2
  refine bi_div (K := G.K) ω H2 x y d e Q s2.wf (.inl (Rep.up l1 (ext_grow (s.ext e1).wf e2))) (.inl l2) ((out_no he (nx_div d e)).mono (fun z hz H' v ex rp => ?_) fun _ _ z => z)
  exact hz H' v ((e1.trans e2).trans ex) rp
theorem nx_get {i : Nat} : ∀ δ c a, get δ (.r i) ≠ .ex c a := fun δ c a => by
  show (match δ[i]? with | some (some d) => (.ok d : Rs D) | _ => .no) ≠ _
  split <;> (intro z; cases z)
/-- x[k].append(e) -/
def pAppIn (i k : Nat) (g : Um) : Pm := fun δ => itemAt δ i k >>= fun d => (match d with | .list xs => .ok xs | _ => .no) >>= fun xs => g δ >>= fun z => if xs.length < sizeLine then putAt δ i k (.list (xs ++ [z])) >>= fun δ' => .ok (.nx, δ') else .no
theorem pap (i k : Nat) (kk : Int) {g : Um} (ng : ∀ δ c a, g δ ≠ .ex c a) (he : PE X e (tV G.toGm g)) (hkk : (k : Int) = kk := by rfl) (hs : shAt (G.κ i) k = some (.mu .im) := by rfl) (hK : X.K = G.K := by rfl) (hN : X.N[i]? = some y := by rfl) (hv : Vis X.env.scope y := by first | exact Or.inl rfl | exact Or.inr (Or.inl rfl) | exact Or.inr (Or.inr rfl)) (hd : (y == ("__debug__" : Str)) = false := by decide) (hcd : (y == ("__classdict__" : Str)) = false := by decide)
    (he1 : starEach [e] X.env = (false, eval e X.env) :: starEach [] X.env := by rfl)
    (hbase : attributeBase (.Subscript (.Name y py) (.Constant (.int kk) j1 p2) p) "append" X.env (eval (.Subscript (.Name y py) (.Constant (.int kk) j1 p2) p) X.env) = eval (.Subscript (.Name y py) (.Constant (.int kk) j1 p2) p) X.env := by rfl)
    (hfew : ((backTo cpos (starEach (e :: []) X.env)).all (fun x => !x.1) && (backToKw cpos (keywordEach [] X.env)).all (fun x => x.1.isSome)
      && decide ((e :: ([] : List Expr)).length + ([] : List Keyword).length + (if ([] : List Keyword).isEmpty then 0 else 1) < 30)) = true := by rfl)
    (hline : (apos.endLine == cpos.line) = true := by rfl) (hplain : (backTo cpos (starEach ([] : List Expr) X.env)).any (·.1) = false := by rfl)
    (hsw : swapsWith (.Call (.Attribute (.Subscript (.Name y py) (.Constant (.int kk) j1 p2) p) "append" apos) [e] [] cpos) none pos.line X.env = pure false := by rfl) :
    PS X (.Expr (.Call (.Attribute (.Subscript (.Name y py) (.Constant (.int kk) j1 p2) p) "append" apos) [e] [] cpos) pos) (tP G σ0 (pAppIn i k g)) := by
  subst hkk
  refine ps_if' (ps_expr (pe_bm PySem.F.plainAttrs_list PySem.F.slot_list_append PySem.F.type_list_append mt_append (pe_ix ix_list (pe_var hN hv hd hcd) pe_int (fun _ _ => rfl)) (pa_cons he pa_nil he1) hbase hfew hline he1 hplain) hsw) fun D σ H ⟨pn, ω, δ, φ, s, o⟩ => ?_
  obtain ⟨xs, d, e1, e2, o⟩ := itemAt_inv (Out.bind o)
  obtain ⟨ds, ed0, o2⟩ := list_inv (Out.bind o)
  subst ed0
  obtain ⟨a, vs, v, fk, h1, h2, h3, h4, h5, h6, h7, _⟩ := s.place hs e1 e2
  obtain ⟨b, ws, ds', rfl, ed, rfl, hH, rs⟩ := h4.mui_inv
  cases ed
  refine ⟨_, h1, a, vs, (k : Int), _, rfl, rfl, hK ▸ .inl (.inl h2), atI_lit h3, tBM_list hH, ω, δ, φ, s, (out_no (Out.bind o2) (ng δ)).mono (fun z hz H' w ex rp => ?_) fun _ _ z => z⟩
  obtain ⟨hc, o⟩ := ifx_inv hz
  have s1 := s.ext ex
  obtain ⟨a2, vs2, v2, fk2, k1, k2, k3, k4, k5, k6, k7, _⟩ := s1.place hs e1 e2
  rw [h1] at k1
  cases k1
  have hH' := ex b _ hH
  have e3 := ex a _ h2
  rw [k2] at e3
  cases e3
  rw [h3] at k3
  cases k3
  obtain ⟨b2, ws2, ds2, eb, ed, rfl, hH2, rs2⟩ := k4.mui_inv
  cases ed
  cases eb
  rw [hH'] at hH2
  cases hH2
  have ob : ω b := s1.sub b ⟨i, (k5 b (by simp)).1⟩
  obtain ⟨s2, st2⟩ := k7 b (ws ++ [w]) (.list (ds ++ [z])) (by simp) (.mui upd_same ((rs2.snoc rp).up (own_grow s1.wf ob)))
  obtain ⟨xs', e3, o⟩ := listAt_inv (Out.bind (Out.bind o))
  rw [e1] at e3
  cases e3
  exact ⟨b, ws, w, rfl, rfl, hH', by rw [rs.length]; exact hc, o ω _ σ φ ((s.step ex).trans st2) s2 pn⟩
/-- x[k] = e -/
def pPutAt (i k : Nat) (m : Em) : Pm := fun δ => m δ >>= fun r => itemAt r.2 i k >>= fun _ => putAt r.2 i k r.1 >>= fun δ' => .ok (.nx, δ')
theorem ppu (i k : Nat) (kk : Int) {m : Em} (he : PE X e (tI G.toGm m)) (hkk : (k : Int) = kk := by rfl) (hs : shAt (G.κ i) k = some .im := by rfl) (hN : X.N[i]? = some y := by rfl) (hv : Vis X.env.scope y := by first | exact Or.inl rfl | exact Or.inr (Or.inl rfl) | exact Or.inr (Or.inr rfl)) (hd : (y == ("__debug__" : Str)) = false := by decide) (hcd : (y == ("__classdict__" : Str)) = false := by decide)
    (ha : ∀ v, assign (.Subscript (.Name y py) (.Constant (.int kk) j1 p2) p) X.env v = (do
      let ov ← holding [v] (eval (.Name y py) X.env)
      let iv ← holding [v, ov] (eval (.Constant (.int kk) j1 p2) X.env)
      standAt p
      holding [v, ov,
                iv] (setItem ov iv v)
      release [v, ov, iv] []) := by intro _; rfl)
    (hsw : swapsWithSole [.Subscript (.Name y py) (.Constant (.int kk) j1 p2) p] e pos.line X.env = pure false := by rfl) (hw : swappedStores [.Subscript (.Name y py) (.Constant (.int kk) j1 p2) p] e X.env = pure none := by rfl)
    (h1 : (assignEach [.Subscript (.Name y py) (.Constant (.int kk) j1 p2) p] X.env).map (·.2) = [assign (.Subscript (.Name y py) (.Constant (.int kk) j1 p2) p) X.env] := by rfl) : PS X (.Assign [.Subscript (.Name y py) (.Constant (.int kk) j1 p2) p] e pos) (tP G σ0 (pPutAt i k m)) := by
  subst hkk
  refine ps_if' (ps_asg he (pg_sub (pe_var hN hv hd hcd) pe_int set_list ha) hsw hw h1) fun D σ H ⟨pn, ω, δ, φ, s, o⟩ => ⟨ω, δ, φ, s, (Out.bind o).mono (fun r hr ω1 H1 φ1 v st1 s1 rp => ?_) fun _ _ z => z⟩
  obtain ⟨xs, d, e1, e2, hr⟩ := itemAt_inv (Out.bind hr)
  obtain ⟨xs', e3, hr⟩ := listAt_inv (Out.bind (Out.bind hr))
  rw [e1] at e3
  cases e3
  obtain ⟨a, vs, w, fk, k1, k2, k3, k4, k5, k6, _, k8⟩ := s1.place hs e1 e2
  obtain ⟨s2, st2⟩ := k8 v r.1 rfl rp
  have hlt : k < vs.length := (List.getElem?_eq_some_iff.mp k3).1
  refine ⟨_, k1, a, vs, (k : Int), k, rfl, rfl, k2, ?_, hr ω1 _ σ φ1 (st1.trans st2) s2 pn⟩
  unfold ixN
  rw [if_pos (by omega),
            if_pos (by omega)]
  simp
end
end Zd

namespace Zd
open PySem PySem.Spec
open PyProof.Rows L2

/-! ### defs by name -/
structure Hs (P : Program) (w : World) (K : PySem.W.Frag) (mg : Str → Option Value) (base : Heap) (k : Nat) (x : Str) (st : Stmt) (ps : List Str) (sp : Sp) : Prop where
  ex : ∃ f fd, Fun K x x st f fd ∧ mg x = some (.ref f) ∧ Binds K fd ps [] ∧ FnOk P w K mg base (L2.CX P w) k f fd ps sp
/-- what is known of a def before its promise -/
structure Df (K : PySem.W.Frag) (mg : Str → Option Value) (x : Str) (st : Stmt) (ps : List Str) (f : Addr) (fd : FuncData) : Prop where
  fn : Fun K x x st f fd
  at_ : mg x = some (.ref f)
  bd : Binds K fd ps []
theorem Df.hs {P : Program} {w : World} {K : PySem.W.Frag} {mg : Str → Option Value} {base : Heap} {k : Nat} {x : Str} {st : Stmt} {ps : List Str} {f : Addr} {fd : FuncData} {sp : Sp} (d : Df K mg x st ps f fd) (h : FnOk P w K mg base (L2.CX P w) k f fd ps sp) : Hs P w K mg base k x st ps sp := ⟨f, fd, d.fn, d.at_, d.bd, h⟩
theorem fnok_no {P : Program} {w : World} {K : PySem.W.Frag} {mg : Str → Option Value} {base : Heap} {k : Nat} {f : Addr} {fd : FuncData} {ps : List Str} {cls : Cl} {s : Sh} {n : Nat} : FnOk P w K mg base (L2.CX P w) k f fd ps (spP K cls s n fun _ => .no) :=
  ⟨fun _ _ _ _ ⟨_, _, _, _, _, z⟩ => z.elim, fun _ _ _ _ _ _ _ _ _ _ _ _ _ ⟨_, _, _, _, _, z⟩ => z.elim⟩
section
variable {X : Cx} {G : Gm} {k j : Nat} {st : Stmt} {ps : List Str} {x : Str} {p pos : Pos} {e : Expr} {es : List Expr}
theorem hc {n : Nat} {F : List D → Rs D} {s : Sh} {m : Sm} (h : Hs X.prog X.w X.K X.mg X.base k x st ps (spP G.K G.cls s n F)) (hr : Room j X.A) (hkj : k ≤ j) (hx : Passes (L2.CX X.prog X.w) X G.E) (ha : PA X (e :: es) (tS G m)) (hl : Len n m)
    (hn : ps.length = n := by rfl) (hg : Gl X x := by rfl) (hdb : (x == ("__debug__" : Str)) = false := by decide) (he : starEach (e :: es) X.env = (false, eval e X.env) :: starEach es X.env := by rfl) (hpl : (backTo pos (starEach es X.env)).any (·.1) = false := by rfl) :
    PE X (.Call (.Name x p) (e :: es) [] pos) (tO G s (mCall F m)) := by
  obtain ⟨f, fd, F1, hm, hb, hf⟩ := h.ex
  exact xcO hf (hr.mono hkj) hm F1.kp hb hx ha hl hn hg hdb he hpl
theorem hc0 {F : List D → Rs D} {s : Sh} (h : Hs X.prog X.w X.K X.mg X.base k x st ps (spP G.K G.cls s 0 F)) (hr : Room j X.A) (hkj : k ≤ j) (hx : Passes (L2.CX X.prog X.w) X G.E)
    (hn : ps.length = 0 := by rfl) (hg : Gl X x := by rfl) (hdb : (x == ("__debug__" : Str)) = false := by decide) : PE X (.Call (.Name x p) [] [] pos) (tO G s (mCall F sNil)) := by
  obtain ⟨f, fd, F1, hm, hb, hf⟩ := h.ex
  exact xc0 hf (hr.mono hkj) hm F1.kp hb hx hn hg hdb
theorem hcM (i : Nat) {n : Nat} {F : List D → Rs (D × D)} {s0 s : Sh} {m : Sm} {y : Str} {py : Pos} (h : Hs X.prog X.w X.K X.mg X.base k x st ps (spM G.K G.cls s0 s (n + 1) F)) (hr : Room j X.A) (hkj : k ≤ j) (hx : Passes (L2.CX X.prog X.w) X G.E)
    (ha : PA X es (tS G m)) (hl : Len n m) (hs0 : G.κ i = s0 := by rfl) (hN : X.N[i]? = some y := by rfl) (hv : Vis X.env.scope y := by first | exact Or.inl rfl | exact Or.inr (Or.inl rfl) | exact Or.inr (Or.inr rfl)) (hyd : (y == ("__debug__" : Str)) = false := by decide)
    (hcd : (y == ("__classdict__" : Str)) = false := by decide) (hg : Gl X x := by rfl) (hdb : (x == ("__debug__" : Str)) = false := by decide) (he : starEach (.Name y py :: es) X.env = (false, eval (.Name y py) X.env) :: starEach es X.env := by rfl) (hpl : (backTo pos (starEach es X.env)).any (·.1) = false := by rfl) :
    PE X (.Call (.Name x p) (.Name y py :: es) [] pos) (tO G s (mCallM i F m)) := by
  obtain ⟨f, fd, F1, hm, hb, hf⟩ := h.ex
  exact xcM i hf (hr.mono hkj) hm F1.kp hb hx ha hl hs0 hN hv hyd hcd hg hdb he hpl
end

/-! ### keywords -/
def pick {α : Type} (js : List Nat) (l : List α) : List α := js.filterMap (l[·]?)
def gK {α : Type} (n0 n1 : Nat) (js : List Nat) (us ws : List α) : List α := if us.length = n0 ∧ ws.length = n1 then pick js (us ++ ws) else []
theorem vals_app {vs zs : List V} {us ws : List Value} (h : Vals vs us) (h' : Vals zs ws) : Vals (vs ++ zs) (us ++ ws) := h.append h'
theorem vals_pick {vs : List V} {us : List Value} (h : Vals vs us) : ∀ js : List Nat, Vals (pick js vs) (pick js us)
  | [] => .nil
  | j :: js => by
    unfold pick
    have ih := vals_pick h js
    unfold pick at ih
    cases e : vs[j]? with
    | none =>
      have e2 : us[j]? = none := by
        rw [List.getElem?_eq_none_iff] at e ⊢
        rw [← h.length]
        exact e
      rw [List.filterMap_cons_none e, List.filterMap_cons_none e2]
      exact ih
    | some v =>
      obtain ⟨u, e2, r⟩ := h.get e
      rw [List.filterMap_cons_some e, List.filterMap_cons_some e2]
      exact .cons r ih
theorem reps_pick {K : PySem.W.Frag} {ω : Om} {H : Hp} {vs : List V} {ds : List D} (h : Reps K ω H vs ds) : ∀ js : List Nat, Reps K ω H (pick js vs) (pick js ds)
  | [] => .nil
  | j :: js => by
    unfold pick
    have ih := reps_pick h js
    unfold pick at ih
    cases e : vs[j]? with
    | none =>
      have e2 : ds[j]? = none := by
        rw [List.getElem?_eq_none_iff] at e ⊢
        rw [← h.length]
        exact e
      rw [List.filterMap_cons_none e, List.filterMap_cons_none e2]
      exact ih
    | some v =>
      obtain ⟨u, e2, r⟩ := h.get e
      rw [List.filterMap_cons_some e, List.filterMap_cons_some e2]
      exact .cons r ih
theorem kb_of {K : PySem.W.Frag} {x qual : Str} {st : Stmt} {f : Addr} {fd : FuncData} {ps ks : List Str} (F : Fun K x qual st f fd) (n0 n1 : Nat) (js : List Nat) (hp : ps.length ≠ 0)
    (h : ∀ (kV doc pm : Value) (an : Option Addr) (cdv ct : Value) (us ws : List Value), us.length = n0 → ws.length = n1 → bindArgs (PySem.W.fnOf x qual (defArgs st) (defBody st) (defScope st) .none kV doc pm an cdv ct) ⟨us, ks.zip ws⟩ = pure (ps.zip (pick js (us ++ ws)))) : KBinds K fd ps ks (gK n0 n1 js) (gK n0 n1 js) := by
  obtain ⟨oc, od, kV, doc, pm, an,
            cdv, ct, osl, rfl, lk, hcd⟩ := F.ex
  refine ⟨fun s us ws _ hl => ?_, fun {vs us zs ws} r r2 => ?_⟩
  · unfold gK at hl ⊢
    split at hl
    · rename_i hc
      rw [if_pos hc]
      exact .of_eq (h kV doc pm an cdv ct us ws hc.1 hc.2)
    · exact absurd hl.symm hp
  · unfold gK
    rw [r.length, r2.length]
    split
    · exact vals_pick (vals_app r r2) js
    · exact .nil
def mCallK (js : List Nat) (F : List D → Rs D) (m n : Sm) : Em := fun δ => m δ >>= fun r => n r.2 >>= fun q => F (pick js (r.1 ++ q.1)) >>= fun d => .ok (d, q.2)
section
variable {X : Cx} {G : Gm} {k j : Nat} {st : Stmt} {ps ks : List Str} {x : Str} {p pos kpos : Pos} {e : Expr} {es : List Expr} {kws : List Keyword} {nm : Option Str}
theorem pk_if {t t' : TA} (h : PK X kws t) (w : ∀ σ H Q, t' σ H Q → t σ H Q) : PK X kws t' := ⟨fun pos pins s σ H Q I q => h.run pos pins s σ H Q I (w σ H Q q)⟩
theorem kn : PK X [] (tS G sNil) := pk_if pk_nil fun σ H Q ⟨ω, δ, φ, s, o⟩ => o ω H φ [] s.refl s .nil
theorem kc {m : Em} {n : Sm} (h : PE X e (tI G m)) (hr : PK X kws (tS G n)) : PK X (⟨nm, e, kpos⟩ :: kws) (tS G (sCons m n)) := by
  refine pk_if (pk_cons h hr) fun σ H Q ⟨ω, δ, φ, s, o⟩ => ⟨ω, δ, φ, s, (Out.bind o).mono (fun r h1 ω' H' φ' v st s' rp => ⟨ω', r.2, φ', s', (Out.bind h1).mono (fun q hq ω2 H2 φ2 vs st2 s2 r2 => ?_) fun _ _ z => z.up st⟩) fun _ _ z => z⟩
  exact hq ω2 H2 φ2 (v :: vs) (st.trans st2) s2 (.cons (Rep.up rp st2.grow) r2)
theorem pick_len {js : List Nat} {n : Nat} (hj : ∀ j ∈ js, j < n) : ∀ {α : Type} (l : List α), l.length = n → (pick js l).length = js.length := by
  intro α l hl
  unfold pick
  induction js with
  | nil => rfl
  | cons j js ih =>
    have : l[j]? = some (l[j]'(by rw [hl]; exact hj j List.mem_cons_self)) := List.getElem?_eq_getElem _
    rw [List.filterMap_cons_some this, List.length_cons, List.length_cons, ih fun a h => hj a (List.mem_cons_of_mem _ h)]
theorem callK_of {n n0 n1 : Nat} {js : List Nat} {F : List D → Rs D} {s : Sh} {m m2 : Sm} {σ : L2.St} {H : Hp} {Q : VK} (hj : ∀ j ∈ js, j < n0 + n1) (hjn : js.length = n) (h : tO G s (mCallK js F m m2) σ H Q) (hl : Len n0 m) (hl2 : Len n1 m2) : tCallK (spP G.K G.cls s n F) (gK n0 n1 js) G.E (tS G m) (tS G m2) σ H Q := by
  obtain ⟨ω, δ, φ, sl, o⟩ := h
  have o1 := Out.bind o
  refine ⟨ω, δ, φ, sl, ?_⟩
  cases em : m δ with
  | no => rw [em] at o1; exact o1.elim
  | ex c a => rw [em] at o1; exact o1
  | ok r =>
    rw [em] at o1
    intro ω' H' φ' vs st s' rp
    have o1 := Out.bind (show Out (m2 r.2 >>= _) _ _ from o1)
    refine ⟨ω', r.2, φ', s', ?_⟩
    cases em2 : m2 r.2 with
    | no => rw [em2] at o1; exact o1.elim
    | ex c a => rw [em2] at o1; exact Esc.up o1 st
    | ok r' =>
      rw [em2] at o1
      intro ω'' H'' φ'' zs st' s'' rp'
      have o2 : Out (F (pick js (r.1 ++ r'.1)) >>= fun d => .ok (d, r'.2)) _ _ := o1
      have l1 := hl δ r em
      have l2 := hl2 r.2 r' em2
      have rp2 := (rp.up st'.grow).append rp'
      have e : gK n0 n1 js vs zs = pick js (vs ++ zs) := by unfold gK; rw [if_pos ⟨by rw [rp.length, l1], by rw [rp'.length, l2]⟩]
      rw [e]
      have stt := st.trans st'
      refine ⟨by rw [pick_len hj _ (by rw [rp2.length, List.length_append, l1, l2]), hjn], ω'', pick js (r.1 ++ r'.1), s''.wf, reps_pick rp2 js, (Out.bind o2).mono (fun d hd ω2 H2 v f2 st2 wf2 ow nd hf => ?_) fun c a z => ?_⟩
      · have s2 := s''.frame st2 (fun _ _ z => z) wf2
        have fresh : ∀ a ∈ f2, H'' a = none := fun a ha => (st2.fp a ha).resolve_left id
        refine hd ω2 H2 φ'' v f2 (stt.trans ⟨fun a o h _ => st2.keep a o h id, st2.om, fun a h _ => st2.stay a h id, fun a z => z.elim .inl fun z => .inr (fresh a z), s''.sub, s''.wf⟩) s2 ow nd fun a ha => ⟨hf a ha, fun z => ?_⟩
        obtain ⟨xs, q⟩ := s''.wf a (s''.sub a z)
        rw [fresh a ha] at q; cases q
      · exact fun ω2 P2 H2 dx v st2 e2 r2 => z ω2 P2 H2 dx v (stt.trans ⟨fun a o h n => st2.keep a o h (fun z => z), st2.om, fun a h _ => st2.stay a h id, fun a z => (st2.fp a z).elim False.elim .inr, s''.sub, s''.wf⟩) e2 r2
theorem hcK (n0 n1 : Nat) (js : List Nat) {n : Nat} {F : List D → Rs D} {s : Sh} {m m2 : Sm} (h : Hs X.prog X.w X.K X.mg X.base k x st ps (spP G.K G.cls s n F)) (hr : Room j X.A) (hkj : k ≤ j) (hx : Passes (L2.CX X.prog X.w) X G.E) (ha : PA X (e :: es) (tS G m)) (hl : Len n0 m) (hkw : PK X kws (tS G m2)) (hl2 : Len n1 m2)
    (hb : ∀ (kV doc pm : Value) (an : Option Addr) (cdv ct : Value) (us ws : List Value), us.length = n0 → ws.length = n1 → bindArgs (PySem.W.fnOf x x (defArgs st) (defBody st) (defScope st) .none kV doc pm an cdv ct) ⟨us, ks.zip ws⟩ = pure (ps.zip (pick js (us ++ ws))))
    (hj : ∀ j ∈ js, j < n0 + n1 := by decide) (hjn : js.length = n := by rfl) (hp : ps.length ≠ 0 := by decide) (hg : Gl X x := by rfl) (hall : (backToKw pos (keywordEach kws X.env)).all (·.1.isSome) = true := by rfl) (hks : (backToKw pos (keywordEach kws X.env)).filterMap (·.1) = ks := by rfl)
    (hdb : (x == ("__debug__" : Str)) = false := by decide) (he : starEach
              (e :: es) X.env = (false, eval e X.env) :: starEach es X.env := by rfl)
    (hpl : ((backTo pos (starEach (e :: es) X.env)).any (·.1) || (backToKw
              pos (keywordEach kws X.env)).any (·.1.isNone)) = false := by rfl) :
    PE X (.Call (.Name x p) (e :: es) kws pos) (tO G s (mCallK js F m m2)) := by
  obtain ⟨f, fd, F1, hm, _, hf⟩ := h.ex
  exact pe_if (pe_callK hf (hr.mono hkj) hg hm F1.kp (kb_of F1 n0 n1 js hp hb) hx ha hkw hall hks hdb he hpl) fun σ H Q q => callK_of hj hjn q hl hl2
theorem pe_callK0 {CX : CXT} {f : Addr} {fd : FuncData} {sp : Sp} {E : XK} {tk : TA} {g : List Value → List Value → List Value} {gV : List V → List V → List V} (F : FnOk X.prog X.w X.K X.mg X.base CX k f fd ps sp) (hr : Room k X.A) (hg : Gl X x) (hm : X.mg x = some (.ref f)) (hk : PySem.W.keepIn X.K (.ref f) = true) (hb : KBinds X.K fd ps ks g gV) (hx : Passes CX X E)
    (hkw : PK X kws tk) (hall : (backToKw pos (keywordEach kws X.env)).all (·.1.isSome) = true) (hks : (backToKw pos (keywordEach kws X.env)).filterMap (·.1) = ks) (hdb : (x == ("__debug__" : Str)) = false)
    (hpl : ((backTo pos (starEach [] X.env)).any (·.1) || (backToKw pos (keywordEach kws X.env)).any (·.1.isNone)) = false) :
    PE X (.Call (.Name x p) [] kws pos) (tCallK sp gV E tNil tk) := by
  refine ⟨fun pins s
            σ H Q I h => ?_⟩
  refine wpAny_Call_Name_kw (ld_glob
            I hg hm ?_ hdb)
  refine PySem.W.callWith_KW0 (h₀ := X.base) I.ok.mod.kin hk hall (thn (hkw.run pos pins s σ H _ I h) fun ws s2 ⟨zs, H2, I2, rz, q2⟩ => ⟨I2.kIn, ?_⟩) hpl
  rw [hks]
  exact run_fnk F hr hb hx I2 .nil rz q2
theorem hcK0 (n1 : Nat) (js : List Nat) {n : Nat} {F : List D → Rs D} {s : Sh} {m2 : Sm} (h : Hs X.prog X.w X.K X.mg X.base k x st ps (spP G.K G.cls s n F)) (hr : Room j X.A) (hkj : k ≤ j) (hx : Passes (L2.CX X.prog X.w) X G.E) (hkw : PK X kws (tS G m2)) (hl2 : Len n1 m2)
    (hb : ∀ (kV doc pm : Value) (an : Option Addr) (cdv ct : Value) (us ws : List Value), us.length = 0 → ws.length = n1 → bindArgs (PySem.W.fnOf x x (defArgs st) (defBody st) (defScope st) .none kV doc pm an cdv ct) ⟨us, ks.zip ws⟩ = pure (ps.zip (pick js (us ++ ws))))
    (hj : ∀ j ∈ js, j < 0 + n1 := by decide) (hjn : js.length = n := by rfl) (hp : ps.length ≠ 0 := by decide) (hg : Gl X x := by rfl) (hall : (backToKw pos (keywordEach kws X.env)).all (·.1.isSome) = true := by rfl) (hks : (backToKw pos (keywordEach kws X.env)).filterMap (·.1) = ks := by rfl)
    (hdb : (x == ("__debug__" : Str)) = false := by decide)
    (hpl : ((backTo pos (starEach [] X.env)).any (·.1) || (backToKw pos
              (keywordEach kws X.env)).any (·.1.isNone)) = false := by rfl) :
    PE X (.Call (.Name x p) [] kws pos) (tO G s (mCallK js F sNil m2)) := by
  obtain ⟨f, fd, F1, hm, _, hf⟩ := h.ex
  refine pe_if (pe_callK0 hf (hr.mono hkj) hg hm F1.kp (kb_of F1 0 n1 js hp hb) hx hkw hall hks hdb hpl) fun σ H Q q => ?_
  obtain ⟨ω, δ, φ, s1, q1⟩ := callK_of hj hjn q len0 hl2
  exact q1 ω H φ [] s1.refl s1 .nil
end

/-! ### while, whatever it takes -/
open Classical in
noncomputable def loopA (t : Tm) (m : Pm) : Pm := fun δ => if h : ∃ n, loopW t m n δ ≠ .no then loopW t m (choose h) δ else .no
theorem loopW_up {t : Tm} {m : Pm} : ∀ (n : Nat) (δ : Dl), loopW t m n δ ≠ .no → ∀ k, loopW t m (n + k) δ = loopW t m n δ
  | 0, δ, h, _ => absurd rfl h
  | n + 1, δ, h, k => by
    rw [show n + 1 + k = (n + k) + 1 by omega]
    unfold loopW at h ⊢
    cases e1 : t δ with
    | no => rfl
    | ex c a => rfl
    | ok r =>
      rw [e1] at h
      simp only [ok_bind] at h ⊢
      by_cases hr : r.1 = true
      · rw [if_pos hr] at h
        rw [if_pos hr, if_pos hr]
        cases e2 : m r.2 with
        | no => rfl
        | ex c a => rfl
        | ok q =>
          rw [e2] at h
          simp only [ok_bind] at h ⊢
          cases e3 : q.1 with
          | nx => simp only [e3] at h ⊢; exact loopW_up n q.2 h k
          | ct => simp only [e3] at h ⊢; exact loopW_up n q.2 h k
          | bk => rfl
          | rt d => rfl
      · rw [if_neg hr, if_neg hr]
theorem loopA_of {t : Tm} {m : Pm} {n : Nat} {δ : Dl} (h : loopW t m n δ ≠ .no) : loopA t m δ = loopW t m n δ := by
  have ex : ∃ n, loopW t m n δ ≠ .no := ⟨n, h⟩
  unfold loopA
  rw [dif_pos ex]
  have h2 := Classical.choose_spec ex
  rw [← loopW_up n δ h (Classical.choose ex), ← loopW_up _ δ h2 n, Nat.add_comm]
theorem loopA_eq (t : Tm) (m : Pm) (δ : Dl) : loopA t m δ = (t δ >>= fun r => if r.1 = true then m r.2 >>= fun q => match q.1 with
    | .nx => loopA t m q.2
    | .ct => loopA t m q.2
    | .bk => .ok (.nx, q.2)
    | .rt d => .ok (.rt d, q.2)
  else .ok (.nx, r.2)) := by
  have st : ∀ n, loopW t m (n + 1) δ ≠ .no → loopW t m (n + 1) δ = (t δ >>= fun r => if r.1 = true then m r.2 >>= fun q => match q.1 with
    | .nx => loopA t m q.2
    | .ct => loopA t m q.2
    | .bk => .ok (.nx, q.2)
    | .rt d => .ok (.rt d, q.2)
  else .ok (.nx, r.2)) := by
    intro n h
    unfold loopW at h ⊢
    cases e1 : t δ with
    | no => rfl
    | ex c a => rfl
    | ok r =>
      rw [e1] at h
      simp only [ok_bind] at h ⊢
      by_cases hr : r.1 = true
      · rw [if_pos hr] at h
        rw [if_pos hr, if_pos hr]
        cases e2 : m r.2 with
        | no => rfl
        | ex c a => rfl
        | ok q =>
          rw [e2] at h
          simp only [ok_bind] at h ⊢
          cases e3 : q.1 with
          | nx => simp only [e3] at h ⊢; exact (loopA_of h).symm
          | ct => simp only [e3] at h ⊢; exact (loopA_of h).symm
          | bk => rfl
          | rt d => rfl
      · rw [if_neg hr, if_neg hr]
  by_cases h : ∃ n, loopW t m n δ ≠ .no
  · obtain ⟨n, h⟩ := h
    cases n with
    | zero => exact absurd rfl h
    | succ n => rw [loopA_of h]; exact st n h
  · have hn : ∀ n, loopW t m n δ = .no := fun n => Classical.byContradiction fun z => h ⟨n, z⟩
    have e0 : loopA t m δ = .no := by unfold loopA; rw [dif_neg h]
    rw [e0]
    cases e1 : t δ with
    | no => rfl
    | ex c a => exact absurd (hn 1) (by unfold loopW; rw [e1]; intro z; cases z)
    | ok r =>
      simp only [ok_bind]
      by_cases hr : r.1 = true
      · rw [if_pos hr]
        cases e2 : m r.2 with
        | no => rfl
        | ex c a => exact absurd (hn 1) (by unfold loopW; rw [e1]; simp only [ok_bind]; rw [if_pos hr, e2]; intro z; cases z)
        | ok q =>
          simp only [ok_bind]
          have inner : (q.1 = .nx ∨ q.1 = .ct) → loopA t m q.2 = .no := fun hq => by
            unfold loopA
            rw [dif_neg]
            rintro ⟨n, z⟩
            refine z ?_
            have := hn (n + 1)
            unfold loopW at this
            rw [e1] at this
            simp only [ok_bind] at this
            rw [if_pos hr, e2] at this
            simp only [ok_bind] at this
            rcases hq with hq | hq <;> simpa only [hq] using this
          cases e3 : q.1 with
          | nx => simp only []; exact (inner (.inl e3)).symm
          | ct => simp only []; exact (inner (.inr e3)).symm
          | bk => exact absurd (hn 1) (by unfold loopW; rw [e1]; simp only [ok_bind]; rw [if_pos hr, e2]; simp only [ok_bind, e3]; intro z; cases z)
          | rt d => exact absurd (hn 1) (by unfold loopW; rw [e1]; simp only [ok_bind]; rw [if_pos hr, e2]; simp only [ok_bind, e3]; intro z; cases z)
      · exact absurd (hn 1) (by unfold loopW; rw [e1]; simp only [ok_bind]; rw [if_neg hr]; intro z; cases z)
section
variable {X : Cx} {G : Gs} {σ0 : L2.St} {c : Expr} {a : List Stmt} {pos : Pos}
theorem pwA {t : Tm} {m : Pm} (hp : PassesOwn (model X.prog X.w) X.A X.env X.xe) (hc : PT X c (tT G.toGm t)) (hb : PSs X a (tP G σ0 m)) : PS X (.While c a [] pos) (tP G σ0 (loopA t m)) := by
  refine ⟨fun pins s σ H D I q => ?_⟩
  obtain ⟨p, ω, δ, φ, sl, o⟩ := q
  by_cases h : ∃ n, loopW t m n δ ≠ .no
  · obtain ⟨n, h⟩ := h
    rw [loopA_of h] at o
    exact (pw n hp hc hb).run pins s σ H D I ⟨p, ω, δ, φ, sl, o⟩
  · unfold loopA at o
    rw [dif_neg h] at o
    exact o.elim
theorem psu {N : List Str} {P : Program} {w : World} {K : PySem.W.Frag} {mg : Str → Option Value} {base : Heap} {qual : Str} {scope : Scope} {f : Addr} {cd : Value} {A : Around} {outer : List Env} {s : Shared} {H : Hp} {E : XK} : PassesOwn (model P w) (cxOf (L2.CX P w) P w K mg base N qual scope f cd A outer s H E).A (cxOf (L2.CX P w) P w K mg base N qual scope f cd A outer s H E).env (cxOf (L2.CX P w) P w K mg base N qual scope f cd A outer s H E).xe :=
  passes_of (X := cxOf (L2.CX P w) P w K mg base N qual scope f cd A outer s H E) rfl
end

/-! ### a list with a list of ours in it -/
def mRc2 (m n : Em) : Em := fun δ => m δ >>= fun r => n r.2 >>= fun q => .ok (.list [r.1, q.1], q.2)
section
variable {X : Cx} {G : Gm} {a b : Expr} {pos : Pos}
theorem xRc2 {s : Sh} {m n : Em} (ha : PE X a (tO G s m)) (hb : PE X b (tI G n)) (h1 : starEach [a, b] X.env = (false, eval a X.env) :: starEach [b] X.env := by rfl) (h2 : starEach [b] X.env = (false, eval b X.env) :: starEach [] X.env := by rfl) :
    PE X (.List [a, b] pos) (tO G (.rc [s, .im]) (mRc2 m n)) := by
  refine pe_if (pe_lst (pa_cons ha (pa_cons hb pa_nil h2) h1)) fun σ H Q ⟨ω, δ, φ, sl, o⟩ => ⟨ω, δ, φ, sl, (Out.bind o).mono (fun r hr ω1 H1 φ1 v f st1 s1 ow nd hf => ⟨ω1, r.2, φ1, s1, (Out.bind hr).mono (fun q hq ω2 H2 φ2 y st2 s2 ry => ⟨by show 2 ≤ sizeLine; decide, fun p hp => ?_⟩) fun c z q => ?_⟩) fun _ _ z => z⟩
  · have lst : ∀ a ∈ f, ∃ xs, H1 a = some (.lst xs) := fun a ha => s1.wf a (hf a ha).1
    have keepf : ∀ a ∈ f, H2 a = H1 a := fun a ha => by
      obtain ⟨xs, e⟩ := lst a ha
      rw [e, st2.keep a _ e (hf a ha).2]
    have nf2 : ∀ a ∈ f, ¬ Fp φ2 a := fun a ha z => by
      rcases st2.fp a z with z | z
      · exact (hf a ha).2 z
      · obtain ⟨xs, e⟩ := lst a ha
        rw [e] at z; cases z
    have pf : p ∉ f := fun z => by
      obtain ⟨xs, e⟩ := lst p z
      rw [keepf p z, e] at hp; cases hp
    have ow2 : Own G.K ω2 H2 s v r.1 f := Own.mono st2.grow _ _ _ _ keepf ow
    have ex := Ext.upd (o := HO.lst [v, y]) hp
    have wf3 : ∀ a, ω2 a ∨ a = p → ∃ xs, (upd H2 p (.lst [v, y])) a = some (.lst xs) := fun a h => by
      rcases h with h | rfl
      · obtain ⟨xs, q⟩ := s2.wf a h
        exact ⟨xs, ex a _ q⟩
      · exact ⟨[v, y], upd_same⟩
    have np : ¬ Fp φ2 p := fun z => by
      obtain ⟨xs, q⟩ := s2.wf p (s2.sub p z)
      rw [hp] at q; cases q
    have gr : Grow ω2 H2 (fun a => ω2 a ∨ a = p) (upd H2 p (.lst [v, y])) := ⟨fun a o h _ => ex a o h, s2.wf, fun a z => z.elim .inl fun e => .inr (e ▸ hp)⟩
    have ow3 : Own G.K (fun a => ω2 a ∨ a = p) (upd H2 p (.lst [v, y])) s v r.1 f := Own.mono gr _ _ _ _ (fun a ha => by
      obtain ⟨xs, e⟩ := lst a ha
      rw [keepf a ha, e]
      exact ex a _ ((keepf a ha).trans e)) ow2
    have st13 : Step ω (Fp φ) H ω2 (fun a => Fp φ2 a ∨ a ∈ f) H2 := by
      have st2' : Step ω1 (fun a => Fp φ1 a ∨ a ∈ f) H1 ω2 (fun a => Fp φ2 a ∨ a ∈ f) H2 := ⟨fun a o h n => st2.keep a o h fun z => n (.inl z), st2.om, fun a h n => st2.stay a h fun z => n (.inl z), fun a z => z.elim (fun z => (st2.fp a z).imp .inl id) fun z => .inl (.inr z), fun a z => z.elim (st2.sub a) fun z => (hf a z).1, st2.wf⟩
      exact st1.trans st2'
    have of2 : ∀ a ∈ f, ω2 a := fun a ha => st2.stay a (hf a ha).1 (hf a ha).2
    have st3 : Step ω2 (fun a => Fp φ2 a ∨ a ∈ f) H2 (fun a => ω2 a ∨ a = p) (fun a => Fp φ2 a ∨ a ∈ p :: f) (upd H2 p (.lst [v, y])) :=
      ⟨fun a o e _ => ex a o e, fun a z => z.elim .inl fun e => .inr (e ▸ hp), fun a z _ => .inl z, fun a z => z.elim (fun z => .inl (.inl z)) fun z => (List.mem_cons.mp z).elim (fun e => .inr (e ▸ hp)) fun z => .inl (.inr z), fun a z => z.elim (s2.sub a) (of2 a), s2.wf⟩
    refine hq (fun a => ω2 a ∨ a = p) _ φ2 _ (p :: f) (st13.trans st3) (s2.more ex (fun a z => .inl z) (fun a z => z.elim .inl fun e => .inr (e ▸ hp)) wf3) ?_ (List.nodup_cons.mpr ⟨pf, nd⟩) fun a ha => ?_
    · have t : Owns G.K (fun a => ω2 a ∨ a = p) (upd H2 p (.lst [v, y])) [s, .im] [v, y] [r.1, q.1] (f ++ ([] ++ [])) := .cons ow3 (.cons (.im (Rep.up ry gr)) .nil)
      rw [List.append_nil, List.append_nil] at t
      exact .rc upd_same t
    · rcases (List.mem_cons.mp ha) with rfl | ha
      · exact ⟨.inr rfl, np⟩
      · exact ⟨.inl (of2 a ha), nf2 a ha⟩
  · have st1' : Step ω (Fp φ) H ω1 (Fp φ1) H1 := ⟨st1.keep, st1.om, st1.stay, fun a z => st1.fp a (.inl z), st1.sub, st1.wf⟩
    exact q.up st1'
theorem uEq {k : Nat} {f h : Um} (hr : Room k X.A) (nf : ∀ δ c a, f δ ≠ .ex c a) (nh : ∀ δ c a, h δ ≠ .ex c a) (ha : PE X a (tU G f)) (hb : PE X b (tU G h)) (hK : X.K = G.K := by rfl) : PT X (.Compare a [.Eq] [b] pos) (tT G (mT (mUB gEq f h))) := by
  refine pt_if (pt_cmpR (r := rEqP G.K) (hK ▸ op_eqP hr) ha hb (nomark _)) fun σ H Q q => u_core (Q := fun x H1 => ∃ c, x = .bl c ∧ Q c H1) bi_eq nx_eq nf nh ?_
  obtain ⟨ω, δ, φ, s, o⟩ := q
  refine ⟨ω, δ, φ, s, (Out.bind o).mono (fun r hr ω' H' φ' v st s' rp => ?_) fun _ _ z => z⟩
  obtain ⟨b, e1, h1⟩ := bool_inv (Out.bind hr)
  rw [e1] at rp
  cases rp
  exact ⟨b, rfl, h1 ω' H' φ' st s'⟩
end
theorem psx {P : Program} {w : World} {K : PySem.W.Frag} {mg : Str → Option Value} {base : Heap} {N : List Str} {qual : Str} {scope : Scope} {f : Addr} {cd : Value} {A : Around} {outer : List Env} {s : Shared} {H : Hp} {E : XK} : Passes (L2.CX P w) (cxOf (L2.CX P w) P w K mg base N qual scope f cd A outer s H E) E := passes_cx (ps := [])

/-! ### the law's own head -/
def noL (K : PySem.W.Frag) : Bool := K.all fun p => !(p.2.cls == Value.type "list")
theorem mem_lk {o : Obj} {a : Addr} : ∀ {K : PySem.W.Frag}, K.lookup a = some o → (a, o) ∈ K
  | [], h => by cases h
  | (b, p) :: K, h => by
    rw [List.lookup_cons] at h
    by_cases e : (a == b) = true
    · rw [e] at h
      have e2 : a = b := by simpa using e
      subst e2
      cases h
      exact List.mem_cons_self
    · rw [Bool.not_eq_true] at e
      rw [e] at h
      exact List.mem_cons_of_mem _ (mem_lk h)
theorem noL_at {K : PySem.W.Frag} (h : noL K = true) {a : Addr} {o : Obj} (e : K.lookup a = some o) : o.cls ≠ .type "list" := by
  have m := mem_lk e
  have := List.all_eq_true.mp h _ m
  intro z
  rw [z] at this
  simp at this
theorem reps_ints {K : PySem.W.Frag} {ω : Om} {H : Hp} : ∀ ns : List Int, Reps K ω H (ns.map V.int) (ns.map PyData.int)
  | [] => .nil
  | n :: ns => .cons (.int n) (reps_ints ns)
theorem top_ok {K : PySem.W.Frag} {cls : Cl} {r : List D → Rs D} (hK : noL K = true) (hr : ∀ ns : List Int, ns.length ≤ 63 → r [.list (ns.map .int)] = .ok (.bool true)) {H : Hp} {a : Addr} {ns : List Int} (hl : ns.length ≤ 63) (hO : Only H) (hS : SqL K H a (ns.map V.int)) :
    spP K cls .im 1 r [.ref a] H (fun v _ => v = .bl true) (fun _ _ _ => False) := by
  refine ⟨rfl, fun _ => False, [.list (ns.map .int)], fun _ z => z.elim, ?_, ?_⟩
  · rcases hS with hS | ⟨o, its, n, h1, h2, _⟩
    · exact .cons (.lst ⟨hS, fun z => z⟩ (reps_ints ns)) .nil
    · exact absurd h2 (noL_at hK h1)
  · rw [hr ns hl]
    intro ω' H' v f _ _ ow _ _
    have := ow.im_inv.1
    cases this
    rfl
theorem nx_vdiv {f h : Um} (nf : ∀ δ c a, f δ ≠ .ex c a) (nh : ∀ δ c a, h δ ≠ .ex c a) : ∀ δ c a, vB gDiv f h δ ≠ .ex c a := fun δ c a => bind_nx (nf δ) fun d c a => bind_nx (nh δ) fun e c a => nx_div d e c a
end Zd

namespace Zd
open PySem PySem.Spec
open PyProof.Rows L2

/-! ### plain facts of the runs -/
theorem bool_b (b : Bool) : bool (.bool b) = .ok b := rfl
theorem if_pos_t {α : Type} (x y : α) : (if true = true then x else y) = x := rfl
theorem if_false_b {α : Type} (x y : α) : (if false = true then x else y) = y := rfl
theorem ite_tt {α : Type} (x y : α) : (if True then x else y) = x := if_pos trivial
theorem if_true {α : Type} (x y : α) : (if False then x else y) = y := if_neg fun z => z
theorem atI0 {α : Type} (x : α) (xs : List α) : atI (x :: xs) 0 = some x := atI_nat (j := 0) rfl
theorem atI1 {α : Type} (x y : α) (xs : List α) : atI (x :: y :: xs) 1 = some y := atI_nat (j := 1) rfl
theorem atI2 {α : Type} (x y z : α) (xs : List α) : atI (x :: y :: z :: xs) 2 = some z := atI_nat (j := 2) rfl
theorem eqv_i (a b : Int) : PyData.eqv (.int a) (.int b) = (a == b) := by rw [PyData.eqv]
theorem depth_i (a : Int) : (PyData.int a).depth = 0 := by rw [PyData.depth]; all_goals (intros; nofun)
theorem gEq_i (a b : Int) : gEq (.int a) (.int b) = .ok (.bool (a == b)) := by
  unfold gEq
  rw [depth_i a, depth_i b, eqv_i, if_pos (by decide)]
theorem gNe_i (a b : Int) : gNe (.int a) (.int b) = .ok (.bool (!(a == b))) := by
  unfold gNe
  rw [depth_i a, depth_i b, eqv_i, if_pos (by decide)]
theorem depth_nil : (PyData.list []).depth = 1 := by rw [PyData.depth, PyData.depthAll]
theorem gNe_nil (xs : List D) : gNe (.list xs) (.list []) = .ok (.bool (!xs.isEmpty)) := by
  unfold gNe
  rw [depth_nil, if_pos (by omega)]
  cases xs with
  | nil => rw [PyData.eqv, PyData.eqvAll]; rfl
  | cons x xs => rw [PyData.eqv, PyData.eqvAll]; rfl; all_goals nofun
theorem gEq_nil (xs : List D) : gEq (.list xs) (.list []) = .ok (.bool xs.isEmpty) := by
  unfold gEq
  rw [depth_nil, if_pos (by omega)]
  cases xs with
  | nil => rw [PyData.eqv, PyData.eqvAll]; rfl
  | cons x xs => rw [PyData.eqv, PyData.eqvAll]; rfl; all_goals nofun
/-- a run that ends well -/
abbrev Ok {α : Type} (r : Rs α) (q : α → Prop) : Prop := ∃ a, r = .ok a ∧ q a
theorem loopF_ok {t : Tg} {m : Pm} {I : Dl → Prop} : ∀ (ds : List D) (δ : Dl), (∀ d ∈ ds, ∀ δ, I δ → ∃ δ1, t d δ = .ok δ1 ∧ Ok (m δ1) fun r => (r.1 = .nx ∨ r.1 = .ct) ∧ I r.2) → I δ → Ok (loopF t m ds δ) fun r => r.1 = .nx ∧ I r.2
  | [], δ, _, h => ⟨_, rfl, rfl, h⟩
  | d :: ds, δ, h, hi => by
    obtain ⟨δ1, e1, r, e2, e3, e4⟩ := h d List.mem_cons_self δ hi
    obtain ⟨a, e5, e6⟩ := loopF_ok ds r.2 (fun d hd => h d (List.mem_cons_of_mem _ hd)) e4
    refine ⟨a, ?_, e6⟩
    unfold loopF
    rw [e1, ok_bind, e2, ok_bind]
    rcases e3 with e3 | e3 <;> simpa only [e3] using e5
theorem pFor_ok {w : Sm} {t : Tg} {m : Pm} {I : Dl → Prop} {δ : Dl} {ds : List D} {δ0 : Dl} (hw : w δ = .ok (ds, δ0)) (h : ∀ d ∈ ds, ∀ δ, I δ → ∃ δ1, t d δ = .ok δ1 ∧ Ok (m δ1) fun r => (r.1 = .nx ∨ r.1 = .ct) ∧ I r.2) (hi : I δ0) : ∃ δ1, pFor w t m δ = .ok (.nx, δ1) ∧ I δ1 := by
  obtain ⟨⟨f, δ1⟩, e, e1, e2⟩ := loopF_ok ds δ0 h hi
  refine ⟨δ1, ?_, e2⟩
  unfold pFor
  rw [hw, ok_bind, e]
  cases e1
  rfl
theorem loopF_ix {t : Tg} {m : Pm} {I : Nat → Dl → Prop} (n : Nat) : ∀ (ds : List D) (i : Nat) (δ : Dl), i + ds.length ≤ n → (∀ d ∈ ds, ∀ i δ, i < n → I i δ → ∃ δ1, t d δ = .ok δ1 ∧ ∃ δ2, m δ1 = .ok (.nx, δ2) ∧ I (i + 1) δ2) → I i δ → ∃ δ2, loopF t m ds δ = .ok (.nx, δ2) ∧ I (i + ds.length) δ2
  | [], i, δ, _, _, h => ⟨_, rfl, h⟩
  | d :: ds, i, δ, hn, h, hi => by
    obtain ⟨δ1, e1, δ2, e2, e4⟩ := h d List.mem_cons_self i δ (by rw [List.length_cons] at hn; omega) hi
    obtain ⟨δ3, e5, e6⟩ := loopF_ix n ds (i + 1) δ2 (by rw [List.length_cons] at hn; omega) (fun d hd => h d (List.mem_cons_of_mem _ hd)) e4
    refine ⟨δ3, ?_, by rw [List.length_cons, show i + (ds.length + 1) = i + 1 + ds.length by omega]; exact e6⟩
    unfold loopF
    rw [e1, ok_bind, e2, ok_bind]
    exact e5
theorem pFor_ix {w : Sm} {t : Tg} {m : Pm} {I : Nat → Dl → Prop} {δ : Dl} {ds : List D} {δ0 : Dl} (hw : w δ = .ok (ds, δ0)) (h : ∀ d ∈ ds, ∀ i δ, i < ds.length → I i δ → ∃ δ1, t d δ = .ok δ1 ∧ ∃ δ2, m δ1 = .ok (.nx, δ2) ∧ I (i + 1) δ2) (hi : I 0 δ0) : ∃ δ1, pFor w t m δ = .ok (.nx, δ1) ∧ I ds.length δ1 := by
  obtain ⟨δ1, e, e2⟩ := loopF_ix ds.length ds 0 δ0 (by omega) h hi
  rw [Nat.zero_add] at e2
  refine ⟨δ1, ?_, e2⟩
  unfold pFor
  rw [hw, ok_bind, e]
theorem pSeq_nx {m n : Pm} {δ δ1 : Dl} (h : m δ = .ok (.nx, δ1)) : pSeq m n δ = n δ1 := by
  unfold pSeq
  rw [h, ok_bind]
theorem pSeq_rt {m n : Pm} {δ δ1 : Dl} {d : D} (h : m δ = .ok (.rt d, δ1)) : pSeq m n δ = .ok (.rt d, δ1) := by
  unfold pSeq
  rw [h, ok_bind]
theorem pIf_t {t : Tm} {m n : Pm} {δ δ1 : Dl} (h : t δ = .ok (true, δ1)) : pIf t m n δ = m δ1 := by
  unfold pIf
  rw [h, ok_bind]
  rfl
theorem pIf_f {t : Tm} {m n : Pm} {δ δ1 : Dl} (h : t δ = .ok (false, δ1)) : pIf t m n δ = n δ1 := by
  unfold pIf
  rw [h, ok_bind]
  rfl
theorem pRet_of {m : Em} {δ δ1 : Dl} {d : D} (h : m δ = .ok (d, δ1)) : pRet m δ = .ok (.rt d, δ1) := by
  unfold pRet
  rw [h, ok_bind]
theorem pSet_of {i : Nat} {m : Em} {δ δ1 : Dl} {d : D} (h : m δ = .ok (d, δ1)) (hi : i < δ1.length) : pSet i m δ = .ok (.nx, δ1.set i (some d)) := by
  unfold pSet put
  rw [h, ok_bind]
  dsimp only
  rw [if_pos hi, ok_bind]
theorem mB_of {g : D → D → Rs D} {m n : Em} {δ δ1 δ2 : Dl} {d e z : D} (h : m δ = .ok (d, δ1)) (h2 : n δ1 = .ok (e, δ2)) (hg : g d e = .ok z) : mB g (vA m) (vA n) δ = .ok (z, δ2) := by
  simp only [mB, vA, h, h2, hg, get, ok_bind]
theorem fRev_of {m : Em} {δ δ1 : Dl} {xs : List D} (h : m δ = .ok (.list xs, δ1)) : fRev (vA m) δ = .ok (xs.reverse, δ1) := by
  simp only [fRev, vA, h, get, ok_bind]
theorem eF_of {f : Fm} {δ δ1 : Dl} {xs : List D} (h : f δ = .ok (xs, δ1)) : eF f δ = .ok (.list xs, δ1) := by
  simp only [eF, h, ok_bind]
theorem mRc2_of {m n : Em} {δ δ1 δ2 : Dl} {d e : D} (h : m δ = .ok (d, δ1)) (h2 : n δ1 = .ok (e, δ2)) : mRc2 m n δ = .ok (.list [d, e], δ2) := by
  simp only [mRc2, h, h2, ok_bind]
theorem sCons_of {m : Em} {n : Sm} {δ δ1 δ2 : Dl} {d : D} {ds : List D} (h : m δ = .ok (d, δ1)) (h2 : n δ1 = .ok (ds, δ2)) : sCons m n δ = .ok (d :: ds, δ2) := by
  simp only [sCons, h, h2, ok_bind]
theorem mTup_of {m : Sm} {δ δ1 : Dl} {ds : List D} (h : m δ = .ok (ds, δ1)) (hl : ds.length ≤ 1000) : mTup m δ = .ok (.tuple ds, δ1) := by
  simp only [mTup, h, ok_bind, if_pos (Nat.le_of_lt (small1000 hl))]
theorem fLst_of {m : Sm} {δ δ1 : Dl} {ds : List D} (h : m δ = .ok (ds, δ1)) (hl : ds.length ≤ 1000) : fLst m δ = .ok (ds, δ1) := by
  simp only [fLst, h, ok_bind, if_pos (Nat.le_of_lt (small1000 hl))]
theorem mIf_t {t : Tm} {m n : Em} {δ δ1 : Dl} (h : t δ = .ok (true, δ1)) : mIf t m n δ = m δ1 := by
  unfold mIf
  rw [h, ok_bind]
  rfl
theorem mIf_f {t : Tm} {m n : Em} {δ δ1 : Dl} (h : t δ = .ok (false, δ1)) : mIf t m n δ = n δ1 := by
  unfold mIf
  rw [h, ok_bind]
  rfl
theorem pPar_of {i j : Nat} {m : Sm} {δ δ1 : Dl} {d e : D} (h : m δ = .ok ([d, e], δ1)) (hi : i < δ1.length) (hj : j < δ1.length) : pPar i j m δ = .ok (.nx, (δ1.set i (some d)).set j (some e)) := by
  have hj : j < (δ1.set i (some d)).length := by rw [List.length_set]; exact hj
  unfold pPar put
  rw [h, ok_bind]
  dsimp only
  rw [if_pos hi, ok_bind, if_pos hj, ok_bind]
theorem mCall_of {F : List D → Rs D} {m : Sm} {δ δ1 : Dl} {ds : List D} {d : D} (h : m δ = .ok (ds, δ1)) (hf : F ds = .ok d) : mCall F m δ = .ok (d, δ1) := by
  simp only [mCall, h, hf, ok_bind]
theorem mTr_of {m : Em} {δ δ1 : Dl} {b : Bool} (h : m δ = .ok (.bool b, δ1)) : mTr (vA m) δ = .ok (b, δ1) := by
  simp only [mTr, vA, h, get, tru, ok_bind]
theorem mNot_of {t : Tm} {δ δ1 : Dl} {b : Bool} (h : t δ = .ok (b, δ1)) : mNot t δ = .ok (!b, δ1) := by
  simp only [mNot, h, ok_bind]
theorem mOr_ff {t u : Tm} {δ δ1 δ2 : Dl} {b : Bool} (h : t δ = .ok (false, δ1)) (h2 : u δ1 = .ok (b, δ2)) : mOr t u δ = .ok (b, δ2) := by
  unfold mOr
  rw [h, ok_bind]
  exact h2
/-- not same: no -/
theorem same_no {e f : Em} {δ δ1 δ2 : Dl} {d : D} (h : e δ = .ok (d, δ1)) (h2 : f δ1 = .ok (d, δ2)) {R : List D → Rs D} (hs : R [d, d] = .ok (.bool true)) : mNot (mTr (vA (mCall R (sCons e (sCons f sNil))))) δ = .ok (false, δ2) :=
  mNot_of (b := true) (mTr_of (mCall_of (sCons_of h (sCons_of h2 rfl)) hs))
theorem fComp_of {vs : List Nat} {w : Sm} {t : Tg} {c : Tm} {e : Em} {δ δ1 δ2 : Dl} {xs ys : List D} (hw : w δ = .ok (xs, δ1)) (hl : xs.length ≤ sizeLine) (h : compF vs t c e xs δ1 = .ok (ys, δ2)) : eF (fComp vs w t c e) δ = .ok (.list ys, δ2) := by
  simp only [eF, fComp, hw, h, if_pos hl, nox, ok_bind]
/-- a comprehension that keeps all it makes, with f what it makes -/
theorem compF_map {vs : List Nat} {t : Tg} {c : Tm} {e : Em} {I : Dl → Prop} (f : D → D) (p : D → Bool) : ∀ (ds : List D) (δ : Dl),
    (∀ d ∈ ds, ∀ δ, I δ → ∃ δ1 δ2, t d (wipeD δ vs) = .ok δ1 ∧ c δ1 = .ok (p d, δ2) ∧ (p d = false → I (back δ δ2 vs)) ∧ (p d = true → ∃ δ3, e δ2 = .ok (f d, δ3) ∧ I (back δ δ3 vs))) → I δ →
    ∃ δ', compF vs t c e ds δ = .ok ((ds.filter p).map f, δ') ∧ I δ'
  | [], δ, _, h => ⟨δ, rfl, h⟩
  | d :: ds, δ, h, hi => by
    obtain ⟨δ1, δ2, e1, e2, e3, e4⟩ := h d List.mem_cons_self δ hi
    unfold compF
    rw [e1, ok_bind, e2, ok_bind]
    cases hp : p d with
    | false =>
      obtain ⟨δ', e5, e6⟩ := compF_map f p ds _ (fun d hd => h d (List.mem_cons_of_mem _ hd)) (e3 hp)
      exact ⟨δ', by rw [if_neg (by simp), e5, List.filter_cons_of_neg (by simp [hp])], e6⟩
    | true =>
      obtain ⟨δ3, e5, e6⟩ := e4 hp
      obtain ⟨δ', e7, e8⟩ := compF_map f p ds _ (fun d hd => h d (List.mem_cons_of_mem _ hd)) e6
      refine ⟨δ', ?_, e8⟩
      rw [if_pos rfl, e5, ok_bind, e7, List.filter_cons_of_pos (by simp [hp])]
      rfl
theorem wRng_of {m : Sm} {δ δ1 : Dl} {j : Int} (h : m δ = .ok ([.int j], δ1)) (h0 : 0 ≤ j) (h1 : j ≤ 1000000) : wRng m δ = .ok ((List.range j.toNat).map fun i => .int (i : Nat), δ1) := by
  have c : -(2 ^ 62) ≤ j ∧ j < 2 ^ 62 := ⟨by omega, by omega⟩
  unfold wRng
  rw [h]
  exact if_pos c
theorem range63 (n : Nat) : ((List.range n).map fun i => PyData.int (i : Nat)).length = n := by simp

/-! ### what the laws draw from -/
def dealD (xs : List Int) (b : Int) : D := .list [.list (xs.map .int), .int b]
def Deal (d : D) : Prop := ∃ (xs : List Int) (b : Int), d = dealD xs b ∧ (∀ x ∈ xs, 0 ≤ x) ∧ xs.length ≤ 63 ∧ 0 ≤ b ∧ b < 2147483647
noncomputable def b_law_any : Pm := (pSeq (loopA (mAnd (mT (mUB gNe (uAt 0 0) (uC (.list [])))) (mT (mB gEq (vA (mUB gIx (uAt 0 0) (uC (.int (-1))))) (vA (mC (.int 0)))))) (pEx (mPopIn 0 0)))
    (pSeq (pIf (mT (mUB gNe (uAt 0 0) (uC (.list [])))) (pSeq (pSet 2 (mL gInt (lCons (vA (mPopIn 0 0)) lNil)))
    (pSeq (pAppIn 0 0 (vB gDiv (fun δ => get δ (.r 2)) (fun δ => get δ (.r 1))))
    (pRet (mB gMod (vA (mV 2)) (vA (mV 1)))))) pNil)
    (pSeq (pPutAt 0 1 (mB gMod (vA (mL gInt (lCons (vA (mB gAdd (vA (mB gMul (vA (mAt 0 1)) (vA (mC (.int 40693))))) (vA (mC (.int 71))))) lNil))) (vA (mC (.int 2147483647)))))
    (pRet (mB gMod (vA (mL gInt (lCons (vA (mB gDiv (vA (mAt 0 1)) (vA (mC (.int 64))))) lNil))) (vA (mV 1)))))))
noncomputable def r_law_any : List D → Rs (D × D) := runM (.im) 3 b_law_any
noncomputable def b_law_of : Pm := (pRet (mB gIx (vA (mV 1)) (vA (mCallM 0 r_law_any (sCons (mL gLen (lCons (vA (mV 1)) lNil)) sNil)))))
noncomputable def r_law_of : List D → Rs (D × D) := runM (.im) 2 b_law_of
def zeros_t : Tm := (mAnd (mT (mUB gNe (uAt 0 0) (uC (.list [])))) (mT (mB gEq (vA (mUB gIx (uAt 0 0) (uC (.int (-1))))) (vA (mC (.int 0))))))
theorem zeros (m : Int) (b : Int) : ∀ (n : Nat) (xs : List Int), xs.length ≤ n → (∀ x ∈ xs, 0 ≤ x) → ∃ ys : List Int, loopA zeros_t (pEx (mPopIn 0 0)) [some (dealD xs b), some (.int m), none] = .ok (.nx, [some (dealD ys b), some (.int m), none]) ∧ (∀ x ∈ ys, 0 ≤ x) ∧ ys.length ≤ n
  | n, xs, hl, h0 => by
    rcases List.eq_nil_or_concat xs with rfl | ⟨zs, z, rfl⟩
    · refine ⟨[], ?_, fun _ h => absurd h (by simp), Nat.zero_le _⟩
      rw [loopA_eq]
      simp only [zeros_t, dealD, gNe_nil, List.isEmpty_nil, mV, mC, vA, rA, get, gets, mU, mB, mL, lNil, lCons, eF, bool_b, mT, mTr, mNot, mAnd, mOr, eNot, eAnd, eOr, mIf, sNil, sCons, mTup, fLst, mM, pNil, pSeq, pBk, pCt, pIf, pRet, put, pSet, pEx, gN, gE, gC, gT, pAs, pPar, pFor, fComp, tmY, flo, gAdd, gSub, gMul, gDiv, gMod, gPow, gNeg, gLt, gLe, gGt, gGe, gIs, gIsN, isNo, isBo, gIx, optR, oN, oS, toI, wSeq, seqOf, wZip, listAt, mApp, mPop, mPopAt, mAt, uAt, uC, mUB, mPopIn, vB, pAppIn, pPutAt, itemAt, putAt, mCall, mCallM, mCallK, mRc2, gIsi, isInt, isBool, isStr, isTup, isList, gLen, gAbs, gInt, gGcd, gMax, gMin, gTup, tru, ok_bind, no_bind, ex_bind, List.getElem?_cons_succ, List.getElem?_cons_zero, List.set_cons_succ, List.set_cons_zero, List.length_cons, List.length_nil, Nat.reduceAdd, Nat.reduceLT, Nat.reduceLeDiff, Nat.zero_add, if_true, if_pos_t, if_false_b, ite_tt, atI0, atI1, atI2, Bool.not_true, Bool.not_false, gEq_i, gNe_i, List.map_cons, List.map_nil, List.append_nil, List.nil_append, List.cons_append, List.replicate]
    · rw [List.concat_eq_append] at *
      by_cases hz : z = 0
      · cases n with
        | zero => simp at hl
        | succ n =>
          obtain ⟨ys, e, h1, h2⟩ := zeros m b n zs (by simp at hl; omega) fun x hx => h0 x (by simp [hx])
          refine ⟨ys, ?_, h1, by omega⟩
          rw [loopA_eq]
          have e1 : ((zs ++ [z]).map PyData.int).isEmpty = false := by simp
          have e2 : atI ((zs ++ [z]).map PyData.int) (-1) = some (.int z) := by rw [List.map_append]; exact atI_last _ _
          have e3 : ((zs ++ [z]).map PyData.int).getLast? = some (.int z) := by simp
          have e4 : ((zs ++ [z]).map PyData.int).dropLast = zs.map PyData.int := by simp
          have e5 : (z == 0) = true := by simp [hz]
          simp only [zeros_t, dealD, gNe_nil, e1, e2, e3, e4, e5, mV, mC, vA, rA, get, gets, mU, mB, mL, lNil, lCons, eF, bool_b, mT, mTr, mNot, mAnd, mOr, eNot, eAnd, eOr, mIf, sNil, sCons, mTup, fLst, mM, pNil, pSeq, pBk, pCt, pIf, pRet, put, pSet, pEx, gN, gE, gC, gT, pAs, pPar, pFor, fComp, tmY, flo, gAdd, gSub, gMul, gDiv, gMod, gPow, gNeg, gLt, gLe, gGt, gGe, gIs, gIsN, isNo, isBo, gIx, optR, oN, oS, toI, wSeq, seqOf, wZip, listAt, mApp, mPop, mPopAt, mAt, uAt, uC, mUB, mPopIn, vB, pAppIn, pPutAt, itemAt, putAt, mCall, mCallM, mCallK, mRc2, gIsi, isInt, isBool, isStr, isTup, isList, gLen, gAbs, gInt, gGcd, gMax, gMin, gTup, tru, ok_bind, no_bind, ex_bind, List.getElem?_cons_succ, List.getElem?_cons_zero, List.set_cons_succ, List.set_cons_zero, List.length_cons, List.length_nil, Nat.reduceAdd, Nat.reduceLT, Nat.reduceLeDiff, Nat.zero_add, if_true, if_pos_t, if_false_b, ite_tt, atI0, atI1, atI2, Bool.not_true, Bool.not_false, gEq_i, gNe_i, List.map_cons, List.map_nil, List.append_nil, List.nil_append, List.cons_append, List.replicate] at e ⊢
          exact e
      · refine ⟨zs ++ [z], ?_, h0, hl⟩
        rw [loopA_eq]
        have e1 : ((zs ++ [z]).map PyData.int).isEmpty = false := by simp
        have e2 : atI ((zs ++ [z]).map PyData.int) (-1) = some (.int z) := by rw [List.map_append]; exact atI_last _ _
        have e5 : (z == 0) = false := by simp [hz]
        simp only [zeros_t, dealD, gNe_nil, e1, e2, e5, mV, mC, vA, rA, get, gets, mU, mB, mL, lNil, lCons, eF, bool_b, mT, mTr, mNot, mAnd, mOr, eNot, eAnd, eOr, mIf, sNil, sCons, mTup, fLst, mM, pNil, pSeq, pBk, pCt, pIf, pRet, put, pSet, pEx, gN, gE, gC, gT, pAs, pPar, pFor, fComp, tmY, flo, gAdd, gSub, gMul, gDiv, gMod, gPow, gNeg, gLt, gLe, gGt, gGe, gIs, gIsN, isNo, isBo, gIx, optR, oN, oS, toI, wSeq, seqOf, wZip, listAt, mApp, mPop, mPopAt, mAt, uAt, uC, mUB, mPopIn, vB, pAppIn, pPutAt, itemAt, putAt, mCall, mCallM, mCallK, mRc2, gIsi, isInt, isBool, isStr, isTup, isList, gLen, gAbs, gInt, gGcd, gMax, gMin, gTup, tru, ok_bind, no_bind, ex_bind, List.getElem?_cons_succ, List.getElem?_cons_zero, List.set_cons_succ, List.set_cons_zero, List.length_cons, List.length_nil, Nat.reduceAdd, Nat.reduceLT, Nat.reduceLeDiff, Nat.zero_add, if_true, if_pos_t, if_false_b, ite_tt, atI0, atI1, atI2, Bool.not_true, Bool.not_false, gEq_i, gNe_i, List.map_cons, List.map_nil, List.append_nil, List.nil_append, List.cons_append, List.replicate]
theorem log2_small {m : Int} (h0 : 0 ≤ m) (h : m < 9223372036854775808) : m.natAbs.log2 < 9000 := by
  by_cases e : m.natAbs = 0
  · rw [e]; decide
  · refine Nat.lt_of_lt_of_le ((Nat.log2_lt e (k := 63)).mpr ?_) (by decide)
    omega
theorem any_ok {d : D} {m : Int} (h : Deal d) (hm : 0 < m) (hm2 : m < 9223372036854775808) : ∃ v d', r_law_any [d, .int m] = .ok (.int v, d') ∧ Deal d' ∧ 0 ≤ v ∧ v < m := by
  obtain ⟨xs, b, rfl, h0, hl, hb, hb2⟩ := h
  obtain ⟨ys, e, hy, hyl⟩ := zeros m b 63 xs hl h0
  unfold zeros_t at e
  unfold r_law_any runM b_law_any
  have st : ([dealD xs b, PyData.int m] : List D).map some ++ List.replicate (3 - ([dealD xs b, PyData.int m] : List D).length) none = [some (dealD xs b), some (.int m), none] := rfl
  rw [st, pSeq_nx e]
  have lg := log2_small (Int.le_of_lt hm) hm2
  have cd : m ≠ 0 ∧ m.natAbs.log2 < 9000 := ⟨by omega, lg⟩
  rcases List.eq_nil_or_concat ys with rfl | ⟨zs, z, rfl⟩
  · have c1 : b.natAbs.log2 + (40693 : Int).natAbs.log2 < 1000000 := by
      have : b.natAbs.log2 < 32 := by
        by_cases e : b.natAbs = 0
        · rw [e]; decide
        · exact (Nat.log2_lt e).mpr (by omega)
      have e2 : (40693 : Int).natAbs.log2 < 20 := by decide
      omega
    have c2 : (64 : Int) ≠ 0 ∧ (64 : Int).natAbs.log2 < 9000 := by decide
    have c3 : (2147483647 : Int) ≠ 0 := by decide
    have c4 : m ≠ 0 := by omega
    refine ⟨((b * 40693 + 71).fmod 2147483647).fdiv 64 |>.fmod m, dealD [] ((b * 40693 + 71).fmod 2147483647), ?_, ⟨[], _, rfl, fun _ h => absurd h (by simp), Nat.zero_le _, ?_, ?_⟩, ?_, ?_⟩
    · simp only [dealD, gNe_nil, List.isEmpty_nil, if_pos c1, if_pos c2, if_pos c3, if_pos c4, mV, mC, vA, rA, get, gets, mU, mB, mL, lNil, lCons, eF, bool_b, mT, mTr, mNot, mAnd, mOr, eNot, eAnd, eOr, mIf, sNil, sCons, mTup, fLst, mM, pNil, pSeq, pBk, pCt, pIf, pRet, put, pSet, pEx, gN, gE, gC, gT, pAs, pPar, pFor, fComp, tmY, flo, gAdd, gSub, gMul, gDiv, gMod, gPow, gNeg, gLt, gLe, gGt, gGe, gIs, gIsN, isNo, isBo, gIx, optR, oN, oS, toI, wSeq, seqOf, wZip, listAt, mApp, mPop, mPopAt, mAt, uAt, uC, mUB, mPopIn, vB, pAppIn, pPutAt, itemAt, putAt, mCall, mCallM, mCallK, mRc2, gIsi, isInt, isBool, isStr, isTup, isList, gLen, gAbs, gInt, gGcd, gMax, gMin, gTup, tru, ok_bind, no_bind, ex_bind, List.getElem?_cons_succ, List.getElem?_cons_zero, List.set_cons_succ, List.set_cons_zero, List.length_cons, List.length_nil, Nat.reduceAdd, Nat.reduceLT, Nat.reduceLeDiff, Nat.zero_add, if_true, if_pos_t, if_false_b, ite_tt, atI0, atI1, atI2, Bool.not_true, Bool.not_false, gEq_i, gNe_i, List.map_cons, List.map_nil, List.append_nil, List.nil_append, List.cons_append, List.replicate]
    · exact Int.fmod_nonneg_of_pos _ (by decide)
    · exact Int.fmod_lt_of_pos _ (by decide)
    · exact Int.fmod_nonneg_of_pos _ hm
    · exact Int.fmod_lt_of_pos _ hm
  · rw [List.concat_eq_append] at *
    have e1 : ((zs ++ [z]).map PyData.int).isEmpty = false := by simp
    have e3 : ((zs ++ [z]).map PyData.int).getLast? = some (.int z) := by simp
    have e4 : ((zs ++ [z]).map PyData.int).dropLast = zs.map PyData.int := by simp
    have c4 : m ≠ 0 := by omega
    have hzl : zs.length + 1 ≤ 63 := by simpa using hyl
    have c5 : (zs.map PyData.int).length < sizeLine := by rw [List.length_map]; exact small1000 (by omega)
    have hz0 : 0 ≤ z := hy z (by simp)
    refine ⟨z.fmod m, dealD (zs ++ [z.fdiv m]) b, ?_, ⟨_, _, rfl, ?_, by simpa using hzl, hb, hb2⟩, ?_, ?_⟩
    · simp only [dealD, gNe_nil, e1, e3, e4, if_pos cd, if_pos c4, if_pos c5, mV, mC, vA, rA, get, gets, mU, mB, mL, lNil, lCons, eF, bool_b, mT, mTr, mNot, mAnd, mOr, eNot, eAnd, eOr, mIf, sNil, sCons, mTup, fLst, mM, pNil, pSeq, pBk, pCt, pIf, pRet, put, pSet, pEx, gN, gE, gC, gT, pAs, pPar, pFor, fComp, tmY, flo, gAdd, gSub, gMul, gDiv, gMod, gPow, gNeg, gLt, gLe, gGt, gGe, gIs, gIsN, isNo, isBo, gIx, optR, oN, oS, toI, wSeq, seqOf, wZip, listAt, mApp, mPop, mPopAt, mAt, uAt, uC, mUB, mPopIn, vB, pAppIn, pPutAt, itemAt, putAt, mCall, mCallM, mCallK, mRc2, gIsi, isInt, isBool, isStr, isTup, isList, gLen, gAbs, gInt, gGcd, gMax, gMin, gTup, tru, ok_bind, no_bind, ex_bind, List.getElem?_cons_succ, List.getElem?_cons_zero, List.set_cons_succ, List.set_cons_zero, List.length_cons, List.length_nil, Nat.reduceAdd, Nat.reduceLT, Nat.reduceLeDiff, Nat.zero_add, if_true, if_pos_t, if_false_b, ite_tt, atI0, atI1, atI2, Bool.not_true, Bool.not_false, gEq_i, gNe_i, List.map_cons, List.map_nil, List.append_nil, List.nil_append, List.cons_append, List.replicate]
      simp only [List.map_append, List.map_cons, List.map_nil]
    · intro x hx
      rcases (List.mem_append.mp hx) with hx | hx
      · exact hy x (by simp [hx])
      · rw [List.mem_singleton.mp hx]
        exact Int.fdiv_nonneg hz0 (by omega)
    · exact Int.fmod_nonneg_of_pos _ hm
    · exact Int.fmod_lt_of_pos _ hm
theorem of_ok {d : D} {xs : List D} (h : Deal d) (hx : xs ≠ []) (hl : xs.length < 1000) : ∃ v d', r_law_of [d, .list xs] = .ok (v, d') ∧ Deal d' ∧ v ∈ xs := by
  have h0 : 0 < xs.length := List.length_pos_iff.mpr hx
  obtain ⟨v, d', e, hd, v0, v1⟩ := any_ok (m := (xs.length : Int)) h (by omega) (by omega)
  obtain ⟨k, rfl⟩ : ∃ k : Nat, v = k := ⟨v.toNat, by omega⟩
  have hk : k < xs.length := by omega
  refine ⟨xs[k], d', ?_, hd, List.getElem_mem _⟩
  have e2 : atI xs (k : Int) = some xs[k] := atI_nat (List.getElem?_eq_getElem hk)
  unfold r_law_of runM b_law_of
  have st : ([d, PyData.list xs] : List D).map some ++ List.replicate (2 - ([d, PyData.list xs] : List D).length) none = [some d, some (.list xs)] := rfl
  rw [st]
  simp only [e, e2, mV, mC, vA, rA, get, gets, mU, mB, mL, lNil, lCons, eF, bool_b, mT, mTr, mNot, mAnd, mOr, eNot, eAnd, eOr, mIf, sNil, sCons, mTup, fLst, mM, pNil, pSeq, pBk, pCt, pIf, pRet, put, pSet, pEx, gN, gE, gC, gT, pAs, pPar, pFor, fComp, tmY, flo, gAdd, gSub, gMul, gDiv, gMod, gPow, gNeg, gLt, gLe, gGt, gGe, gIs, gIsN, isNo, isBo, gIx, optR, oN, oS, toI, wSeq, seqOf, wZip, listAt, mApp, mPop, mPopAt, mAt, uAt, uC, mUB, mPopIn, vB, pAppIn, pPutAt, itemAt, putAt, mCall, mCallM, mCallK, mRc2, gIsi, isInt, isBool, isStr, isTup, isList, gLen, gAbs, gInt, gGcd, gMax, gMin, gTup, tru, ok_bind, no_bind, ex_bind, List.getElem?_cons_succ, List.getElem?_cons_zero, List.set_cons_succ, List.set_cons_zero, List.length_cons, List.length_nil, Nat.reduceAdd, Nat.reduceLT, Nat.reduceLeDiff, Nat.zero_add, if_true, if_pos_t, if_false_b, ite_tt, atI0, atI1, atI2, Bool.not_true, Bool.not_false, gEq_i, gNe_i, List.map_cons, List.map_nil, List.append_nil, List.nil_append, List.cons_append, List.replicate]
end Zd

namespace Zd
open PySem PySem.Spec
open PyProof.Rows L2

/-! ### the draw -/
noncomputable def b_law_draw : Pm := (pSeq (pSet 2 (eF (fComp [4] (wSeq (mSl (vA (mV 0)) oN (oS (mC (.int 48))))) (gN 4) tmY (mL gAbs (lCons (vA (mL gInt (lCons (vA (mV 4)) lNil))) lNil)))))
    (pSeq (pSet 3 (mB gAdd (vA (mC (.int 7919))) (vA (mB gMul (vA (mC (.int 104729))) (vA (mV 1))))))
    (pSeq (pFor (wSeq (mV 2)) (gN 4) (pSet 3 (mB gMod (vA (mL gInt (lCons (vA (mB gAdd (vA (mB gAdd (vA (mB gMul (vA (mV 3)) (vA (mC (.int 48271))))) (vA (mB gMod (vA (mV 4)) (vA (mC (.int 2147483549))))))) (vA (mC (.int 11))))) lNil))) (vA (mC (.int 2147483647))))))
    (pRet (mRc2 (eF (fRev (vA (eF (fComp [4] (wSeq (mV 2)) (gN 4) (mT (mB gGe (vA (mV 4)) (vA (mB gPow (vA (mC (.int 10))) (vA (mC (.int 18))))))) (mV 4)))))) (mV 3))))))
noncomputable def r_law_draw : List D → Rs D := runP (.rc [.mu .im, .im]) 5 b_law_draw
def absD : D → D
  | .int i => .int (if i < 0 then -i else i)
  | d => d
def bigD : D → Bool
  | .int i => decide ((10 : Int) ^ 18 ≤ i)
  | _ => false
theorem cut_ints (ns : List Int) (h : Option Int) : cut (ns.map PyData.int) none h = (cut ns none h).map PyData.int := by
  unfold cut
  rw [List.map_take, List.map_drop, List.length_map]
theorem log2_of {m : Int} {k : Nat} (h : m.natAbs < 2 ^ k) : m.natAbs.log2 < k + 1 := by
  by_cases e : m.natAbs = 0
  · rw [e]; simp
  · exact Nat.lt_succ_of_lt ((Nat.log2_lt e).mpr h)
theorem draw_ok (ns : List Int) (salt : Int) (h0 : 0 ≤ salt) (h1 : salt ≤ 1000) (hl : ns.length ≤ 63) : ∃ d, r_law_draw [.list (ns.map .int), .int salt] = .ok d ∧ Deal d := by
  have hw : cut (ns.map PyData.int) none (some 48) = (cut ns none (some 48)).map PyData.int := cut_ints ns _
  have hcl : (cut ns none (some 48)).length ≤ 48 := by
    unfold cut
    rw [List.length_take]
    have : HT.sIx ns.length ns.length (some (48 : Int)) = min 48 ns.length := HT.sIx_nat ns.length ns.length 48
    omega
  obtain ⟨cs, hcs⟩ : ∃ cs, cs = cut ns none (some 48) := ⟨_, rfl⟩
  rw [← hcs] at hw hcl
  let δ0 : Dl := [some (.list (ns.map .int)), some (.int salt), none, none, none]
  -- the cells
  obtain ⟨δ', e1, rfl⟩ := compF_map (vs := [4]) (t := gN 4) (c := tmY) (e := mL gAbs (lCons (vA (mL gInt (lCons (vA (mV 4)) lNil))) lNil)) (I := fun δ => δ = δ0) absD (fun _ => true) (cs.map PyData.int) δ0 (fun d hd δ hδ => by
    subst hδ
    obtain ⟨i, _, rfl⟩ := List.mem_map.mp hd
    refine ⟨_, _, rfl, rfl, (fun z => absurd z (by simp)), fun _ => ⟨[some (.list (ns.map .int)), some (.int salt), none, none, some (.int i)], ?_, rfl⟩⟩
    simp only [δ0, wipeD, absD, mV, mC, vA, rA, get, gets, mU, mB, mL, lNil, lCons, eF, bool_b, mT, mTr, mNot, mAnd, mOr, eNot, eAnd, eOr, mIf, sNil, sCons, mTup, fLst, mM, pNil, pSeq, pBk, pCt, pIf, pRet, put, pSet, pEx, gN, gE, gC, gT, pAs, pPar, pFor, fComp, tmY, flo, gAdd, gSub, gMul, gDiv, gMod, gPow, gNeg, gLt, gLe, gGt, gGe, gIs, gIsN, isNo, isBo, gIx, optR, oN, oS, toI, wSeq, seqOf, wZip, listAt, mApp, mPop, mPopAt, mAt, uAt, uC, mUB, mPopIn, vB, pAppIn, pPutAt, itemAt, putAt, mCall, mCallM, mCallK, mRc2, gIsi, isInt, isBool, isStr, isTup, isList, gLen, gAbs, gInt, gGcd, gMax, gMin, gTup, tru, ok_bind, no_bind, ex_bind, List.getElem?_cons_succ, List.getElem?_cons_zero, List.set_cons_succ, List.set_cons_zero, List.length_cons, List.length_nil, Nat.reduceAdd, Nat.reduceLT, Nat.reduceLeDiff, Nat.zero_add, if_true, if_pos_t, if_false_b, ite_tt, atI0, atI1, atI2, Bool.not_true, Bool.not_false, gEq_i, gNe_i, List.map_cons, List.map_nil, List.append_nil, List.nil_append, List.cons_append, List.replicate]) rfl
  have e2 : (((cs.map PyData.int).filter fun _ => true).map absD) = (cs.map fun i => if i < 0 then -i else i).map PyData.int := by
    rw [List.filter_eq_self.mpr (fun _ _ => rfl), List.map_map, List.map_map]
    rfl
  rw [e2] at e1
  obtain ⟨bs, hbs⟩ : ∃ bs, bs = cs.map fun i : Int => if i < 0 then -i else i := ⟨_, rfl⟩
  have hbl : bs.length ≤ 48 := by rw [hbs, List.length_map]; exact hcl
  have hb0 : ∀ x ∈ bs, 0 ≤ x := fun x hx => by
    rw [hbs] at hx
    obtain ⟨i, _, rfl⟩ := List.mem_map.mp hx
    by_cases hi : i < 0
    · rw [if_pos hi]; omega
    · rw [if_neg hi]; omega
  rw [← hbs] at e1
  have sz : ((cs.map PyData.int).length ≤ sizeLine) := by rw [List.length_map]; exact Nat.le_of_lt (small1000 (by omega))
  have s1 : pSet 2 (eF (fComp [4] (wSeq (mSl (vA (mV 0)) oN (oS (mC (.int 48))))) (gN 4) tmY (mL gAbs (lCons (vA (mL gInt (lCons (vA (mV 4)) lNil))) lNil)))) δ0 = .ok (.nx, [some (.list (ns.map .int)), some (.int salt), some (.list (bs.map .int)), none, none]) := by
    have w0 : (wSeq (mSl (vA (mV 0)) oN (oS (mC (.int 48))))) δ0 = .ok (cs.map .int, δ0) := by
      simp only [δ0, mSl, toI, gCut, hw, mV, mC, vA, rA, get, gets, mU, mB, mL, lNil, lCons, eF, bool_b, mT, mTr, mNot, mAnd, mOr, eNot, eAnd, eOr, mIf, sNil, sCons, mTup, fLst, mM, pNil, pSeq, pBk, pCt, pIf, pRet, put, pSet, pEx, gN, gE, gC, gT, pAs, pPar, pFor, fComp, tmY, flo, gAdd, gSub, gMul, gDiv, gMod, gPow, gNeg, gLt, gLe, gGt, gGe, gIs, gIsN, isNo, isBo, gIx, optR, oN, oS, toI, wSeq, seqOf, wZip, listAt, mApp, mPop, mPopAt, mAt, uAt, uC, mUB, mPopIn, vB, pAppIn, pPutAt, itemAt, putAt, mCall, mCallM, mCallK, mRc2, gIsi, isInt, isBool, isStr, isTup, isList, gLen, gAbs, gInt, gGcd, gMax, gMin, gTup, tru, ok_bind, no_bind, ex_bind, List.getElem?_cons_succ, List.getElem?_cons_zero, List.set_cons_succ, List.set_cons_zero, List.length_cons, List.length_nil, Nat.reduceAdd, Nat.reduceLT, Nat.reduceLeDiff, Nat.zero_add, if_true, if_pos_t, if_false_b, ite_tt, atI0, atI1, atI2, Bool.not_true, Bool.not_false, gEq_i, gNe_i, List.map_cons, List.map_nil, List.append_nil, List.nil_append, List.cons_append, List.replicate]
    rw [pSet_of (fComp_of w0 sz e1) (show 2 < 5 by decide)]
    rfl
  -- blend
  have s2 : ∀ x : Option D, pSet 3 (mB gAdd (vA (mC (.int 7919))) (vA (mB gMul (vA (mC (.int 104729))) (vA (mV 1))))) [some (.list (ns.map .int)), some (.int salt), x, none, none] = .ok (.nx, [some (.list (ns.map .int)), some (.int salt), x, some (.int (7919 + 104729 * salt)), none]) := fun x => by
    have c1 : (104729 : Int).natAbs.log2 + salt.natAbs.log2 < 1000000 := by
      have := log2_of (m := salt) (k := 10) (by omega)
      have e2 : (104729 : Int).natAbs.log2 < 20 := by decide
      omega
    simp only [if_pos c1, mV, mC, vA, rA, get, gets, mU, mB, mL, lNil, lCons, eF, bool_b, mT, mTr, mNot, mAnd, mOr, eNot, eAnd, eOr, mIf, sNil, sCons, mTup, fLst, mM, pNil, pSeq, pBk, pCt, pIf, pRet, put, pSet, pEx, gN, gE, gC, gT, pAs, pPar, pFor, fComp, tmY, flo, gAdd, gSub, gMul, gDiv, gMod, gPow, gNeg, gLt, gLe, gGt, gGe, gIs, gIsN, isNo, isBo, gIx, optR, oN, oS, toI, wSeq, seqOf, wZip, listAt, mApp, mPop, mPopAt, mAt, uAt, uC, mUB, mPopIn, vB, pAppIn, pPutAt, itemAt, putAt, mCall, mCallM, mCallK, mRc2, gIsi, isInt, isBool, isStr, isTup, isList, gLen, gAbs, gInt, gGcd, gMax, gMin, gTup, tru, ok_bind, no_bind, ex_bind, List.getElem?_cons_succ, List.getElem?_cons_zero, List.set_cons_succ, List.set_cons_zero, List.length_cons, List.length_nil, Nat.reduceAdd, Nat.reduceLT, Nat.reduceLeDiff, Nat.zero_add, if_true, if_pos_t, if_false_b, ite_tt, atI0, atI1, atI2, Bool.not_true, Bool.not_false, gEq_i, gNe_i, List.map_cons, List.map_nil, List.append_nil, List.nil_append, List.cons_append, List.replicate]
  -- the loop
  have s3 : ∃ δ1, pFor (wSeq (mV 2)) (gN 4) (pSet 3 (mB gMod (vA (mL gInt (lCons (vA (mB gAdd (vA (mB gAdd (vA (mB gMul (vA (mV 3)) (vA (mC (.int 48271))))) (vA (mB gMod (vA (mV 4)) (vA (mC (.int 2147483549))))))) (vA (mC (.int 11))))) lNil))) (vA (mC (.int 2147483647))))) [some (.list (ns.map .int)), some (.int salt), some (.list (bs.map .int)), some (.int (7919 + 104729 * salt)), none] = .ok (.nx, δ1) ∧
      ∃ b x, δ1 = [some (.list (ns.map .int)), some (.int salt), some (.list (bs.map .int)), some (.int b), x] ∧ 0 ≤ b ∧ b < 2147483647 := by
    refine pFor_ok (I := fun δ1 => ∃ b x, δ1 = [some (.list (ns.map .int)), some (.int salt), some (.list (bs.map .int)), some (.int b), x] ∧ 0 ≤ b ∧ b < 2147483647) rfl (fun d hd δ hI => ?_) ⟨_, _, rfl, by omega, by omega⟩
    obtain ⟨b, x, rfl, hb, hb2⟩ := hI
    obtain ⟨i, _, rfl⟩ := List.mem_map.mp hd
    have c1 : b.natAbs.log2 + (48271 : Int).natAbs.log2 < 1000000 := by
      have := log2_of (m := b) (k := 32) (by omega)
      have e2 : (48271 : Int).natAbs.log2 < 20 := by decide
      omega
    have c2 : (2147483549 : Int) ≠ 0 := by decide
    have c3 : (2147483647 : Int) ≠ 0 := by decide
    refine ⟨_, rfl, ⟨.nx, [some (.list (ns.map .int)), some (.int salt), some (.list (bs.map .int)), some (.int ((b * 48271 + i.fmod 2147483549 + 11).fmod 2147483647)), some (.int i)]⟩, ?_, .inl rfl, _, _, rfl, Int.fmod_nonneg_of_pos _ (by decide), Int.fmod_lt_of_pos _ (by decide)⟩
    simp only [if_pos c1, if_pos c2, if_pos c3, mV, mC, vA, rA, get, gets, mU, mB, mL, lNil, lCons, eF, bool_b, mT, mTr, mNot, mAnd, mOr, eNot, eAnd, eOr, mIf, sNil, sCons, mTup, fLst, mM, pNil, pSeq, pBk, pCt, pIf, pRet, put, pSet, pEx, gN, gE, gC, gT, pAs, pPar, pFor, fComp, tmY, flo, gAdd, gSub, gMul, gDiv, gMod, gPow, gNeg, gLt, gLe, gGt, gGe, gIs, gIsN, isNo, isBo, gIx, optR, oN, oS, toI, wSeq, seqOf, wZip, listAt, mApp, mPop, mPopAt, mAt, uAt, uC, mUB, mPopIn, vB, pAppIn, pPutAt, itemAt, putAt, mCall, mCallM, mCallK, mRc2, gIsi, isInt, isBool, isStr, isTup, isList, gLen, gAbs, gInt, gGcd, gMax, gMin, gTup, tru, ok_bind, no_bind, ex_bind, List.getElem?_cons_succ, List.getElem?_cons_zero, List.set_cons_succ, List.set_cons_zero, List.length_cons, List.length_nil, Nat.reduceAdd, Nat.reduceLT, Nat.reduceLeDiff, Nat.zero_add, if_true, if_pos_t, if_false_b, ite_tt, atI0, atI1, atI2, Bool.not_true, Bool.not_false, gEq_i, gNe_i, List.map_cons, List.map_nil, List.append_nil, List.nil_append, List.cons_append, List.replicate]
  obtain ⟨δ1, e3, b, x, rfl, hb, hb2⟩ := s3
  -- what is handed back
  let δ2 : Dl := [some (.list (ns.map .int)), some (.int salt), some (.list (bs.map .int)), some (.int b), x]
  have c1 : 0 ≤ (18 : Int) ∧ (18 : Int) ≤ 1000000 ∧ (10 : Int).natAbs < 2 ^ 64 := by decide
  obtain ⟨δ', e4, rfl⟩ := compF_map (vs := [4]) (t := gN 4) (c := mT (mB gGe (vA (mV 4)) (vA (mB gPow (vA (mC (.int 10))) (vA (mC (.int 18))))))) (e := mV 4) (I := fun δ => δ = δ2) id bigD (bs.map PyData.int) δ2 (fun d hd δ hδ => by
    subst hδ
    obtain ⟨i, _, rfl⟩ := List.mem_map.mp hd
    refine ⟨_, [some (.list (ns.map .int)), some (.int salt), some (.list (bs.map .int)), some (.int b), some (.int i)], rfl, ?_, fun _ => rfl, fun _ => ⟨[some (.list (ns.map .int)), some (.int salt), some (.list (bs.map .int)), some (.int b), some (.int i)], rfl, rfl⟩⟩
    simp only [δ2, wipeD, bigD, if_pos c1, mV, mC, vA, rA, get, gets, mU, mB, mL, lNil, lCons, eF, bool_b, mT, mTr, mNot, mAnd, mOr, eNot, eAnd, eOr, mIf, sNil, sCons, mTup, fLst, mM, pNil, pSeq, pBk, pCt, pIf, pRet, put, pSet, pEx, gN, gE, gC, gT, pAs, pPar, pFor, fComp, tmY, flo, gAdd, gSub, gMul, gDiv, gMod, gPow, gNeg, gLt, gLe, gGt, gGe, gIs, gIsN, isNo, isBo, gIx, optR, oN, oS, toI, wSeq, seqOf, wZip, listAt, mApp, mPop, mPopAt, mAt, uAt, uC, mUB, mPopIn, vB, pAppIn, pPutAt, itemAt, putAt, mCall, mCallM, mCallK, mRc2, gIsi, isInt, isBool, isStr, isTup, isList, gLen, gAbs, gInt, gGcd, gMax, gMin, gTup, tru, ok_bind, no_bind, ex_bind, List.getElem?_cons_succ, List.getElem?_cons_zero, List.set_cons_succ, List.set_cons_zero, List.length_cons, List.length_nil, Nat.reduceAdd, Nat.reduceLT, Nat.reduceLeDiff, Nat.zero_add, if_true, if_pos_t, if_false_b, ite_tt, atI0, atI1, atI2, Bool.not_true, Bool.not_false, gEq_i, gNe_i, List.map_cons, List.map_nil, List.append_nil, List.nil_append, List.cons_append, List.replicate]
    rfl) rfl
  have e5 : ((bs.map PyData.int).filter bigD).map id = (bs.filter fun i => decide ((10 : Int) ^ 18 ≤ i)).map PyData.int := by
    rw [List.map_id, List.filter_map]
    rfl
  rw [e5] at e4
  have sz2 : ((bs.map PyData.int).length ≤ sizeLine) := by rw [List.length_map]; exact Nat.le_of_lt (small1000 (by omega))
  refine ⟨dealD (bs.filter fun i => decide ((10 : Int) ^ 18 ≤ i)).reverse b, ?_, _, _, rfl, fun y hy => hb0 y ((List.mem_filter.mp (List.mem_reverse.mp hy)).1), ?_, hb, hb2⟩
  · unfold r_law_draw runP b_law_draw
    have st : ([PyData.list (ns.map .int), .int salt] : List D).map some ++ List.replicate (5 - ([PyData.list (ns.map .int), .int salt] : List D).length) none = δ0 := rfl
    rw [st, pSeq_nx s1, pSeq_nx (s2 _), pSeq_nx e3]
    have cmp : eF (fComp [4] (wSeq (mV 2)) (gN 4) (mT (mB gGe (vA (mV 4)) (vA (mB gPow (vA (mC (.int 10))) (vA (mC (.int 18))))))) (mV 4)) δ2 = .ok (.list ((bs.filter fun i => decide ((10 : Int) ^ 18 ≤ i)).map .int), δ2) := by
      have w0 : wSeq (mV 2) δ2 = .ok (bs.map .int, δ2) := rfl
      exact fComp_of w0 sz2 e4
    show (pRet (mRc2 (eF (fRev (vA (eF (fComp [4] (wSeq (mV 2)) (gN 4) (mT (mB gGe (vA (mV 4)) (vA (mB gPow (vA (mC (.int 10))) (vA (mC (.int 18))))))) (mV 4)))))) (mV 3)) δ2 >>= fun r => flo (.rc [.mu .im, .im]) r.1) = _
    have fr : fRev (vA (eF (fComp [4] (wSeq (mV 2)) (gN 4) (mT (mB gGe (vA (mV 4)) (vA (mB gPow (vA (mC (.int 10))) (vA (mC (.int 18))))))) (mV 4)))) δ2 = .ok (((bs.filter fun i => decide ((10 : Int) ^ 18 ≤ i)).map .int).reverse, δ2) := by
      exact fRev_of cmp
    have v3 : mV 3 δ2 = .ok (.int b, δ2) := rfl
    rw [pRet_of (mRc2_of (eF_of fr) v3)]
    simp only [dealD, List.map_reverse, mV, mC, vA, rA, get, gets, mU, mB, mL, lNil, lCons, eF, bool_b, mT, mTr, mNot, mAnd, mOr, eNot, eAnd, eOr, mIf, sNil, sCons, mTup, fLst, mM, pNil, pSeq, pBk, pCt, pIf, pRet, put, pSet, pEx, gN, gE, gC, gT, pAs, pPar, pFor, fComp, tmY, flo, gAdd, gSub, gMul, gDiv, gMod, gPow, gNeg, gLt, gLe, gGt, gGe, gIs, gIsN, isNo, isBo, gIx, optR, oN, oS, toI, wSeq, seqOf, wZip, listAt, mApp, mPop, mPopAt, mAt, uAt, uC, mUB, mPopIn, vB, pAppIn, pPutAt, itemAt, putAt, mCall, mCallM, mCallK, mRc2, gIsi, isInt, isBool, isStr, isTup, isList, gLen, gAbs, gInt, gGcd, gMax, gMin, gTup, tru, ok_bind, no_bind, ex_bind, List.getElem?_cons_succ, List.getElem?_cons_zero, List.set_cons_succ, List.set_cons_zero, List.length_cons, List.length_nil, Nat.reduceAdd, Nat.reduceLT, Nat.reduceLeDiff, Nat.zero_add, if_true, if_pos_t, if_false_b, ite_tt, atI0, atI1, atI2, Bool.not_true, Bool.not_false, gEq_i, gNe_i, List.map_cons, List.map_nil, List.append_nil, List.nil_append, List.cons_append, List.replicate]
  · rw [List.length_reverse]
    exact Nat.le_trans (List.length_filter_le ..) (by omega)

/-! ### the law's own equality -/
noncomputable def b_law_same (rec : List D → Rs D) : Pm := (pSeq (pIf (mTr (vA (mU (gIsi isTup) (vA (mV 1))))) (pSeq (pIf (mOr (mNot (mTr (vA (mU (gIsi isTup) (vA (mV 0)))))) (mT (mB gNe (vA (mL gLen (lCons (vA (mV 0)) lNil))) (vA (mL gLen (lCons (vA (mV 1)) lNil)))))) (pRet (mC (.bool false))) pNil)
    (pRet (mB gEq (vA (eF (fComp [2, 3] (wZip (sCons (mV 0) (sCons (mV 1) sNil))) (gT 2 (gC (gN 2) (gC (gN 3) gE))) (mNot (mTr (vA (mCall rec (sCons (mV 2) (sCons (mV 3) sNil)))))) (mC (.int 0))))) (vA (eF (fLst sNil)))))) pNil)
    (pSeq (pIf (mT (mB gIs (vA (mV 1)) (vA (mC .none)))) (pRet (mB gIs (vA (mV 0)) (vA (mC .none)))) pNil)
    (pSeq (pIf (mT (mB gIs (vA (mV 1)) (vA (mC (.bool true))))) (pRet (mB gIs (vA (mV 0)) (vA (mC (.bool true))))) pNil)
    (pSeq (pIf (mT (mB gIs (vA (mV 1)) (vA (mC (.bool false))))) (pRet (mB gIs (vA (mV 0)) (vA (mC (.bool false))))) pNil)
    (pSeq (pIf (mTr (vA (mU (gIsi isInt) (vA (mV 1))))) (pRet (eAnd (mU (gIsi isInt) (vA (mV 0))) (eAnd (eNot (mU (gIsi isBool) (vA (mV 0)))) (mB gEq (vA (mV 0)) (vA (mV 1)))))) pNil)
    (pRet (eAnd (mU (gIsi isStr) (vA (mV 0))) (mB gEq (vA (mV 0)) (vA (mV 1))))))))))
noncomputable def r_law_same : Nat → List D → Rs D
  | 0 => fun _ => .no
  | n + 1 => runP (.im) 4 (b_law_same (r_law_same n))
def good : Nat → D → Bool
  | _, .none => true
  | _, .bool _ => true
  | _, .int _ => true
  | _, .str _ => true
  | n + 1, .tuple xs => decide (xs.length ≤ 1000) && xs.all (good n)
  | _, _ => false
theorem depth_s (x : Str) : (PyData.str x).depth = 0 := by rw [PyData.depth]; all_goals (intros; nofun)
theorem gEq_s (a b : Str) : gEq (.str a) (.str b) = .ok (.bool (a == b)) := by
  unfold gEq
  rw [depth_s a, depth_s b, PyData.eqv, if_pos (by decide)]
theorem run4 (m : Pm) (v due : D) : runP .im 4 m [v, due] = (m [some v, some due, none, none] >>= fun r => flo .im r.1) := rfl
/-- which pairs are not the same -/
def notSame (q : D → D → Bool) : D → Bool
  | .tuple [x, y] => !q x y
  | _ => false
theorem pairs_same {q : D → D → Bool} : ∀ {xs ys : List D}, xs.length = ys.length → (∀ y ∈ ys, ∀ x, (q x y = true ↔ x = y)) → ((((pairs xs ys).filter (notSame q)).map fun _ => (PyData.int 0)).isEmpty = true ↔ xs = ys)
  | [], [], _, _ => by simp [pairs]
  | [], _ :: _, h, _ => absurd h (by simp)
  | _ :: _, [], h, _ => absurd h (by simp)
  | x :: xs, y :: ys, h, hq => by
    have ih := pairs_same (xs := xs) (ys := ys) (by simpa using h) fun y hy => hq y (List.mem_cons_of_mem _ hy)
    have hy := hq y List.mem_cons_self x
    by_cases e : q x y = true
    · rw [pairs, List.filter_cons_of_neg (by simp [notSame, e])]
      rw [ih, hy.mp e]
      simp
    · rw [pairs, List.filter_cons_of_pos (by simp [notSame, e])]
      constructor
      · intro z; simp at z
      · intro z
        cases z
        exact absurd (hy.mpr rfl) e
theorem pairs_mem : ∀ {xs ys : List D} {d : D}, d ∈ pairs xs ys → ∃ x y, d = .tuple [x, y] ∧ x ∈ xs ∧ y ∈ ys
  | [], _, _, h => by simp [pairs] at h
  | _ :: _, [], _, h => by simp [pairs] at h
  | x :: xs, y :: ys, d, h => by
    rw [pairs] at h
    rcases (List.mem_cons.mp h) with rfl | h
    · exact ⟨x, y, rfl, List.mem_cons_self, List.mem_cons_self⟩
    · obtain ⟨a, b, e, h1, h2⟩ := pairs_mem h
      exact ⟨a, b, e, List.mem_cons_of_mem _ h1, List.mem_cons_of_mem _ h2⟩
theorem same_ok : ∀ (n : Nat) (v due : D), good n due = true → ∃ b, r_law_same (n + 1) [v, due] = .ok (.bool b) ∧ (b = true ↔ v = due)
  | n, v, .none, _ => by
    refine ⟨isNo v, ?_, by cases v <;> simp [isNo]⟩
    rw [r_law_same, run4, b_law_same]
    simp only [mV, mC, vA, rA, get, gets, mU, mB, mL, lNil, lCons, eF, bool_b, mT, mTr, mNot, mAnd, mOr, eNot, eAnd, eOr, mIf, sNil, sCons, mTup, fLst, mM, pNil, pSeq, pBk, pCt, pIf, pRet, put, pSet, pEx, gN, gE, gC, gT, pAs, pPar, pFor, fComp, tmY, flo, gAdd, gSub, gMul, gDiv, gMod, gPow, gNeg, gLt, gLe, gGt, gGe, gIs, gIsN, isNo, isBo, gIx, optR, oN, oS, toI, wSeq, seqOf, wZip, listAt, mApp, mPop, mPopAt, mAt, uAt, uC, mUB, mPopIn, vB, pAppIn, pPutAt, itemAt, putAt, mCall, mCallM, mCallK, mRc2, gIsi, isInt, isBool, isStr, isTup, isList, gLen, gAbs, gInt, gGcd, gMax, gMin, gTup, tru, ok_bind, no_bind, ex_bind, List.getElem?_cons_succ, List.getElem?_cons_zero, List.set_cons_succ, List.set_cons_zero, List.length_cons, List.length_nil, Nat.reduceAdd, Nat.reduceLT, Nat.reduceLeDiff, Nat.zero_add, if_true, if_pos_t, if_false_b, ite_tt, atI0, atI1, atI2, Bool.not_true, Bool.not_false, gEq_i, gNe_i, List.map_cons, List.map_nil, List.append_nil, List.nil_append, List.cons_append, List.replicate]
  | n, v, .bool true, _ => by
    refine ⟨isBo true v, ?_, by cases v <;> simp [isBo]⟩
    rw [r_law_same, run4, b_law_same]
    simp only [decide_true, decide_false, Bool.false_eq_true, Bool.true_eq_false, decide_eq_true_eq, mV, mC, vA, rA, get, gets, mU, mB, mL, lNil, lCons, eF, bool_b, mT, mTr, mNot, mAnd, mOr, eNot, eAnd, eOr, mIf, sNil, sCons, mTup, fLst, mM, pNil, pSeq, pBk, pCt, pIf, pRet, put, pSet, pEx, gN, gE, gC, gT, pAs, pPar, pFor, fComp, tmY, flo, gAdd, gSub, gMul, gDiv, gMod, gPow, gNeg, gLt, gLe, gGt, gGe, gIs, gIsN, isNo, isBo, gIx, optR, oN, oS, toI, wSeq, seqOf, wZip, listAt, mApp, mPop, mPopAt, mAt, uAt, uC, mUB, mPopIn, vB, pAppIn, pPutAt, itemAt, putAt, mCall, mCallM, mCallK, mRc2, gIsi, isInt, isBool, isStr, isTup, isList, gLen, gAbs, gInt, gGcd, gMax, gMin, gTup, tru, ok_bind, no_bind, ex_bind, List.getElem?_cons_succ, List.getElem?_cons_zero, List.set_cons_succ, List.set_cons_zero, List.length_cons, List.length_nil, Nat.reduceAdd, Nat.reduceLT, Nat.reduceLeDiff, Nat.zero_add, if_true, if_pos_t, if_false_b, ite_tt, atI0, atI1, atI2, Bool.not_true, Bool.not_false, gEq_i, gNe_i, List.map_cons, List.map_nil, List.append_nil, List.nil_append, List.cons_append, List.replicate]
  | n, v, .bool false, _ => by
    refine ⟨isBo false v, ?_, by cases v <;> simp [isBo]⟩
    rw [r_law_same, run4, b_law_same]
    simp only [decide_true, decide_false, Bool.false_eq_true, Bool.true_eq_false, decide_eq_true_eq, mV, mC, vA, rA, get, gets, mU, mB, mL, lNil, lCons, eF, bool_b, mT, mTr, mNot, mAnd, mOr, eNot, eAnd, eOr, mIf, sNil, sCons, mTup, fLst, mM, pNil, pSeq, pBk, pCt, pIf, pRet, put, pSet, pEx, gN, gE, gC, gT, pAs, pPar, pFor, fComp, tmY, flo, gAdd, gSub, gMul, gDiv, gMod, gPow, gNeg, gLt, gLe, gGt, gGe, gIs, gIsN, isNo, isBo, gIx, optR, oN, oS, toI, wSeq, seqOf, wZip, listAt, mApp, mPop, mPopAt, mAt, uAt, uC, mUB, mPopIn, vB, pAppIn, pPutAt, itemAt, putAt, mCall, mCallM, mCallK, mRc2, gIsi, isInt, isBool, isStr, isTup, isList, gLen, gAbs, gInt, gGcd, gMax, gMin, gTup, tru, ok_bind, no_bind, ex_bind, List.getElem?_cons_succ, List.getElem?_cons_zero, List.set_cons_succ, List.set_cons_zero, List.length_cons, List.length_nil, Nat.reduceAdd, Nat.reduceLT, Nat.reduceLeDiff, Nat.zero_add, if_true, if_pos_t, if_false_b, ite_tt, atI0, atI1, atI2, Bool.not_true, Bool.not_false, gEq_i, gNe_i, List.map_cons, List.map_nil, List.append_nil, List.nil_append, List.cons_append, List.replicate]
  | n, v, .int i, _ => by
    rw [r_law_same, run4, b_law_same]
    cases v with
    | int j => exact ⟨j == i, by simp only [mV, mC, vA, rA, get, gets, mU, mB, mL, lNil, lCons, eF, bool_b, mT, mTr, mNot, mAnd, mOr, eNot, eAnd, eOr, mIf, sNil, sCons, mTup, fLst, mM, pNil, pSeq, pBk, pCt, pIf, pRet, put, pSet, pEx, gN, gE, gC, gT, pAs, pPar, pFor, fComp, tmY, flo, gAdd, gSub, gMul, gDiv, gMod, gPow, gNeg, gLt, gLe, gGt, gGe, gIs, gIsN, isNo, isBo, gIx, optR, oN, oS, toI, wSeq, seqOf, wZip, listAt, mApp, mPop, mPopAt, mAt, uAt, uC, mUB, mPopIn, vB, pAppIn, pPutAt, itemAt, putAt, mCall, mCallM, mCallK, mRc2, gIsi, isInt, isBool, isStr, isTup, isList, gLen, gAbs, gInt, gGcd, gMax, gMin, gTup, tru, ok_bind, no_bind, ex_bind, List.getElem?_cons_succ, List.getElem?_cons_zero, List.set_cons_succ, List.set_cons_zero, List.length_cons, List.length_nil, Nat.reduceAdd, Nat.reduceLT, Nat.reduceLeDiff, Nat.zero_add, if_true, if_pos_t, if_false_b, ite_tt, atI0, atI1, atI2, Bool.not_true, Bool.not_false, gEq_i, gNe_i, List.map_cons, List.map_nil, List.append_nil, List.nil_append, List.cons_append, List.replicate], by simp⟩
    | _ => exact ⟨false, by simp only [mV, mC, vA, rA, get, gets, mU, mB, mL, lNil, lCons, eF, bool_b, mT, mTr, mNot, mAnd, mOr, eNot, eAnd, eOr, mIf, sNil, sCons, mTup, fLst, mM, pNil, pSeq, pBk, pCt, pIf, pRet, put, pSet, pEx, gN, gE, gC, gT, pAs, pPar, pFor, fComp, tmY, flo, gAdd, gSub, gMul, gDiv, gMod, gPow, gNeg, gLt, gLe, gGt, gGe, gIs, gIsN, isNo, isBo, gIx, optR, oN, oS, toI, wSeq, seqOf, wZip, listAt, mApp, mPop, mPopAt, mAt, uAt, uC, mUB, mPopIn, vB, pAppIn, pPutAt, itemAt, putAt, mCall, mCallM, mCallK, mRc2, gIsi, isInt, isBool, isStr, isTup, isList, gLen, gAbs, gInt, gGcd, gMax, gMin, gTup, tru, ok_bind, no_bind, ex_bind, List.getElem?_cons_succ, List.getElem?_cons_zero, List.set_cons_succ, List.set_cons_zero, List.length_cons, List.length_nil, Nat.reduceAdd, Nat.reduceLT, Nat.reduceLeDiff, Nat.zero_add, if_true, if_pos_t, if_false_b, ite_tt, atI0, atI1, atI2, Bool.not_true, Bool.not_false, gEq_i, gNe_i, List.map_cons, List.map_nil, List.append_nil, List.nil_append, List.cons_append, List.replicate], by simp⟩
  | n, v, .str i, _ => by
    rw [r_law_same, run4, b_law_same]
    cases v with
    | str j => exact ⟨j == i, by simp only [gEq_s, mV, mC, vA, rA, get, gets, mU, mB, mL, lNil, lCons, eF, bool_b, mT, mTr, mNot, mAnd, mOr, eNot, eAnd, eOr, mIf, sNil, sCons, mTup, fLst, mM, pNil, pSeq, pBk, pCt, pIf, pRet, put, pSet, pEx, gN, gE, gC, gT, pAs, pPar, pFor, fComp, tmY, flo, gAdd, gSub, gMul, gDiv, gMod, gPow, gNeg, gLt, gLe, gGt, gGe, gIs, gIsN, isNo, isBo, gIx, optR, oN, oS, toI, wSeq, seqOf, wZip, listAt, mApp, mPop, mPopAt, mAt, uAt, uC, mUB, mPopIn, vB, pAppIn, pPutAt, itemAt, putAt, mCall, mCallM, mCallK, mRc2, gIsi, isInt, isBool, isStr, isTup, isList, gLen, gAbs, gInt, gGcd, gMax, gMin, gTup, tru, ok_bind, no_bind, ex_bind, List.getElem?_cons_succ, List.getElem?_cons_zero, List.set_cons_succ, List.set_cons_zero, List.length_cons, List.length_nil, Nat.reduceAdd, Nat.reduceLT, Nat.reduceLeDiff, Nat.zero_add, if_true, if_pos_t, if_false_b, ite_tt, atI0, atI1, atI2, Bool.not_true, Bool.not_false, gEq_i, gNe_i, List.map_cons, List.map_nil, List.append_nil, List.nil_append, List.cons_append, List.replicate], by simp⟩
    | _ => exact ⟨false, by simp only [mV, mC, vA, rA, get, gets, mU, mB, mL, lNil, lCons, eF, bool_b, mT, mTr, mNot, mAnd, mOr, eNot, eAnd, eOr, mIf, sNil, sCons, mTup, fLst, mM, pNil, pSeq, pBk, pCt, pIf, pRet, put, pSet, pEx, gN, gE, gC, gT, pAs, pPar, pFor, fComp, tmY, flo, gAdd, gSub, gMul, gDiv, gMod, gPow, gNeg, gLt, gLe, gGt, gGe, gIs, gIsN, isNo, isBo, gIx, optR, oN, oS, toI, wSeq, seqOf, wZip, listAt, mApp, mPop, mPopAt, mAt, uAt, uC, mUB, mPopIn, vB, pAppIn, pPutAt, itemAt, putAt, mCall, mCallM, mCallK, mRc2, gIsi, isInt, isBool, isStr, isTup, isList, gLen, gAbs, gInt, gGcd, gMax, gMin, gTup, tru, ok_bind, no_bind, ex_bind, List.getElem?_cons_succ, List.getElem?_cons_zero, List.set_cons_succ, List.set_cons_zero, List.length_cons, List.length_nil, Nat.reduceAdd, Nat.reduceLT, Nat.reduceLeDiff, Nat.zero_add, if_true, if_pos_t, if_false_b, ite_tt, atI0, atI1, atI2, Bool.not_true, Bool.not_false, gEq_i, gNe_i, List.map_cons, List.map_nil, List.append_nil, List.nil_append, List.cons_append, List.replicate], by simp⟩
  | n, v, .list xs, h => by cases n <;> simp [good] at h
  | n, v, .dict xs, h => by cases n <;> simp [good] at h
  | 0, v, .tuple ys, h => by simp [good] at h
  | n + 1, v, .tuple ys, h => by
    rw [r_law_same, run4, b_law_same]
    rw [good] at h
    obtain ⟨h1, h2⟩ := Bool.and_eq_true_iff.mp h
    have h1 := of_decide_eq_true h1
    have h2 := List.all_eq_true.mp h2
    cases v with
    | tuple xs =>
      by_cases hl : xs.length = ys.length
      · have el : ((xs.length : Int) == (ys.length : Int)) = true := by rw [hl]; simp
        let q : D → D → Bool := fun x y => match r_law_same (n + 1) [x, y] with
          | .ok (.bool b) => b
          | _ => false
        have hq : ∀ y ∈ ys, ∀ x, r_law_same (n + 1) [x, y] = .ok (.bool (q x y)) ∧ (q x y = true ↔ x = y) := fun y hy x => by
          obtain ⟨b, e, hb⟩ := same_ok n x y (h2 y hy)
          have : q x y = b := by simp only [q, e]
          rw [this]
          exact ⟨e, hb⟩
        let δ0 : Dl := [some (.tuple xs), some (.tuple ys), none, none]
        obtain ⟨δ', e1, rfl⟩ := compF_map (vs := [2, 3]) (t := gT 2 (gC (gN 2) (gC (gN 3) gE))) (c := mNot (mTr (vA (mCall (r_law_same (n + 1)) (sCons (mV 2) (sCons (mV 3) sNil)))))) (e := mC (.int 0)) (I := fun δ => δ = δ0) (fun _ => .int 0) (notSame q) (pairs xs ys) δ0 (fun d hd δ hδ => by
          subst hδ
          obtain ⟨x, y, rfl, hx, hy⟩ := pairs_mem hd
          refine ⟨[some (.tuple xs), some (.tuple ys), some x, some y], [some (.tuple xs), some (.tuple ys), some x, some y], ?_, ?_, fun _ => rfl, fun _ => ⟨_, rfl, rfl⟩⟩
          · simp only [δ0, wipeD, mV, mC, vA, rA, get, gets, mU, mB, mL, lNil, lCons, eF, bool_b, mT, mTr, mNot, mAnd, mOr, eNot, eAnd, eOr, mIf, sNil, sCons, mTup, fLst, mM, pNil, pSeq, pBk, pCt, pIf, pRet, put, pSet, pEx, gN, gE, gC, gT, pAs, pPar, pFor, fComp, tmY, flo, gAdd, gSub, gMul, gDiv, gMod, gPow, gNeg, gLt, gLe, gGt, gGe, gIs, gIsN, isNo, isBo, gIx, optR, oN, oS, toI, wSeq, seqOf, wZip, listAt, mApp, mPop, mPopAt, mAt, uAt, uC, mUB, mPopIn, vB, pAppIn, pPutAt, itemAt, putAt, mCall, mCallM, mCallK, mRc2, gIsi, isInt, isBool, isStr, isTup, isList, gLen, gAbs, gInt, gGcd, gMax, gMin, gTup, tru, ok_bind, no_bind, ex_bind, List.getElem?_cons_succ, List.getElem?_cons_zero, List.set_cons_succ, List.set_cons_zero, List.length_cons, List.length_nil, Nat.reduceAdd, Nat.reduceLT, Nat.reduceLeDiff, Nat.zero_add, if_true, if_pos_t, if_false_b, ite_tt, atI0, atI1, atI2, Bool.not_true, Bool.not_false, gEq_i, gNe_i, List.map_cons, List.map_nil, List.append_nil, List.nil_append, List.cons_append, List.replicate]
          · simp only [(hq y hy x).1, notSame, mV, mC, vA, rA, get, gets, mU, mB, mL, lNil, lCons, eF, bool_b, mT, mTr, mNot, mAnd, mOr, eNot, eAnd, eOr, mIf, sNil, sCons, mTup, fLst, mM, pNil, pSeq, pBk, pCt, pIf, pRet, put, pSet, pEx, gN, gE, gC, gT, pAs, pPar, pFor, fComp, tmY, flo, gAdd, gSub, gMul, gDiv, gMod, gPow, gNeg, gLt, gLe, gGt, gGe, gIs, gIsN, isNo, isBo, gIx, optR, oN, oS, toI, wSeq, seqOf, wZip, listAt, mApp, mPop, mPopAt, mAt, uAt, uC, mUB, mPopIn, vB, pAppIn, pPutAt, itemAt, putAt, mCall, mCallM, mCallK, mRc2, gIsi, isInt, isBool, isStr, isTup, isList, gLen, gAbs, gInt, gGcd, gMax, gMin, gTup, tru, ok_bind, no_bind, ex_bind, List.getElem?_cons_succ, List.getElem?_cons_zero, List.set_cons_succ, List.set_cons_zero, List.length_cons, List.length_nil, Nat.reduceAdd, Nat.reduceLT, Nat.reduceLeDiff, Nat.zero_add, if_true, if_pos_t, if_false_b, ite_tt, atI0, atI1, atI2, Bool.not_true, Bool.not_false, gEq_i, gNe_i, List.map_cons, List.map_nil, List.append_nil, List.nil_append, List.cons_append, List.replicate]) rfl
        have sz : (pairs xs ys).length ≤ sizeLine := by
          rw [pairs_len]
          exact Nat.le_trans (Nat.min_le_right _ _) (Nat.le_of_lt (small1000 h1))
        have z0 : (0 : Nat) ≤ sizeLine := Nat.zero_le _
        have w0 : wZip (sCons (mV 0) (sCons (mV 1) sNil)) δ0 = .ok (pairs xs ys, δ0) := rfl
        have fc := fComp_of w0 sz e1
        refine ⟨(((pairs xs ys).filter (notSame q)).map fun _ => (PyData.int 0)).isEmpty, ?_, ?_⟩
        · have g0 := mB_of (g := gEq) (n := eF (fLst sNil)) fc (show _ = Rs.ok (PyData.list [], δ0) by simp only [if_pos z0, mV, mC, vA, rA, get, gets, mU, mB, mL, lNil, lCons, eF, bool_b, mT, mTr, mNot, mAnd, mOr, eNot, eAnd, eOr, mIf, sNil, sCons, mTup, fLst, mM, pNil, pSeq, pBk, pCt, pIf, pRet, put, pSet, pEx, gN, gE, gC, gT, pAs, pPar, pFor, fComp, tmY, flo, gAdd, gSub, gMul, gDiv, gMod, gPow, gNeg, gLt, gLe, gGt, gGe, gIs, gIsN, isNo, isBo, gIx, optR, oN, oS, toI, wSeq, seqOf, wZip, listAt, mApp, mPop, mPopAt, mAt, uAt, uC, mUB, mPopIn, vB, pAppIn, pPutAt, itemAt, putAt, mCall, mCallM, mCallK, mRc2, gIsi, isInt, isBool, isStr, isTup, isList, gLen, gAbs, gInt, gGcd, gMax, gMin, gTup, tru, ok_bind, no_bind, ex_bind, List.getElem?_cons_succ, List.getElem?_cons_zero, List.set_cons_succ, List.set_cons_zero, List.length_cons, List.length_nil, Nat.reduceAdd, Nat.reduceLT, Nat.reduceLeDiff, Nat.zero_add, if_true, if_pos_t, if_false_b, ite_tt, atI0, atI1, atI2, Bool.not_true, Bool.not_false, gEq_i, gNe_i, List.map_cons, List.map_nil, List.append_nil, List.nil_append, List.cons_append, List.replicate]) (gEq_nil _)
          show (pSeq _ _ δ0 >>= fun r => flo .im r.1) = _
          rw [pSeq_rt (δ1 := δ0) (d := .bool (((pairs xs ys).filter (notSame q)).map fun _ => (PyData.int 0)).isEmpty)]
          · rfl
          rw [pIf_t (δ1 := δ0) (by simp only [δ0, mV, mC, vA, rA, get, gets, mU, mB, mL, lNil, lCons, eF, bool_b, mT, mTr, mNot, mAnd, mOr, eNot, eAnd, eOr, mIf, sNil, sCons, mTup, fLst, mM, pNil, pSeq, pBk, pCt, pIf, pRet, put, pSet, pEx, gN, gE, gC, gT, pAs, pPar, pFor, fComp, tmY, flo, gAdd, gSub, gMul, gDiv, gMod, gPow, gNeg, gLt, gLe, gGt, gGe, gIs, gIsN, isNo, isBo, gIx, optR, oN, oS, toI, wSeq, seqOf, wZip, listAt, mApp, mPop, mPopAt, mAt, uAt, uC, mUB, mPopIn, vB, pAppIn, pPutAt, itemAt, putAt, mCall, mCallM, mCallK, mRc2, gIsi, isInt, isBool, isStr, isTup, isList, gLen, gAbs, gInt, gGcd, gMax, gMin, gTup, tru, ok_bind, no_bind, ex_bind, List.getElem?_cons_succ, List.getElem?_cons_zero, List.set_cons_succ, List.set_cons_zero, List.length_cons, List.length_nil, Nat.reduceAdd, Nat.reduceLT, Nat.reduceLeDiff, Nat.zero_add, if_true, if_pos_t, if_false_b, ite_tt, atI0, atI1, atI2, Bool.not_true, Bool.not_false, gEq_i, gNe_i, List.map_cons, List.map_nil, List.append_nil, List.nil_append, List.cons_append, List.replicate]), pSeq_nx (δ1 := δ0)]
          · exact pRet_of g0
          rw [pIf_f (δ1 := δ0)]
          · rfl
          simp only [δ0, el, mV, mC, vA, rA, get, gets, mU, mB, mL, lNil, lCons, eF, bool_b, mT, mTr, mNot, mAnd, mOr, eNot, eAnd, eOr, mIf, sNil, sCons, mTup, fLst, mM, pNil, pSeq, pBk, pCt, pIf, pRet, put, pSet, pEx, gN, gE, gC, gT, pAs, pPar, pFor, fComp, tmY, flo, gAdd, gSub, gMul, gDiv, gMod, gPow, gNeg, gLt, gLe, gGt, gGe, gIs, gIsN, isNo, isBo, gIx, optR, oN, oS, toI, wSeq, seqOf, wZip, listAt, mApp, mPop, mPopAt, mAt, uAt, uC, mUB, mPopIn, vB, pAppIn, pPutAt, itemAt, putAt, mCall, mCallM, mCallK, mRc2, gIsi, isInt, isBool, isStr, isTup, isList, gLen, gAbs, gInt, gGcd, gMax, gMin, gTup, tru, ok_bind, no_bind, ex_bind, List.getElem?_cons_succ, List.getElem?_cons_zero, List.set_cons_succ, List.set_cons_zero, List.length_cons, List.length_nil, Nat.reduceAdd, Nat.reduceLT, Nat.reduceLeDiff, Nat.zero_add, if_true, if_pos_t, if_false_b, ite_tt, atI0, atI1, atI2, Bool.not_true, Bool.not_false, gEq_i, gNe_i, List.map_cons, List.map_nil, List.append_nil, List.nil_append, List.cons_append, List.replicate]
        · rw [pairs_same hl fun y hy x => (hq y hy x).2]
          simp
      · have el : ((xs.length : Int) == (ys.length : Int)) = false := by simp; omega
        refine ⟨false, by simp only [el, mV, mC, vA, rA, get, gets, mU, mB, mL, lNil, lCons, eF, bool_b, mT, mTr, mNot, mAnd, mOr, eNot, eAnd, eOr, mIf, sNil, sCons, mTup, fLst, mM, pNil, pSeq, pBk, pCt, pIf, pRet, put, pSet, pEx, gN, gE, gC, gT, pAs, pPar, pFor, fComp, tmY, flo, gAdd, gSub, gMul, gDiv, gMod, gPow, gNeg, gLt, gLe, gGt, gGe, gIs, gIsN, isNo, isBo, gIx, optR, oN, oS, toI, wSeq, seqOf, wZip, listAt, mApp, mPop, mPopAt, mAt, uAt, uC, mUB, mPopIn, vB, pAppIn, pPutAt, itemAt, putAt, mCall, mCallM, mCallK, mRc2, gIsi, isInt, isBool, isStr, isTup, isList, gLen, gAbs, gInt, gGcd, gMax, gMin, gTup, tru, ok_bind, no_bind, ex_bind, List.getElem?_cons_succ, List.getElem?_cons_zero, List.set_cons_succ, List.set_cons_zero, List.length_cons, List.length_nil, Nat.reduceAdd, Nat.reduceLT, Nat.reduceLeDiff, Nat.zero_add, if_true, if_pos_t, if_false_b, ite_tt, atI0, atI1, atI2, Bool.not_true, Bool.not_false, gEq_i, gNe_i, List.map_cons, List.map_nil, List.append_nil, List.nil_append, List.cons_append, List.replicate], ?_⟩
        constructor
        · intro z; cases z
        · intro z; cases z; exact absurd rfl hl
    | _ => exact ⟨false, by simp only [mV, mC, vA, rA, get, gets, mU, mB, mL, lNil, lCons, eF, bool_b, mT, mTr, mNot, mAnd, mOr, eNot, eAnd, eOr, mIf, sNil, sCons, mTup, fLst, mM, pNil, pSeq, pBk, pCt, pIf, pRet, put, pSet, pEx, gN, gE, gC, gT, pAs, pPar, pFor, fComp, tmY, flo, gAdd, gSub, gMul, gDiv, gMod, gPow, gNeg, gLt, gLe, gGt, gGe, gIs, gIsN, isNo, isBo, gIx, optR, oN, oS, toI, wSeq, seqOf, wZip, listAt, mApp, mPop, mPopAt, mAt, uAt, uC, mUB, mPopIn, vB, pAppIn, pPutAt, itemAt, putAt, mCall, mCallM, mCallK, mRc2, gIsi, isInt, isBool, isStr, isTup, isList, gLen, gAbs, gInt, gGcd, gMax, gMin, gTup, tru, ok_bind, no_bind, ex_bind, List.getElem?_cons_succ, List.getElem?_cons_zero, List.set_cons_succ, List.set_cons_zero, List.length_cons, List.length_nil, Nat.reduceAdd, Nat.reduceLT, Nat.reduceLeDiff, Nat.zero_add, if_true, if_pos_t, if_false_b, ite_tt, atI0, atI1, atI2, Bool.not_true, Bool.not_false, gEq_i, gNe_i, List.map_cons, List.map_nil, List.append_nil, List.nil_append, List.cons_append, List.replicate], by simp⟩
theorem same_refl {n : Nat} {d : D} (h : good n d = true) : r_law_same (n + 1) [d, d] = .ok (.bool true) := by
  obtain ⟨b, e, hb⟩ := same_ok n d d h
  rw [e, hb.mpr rfl]
end Zd

namespace Zd
open PySem PySem.Spec
open PyProof.Rows L2

/-! ### fractions -/
noncomputable def b_law_fraction : Pm := (pSeq (pPar 2 3 (sCons (mL gAbs (lCons (vA (mV 0)) lNil)) (sCons (mL gAbs (lCons (vA (mV 1)) lNil)) sNil)))
    (pSeq (loopA (mT (mB gNe (vA (mV 3)) (vA (mC (.int 0))))) (pPar 2 3 (sCons (mV 3) (sCons (mB gMod (vA (mL gInt (lCons (vA (mV 2)) lNil))) (vA (mV 3))) sNil))))
    (pRet (mIf (mT (mB gGt (vA (mV 1)) (vA (mC (.int 0))))) (mTup (sCons (mB gDiv (vA (mV 0)) (vA (mV 2))) (sCons (mB gDiv (vA (mV 1)) (vA (mV 2))) sNil))) (mTup (sCons (mB gDiv (vA (mB gSub (vA (mC (.int 0))) (vA (mV 0)))) (vA (mV 2))) (sCons (mB gDiv (vA (mB gSub (vA (mC (.int 0))) (vA (mV 1)))) (vA (mV 2))) sNil)))))))
noncomputable def r_law_fraction : List D → Rs D := runP (.im) 4 b_law_fraction
noncomputable def b_fraction : Pm := (pSeq (pSet 2 (mIf (mT (mB gGt (vA (mV 1)) (vA (mC (.int 0))))) (mL gGcd (lCons (vA (mV 0)) (lCons (vA (mV 1)) lNil))) (mU gNeg (vA (mL gGcd (lCons (vA (mV 0)) (lCons (vA (mV 1)) lNil)))))))
    (pRet (mTup (sCons (mB gDiv (vA (mV 0)) (vA (mV 2))) (sCons (mB gDiv (vA (mV 1)) (vA (mV 2))) sNil)))))
noncomputable def r_fraction : List D → Rs D := runP (.im) 3 b_fraction
noncomputable def b_added : Pm := (pRet (mCall r_fraction (sCons (mB gAdd (vA (mB gMul (vA (mB gIx (vA (mV 0)) (vA (mC (.int 0))))) (vA (mB gIx (vA (mV 1)) (vA (mC (.int 1))))))) (vA (mB gMul (vA (mB gIx (vA (mV 1)) (vA (mC (.int 0))))) (vA (mB gIx (vA (mV 0)) (vA (mC (.int 1)))))))) (sCons (mB gMul (vA (mB gIx (vA (mV 0)) (vA (mC (.int 1))))) (vA (mB gIx (vA (mV 1)) (vA (mC (.int 1)))))) sNil))))
noncomputable def r_added : List D → Rs D := runP (.im) 2 b_added
noncomputable def b_times : Pm := (pRet (mCall r_fraction (sCons (mB gMul (vA (mB gIx (vA (mV 0)) (vA (mC (.int 0))))) (vA (mB gIx (vA (mV 1)) (vA (mC (.int 0)))))) (sCons (mB gMul (vA (mB gIx (vA (mV 0)) (vA (mC (.int 1))))) (vA (mB gIx (vA (mV 1)) (vA (mC (.int 1)))))) sNil))))
noncomputable def r_times : List D → Rs D := runP (.im) 2 b_times
noncomputable def b_minus : Pm := (pRet (mTup (sCons (mU gNeg (vA (mB gIx (vA (mV 0)) (vA (mC (.int 0)))))) (sCons (mB gIx (vA (mV 0)) (vA (mC (.int 1)))) sNil))))
noncomputable def r_minus : List D → Rs D := runP (.im) 1 b_minus
noncomputable def b_over : Pm := (pRet (mCall r_fraction (sCons (mB gMul (vA (mB gIx (vA (mV 0)) (vA (mC (.int 0))))) (vA (mB gIx (vA (mV 1)) (vA (mC (.int 1)))))) (sCons (mB gMul (vA (mB gIx (vA (mV 0)) (vA (mC (.int 1))))) (vA (mB gIx (vA (mV 1)) (vA (mC (.int 0)))))) sNil))))
noncomputable def r_over : List D → Rs D := runP (.im) 2 b_over
def gz (a d : Int) : Int := ((Nat.gcd a.natAbs d.natAbs : Nat) : Int)
def fn (a d : Int) : Int := if 0 < d then a.fdiv (gz a d) else (0 - a).fdiv (gz a d)
def fd (a d : Int) : Int := if 0 < d then d.fdiv (gz a d) else (0 - d).fdiv (gz a d)
def pr2 (a d : Int) : D := .tuple [.int a, .int d]
def fr (a d : Int) : D := pr2 (fn a d) (fd a d)
/-- not too great -/
def Sz (k : Nat) (a : Int) : Prop := a.natAbs < 2 ^ k
theorem Sz.up {k j : Nat} {a : Int} (h : Sz k a) (hj : k ≤ j) : Sz j a := Nat.lt_of_lt_of_le h (Nat.pow_le_pow_right (by decide) hj)
theorem Sz.mul {k j : Nat} {a b : Int} (h : Sz k a) (h' : Sz j b) : Sz (k + j) (a * b) := by
  unfold Sz at *
  rw [Int.natAbs_mul,
            Nat.pow_add]
  exact Nat.mul_lt_mul'' h h'
theorem Sz.add {k : Nat} {a b : Int} (h : Sz k a) (h' : Sz k b) : Sz (k + 1) (a + b) := by
  unfold Sz at *
  rw [Nat.pow_succ]
  omega
theorem Sz.neg {k : Nat} {a : Int} (h : Sz k a) : Sz k (0 - a) := by
  unfold Sz at *
  omega
theorem Sz.neg' {k : Nat} {a : Int} (h : Sz k a) : Sz k (-a) := by
  unfold Sz at *
  omega
theorem Sz.log {k : Nat} {a : Int} (h : Sz k a) : a.natAbs.log2 < k + 1 := log2_of h
theorem cMul {k j : Nat} {a b : Int} (h : Sz k a) (h' : Sz j b) (hk : k + j + 2 ≤ 1000000) : a.natAbs.log2 + b.natAbs.log2 < 1000000 := by
  have := h.log
  have := h'.log
  omega
theorem gz_pos {a d : Int} (h : d ≠ 0) : 0 < gz a d := by
  unfold gz
  have : 0 < Nat.gcd a.natAbs d.natAbs := Nat.gcd_pos_of_pos_right _ (by omega)
  omega
theorem gz_le {a d : Int} (h : d ≠ 0) : (gz a d).natAbs ≤ d.natAbs := by
  unfold gz
  rw [Int.natAbs_natCast]
  exact Nat.le_of_dvd (by omega) (Nat.gcd_dvd_right ..)
theorem euclid (A B : Option D) : ∀ (n x y : Nat), y ≤ n → loopA (mT (mB gNe (vA (mV 3)) (vA (mC (.int 0))))) (pPar 2 3 (sCons (mV 3) (sCons (mB gMod (vA (mL gInt (lCons (vA (mV 2)) lNil))) (vA (mV 3))) sNil))) [A, B, some (.int x), some (.int y)] = .ok (.nx, [A, B, some (.int (Nat.gcd x y : Nat)), some (.int 0)])
  | n, x, 0, _ => by
    rw [loopA_eq]
    have e : (((0 : Nat) : Int) == 0) = true := by decide
    simp only [e, Nat.gcd_zero_right, mV, mC, vA, rA, get, gets, mU, mB, mL, lNil, lCons, eF, bool_b, mT, mTr, mNot, mAnd, mOr, eNot, eAnd, eOr, mIf, sNil, sCons, mTup, fLst, mM, pNil, pSeq, pBk, pCt, pIf, pRet, put, pSet, pEx, gN, gE, gC, gT, pAs, pPar, pFor, fComp, tmY, flo, gAdd, gSub, gMul, gDiv, gMod, gPow, gNeg, gLt, gLe, gGt, gGe, gIs, gIsN, isNo, isBo, gIx, optR, oN, oS, toI, wSeq, seqOf, wZip, listAt, mApp, mPop, mPopAt, mAt, uAt, uC, mUB, mPopIn, vB, pAppIn, pPutAt, itemAt, putAt, mCall, mCallM, mCallK, mRc2, gIsi, isInt, isBool, isStr, isTup, isList, gLen, gAbs, gInt, gGcd, gMax, gMin, gTup, tru, ok_bind, no_bind, ex_bind, List.getElem?_cons_succ, List.getElem?_cons_zero, List.set_cons_succ, List.set_cons_zero, List.length_cons, List.length_nil, Nat.reduceAdd, Nat.reduceLT, Nat.reduceLeDiff, Nat.zero_add, if_true, if_pos_t, if_false_b, ite_tt, atI0, atI1, atI2, Bool.not_true, Bool.not_false, gEq_i, gNe_i, List.map_cons, List.map_nil, List.append_nil, List.nil_append, List.cons_append, List.replicate]
    rfl
  | 0, x, y + 1, h => by omega
  | n + 1, x, y + 1, h => by
    rw [loopA_eq]
    have hlt : x % (y + 1) < y + 1 := Nat.mod_lt _ (Nat.succ_pos y)
    have ih := euclid A B n (y + 1) (x % (y + 1)) (by omega)
    have e : ((((y + 1 : Nat) : Int)) == 0) = false := by simp; omega
    have e2 : (x : Int).fmod ((y + 1 : Nat) : Int) = ((x % (y + 1) : Nat) : Int) := by
      rw [Int.fmod_eq_emod_of_nonneg
                _ (by omega)]
      omega
    have e3 : ((y + 1 : Nat) : Int) ≠ 0 := by omega
    have e4 : Nat.gcd x (y + 1) = Nat.gcd (y + 1) (x % (y + 1)) := by rw [Nat.gcd_comm x, Nat.gcd_rec (y + 1) x, Nat.gcd_comm]
    rw [e4]
    simp only [e, e2, if_pos e3, mV, mC, vA, rA, get, gets, mU, mB, mL, lNil, lCons, eF, bool_b, mT, mTr, mNot, mAnd, mOr, eNot, eAnd, eOr, mIf, sNil, sCons, mTup, fLst, mM, pNil, pSeq, pBk, pCt, pIf, pRet, put, pSet, pEx, gN, gE, gC, gT, pAs, pPar, pFor, fComp, tmY, flo, gAdd, gSub, gMul, gDiv, gMod, gPow, gNeg, gLt, gLe, gGt, gGe, gIs, gIsN, isNo, isBo, gIx, optR, oN, oS, toI, wSeq, seqOf, wZip, listAt, mApp, mPop, mPopAt, mAt, uAt, uC, mUB, mPopIn, vB, pAppIn, pPutAt, itemAt, putAt, mCall, mCallM, mCallK, mRc2, gIsi, isInt, isBool, isStr, isTup, isList, gLen, gAbs, gInt, gGcd, gMax, gMin, gTup, tru, ok_bind, no_bind, ex_bind, List.getElem?_cons_succ, List.getElem?_cons_zero, List.set_cons_succ, List.set_cons_zero, List.length_cons, List.length_nil, Nat.reduceAdd, Nat.reduceLT, Nat.reduceLeDiff, Nat.zero_add, if_true, if_pos_t, if_false_b, ite_tt, atI0, atI1, atI2, Bool.not_true, Bool.not_false, gEq_i, gNe_i, List.map_cons, List.map_nil, List.append_nil, List.nil_append, List.cons_append, List.replicate]
    exact ih
theorem fn_neg {a d : Int} (h : ¬ 0 < d) : (0 - a).fdiv (gz a d) = a.fdiv (-(gz a d)) := by
  rw [← Int.neg_fdiv_neg a, Int.neg_neg, Int.zero_sub]
theorem law_fraction_ok {a d : Int} {k : Nat} (hd : d ≠ 0) (hk : Sz k d) (hk2 : k ≤ 8000) : r_law_fraction [.int a, .int d] = .ok (fr a d) := by
  have gp := gz_pos (a := a) hd
  have gl : gz a d ≠ 0 ∧ (gz a d).natAbs.log2 < 9000 := ⟨by omega, by
    have : Sz k (gz a d) := Nat.lt_of_le_of_lt (gz_le hd) hk
    have := this.log
    omega⟩
  have ab : ∀ i : Int, (if i < 0 then -i else i) = ((i.natAbs : Nat) : Int) := fun i => by split <;> omega
  have st : ([PyData.int a, .int d] : List D).map some ++ List.replicate (4 - ([PyData.int a, .int d] : List D).length) none = [some (.int a), some (.int d), none, none] := rfl
  have s1 : pPar 2 3 (sCons (mL gAbs (lCons (vA (mV 0)) lNil)) (sCons (mL gAbs (lCons (vA (mV 1)) lNil)) sNil)) [some (.int a), some (.int d), none, none] = .ok (.nx, [some (.int a), some (.int d), some (.int (a.natAbs : Nat)), some (.int (d.natAbs : Nat))]) := by
    simp only [ab, mV, mC, vA, rA, get, gets, mU, mB, mL, lNil, lCons, eF, bool_b, mT, mTr, mNot, mAnd, mOr, eNot, eAnd, eOr, mIf, sNil, sCons, mTup, fLst, mM, pNil, pSeq, pBk, pCt, pIf, pRet, put, pSet, pEx, gN, gE, gC, gT, pAs, pPar, pFor, fComp, tmY, flo, gAdd, gSub, gMul, gDiv, gMod, gPow, gNeg, gLt, gLe, gGt, gGe, gIs, gIsN, isNo, isBo, gIx, optR, oN, oS, toI, wSeq, seqOf, wZip, listAt, mApp, mPop, mPopAt, mAt, uAt, uC, mUB, mPopIn, vB, pAppIn, pPutAt, itemAt, putAt, mCall, mCallM, mCallK, mRc2, gIsi, isInt, isBool, isStr, isTup, isList, gLen, gAbs, gInt, gGcd, gMax, gMin, gTup, tru, ok_bind, no_bind, ex_bind, List.getElem?_cons_succ, List.getElem?_cons_zero, List.set_cons_succ, List.set_cons_zero, List.length_cons, List.length_nil, Nat.reduceAdd, Nat.reduceLT, Nat.reduceLeDiff, Nat.zero_add, if_true, if_pos_t, if_false_b, ite_tt, atI0, atI1, atI2, Bool.not_true, Bool.not_false, gEq_i, gNe_i, List.map_cons, List.map_nil, List.append_nil, List.nil_append, List.cons_append, List.replicate]
  have s2 := euclid (some (.int a)) (some (.int d)) d.natAbs a.natAbs d.natAbs (Nat.le_refl _)
  unfold r_law_fraction runP b_law_fraction
  rw [st, pSeq_nx s1, pSeq_nx s2]
  have z2 : 2 ≤ sizeLine := by decide
  by_cases hp : 0 < d
  · have t1 : decide (0 < d) = true := decide_eq_true hp
    unfold gz at gl
    simp only [t1, if_pos gl, if_pos z2, fr, pr2, fn, fd, gz, if_pos hp, mV, mC, vA, rA, get, gets, mU, mB, mL, lNil, lCons, eF, bool_b, mT, mTr, mNot, mAnd, mOr, eNot, eAnd, eOr, mIf, sNil, sCons, mTup, fLst, mM, pNil, pSeq, pBk, pCt, pIf, pRet, put, pSet, pEx, gN, gE, gC, gT, pAs, pPar, pFor, fComp, tmY, flo, gAdd, gSub, gMul, gDiv, gMod, gPow, gNeg, gLt, gLe, gGt, gGe, gIs, gIsN, isNo, isBo, gIx, optR, oN, oS, toI, wSeq, seqOf, wZip, listAt, mApp, mPop, mPopAt, mAt, uAt, uC, mUB, mPopIn, vB, pAppIn, pPutAt, itemAt, putAt, mCall, mCallM, mCallK, mRc2, gIsi, isInt, isBool, isStr, isTup, isList, gLen, gAbs, gInt, gGcd, gMax, gMin, gTup, tru, ok_bind, no_bind, ex_bind, List.getElem?_cons_succ, List.getElem?_cons_zero, List.set_cons_succ, List.set_cons_zero, List.length_cons, List.length_nil, Nat.reduceAdd, Nat.reduceLT, Nat.reduceLeDiff, Nat.zero_add, if_true, if_pos_t, if_false_b, ite_tt, atI0, atI1, atI2, Bool.not_true, Bool.not_false, gEq_i, gNe_i, List.map_cons, List.map_nil, List.append_nil, List.nil_append, List.cons_append, List.replicate]
  · have t1 : decide (0 < d) = false := decide_eq_false hp
    unfold gz at gl
    simp only [t1, if_pos gl, if_pos z2, fr, pr2, fn, fd, gz, if_neg hp, mV, mC, vA, rA, get, gets, mU, mB, mL, lNil, lCons, eF, bool_b, mT, mTr, mNot, mAnd, mOr, eNot, eAnd, eOr, mIf, sNil, sCons, mTup, fLst, mM, pNil, pSeq, pBk, pCt, pIf, pRet, put, pSet, pEx, gN, gE, gC, gT, pAs, pPar, pFor, fComp, tmY, flo, gAdd, gSub, gMul, gDiv, gMod, gPow, gNeg, gLt, gLe, gGt, gGe, gIs, gIsN, isNo, isBo, gIx, optR, oN, oS, toI, wSeq, seqOf, wZip, listAt, mApp, mPop, mPopAt, mAt, uAt, uC, mUB, mPopIn, vB, pAppIn, pPutAt, itemAt, putAt, mCall, mCallM, mCallK, mRc2, gIsi, isInt, isBool, isStr, isTup, isList, gLen, gAbs, gInt, gGcd, gMax, gMin, gTup, tru, ok_bind, no_bind, ex_bind, List.getElem?_cons_succ, List.getElem?_cons_zero, List.set_cons_succ, List.set_cons_zero, List.length_cons, List.length_nil, Nat.reduceAdd, Nat.reduceLT, Nat.reduceLeDiff, Nat.zero_add, if_true, if_pos_t, if_false_b, ite_tt, atI0, atI1, atI2, Bool.not_true, Bool.not_false, gEq_i, gNe_i, List.map_cons, List.map_nil, List.append_nil, List.nil_append, List.cons_append, List.replicate]
theorem fraction_ok {a d : Int} {k : Nat} (hd : d ≠ 0) (hk : Sz k d) (hk2 : k ≤ 8000) : r_fraction [.int a, .int d] = .ok (fr a d) := by
  have gp := gz_pos (a := a) hd
  have gs : Sz k (gz a d) := Nat.lt_of_le_of_lt (gz_le hd) hk
  have gl : gz a d ≠ 0 ∧ (gz a d).natAbs.log2 < 9000 := ⟨by omega, by have := gs.log; omega⟩
  have gl2 : -(gz a d) ≠ 0 ∧ (-(gz a d)).natAbs.log2 < 9000 := ⟨by omega, by rw [Int.natAbs_neg]; exact gl.2⟩
  have st : ([PyData.int a, .int d] : List D).map some ++ List.replicate (3 - ([PyData.int a, .int d] : List D).length) none = [some (.int a), some (.int d), none] := rfl
  unfold r_fraction runP b_fraction
  rw [st]
  have z2 : 2 ≤ sizeLine := by decide
  by_cases hp : 0 < d
  · have t1 : decide (0 < d) = true := decide_eq_true hp
    unfold gz at gl
    simp only [t1, if_pos gl, if_pos z2, fr, pr2, fn, fd, gz, if_pos hp, mV, mC, vA, rA, get, gets, mU, mB, mL, lNil, lCons, eF, bool_b, mT, mTr, mNot, mAnd, mOr, eNot, eAnd, eOr, mIf, sNil, sCons, mTup, fLst, mM, pNil, pSeq, pBk, pCt, pIf, pRet, put, pSet, pEx, gN, gE, gC, gT, pAs, pPar, pFor, fComp, tmY, flo, gAdd, gSub, gMul, gDiv, gMod, gPow, gNeg, gLt, gLe, gGt, gGe, gIs, gIsN, isNo, isBo, gIx, optR, oN, oS, toI, wSeq, seqOf, wZip, listAt, mApp, mPop, mPopAt, mAt, uAt, uC, mUB, mPopIn, vB, pAppIn, pPutAt, itemAt, putAt, mCall, mCallM, mCallK, mRc2, gIsi, isInt, isBool, isStr, isTup, isList, gLen, gAbs, gInt, gGcd, gMax, gMin, gTup, tru, ok_bind, no_bind, ex_bind, List.getElem?_cons_succ, List.getElem?_cons_zero, List.set_cons_succ, List.set_cons_zero, List.length_cons, List.length_nil, Nat.reduceAdd, Nat.reduceLT, Nat.reduceLeDiff, Nat.zero_add, if_true, if_pos_t, if_false_b, ite_tt, atI0, atI1, atI2, Bool.not_true, Bool.not_false, gEq_i, gNe_i, List.map_cons, List.map_nil, List.append_nil, List.nil_append, List.cons_append, List.replicate]
  · have t1 : decide (0 < d) = false := decide_eq_false hp
    have e1 := fn_neg (a := a) hp
    have e2 : (0 - d).fdiv (gz a d) = d.fdiv (-(gz a d)) := by rw [← Int.neg_fdiv_neg d, Int.neg_neg, Int.zero_sub]
    unfold gz at gl2 e1 e2
    simp only [t1, if_pos gl2, if_pos z2, fr, pr2, fn, fd, gz, if_neg hp, e1, e2, mV, mC, vA, rA, get, gets, mU, mB, mL, lNil, lCons, eF, bool_b, mT, mTr, mNot, mAnd, mOr, eNot, eAnd, eOr, mIf, sNil, sCons, mTup, fLst, mM, pNil, pSeq, pBk, pCt, pIf, pRet, put, pSet, pEx, gN, gE, gC, gT, pAs, pPar, pFor, fComp, tmY, flo, gAdd, gSub, gMul, gDiv, gMod, gPow, gNeg, gLt, gLe, gGt, gGe, gIs, gIsN, isNo, isBo, gIx, optR, oN, oS, toI, wSeq, seqOf, wZip, listAt, mApp, mPop, mPopAt, mAt, uAt, uC, mUB, mPopIn, vB, pAppIn, pPutAt, itemAt, putAt, mCall, mCallM, mCallK, mRc2, gIsi, isInt, isBool, isStr, isTup, isList, gLen, gAbs, gInt, gGcd, gMax, gMin, gTup, tru, ok_bind, no_bind, ex_bind, List.getElem?_cons_succ, List.getElem?_cons_zero, List.set_cons_succ, List.set_cons_zero, List.length_cons, List.length_nil, Nat.reduceAdd, Nat.reduceLT, Nat.reduceLeDiff, Nat.zero_add, if_true, if_pos_t, if_false_b, ite_tt, atI0, atI1, atI2, Bool.not_true, Bool.not_false, gEq_i, gNe_i, List.map_cons, List.map_nil, List.append_nil, List.nil_append, List.cons_append, List.replicate]
theorem gz_dvd_l (a d : Int) : gz a d ∣ a := by
  unfold gz
  exact Int.ofNat_dvd_left.mpr (Nat.gcd_dvd_left ..)
theorem gz_dvd_r (a d : Int) : gz a d ∣ d := by
  unfold gz
  exact Int.ofNat_dvd_left.mpr (Nat.gcd_dvd_right ..)
theorem natAbs_fdiv {a g : Int} (hg : 0 < g) (h : g ∣ a) : (a.fdiv g).natAbs = a.natAbs / g.natAbs := by
  obtain ⟨c, rfl⟩ := h
  rw [Int.mul_fdiv_cancel_left _ (by omega), Int.natAbs_mul, Nat.mul_div_cancel_left _ (by omega)]
theorem fn_abs {a d : Int} (hd : d ≠ 0) : (fn a d).natAbs = a.natAbs / Nat.gcd a.natAbs d.natAbs := by
  have gp := gz_pos (a := a) hd
  have e : (gz a d).natAbs = Nat.gcd a.natAbs d.natAbs := by unfold gz; rw [Int.natAbs_natCast]
  unfold fn
  split
  · rw [natAbs_fdiv gp (gz_dvd_l a d), e]
  · rw [natAbs_fdiv gp (by rw [Int.zero_sub]; exact Int.dvd_neg.mpr (gz_dvd_l a d)), e, Int.zero_sub, Int.natAbs_neg]
theorem fd_abs {a d : Int} (hd : d ≠ 0) : (fd a d).natAbs = d.natAbs / Nat.gcd a.natAbs d.natAbs := by
  have gp := gz_pos (a := a) hd
  have e : (gz a d).natAbs = Nat.gcd a.natAbs d.natAbs := by unfold gz; rw [Int.natAbs_natCast]
  unfold fd
  split
  · rw [natAbs_fdiv gp (gz_dvd_r a d), e]
  · rw [natAbs_fdiv gp (by rw [Int.zero_sub]; exact Int.dvd_neg.mpr (gz_dvd_r a d)), e, Int.zero_sub, Int.natAbs_neg]
theorem fd_nonneg {a d : Int} (hd : d ≠ 0) : 0 ≤ fd a d := by
  have gp := gz_pos (a := a) hd
  unfold fd
  split
  · exact Int.fdiv_nonneg (by omega) (by omega)
  · exact Int.fdiv_nonneg (by omega) (by omega)
theorem fr_cop {a d : Int} (hd : d ≠ 0) : Nat.gcd (fn a d).natAbs (fd a d).natAbs = 1 := by
  rw [fn_abs hd, fd_abs hd]
  exact Nat.coprime_div_gcd_div_gcd (Nat.gcd_pos_of_pos_right _ (by omega))
theorem fd_pos {a d : Int} (hd : d ≠ 0) : 0 < fd a d := by
  have h0 := fd_nonneg (a := a) hd
  have h1 := fd_abs (a := a) hd
  have : 0 < d.natAbs / Nat.gcd a.natAbs d.natAbs := Nat.div_pos (Nat.le_of_dvd (by omega) (Nat.gcd_dvd_right ..)) (Nat.gcd_pos_of_pos_right _ (by omega))
  omega
theorem fn_sm {a d : Int} {k : Nat} (hd : d ≠ 0) (h : Sz k a) : Sz k (fn a d) := by
  unfold Sz at *
  rw [fn_abs hd]
  exact Nat.lt_of_le_of_lt (Nat.div_le_self ..) h
theorem fd_sm {a d : Int} {k : Nat} (hd : d ≠ 0) (h : Sz k d) : Sz k (fd a d) := by
  unfold Sz at *
  rw [fd_abs hd]
  exact Nat.lt_of_le_of_lt (Nat.div_le_self ..) h
theorem fr_self {a d : Int} (hd : 0 < d) (h : Nat.gcd a.natAbs d.natAbs = 1) : fn a d = a ∧ fd a d = d := by
  have e : gz a d = 1 := by unfold gz; rw [h]; rfl
  unfold fn fd
  rw [if_pos hd, if_pos hd, e, Int.fdiv_one, Int.fdiv_one]
  exact ⟨rfl, rfl⟩
/-- a fraction in its lowest terms, not too great -/
structure Fq (k : Nat) (a d : Int) : Prop where
  pos : 0 < d
  cop : Nat.gcd a.natAbs d.natAbs = 1
  sa : Sz k a
  sd : Sz k d
theorem fq_of {a d : Int} {k : Nat} (hd : d ≠ 0) (ha : Sz k a) (hk : Sz k d) : Fq k (fn a d) (fd a d) := ⟨fd_pos hd, fr_cop hd, fn_sm hd ha, fd_sm hd hk⟩
theorem Fq.up {k j : Nat} {a d : Int} (h : Fq k a d) (hj : k ≤ j) : Fq j a d := ⟨h.pos, h.cop, h.sa.up hj, h.sd.up hj⟩
theorem added_ok {a d b e : Int} {k : Nat} (h : Fq k a d) (h' : Fq k b e) (hk : k ≤ 4000) : r_added [pr2 a d, pr2 b e] = .ok (fr (a * e + b * d) (d * e)) := by
  have hp : d * e ≠ 0 := Int.mul_ne_zero (by have := h.pos; omega) (by have := h'.pos; omega)
  have f := fraction_ok (a := a * e + b * d) hp (h.sd.mul h'.sd) (by omega)
  have c1 := cMul h.sa h'.sd (by omega)
  have c2 := cMul h'.sa h.sd (by omega)
  have c3 := cMul h.sd h'.sd (by omega)
  have st : ([pr2 a d, pr2 b e] : List D).map some ++ List.replicate (2 - ([pr2 a d, pr2 b e] : List D).length) none = [some (pr2 a d), some (pr2 b e)] := rfl
  unfold r_added runP b_added
  rw [st]
  simp only [pr2, f, if_pos c1, if_pos c2, if_pos c3, mV, mC, vA, rA, get, gets, mU, mB, mL, lNil, lCons, eF, bool_b, mT, mTr, mNot, mAnd, mOr, eNot, eAnd, eOr, mIf, sNil, sCons, mTup, fLst, mM, pNil, pSeq, pBk, pCt, pIf, pRet, put, pSet, pEx, gN, gE, gC, gT, pAs, pPar, pFor, fComp, tmY, flo, gAdd, gSub, gMul, gDiv, gMod, gPow, gNeg, gLt, gLe, gGt, gGe, gIs, gIsN, isNo, isBo, gIx, optR, oN, oS, toI, wSeq, seqOf, wZip, listAt, mApp, mPop, mPopAt, mAt, uAt, uC, mUB, mPopIn, vB, pAppIn, pPutAt, itemAt, putAt, mCall, mCallM, mCallK, mRc2, gIsi, isInt, isBool, isStr, isTup, isList, gLen, gAbs, gInt, gGcd, gMax, gMin, gTup, tru, ok_bind, no_bind, ex_bind, List.getElem?_cons_succ, List.getElem?_cons_zero, List.set_cons_succ, List.set_cons_zero, List.length_cons, List.length_nil, Nat.reduceAdd, Nat.reduceLT, Nat.reduceLeDiff, Nat.zero_add, if_true, if_pos_t, if_false_b, ite_tt, atI0, atI1, atI2, Bool.not_true, Bool.not_false, gEq_i, gNe_i, List.map_cons, List.map_nil, List.append_nil, List.nil_append, List.cons_append, List.replicate]
theorem times_ok {a d b e : Int} {k : Nat} (h : Fq k a d) (h' : Fq k b e) (hk : k ≤ 4000) : r_times [pr2 a d, pr2 b e] = .ok (fr (a * b) (d * e)) := by
  have hp : d * e ≠ 0 := Int.mul_ne_zero (by have := h.pos; omega) (by have := h'.pos; omega)
  have f := fraction_ok (a := a * b) hp (h.sd.mul h'.sd) (by omega)
  have c1 := cMul h.sa h'.sa (by omega)
  have c3 := cMul h.sd h'.sd (by omega)
  have st : ([pr2 a d, pr2 b e] : List D).map some ++ List.replicate (2 - ([pr2 a d, pr2 b e] : List D).length) none = [some (pr2 a d), some (pr2 b e)] := rfl
  unfold r_times runP b_times
  rw [st]
  simp only [pr2, f, if_pos c1, if_pos c3, mV, mC, vA, rA, get, gets, mU, mB, mL, lNil, lCons, eF, bool_b, mT, mTr, mNot, mAnd, mOr, eNot, eAnd, eOr, mIf, sNil, sCons, mTup, fLst, mM, pNil, pSeq, pBk, pCt, pIf, pRet, put, pSet, pEx, gN, gE, gC, gT, pAs, pPar, pFor, fComp, tmY, flo, gAdd, gSub, gMul, gDiv, gMod, gPow, gNeg, gLt, gLe, gGt, gGe, gIs, gIsN, isNo, isBo, gIx, optR, oN, oS, toI, wSeq, seqOf, wZip, listAt, mApp, mPop, mPopAt, mAt, uAt, uC, mUB, mPopIn, vB, pAppIn, pPutAt, itemAt, putAt, mCall, mCallM, mCallK, mRc2, gIsi, isInt, isBool, isStr, isTup, isList, gLen, gAbs, gInt, gGcd, gMax, gMin, gTup, tru, ok_bind, no_bind, ex_bind, List.getElem?_cons_succ, List.getElem?_cons_zero, List.set_cons_succ, List.set_cons_zero, List.length_cons, List.length_nil, Nat.reduceAdd, Nat.reduceLT, Nat.reduceLeDiff, Nat.zero_add, if_true, if_pos_t, if_false_b, ite_tt, atI0, atI1, atI2, Bool.not_true, Bool.not_false, gEq_i, gNe_i, List.map_cons, List.map_nil, List.append_nil, List.nil_append, List.cons_append, List.replicate]
theorem minus_ok {a d : Int} : r_minus [pr2 a d] = .ok (pr2 (-a) d) := by
  have st : ([pr2 a d] : List D).map some ++ List.replicate (1 - ([pr2 a d] : List D).length) none = [some (pr2 a d)] := rfl
  have z2 : 2 ≤ sizeLine := by decide
  unfold r_minus runP b_minus
  rw [st]
  simp only [pr2, if_pos z2, mV, mC, vA, rA, get, gets, mU, mB, mL, lNil, lCons, eF, bool_b, mT, mTr, mNot, mAnd, mOr, eNot, eAnd, eOr, mIf, sNil, sCons, mTup, fLst, mM, pNil, pSeq, pBk, pCt, pIf, pRet, put, pSet, pEx, gN, gE, gC, gT, pAs, pPar, pFor, fComp, tmY, flo, gAdd, gSub, gMul, gDiv, gMod, gPow, gNeg, gLt, gLe, gGt, gGe, gIs, gIsN, isNo, isBo, gIx, optR, oN, oS, toI, wSeq, seqOf, wZip, listAt, mApp, mPop, mPopAt, mAt, uAt, uC, mUB, mPopIn, vB, pAppIn, pPutAt, itemAt, putAt, mCall, mCallM, mCallK, mRc2, gIsi, isInt, isBool, isStr, isTup, isList, gLen, gAbs, gInt, gGcd, gMax, gMin, gTup, tru, ok_bind, no_bind, ex_bind, List.getElem?_cons_succ, List.getElem?_cons_zero, List.set_cons_succ, List.set_cons_zero, List.length_cons, List.length_nil, Nat.reduceAdd, Nat.reduceLT, Nat.reduceLeDiff, Nat.zero_add, if_true, if_pos_t, if_false_b, ite_tt, atI0, atI1, atI2, Bool.not_true, Bool.not_false, gEq_i, gNe_i, List.map_cons, List.map_nil, List.append_nil, List.nil_append, List.cons_append, List.replicate]
theorem over_ok {a d b e : Int} {k : Nat} (h : Fq k a d) (h' : Fq k b e) (hb : b ≠ 0) (hk : k ≤ 4000) : r_over [pr2 a d, pr2 b e] = .ok (fr (a * e) (d * b)) := by
  have hp : d * b ≠ 0 := Int.mul_ne_zero (by have := h.pos; omega) hb
  have f := fraction_ok (a := a * e) hp (h.sd.mul h'.sa) (by omega)
  have c1 := cMul h.sa h'.sd (by omega)
  have c3 := cMul h.sd h'.sa (by omega)
  have st : ([pr2 a d, pr2 b e] : List D).map some ++ List.replicate (2 - ([pr2 a d, pr2 b e] : List D).length) none = [some (pr2 a d), some (pr2 b e)] := rfl
  unfold r_over runP b_over
  rw [st]
  simp only [pr2, f, if_pos c1, if_pos c3, mV, mC, vA, rA, get, gets, mU, mB, mL, lNil, lCons, eF, bool_b, mT, mTr, mNot, mAnd, mOr, eNot, eAnd, eOr, mIf, sNil, sCons, mTup, fLst, mM, pNil, pSeq, pBk, pCt, pIf, pRet, put, pSet, pEx, gN, gE, gC, gT, pAs, pPar, pFor, fComp, tmY, flo, gAdd, gSub, gMul, gDiv, gMod, gPow, gNeg, gLt, gLe, gGt, gGe, gIs, gIsN, isNo, isBo, gIx, optR, oN, oS, toI, wSeq, seqOf, wZip, listAt, mApp, mPop, mPopAt, mAt, uAt, uC, mUB, mPopIn, vB, pAppIn, pPutAt, itemAt, putAt, mCall, mCallM, mCallK, mRc2, gIsi, isInt, isBool, isStr, isTup, isList, gLen, gAbs, gInt, gGcd, gMax, gMin, gTup, tru, ok_bind, no_bind, ex_bind, List.getElem?_cons_succ, List.getElem?_cons_zero, List.set_cons_succ, List.set_cons_zero, List.length_cons, List.length_nil, Nat.reduceAdd, Nat.reduceLT, Nat.reduceLeDiff, Nat.zero_add, if_true, if_pos_t, if_false_b, ite_tt, atI0, atI1, atI2, Bool.not_true, Bool.not_false, gEq_i, gNe_i, List.map_cons, List.map_nil, List.append_nil, List.nil_append, List.cons_append, List.replicate]
end Zd

namespace Zd
open PySem PySem.Spec
open PyProof.Rows L2
noncomputable def b_is_integer : Pm := (pRet (eAnd (mU (gIsi isInt) (vA (mV 0))) (eNot (mU (gIsi isBool) (vA (mV 0))))))
noncomputable def r_is_integer : List D → Rs D := runP (.im) 1 b_is_integer
noncomputable def b_is_row_of : Pm := (pRet (eAnd (mU (gIsi isTup) (vA (mV 0))) (mB gIn (vA (mL gLen (lCons (vA (mV 0)) lNil))) (vA (mV 1)))))
noncomputable def r_is_row_of : List D → Rs D := runP (.im) 2 b_is_row_of
noncomputable def b_is_fraction : Pm := (pSeq (pIf (mOr (mNot (mTr (vA (mCall r_is_row_of (sCons (mV 0) (sCons (mTup (sCons (mC (.int 2)) sNil)) sNil)))))) (mOr (mNot (mTr (vA (mCall r_is_integer (sCons (mB gIx (vA (mV 0)) (vA (mC (.int 0)))) sNil))))) (mNot (mTr (vA (mCall r_is_integer (sCons (mB gIx (vA (mV 0)) (vA (mC (.int 1)))) sNil))))))) (pRet (mC (.bool false))) pNil)
    (pRet (eAnd (mB gGt (vA (mB gIx (vA (mV 0)) (vA (mC (.int 1))))) (vA (mC (.int 0)))) (mB gEq (vA (mL gGcd (lCons (vA (mB gIx (vA (mV 0)) (vA (mC (.int 0))))) (lCons (vA (mB gIx (vA (mV 0)) (vA (mC (.int 1))))) lNil)))) (vA (mC (.int 1)))))))
noncomputable def r_is_fraction : List D → Rs D := runP (.im) 1 b_is_fraction
noncomputable def b_is_less : Pm := (pRet (mB gLt (vA (mB gMul (vA (mB gIx (vA (mV 0)) (vA (mC (.int 0))))) (vA (mB gIx (vA (mV 1)) (vA (mC (.int 1))))))) (vA (mB gMul (vA (mB gIx (vA (mV 1)) (vA (mC (.int 0))))) (vA (mB gIx (vA (mV 0)) (vA (mC (.int 1)))))))))
noncomputable def r_is_less : List D → Rs D := runP (.im) 2 b_is_less
noncomputable def b_law_is_int : Pm := (pRet (eAnd (mU (gIsi isInt) (vA (mV 0))) (eNot (mU (gIsi isBool) (vA (mV 0))))))
noncomputable def r_law_is_int : List D → Rs D := runP (.im) 1 b_law_is_int
noncomputable def b_law_is_fraction : Pm := (pSeq (pIf (mOr (mNot (mTr (vA (mU (gIsi isTup) (vA (mV 0)))))) (mOr (mT (mB gNe (vA (mL gLen (lCons (vA (mV 0)) lNil))) (vA (mC (.int 2))))) (mOr (mNot (mTr (vA (mCall r_law_is_int (sCons (mB gIx (vA (mV 0)) (vA (mC (.int 0)))) sNil))))) (mNot (mTr (vA (mCall r_law_is_int (sCons (mB gIx (vA (mV 0)) (vA (mC (.int 1)))) sNil)))))))) (pRet (mC (.bool false))) pNil)
    (pRet (eAnd (mB gGt (vA (mB gIx (vA (mV 0)) (vA (mC (.int 1))))) (vA (mC (.int 0)))) (mB gEq (vA (mCall r_law_fraction (sCons (mB gIx (vA (mV 0)) (vA (mC (.int 0)))) (sCons (mB gIx (vA (mV 0)) (vA (mC (.int 1)))) sNil)))) (vA (mV 0))))))
noncomputable def r_law_is_fraction : List D → Rs D := runP (.im) 1 b_law_is_fraction
noncomputable def b_law_great : Pm := (pSeq (pSet 2 (mC (.int 0)))
    (pSeq (pFor (wRng (sCons (mV 1) sNil)) (gN 3) (pSet 2 (mB gAdd (vA (mB gMul (vA (mC (.int 10))) (vA (mV 2)))) (vA (mCallM 0 r_law_any (sCons (mC (.int 10)) sNil))))))
    (pRet (mIf (mT (mB gEq (vA (mCallM 0 r_law_any (sCons (mC (.int 2)) sNil))) (vA (mC (.int 0))))) (mV 2) (mB gSub (vA (mC (.int 0))) (vA (mV 2)))))))
noncomputable def r_law_great : List D → Rs (D × D) := runM (.im) 4 b_law_great
noncomputable def b_law_pair : Pm := (pSeq (pSet 1 (mCallM 0 r_law_of (sCons (eF (fLst (sCons (mC (.int 1)) (sCons (mC (.int 2)) (sCons (mC (.int 5)) (sCons (mC (.int 12)) (sCons (mC (.int 60)) (sCons (mC (.int 90)) sNil)))))))) sNil)))
    (pSeq (pPar 2 3 (sCons (mCallM 0 r_law_of (sCons (eF (fLst (sCons (mC (.int 1)) (sCons (mC (.int 1)) (sCons (mC (.int 2)) (sCons (mC (.int 6)) (sCons (mB gAdd (vA (mC (.int 1))) (vA (mL gAbs (lCons (vA (mCallM 0 r_law_great (sCons (mV 1) sNil))) lNil)))) sNil))))))) sNil)) (sCons (mCallM 0 r_law_great (sCons (mV 1) sNil)) sNil)))
    (pRet (mTup (sCons (mB gMul (vA (mCallM 0 r_law_great (sCons (mV 1) sNil))) (vA (mV 2))) (sCons (mIf (mT (mB gNe (vA (mV 3)) (vA (mC (.int 0))))) (mB gMul (vA (mV 3)) (vA (mV 2))) (mV 2)) sNil))))))
noncomputable def r_law_pair : List D → Rs (D × D) := runM (.im) 4 b_law_pair
noncomputable def b_law_near : Pm := (pSeq (pAs (gT 2 (gC (gN 2) (gC (gN 3) gE))) (mV 1))
    (pSeq (pSet 4 (eF (fLst (sCons (mTup (sCons (mV 2) (sCons (mV 3) sNil))) (sCons (mTup (sCons (mB gMul (vA (mC (.int 2))) (vA (mV 2))) (sCons (mB gMul (vA (mC (.int 2))) (vA (mV 3))) sNil))) (sCons (mTup (sCons (mB gSub (vA (mC (.int 0))) (vA (mV 2))) (sCons (mB gSub (vA (mC (.int 0))) (vA (mV 3))) sNil))) (sCons (mTup (sCons (mV 2) (sCons (mC (.int 0)) sNil))) (sCons (eF (fLst (sCons (mV 2) (sCons (mV 3) sNil)))) (sCons (mTup (sCons (mV 2) (sCons (mV 3) (sCons (mC (.int 1)) sNil)))) (sCons (mTup (sCons (mV 2) sNil)) (sCons (mV 2) (sCons (mTup (sCons (mC (.bool true)) (sCons (mC (.int 1)) sNil))) (sCons (mTup (sCons (mV 2) (sCons (mC (.bool true)) sNil))) (sCons (mTup (sCons (mV 2) (sCons (mL gStr (lCons (vA (mV 3)) lNil)) sNil))) (sCons (mC .none) sNil)))))))))))))))
    (pSeq (pSet 4 (mB gAdd (vA (mV 4)) (vA (eF (fLst (sCons (mTup (sCons (mC (.int 0)) (sCons (mV 3) sNil))) (sCons (mTup (sCons (mC (.int 0)) (sCons (mC (.int 1)) sNil))) (sCons (mTup (sCons (mC (.int 0)) (sCons (mC (.int 2)) sNil))) (sCons (mTup (sCons (mV 3) (sCons (mV 2) sNil))) (sCons (mTup (sCons (mV 2) (sCons (mB gSub (vA (mC (.int 0))) (vA (mV 3))) sNil))) (sCons (mTup (sCons (mC .none) (sCons (mC (.int 1)) sNil))) (sCons (mC (.str "1")) (sCons (mTup (sCons (mTup (sCons (mV 2) (sCons (mV 3) sNil))) sNil)) (sCons (mTup (sCons (mB gAdd (vA (mV 2)) (vA (mV 3))) (sCons (mV 3) sNil))) (sCons (mTup (sCons (mV 3) (sCons (mV 3) sNil))) sNil)))))))))))))))
    (pRet (mCallM 0 r_law_of (sCons (mV 4) sNil))))))
noncomputable def r_law_near : List D → Rs (D × D) := runM (.im) 5 b_law_near
noncomputable def b_law : Pm := (pSeq (pSet 1 (mCall r_law_draw (sCons (mV 0) (sCons (mC (.int 1)) sNil))))
    (pSeq (pFor (wRng (sCons (mC (.int 4)) sNil)) (gN 2) (pSeq (pPar 3 4 (sCons (mCallM 1 r_law_pair sNil) (sCons (mCallM 1 r_law_pair sNil) sNil)))
    (pSeq (pPar 5 6 (sCons (mCall r_law_fraction (sCons (mB gIx (vA (mV 3)) (vA (mC (.int 0)))) (sCons (mB gIx (vA (mV 3)) (vA (mC (.int 1)))) sNil))) (sCons (mCall r_law_fraction (sCons (mB gIx (vA (mV 4)) (vA (mC (.int 0)))) (sCons (mB gIx (vA (mV 4)) (vA (mC (.int 1)))) sNil))) sNil)))
    (pSeq (pIf (mOr (mNot (mTr (vA (mCall (r_law_same 4) (sCons (mCallK [1, 0] r_fraction sNil (sCons (mB gIx (vA (mV 3)) (vA (mC (.int 1)))) (sCons (mB gIx (vA (mV 3)) (vA (mC (.int 0)))) sNil))) (sCons (mV 5) sNil)))))) (mNot (mTr (vA (mCall (r_law_same 4) (sCons (mCall r_fraction (sCons (mB gIx (vA (mV 4)) (vA (mC (.int 0)))) (sCons (mB gIx (vA (mV 4)) (vA (mC (.int 1)))) sNil))) (sCons (mV 6) sNil))))))) (pRet (mC (.bool false))) pNil)
    (pSeq (pSet 7 (mCall r_law_fraction (sCons (mB gAdd (vA (mB gMul (vA (mB gIx (vA (mV 5)) (vA (mC (.int 0))))) (vA (mB gIx (vA (mV 6)) (vA (mC (.int 1))))))) (vA (mB gMul (vA (mB gIx (vA (mV 6)) (vA (mC (.int 0))))) (vA (mB gIx (vA (mV 5)) (vA (mC (.int 1)))))))) (sCons (mB gMul (vA (mB gIx (vA (mV 5)) (vA (mC (.int 1))))) (vA (mB gIx (vA (mV 6)) (vA (mC (.int 1)))))) sNil))))
    (pSeq (pIf (mOr (mNot (mTr (vA (mCall (r_law_same 4) (sCons (mCallK [1, 0] r_added sNil (sCons (mV 6) (sCons (mV 5) sNil))) (sCons (mV 7) sNil)))))) (mNot (mTr (vA (mCall (r_law_same 4) (sCons (mCall r_times (sCons (mV 5) (sCons (mV 6) sNil))) (sCons (mCall r_law_fraction (sCons (mB gMul (vA (mB gIx (vA (mV 5)) (vA (mC (.int 0))))) (vA (mB gIx (vA (mV 6)) (vA (mC (.int 0)))))) (sCons (mB gMul (vA (mB gIx (vA (mV 5)) (vA (mC (.int 1))))) (vA (mB gIx (vA (mV 6)) (vA (mC (.int 1)))))) sNil))) sNil))))))) (pRet (mC (.bool false))) pNil)
    (pSeq (pIf (mOr (mNot (mTr (vA (mCall (r_law_same 4) (sCons (mCallK [0] r_minus sNil (sCons (mV 5) sNil)) (sCons (mTup (sCons (mB gSub (vA (mC (.int 0))) (vA (mB gIx (vA (mV 5)) (vA (mC (.int 0)))))) (sCons (mB gIx (vA (mV 5)) (vA (mC (.int 1)))) sNil))) sNil)))))) (mNot (mTr (vA (mCall (r_law_same 4) (sCons (mCall r_minus (sCons (mV 7) sNil)) (sCons (mTup (sCons (mB gSub (vA (mC (.int 0))) (vA (mB gIx (vA (mV 7)) (vA (mC (.int 0)))))) (sCons (mB gIx (vA (mV 7)) (vA (mC (.int 1)))) sNil))) sNil))))))) (pRet (mC (.bool false))) pNil)
    (pSeq (pIf (mAnd (mT (mB gNe (vA (mB gIx (vA (mV 6)) (vA (mC (.int 0))))) (vA (mC (.int 0))))) (mNot (mTr (vA (mCall (r_law_same 4) (sCons (mCall r_over (sCons (mV 5) (sCons (mV 6) sNil))) (sCons (mCall r_law_fraction (sCons (mB gMul (vA (mB gIx (vA (mV 5)) (vA (mC (.int 0))))) (vA (mB gIx (vA (mV 6)) (vA (mC (.int 1)))))) (sCons (mB gMul (vA (mB gIx (vA (mV 5)) (vA (mC (.int 1))))) (vA (mB gIx (vA (mV 6)) (vA (mC (.int 0)))))) sNil))) sNil))))))) (pRet (mC (.bool false))) pNil)
    (pSeq (pIf (mOr (mNot (mTr (vA (mCall (r_law_same 4) (sCons (mCall r_is_less (sCons (mV 5) (sCons (mV 6) sNil))) (sCons (mB gLt (vA (mB gMul (vA (mB gIx (vA (mV 5)) (vA (mC (.int 0))))) (vA (mB gIx (vA (mV 6)) (vA (mC (.int 1))))))) (vA (mB gMul (vA (mB gIx (vA (mV 6)) (vA (mC (.int 0))))) (vA (mB gIx (vA (mV 5)) (vA (mC (.int 1)))))))) sNil)))))) (mNot (mTr (vA (mCall (r_law_same 4) (sCons (mCallK [1, 0] r_is_less sNil (sCons (mV 5) (sCons (mV 5) sNil))) (sCons (mC (.bool false)) sNil))))))) (pRet (mC (.bool false))) pNil)
    (pFor (wSeq (eF (fLst (sCons (mV 5) (sCons (mCallM 1 r_law_near (sCons (mV 5) sNil)) (sCons (mCallM 1 r_law_near (sCons (mV 6) sNil)) sNil)))))) (gN 8) (pIf (mOr (mNot (mTr (vA (mCall (r_law_same 4) (sCons (mCall r_is_fraction (sCons (mV 8) sNil)) (sCons (mCall r_law_is_fraction (sCons (mV 8) sNil)) sNil)))))) (mNot (mTr (vA (mCall (r_law_same 4) (sCons (mCallK [0] r_is_fraction sNil (sCons (mV 5) sNil)) (sCons (mC (.bool true)) sNil))))))) (pRet (mC (.bool false))) pNil)))))))))))
    (pRet (mC (.bool true)))))
noncomputable def r_law : List D → Rs D := runP (.im) 9 b_law
end Zd

namespace Zd
open PySem PySem.Spec
open PyProof.Rows L2
def topS (i : Nat) : Stmt := PySem.Challenge.pw_samebehind_k01_fractions.main.body.getD i (.Pass ⟨0, 0, 0, 0⟩)
abbrev s_is_integer : Stmt := topS 2
theorem sc_is_integer : FnScope ["value"] ["value"] (defScope s_is_integer) := ⟨rfl, rfl, rfl, by decide +kernel, rfl, by decide +kernel, by decide +kernel⟩
def k_is_integer : Kn := fun _ => .im
abbrev s_is_row_of : Stmt := topS 3
theorem sc_is_row_of : FnScope ["value", "sizes"] ["value", "sizes"] (defScope s_is_row_of) := ⟨rfl, rfl, rfl, by decide +kernel, rfl, by decide +kernel, by decide +kernel⟩
def k_is_row_of : Kn := fun _ => .im
abbrev s_is_fraction : Stmt := topS 5
theorem sc_is_fraction : FnScope ["value"] ["value"] (defScope s_is_fraction) := ⟨rfl, rfl, rfl, by decide +kernel, rfl, by decide +kernel, by decide +kernel⟩
def k_is_fraction : Kn := fun _ => .im
abbrev s_fraction : Stmt := topS 6
theorem sc_fraction : FnScope ["a", "d", "by"] ["a", "d"] (defScope s_fraction) := ⟨rfl, rfl, rfl, by decide +kernel, rfl, by decide +kernel, by decide +kernel⟩
def k_fraction : Kn := fun _ => .im
abbrev s_added : Stmt := topS 7
theorem sc_added : FnScope ["one", "other"] ["one", "other"] (defScope s_added) := ⟨rfl, rfl, rfl, by decide +kernel, rfl, by decide +kernel, by decide +kernel⟩
def k_added : Kn := fun _ => .im
abbrev s_times : Stmt := topS 8
theorem sc_times : FnScope ["one", "other"] ["one", "other"] (defScope s_times) := ⟨rfl, rfl, rfl, by decide +kernel, rfl, by decide +kernel, by decide +kernel⟩
def k_times : Kn := fun _ => .im
abbrev s_minus : Stmt := topS 9
theorem sc_minus : FnScope ["one"] ["one"] (defScope s_minus) := ⟨rfl, rfl, rfl, by decide +kernel, rfl, by decide +kernel, by decide +kernel⟩
def k_minus : Kn := fun _ => .im
abbrev s_over : Stmt := topS 10
theorem sc_over : FnScope ["one", "other"] ["one", "other"] (defScope s_over) := ⟨rfl, rfl, rfl, by decide +kernel, rfl, by decide +kernel, by decide +kernel⟩
def k_over : Kn := fun _ => .im
abbrev s_is_less : Stmt := topS 11
theorem sc_is_less : FnScope ["one", "other"] ["one", "other"] (defScope s_is_less) := ⟨rfl, rfl, rfl, by decide +kernel, rfl, by decide +kernel, by decide +kernel⟩
def k_is_less : Kn := fun _ => .im
abbrev s_law_draw : Stmt := topS 13
theorem sc_law_draw : FnScope ["script", "salt", "cells", "blend", "cell"] ["script", "salt"] (defScope s_law_draw) := ⟨rfl, rfl, rfl, by decide +kernel, rfl, by decide +kernel, by decide +kernel⟩
def k_law_draw : Kn := fun _ => .im
abbrev s_law_same : Stmt := topS 16
theorem sc_law_same : FnScope ["value", "due", "one", "other"] ["value", "due"] (defScope s_law_same) := ⟨rfl, rfl, rfl, by decide +kernel, rfl, by decide +kernel, by decide +kernel⟩
def k_law_same : Kn := fun _ => .im
abbrev s_law_fraction : Stmt := topS 17
theorem sc_law_fraction : FnScope ["a", "d", "one", "other"] ["a", "d"] (defScope s_law_fraction) := ⟨rfl, rfl, rfl, by decide +kernel, rfl, by decide +kernel, by decide +kernel⟩
def k_law_fraction : Kn := fun _ => .im
abbrev s_law_is_int : Stmt := topS 18
theorem sc_law_is_int : FnScope ["value"] ["value"] (defScope s_law_is_int) := ⟨rfl, rfl, rfl, by decide +kernel, rfl, by decide +kernel, by decide +kernel⟩
def k_law_is_int : Kn := fun _ => .im
abbrev s_law_is_fraction : Stmt := topS 19
theorem sc_law_is_fraction : FnScope ["value"] ["value"] (defScope s_law_is_fraction) := ⟨rfl, rfl, rfl, by decide +kernel, rfl, by decide +kernel, by decide +kernel⟩
def k_law_is_fraction : Kn := fun _ => .im
abbrev s_law_any : Stmt := topS 14
theorem sc_law_any : FnScope ["deal", "bound", "rest"] ["deal", "bound"] (defScope s_law_any) := ⟨rfl, rfl, rfl, by decide +kernel, rfl, by decide +kernel, by decide +kernel⟩
def k_law_any : Kn := fun i => match i with | 0 => .rc [.mu .im, .im] | _ => .im
abbrev s_law_of : Stmt := topS 15
theorem sc_law_of : FnScope ["deal", "some"] ["deal", "some"] (defScope s_law_of) := ⟨rfl, rfl, rfl, by decide +kernel, rfl, by decide +kernel, by decide +kernel⟩
def k_law_of : Kn := fun i => match i with | 0 => .rc [.mu .im, .im] | _ => .im
abbrev s_law_great : Stmt := topS 20
theorem sc_law_great : FnScope ["deal", "digits", "found", "turn"] ["deal", "digits"] (defScope s_law_great) := ⟨rfl, rfl, rfl, by decide +kernel, rfl, by decide +kernel, by decide +kernel⟩
def k_law_great : Kn := fun i => match i with | 0 => .rc [.mu .im, .im] | _ => .im
abbrev s_law_pair : Stmt := topS 21
theorem sc_law_pair : FnScope ["deal", "size", "by", "d"] ["deal"] (defScope s_law_pair) := ⟨rfl, rfl, rfl, by decide +kernel, rfl, by decide +kernel, by decide +kernel⟩
def k_law_pair : Kn := fun i => match i with | 0 => .rc [.mu .im, .im] | _ => .im
abbrev s_law_near : Stmt := topS 22
theorem sc_law_near : FnScope ["deal", "one", "a", "d", "some"] ["deal", "one"] (defScope s_law_near) := ⟨rfl, rfl, rfl, by decide +kernel, rfl, by decide +kernel, by decide +kernel⟩
def k_law_near : Kn := fun i => match i with | 0 => .rc [.mu .im, .im] | _ => .im
abbrev s_law : Stmt := topS 23
theorem sc_law : FnScope ["script", "deal", "turn", "one", "other", "due", "by", "both", "value"] ["script"] (defScope s_law) := ⟨rfl, rfl, rfl, by decide +kernel, rfl, by decide +kernel, by decide +kernel⟩
def k_law : Kn := fun i => match i with | 1 => .rc [.mu .im, .im] | _ => .im
section
variable {w : World} {K : PySem.W.Frag} {mg : Str → Option Value} {base : Heap} {cls : Cl} {f : Addr} {fd : FuncData}
theorem ok_is_integer (df : Df K mg "is_integer" s_is_integer ["value"] f fd) (b_bool : mg "bool" = none) (b_int : mg "int" = none) (b_isinstance : mg "isinstance" = none) : Hs PySem.Challenge.pw_samebehind_k01_fractions w K mg base 1 "is_integer" s_is_integer ["value"] (spP K cls (.im) 1 r_is_integer) := by
  refine df.hs ?_
  rw [show (r_is_integer : List D → Rs D) = runP (.im) (["value"] : List Str).length b_is_integer from rfl]
  refine def_okP (κ := k_is_integer) (m := b_is_integer) df.fn sc_is_integer rfl (fun i hi => by unfold k_is_integer; first | rfl | (split <;> first | rfl | omega)) ?_
  intro cdv A outer s H E σ0 hr
  exact (p1 (pri (ea (xIsi ki_int b_isinstance b_int PyProof.Rows.boot_int (av (xV 0))) (e1' (en (xIsi ki_bool b_isinstance b_bool PyProof.Rows.boot_bool (av (xV 0))))))))
theorem ok_is_row_of (df : Df K mg "is_row_of" s_is_row_of ["value", "sizes"] f fd) (b_isinstance : mg "isinstance" = none) (b_len : mg "len" = none) (b_tuple : mg "tuple" = none) : Hs PySem.Challenge.pw_samebehind_k01_fractions w K mg base 1 "is_row_of" s_is_row_of ["value", "sizes"] (spP K cls (.im) 2 r_is_row_of) := by
  refine df.hs ?_
  rw [show (r_is_row_of : List D → Rs D) = runP (.im) (["value", "sizes"] : List Str).length b_is_row_of from rfl]
  refine def_okP (κ := k_is_row_of) (m := b_is_row_of) df.fn sc_is_row_of rfl (fun i hi => by unfold k_is_row_of; first | rfl | (split <;> first | rfl | omega)) ?_
  intro cdv A outer s H E σ0 hr
  exact (p1 (pri (ea (xIsi ki_tup b_isinstance b_tuple PyProof.Rows.boot_tuple (av (xV 0))) (e1' (cIn hr (av (xLen b_len (lc (av (xV 0)) ln))) (av (xV 1)))))))
theorem ok_is_fraction (df : Df K mg "is_fraction" s_is_fraction ["value"] f fd) (h_is_integer : Hs PySem.Challenge.pw_samebehind_k01_fractions w K mg base 1 "is_integer" s_is_integer ["value"] (spP K cls (.im) 1 r_is_integer)) (h_is_row_of : Hs PySem.Challenge.pw_samebehind_k01_fractions w K mg base 1 "is_row_of" s_is_row_of ["value", "sizes"] (spP K cls (.im) 2 r_is_row_of)) (b_gcd : mg "gcd" = some (.builtin "math.gcd")) : Hs PySem.Challenge.pw_samebehind_k01_fractions w K mg base 2 "is_fraction" s_is_fraction ["value"] (spP K cls (.im) 1 r_is_fraction) := by
  refine df.hs ?_
  rw [show (r_is_fraction : List D → Rs D) = runP (.im) (["value"] : List Str).length b_is_fraction from rfl]
  refine def_okP (κ := k_is_fraction) (m := b_is_fraction) df.fn sc_is_fraction rfl (fun i hi => by unfold k_is_fraction; first | rfl | (split <;> first | rfl | omega)) ?_
  intro cdv A outer s H E σ0 hr
  exact (pc (pif (tw (wo (tn (tt (av (oI (hc h_is_row_of hr (by decide) psx (sc (xV 0) (sc (et (sc xi sn)) sn)) (lenS (lenS len0))))))) (wo (tn (tt (av (oI (hc h_is_integer hr (by decide) psx (sc (xIx (av (xV 0)) (av xi)) sn) (lenS len0)))))) (wo1 (tn (tt (av (oI (hc h_is_integer hr (by decide) psx (sc (xIx (av (xV 0)) (av xi)) sn) (lenS len0)))))))))) (p1 (pri xb)) pn)
    (p1 (pri (ea (cGt hr (av (xIx (av (xV 0)) (av xi))) (av xi)) (e1' (cEq hr (av (xGcd b_gcd (lc (av (xIx (av (xV 0)) (av xi))) (lc (av (xIx (av (xV 0)) (av xi))) ln)))) (av xi)))))))
theorem ok_fraction (df : Df K mg "fraction" s_fraction ["a", "d"] f fd) (b_gcd : mg "gcd" = some (.builtin "math.gcd")) : Hs PySem.Challenge.pw_samebehind_k01_fractions w K mg base 1 "fraction" s_fraction ["a", "d"] (spP K cls (.im) 2 r_fraction) := by
  refine df.hs ?_
  rw [show (r_fraction : List D → Rs D) = runP (.im) (["a", "d", "by"] : List Str).length b_fraction from rfl]
  refine def_okP (κ := k_fraction) (m := b_fraction) df.fn sc_fraction rfl (fun i hi => by unfold k_fraction; first | rfl | (split <;> first | rfl | omega)) ?_
  intro cdv A outer s H E σ0 hr
  exact (pc (ps (i := 2) sc_fraction.nd (ie (tGt hr (av (xV 1)) (av xi)) (xGcd b_gcd (lc (av (xV 0)) (lc (av (xV 1)) ln))) (xNeg (av (xGcd b_gcd (lc (av (xV 0)) (lc (av (xV 1)) ln)))))))
    (p1 (pri (et (sc (xDiv (av (xV 0)) (av (xV 2))) (sc (xDiv (av (xV 1)) (av (xV 2))) sn))))))
theorem ok_added (df : Df K mg "added" s_added ["one", "other"] f fd) (h_fraction : Hs PySem.Challenge.pw_samebehind_k01_fractions w K mg base 1 "fraction" s_fraction ["a", "d"] (spP K cls (.im) 2 r_fraction)) : Hs PySem.Challenge.pw_samebehind_k01_fractions w K mg base 2 "added" s_added ["one", "other"] (spP K cls (.im) 2 r_added) := by
  refine df.hs ?_
  rw [show (r_added : List D → Rs D) = runP (.im) (["one", "other"] : List Str).length b_added from rfl]
  refine def_okP (κ := k_added) (m := b_added) df.fn sc_added rfl (fun i hi => by unfold k_added; first | rfl | (split <;> first | rfl | omega)) ?_
  intro cdv A outer s H E σ0 hr
  exact (p1 (pri (oI (hc h_fraction hr (by decide) psx (sc (xAdd (av (xMul (av (xIx (av (xV 0)) (av xi))) (av (xIx (av (xV 1)) (av xi))))) (av (xMul (av (xIx (av (xV 1)) (av xi))) (av (xIx (av (xV 0)) (av xi)))))) (sc (xMul (av (xIx (av (xV 0)) (av xi))) (av (xIx (av (xV 1)) (av xi)))) sn)) (lenS (lenS len0))))))
theorem ok_times (df : Df K mg "times" s_times ["one", "other"] f fd) (h_fraction : Hs PySem.Challenge.pw_samebehind_k01_fractions w K mg base 1 "fraction" s_fraction ["a", "d"] (spP K cls (.im) 2 r_fraction)) : Hs PySem.Challenge.pw_samebehind_k01_fractions w K mg base 2 "times" s_times ["one", "other"] (spP K cls (.im) 2 r_times) := by
  refine df.hs ?_
  rw [show (r_times : List D → Rs D) = runP (.im) (["one", "other"] : List Str).length b_times from rfl]
  refine def_okP (κ := k_times) (m := b_times) df.fn sc_times rfl (fun i hi => by unfold k_times; first | rfl | (split <;> first | rfl | omega)) ?_
  intro cdv A outer s H E σ0 hr
  exact (p1 (pri (oI (hc h_fraction hr (by decide) psx (sc (xMul (av (xIx (av (xV 0)) (av xi))) (av (xIx (av (xV 1)) (av xi)))) (sc (xMul (av (xIx (av (xV 0)) (av xi))) (av (xIx (av (xV 1)) (av xi)))) sn)) (lenS (lenS len0))))))
theorem ok_minus (df : Df K mg "minus" s_minus ["one"] f fd)  : Hs PySem.Challenge.pw_samebehind_k01_fractions w K mg base 1 "minus" s_minus ["one"] (spP K cls (.im) 1 r_minus) := by
  refine df.hs ?_
  rw [show (r_minus : List D → Rs D) = runP (.im) (["one"] : List Str).length b_minus from rfl]
  refine def_okP (κ := k_minus) (m := b_minus) df.fn sc_minus rfl (fun i hi => by unfold k_minus; first | rfl | (split <;> first | rfl | omega)) ?_
  intro cdv A outer s H E σ0 hr
  exact (p1 (pri (et (sc (xNeg (av (xIx (av (xV 0)) (av xi)))) (sc (xIx (av (xV 0)) (av xi)) sn)))))
theorem ok_over (df : Df K mg "over" s_over ["one", "other"] f fd) (h_fraction : Hs PySem.Challenge.pw_samebehind_k01_fractions w K mg base 1 "fraction" s_fraction ["a", "d"] (spP K cls (.im) 2 r_fraction)) : Hs PySem.Challenge.pw_samebehind_k01_fractions w K mg base 2 "over" s_over ["one", "other"] (spP K cls (.im) 2 r_over) := by
  refine df.hs ?_
  rw [show (r_over : List D → Rs D) = runP (.im) (["one", "other"] : List Str).length b_over from rfl]
  refine def_okP (κ := k_over) (m := b_over) df.fn sc_over rfl (fun i hi => by unfold k_over; first | rfl | (split <;> first | rfl | omega)) ?_
  intro cdv A outer s H E σ0 hr
  exact (p1 (pri (oI (hc h_fraction hr (by decide) psx (sc (xMul (av (xIx (av (xV 0)) (av xi))) (av (xIx (av (xV 1)) (av xi)))) (sc (xMul (av (xIx (av (xV 0)) (av xi))) (av (xIx (av (xV 1)) (av xi)))) sn)) (lenS (lenS len0))))))
theorem ok_is_less (df : Df K mg "is_less" s_is_less ["one", "other"] f fd)  : Hs PySem.Challenge.pw_samebehind_k01_fractions w K mg base 1 "is_less" s_is_less ["one", "other"] (spP K cls (.im) 2 r_is_less) := by
  refine df.hs ?_
  rw [show (r_is_less : List D → Rs D) = runP (.im) (["one", "other"] : List Str).length b_is_less from rfl]
  refine def_okP (κ := k_is_less) (m := b_is_less) df.fn sc_is_less rfl (fun i hi => by unfold k_is_less; first | rfl | (split <;> first | rfl | omega)) ?_
  intro cdv A outer s H E σ0 hr
  exact (p1 (pri (cLt hr (av (xMul (av (xIx (av (xV 0)) (av xi))) (av (xIx (av (xV 1)) (av xi))))) (av (xMul (av (xIx (av (xV 1)) (av xi))) (av (xIx (av (xV 0)) (av xi))))))))
theorem ok_law_draw (df : Df K mg "_law_draw" s_law_draw ["script", "salt"] f fd) (b_abs : mg "abs" = none) (b_int : mg "int" = none) : Hs PySem.Challenge.pw_samebehind_k01_fractions w K mg base 1 "_law_draw" s_law_draw ["script", "salt"] (spP K cls (.rc [.mu .im, .im]) 2 r_law_draw) := by
  refine df.hs ?_
  rw [show (r_law_draw : List D → Rs D) = runP (.rc [.mu .im, .im]) (["script", "salt", "cells", "blend", "cell"] : List Str).length b_law_draw from rfl]
  refine def_okP (κ := k_law_draw) (m := b_law_draw) df.fn sc_law_draw rfl (fun i hi => by unfold k_law_draw; first | rfl | (split <;> first | rfl | omega)) ?_
  intro cdv A outer s H E σ0 hr
  exact (pc (pcp (i := 2) rfl sc_law_draw.nd (iq (xSl (av (xV 0)) on (os xi))) (blkOk_by (own := [("cell", 4)]) (by show blkC ["script", "salt", "cells", "blend", "cell"] (defScope s_law_draw) _ _ = true; decide +kernel)) ng_n (fun _ _ _ _ _ _ => (gn (i := 4) sc_law_draw.nd)) (fun _ _ _ _ _ => py) (fun _ _ _ _ _ => (xAbs b_abs (lc (av (xInt b_int (lc (av (xV 4)) ln))) ln))))
    (pc (ps (i := 3) sc_law_draw.nd (xAdd (av xi) (av (xMul (av xi) (av (xV 1))))))
    (pc (pf psu rfl (iq (xV 2)) (gn (i := 4) sc_law_draw.nd) ng_n (p1 (ps (i := 3) sc_law_draw.nd (xMod (av (xInt b_int (lc (av (xAdd (av (xAdd (av (xMul (av (xV 3)) (av xi))) (av (xMod (av (xV 4)) (av xi))))) (av xi))) ln))) (av xi)))))
    (p1 (pr (xRc2 (fo (xRevF (av (oI (cp rfl sc_law_draw.nd (iq (xV 2)) (blkOk_by (own := [("cell", 4)]) (by show blkC ["script", "salt", "cells", "blend", "cell"] (defScope s_law_draw) _ _ = true; decide +kernel)) ng_n (fun _ _ _ _ _ _ => (gn (i := 4) sc_law_draw.nd)) (fun _ _ _ _ _ => (py1 (tGe hr (av (xV 4)) (av (xPow (av xi) (av xi)))))) (fun _ _ _ _ _ => (xV 4))))))) (xV 3)))))))
theorem ok_law_same (df : Df K mg "_law_same" s_law_same ["value", "due"] f fd) (b_bool : mg "bool" = none) (b_int : mg "int" = none) (b_isinstance : mg "isinstance" = none) (b_len : mg "len" = none) (b_str : mg "str" = none) (b_tuple : mg "tuple" = none) (b_zip : mg "zip" = none) : ∀ n : Nat, FnOk PySem.Challenge.pw_samebehind_k01_fractions w K mg base (L2.CX PySem.Challenge.pw_samebehind_k01_fractions w) (n + 0) f fd ["value", "due"] (spP K cls (.im) 2 (r_law_same n))
  | 0 => fnok_no
  | n + 1 => by
    have ih := ok_law_same df b_bool b_int b_isinstance b_len b_str b_tuple b_zip n
    rw [show n + 1 + 0 = (n + 0) + 1 by omega]
    rw [show (r_law_same (n + 1) : List D → Rs D) = runP (.im) (["value", "due", "one", "other"] : List Str).length (b_law_same (r_law_same n)) from rfl]
    refine def_okP (κ := k_law_same) (m := (b_law_same (r_law_same n))) df.fn sc_law_same rfl (fun i hi => by unfold k_law_same; first | rfl | (split <;> first | rfl | omega)) ?_
    intro cdv A outer s H E σ0 hr
    exact (pc (pif (tt (av (xIsi ki_tup b_isinstance b_tuple PyProof.Rows.boot_tuple (av (xV 1))))) (pc (pif (tw (wo (tn (tt (av (xIsi ki_tup b_isinstance b_tuple PyProof.Rows.boot_tuple (av (xV 0)))))) (wo1 (tNe hr (av (xLen b_len (lc (av (xV 0)) ln))) (av (xLen b_len (lc (av (xV 1)) ln))))))) (p1 (pri xb)) pn)
      (p1 (pri (cEq hr (av (oI (cp rfl sc_law_same.nd (iz b_zip (sc (xV 0) (sc (xV 1) sn))) (blkOk_by (own := [("one", 2), ("other", 3)]) (by show blkC ["value", "due", "one", "other"] (defScope s_law_same) _ _ = true; decide +kernel)) (ng_t (ng_c ng_n (ng_c ng_n ng_e))) (fun _ _ _ _ _ _ => (gt rfl (gc (gn (i := 2) sc_law_same.nd) (gc (gn (i := 3) sc_law_same.nd) ge)))) (fun _ _ _ _ _ => (py1 (tn (tt (av (oI (hc (df.hs ih) hr (by omega) passL (sc (xV 2) (sc (xV 3) sn)) (lenS (lenS len0))))))))) (fun _ _ _ _ _ => xi)))) (av (fi (fl sn))))))) pn)
      (pc (pif (tIs hr (av (xV 1)) (av xn)) (p1 (pri (cIs hr (av (xV 0)) (av xn)))) pn)
      (pc (pif (tIs hr (av (xV 1)) (av xb)) (p1 (pri (cIs hr (av (xV 0)) (av xb)))) pn)
      (pc (pif (tIs hr (av (xV 1)) (av xb)) (p1 (pri (cIs hr (av (xV 0)) (av xb)))) pn)
      (pc (pif (tt (av (xIsi ki_int b_isinstance b_int PyProof.Rows.boot_int (av (xV 1))))) (p1 (pri (ea (xIsi ki_int b_isinstance b_int PyProof.Rows.boot_int (av (xV 0))) (ea (en (xIsi ki_bool b_isinstance b_bool PyProof.Rows.boot_bool (av (xV 0)))) (e1' (cEq hr (av (xV 0)) (av (xV 1)))))))) pn)
      (p1 (pri (ea (xIsi ki_str b_isinstance b_str PyProof.Rows.boot_str (av (xV 0))) (e1' (cEq hr (av (xV 0)) (av (xV 1))))))))))))
theorem ok_law_fraction (df : Df K mg "_law_fraction" s_law_fraction ["a", "d"] f fd) (b_abs : mg "abs" = none) (b_int : mg "int" = none) : Hs PySem.Challenge.pw_samebehind_k01_fractions w K mg base 1 "_law_fraction" s_law_fraction ["a", "d"] (spP K cls (.im) 2 r_law_fraction) := by
  refine df.hs ?_
  rw [show (r_law_fraction : List D → Rs D) = runP (.im) (["a", "d", "one", "other"] : List Str).length b_law_fraction from rfl]
  refine def_okP (κ := k_law_fraction) (m := b_law_fraction) df.fn sc_law_fraction rfl (fun i hi => by unfold k_law_fraction; first | rfl | (split <;> first | rfl | omega)) ?_
  intro cdv A outer s H E σ0 hr
  exact (pc (ppar (i := 2) (j := 3) rfl sc_law_fraction.nd (sc (xAbs b_abs (lc (av (xV 0)) ln)) (sc (xAbs b_abs (lc (av (xV 1)) ln)) sn)))
    (pc (pwA psu (tNe hr (av (xV 3)) (av xi)) (p1 (ppar (i := 2) (j := 3) rfl sc_law_fraction.nd (sc (xV 3) (sc (xMod (av (xInt b_int (lc (av (xV 2)) ln))) (av (xV 3))) sn)))))
    (p1 (pri (ie (tGt hr (av (xV 1)) (av xi)) (et (sc (xDiv (av (xV 0)) (av (xV 2))) (sc (xDiv (av (xV 1)) (av (xV 2))) sn))) (et (sc (xDiv (av (xSub (av xi) (av (xV 0)))) (av (xV 2))) (sc (xDiv (av (xSub (av xi) (av (xV 1)))) (av (xV 2))) sn))))))))
theorem ok_law_is_int (df : Df K mg "_law_is_int" s_law_is_int ["value"] f fd) (b_bool : mg "bool" = none) (b_int : mg "int" = none) (b_isinstance : mg "isinstance" = none) : Hs PySem.Challenge.pw_samebehind_k01_fractions w K mg base 1 "_law_is_int" s_law_is_int ["value"] (spP K cls (.im) 1 r_law_is_int) := by
  refine df.hs ?_
  rw [show (r_law_is_int : List D → Rs D) = runP (.im) (["value"] : List Str).length b_law_is_int from rfl]
  refine def_okP (κ := k_law_is_int) (m := b_law_is_int) df.fn sc_law_is_int rfl (fun i hi => by unfold k_law_is_int; first | rfl | (split <;> first | rfl | omega)) ?_
  intro cdv A outer s H E σ0 hr
  exact (p1 (pri (ea (xIsi ki_int b_isinstance b_int PyProof.Rows.boot_int (av (xV 0))) (e1' (en (xIsi ki_bool b_isinstance b_bool PyProof.Rows.boot_bool (av (xV 0))))))))
theorem ok_law_is_fraction (df : Df K mg "_law_is_fraction" s_law_is_fraction ["value"] f fd) (h_law_fraction : Hs PySem.Challenge.pw_samebehind_k01_fractions w K mg base 1 "_law_fraction" s_law_fraction ["a", "d"] (spP K cls (.im) 2 r_law_fraction)) (h_law_is_int : Hs PySem.Challenge.pw_samebehind_k01_fractions w K mg base 1 "_law_is_int" s_law_is_int ["value"] (spP K cls (.im) 1 r_law_is_int)) (b_isinstance : mg "isinstance" = none) (b_len : mg "len" = none) (b_tuple : mg "tuple" = none) : Hs PySem.Challenge.pw_samebehind_k01_fractions w K mg base 2 "_law_is_fraction" s_law_is_fraction ["value"] (spP K cls (.im) 1 r_law_is_fraction) := by
  refine df.hs ?_
  rw [show (r_law_is_fraction : List D → Rs D) = runP (.im) (["value"] : List Str).length b_law_is_fraction from rfl]
  refine def_okP (κ := k_law_is_fraction) (m := b_law_is_fraction) df.fn sc_law_is_fraction rfl (fun i hi => by unfold k_law_is_fraction; first | rfl | (split <;> first | rfl | omega)) ?_
  intro cdv A outer s H E σ0 hr
  exact (pc (pif (tw (wo (tn (tt (av (xIsi ki_tup b_isinstance b_tuple PyProof.Rows.boot_tuple (av (xV 0)))))) (wo (tNe hr (av (xLen b_len (lc (av (xV 0)) ln))) (av xi)) (wo (tn (tt (av (oI (hc h_law_is_int hr (by decide) psx (sc (xIx (av (xV 0)) (av xi)) sn) (lenS len0)))))) (wo1 (tn (tt (av (oI (hc h_law_is_int hr (by decide) psx (sc (xIx (av (xV 0)) (av xi)) sn) (lenS len0))))))))))) (p1 (pri xb)) pn)
    (p1 (pri (ea (cGt hr (av (xIx (av (xV 0)) (av xi))) (av xi)) (e1' (cEq hr (av (oI (hc h_law_fraction hr (by decide) psx (sc (xIx (av (xV 0)) (av xi)) (sc (xIx (av (xV 0)) (av xi)) sn)) (lenS (lenS len0))))) (av (xV 0))))))))
theorem ok_law_any (df : Df K mg "_law_any" s_law_any ["deal", "bound"] f fd) (b_int : mg "int" = none) : Hs PySem.Challenge.pw_samebehind_k01_fractions w K mg base 1 "_law_any" s_law_any ["deal", "bound"] (spM K cls (.rc [.mu .im, .im]) (.im) 2 r_law_any) := by
  refine df.hs ?_
  rw [show (r_law_any : List D → Rs (D × D)) = runM (.im) (["deal", "bound", "rest"] : List Str).length b_law_any from rfl]
  refine def_okM (κ := k_law_any) (m := b_law_any) df.fn sc_law_any rfl (fun i h1 h2 => by unfold k_law_any; split <;> first | rfl | omega) rfl ?_
  intro cdv A outer s H E σ0 hr
  exact (pc (pwA psu (tw (wa (uNe hr nx_at nx_uc (uP 0 0 0) ue) (wa1 (tEq hr (av (uIx nx_at nx_uc (uP 0 0 0) un1)) (av xi))))) (p1 (pe (xPopIn 0 0 0))))
    (pc (pif (uNe hr nx_at nx_uc (uP 0 0 0) ue) (pc (ps (i := 2) sc_law_any.nd (xInt b_int (lc (av (xPopIn 0 0 0)) ln)))
    (pc (pap 0 0 0 (nx_vdiv nx_get nx_get) (vDiv nx_get nx_get (vV 2) (vV 1)))
    (p1 (pri (xMod (av (xV 2)) (av (xV 1))))))) pn)
    (pc (ppu 0 1 1 (xMod (av (xInt b_int (lc (av (xAdd (av (xMul (av (xAt 0 1 1)) (av xi))) (av xi))) ln))) (av xi)))
    (p1 (pri (xMod (av (xInt b_int (lc (av (xDiv (av (xAt 0 1 1)) (av xi))) ln))) (av (xV 1))))))))
theorem ok_law_of (df : Df K mg "_law_of" s_law_of ["deal", "some"] f fd) (h_law_any : Hs PySem.Challenge.pw_samebehind_k01_fractions w K mg base 1 "_law_any" s_law_any ["deal", "bound"] (spM K cls (.rc [.mu .im, .im]) (.im) 2 r_law_any)) (b_len : mg "len" = none) : Hs PySem.Challenge.pw_samebehind_k01_fractions w K mg base 2 "_law_of" s_law_of ["deal", "some"] (spM K cls (.rc [.mu .im, .im]) (.im) 2 r_law_of) := by
  refine df.hs ?_
  rw [show (r_law_of : List D → Rs (D × D)) = runM (.im) (["deal", "some"] : List Str).length b_law_of from rfl]
  refine def_okM (κ := k_law_of) (m := b_law_of) df.fn sc_law_of rfl (fun i h1 h2 => by unfold k_law_of; split <;> first | rfl | omega) rfl ?_
  intro cdv A outer s H E σ0 hr
  exact (p1 (pri (xIx (av (xV 1)) (av (oI (hcM 0 h_law_any hr (by decide) psx (sc (xLen b_len (lc (av (xV 1)) ln)) sn) (lenS len0)))))))
theorem ok_law_great (df : Df K mg "_law_great" s_law_great ["deal", "digits"] f fd) (h_law_any : Hs PySem.Challenge.pw_samebehind_k01_fractions w K mg base 1 "_law_any" s_law_any ["deal", "bound"] (spM K cls (.rc [.mu .im, .im]) (.im) 2 r_law_any)) (b_range : mg "range" = none) : Hs PySem.Challenge.pw_samebehind_k01_fractions w K mg base 2 "_law_great" s_law_great ["deal", "digits"] (spM K cls (.rc [.mu .im, .im]) (.im) 2 r_law_great) := by
  refine df.hs ?_
  rw [show (r_law_great : List D → Rs (D × D)) = runM (.im) (["deal", "digits", "found", "turn"] : List Str).length b_law_great from rfl]
  refine def_okM (κ := k_law_great) (m := b_law_great) df.fn sc_law_great rfl (fun i h1 h2 => by unfold k_law_great; split <;> first | rfl | omega) rfl ?_
  intro cdv A outer s H E σ0 hr
  exact (pc (ps (i := 2) sc_law_great.nd xi)
    (pc (pf psu rfl (ir b_range (sc (xV 1) sn)) (gn (i := 3) sc_law_great.nd) ng_n (p1 (ps (i := 2) sc_law_great.nd (xAdd (av (xMul (av xi) (av (xV 2)))) (av (oI (hcM 0 h_law_any hr (by decide) psx (sc xi sn) (lenS len0))))))))
    (p1 (pri (ie (tEq hr (av (oI (hcM 0 h_law_any hr (by decide) psx (sc xi sn) (lenS len0)))) (av xi)) (xV 2) (xSub (av xi) (av (xV 2))))))))
theorem ok_law_pair (df : Df K mg "_law_pair" s_law_pair ["deal"] f fd) (h_law_of : Hs PySem.Challenge.pw_samebehind_k01_fractions w K mg base 2 "_law_of" s_law_of ["deal", "some"] (spM K cls (.rc [.mu .im, .im]) (.im) 2 r_law_of)) (h_law_great : Hs PySem.Challenge.pw_samebehind_k01_fractions w K mg base 2 "_law_great" s_law_great ["deal", "digits"] (spM K cls (.rc [.mu .im, .im]) (.im) 2 r_law_great)) (b_abs : mg "abs" = none) : Hs PySem.Challenge.pw_samebehind_k01_fractions w K mg base 3 "_law_pair" s_law_pair ["deal"] (spM K cls (.rc [.mu .im, .im]) (.im) 1 r_law_pair) := by
  refine df.hs ?_
  rw [show (r_law_pair : List D → Rs (D × D)) = runM (.im) (["deal", "size", "by", "d"] : List Str).length b_law_pair from rfl]
  refine def_okM (κ := k_law_pair) (m := b_law_pair) df.fn sc_law_pair rfl (fun i h1 h2 => by unfold k_law_pair; split <;> first | rfl | omega) rfl ?_
  intro cdv A outer s H E σ0 hr
  exact (pc (ps (i := 1) sc_law_pair.nd (oI (hcM 0 h_law_of hr (by decide) psx (sc (fi (fl (sc xi (sc xi (sc xi (sc xi (sc xi (sc xi sn)))))))) sn) (lenS len0))))
    (pc (ppar (i := 2) (j := 3) rfl sc_law_pair.nd (sc (oI (hcM 0 h_law_of hr (by decide) psx (sc (fi (fl (sc xi (sc xi (sc xi (sc xi (sc (xAdd (av xi) (av (xAbs b_abs (lc (av (oI (hcM 0 h_law_great hr (by decide) psx (sc (xV 1) sn) (lenS len0)))) ln)))) sn))))))) sn) (lenS len0))) (sc (oI (hcM 0 h_law_great hr (by decide) psx (sc (xV 1) sn) (lenS len0))) sn)))
    (p1 (pri (et (sc (xMul (av (oI (hcM 0 h_law_great hr (by decide) psx (sc (xV 1) sn) (lenS len0)))) (av (xV 2))) (sc (ie (tNe hr (av (xV 3)) (av xi)) (xMul (av (xV 3)) (av (xV 2))) (xV 2)) sn)))))))
theorem ok_law_near (df : Df K mg "_law_near" s_law_near ["deal", "one"] f fd) (h_law_of : Hs PySem.Challenge.pw_samebehind_k01_fractions w K mg base 2 "_law_of" s_law_of ["deal", "some"] (spM K cls (.rc [.mu .im, .im]) (.im) 2 r_law_of)) (b_str : mg "str" = none) : Hs PySem.Challenge.pw_samebehind_k01_fractions w K mg base 3 "_law_near" s_law_near ["deal", "one"] (spM K cls (.rc [.mu .im, .im]) (.im) 2 r_law_near) := by
  refine df.hs ?_
  rw [show (r_law_near : List D → Rs (D × D)) = runM (.im) (["deal", "one", "a", "d", "some"] : List Str).length b_law_near from rfl]
  refine def_okM (κ := k_law_near) (m := b_law_near) df.fn sc_law_near rfl (fun i h1 h2 => by unfold k_law_near; split <;> first | rfl | omega) rfl ?_
  intro cdv A outer s H E σ0 hr
  exact (pc (pas (xV 1) (gt rfl (gc (gn (i := 2) sc_law_near.nd) (gc (gn (i := 3) sc_law_near.nd) ge))) (ng_t (ng_c ng_n (ng_c ng_n ng_e))))
    (pc (ps (i := 4) sc_law_near.nd (fi (fl (sc (et (sc (xV 2) (sc (xV 3) sn))) (sc (et (sc (xMul (av xi) (av (xV 2))) (sc (xMul (av xi) (av (xV 3))) sn))) (sc (et (sc (xSub (av xi) (av (xV 2))) (sc (xSub (av xi) (av (xV 3))) sn))) (sc (et (sc (xV 2) (sc xi sn))) (sc (fi (fl (sc (xV 2) (sc (xV 3) sn)))) (sc (et (sc (xV 2) (sc (xV 3) (sc xi sn)))) (sc (et (sc (xV 2) sn)) (sc (xV 2) (sc (et (sc xb (sc xi sn))) (sc (et (sc (xV 2) (sc xb sn))) (sc (et (sc (xV 2) (sc (xStr b_str (lc (av (xV 3)) ln)) sn))) (sc xn sn)))))))))))))))
    (pc (ps (i := 4) sc_law_near.nd (xAdd (av (xV 4)) (av (fi (fl (sc (et (sc xi (sc (xV 3) sn))) (sc (et (sc xi (sc xi sn))) (sc (et (sc xi (sc xi sn))) (sc (et (sc (xV 3) (sc (xV 2) sn))) (sc (et (sc (xV 2) (sc (xSub (av xi) (av (xV 3))) sn))) (sc (et (sc xn (sc xi sn))) (sc xs (sc (et (sc (et (sc (xV 2) (sc (xV 3) sn))) sn)) (sc (et (sc (xAdd (av (xV 2)) (av (xV 3))) (sc (xV 3) sn))) (sc (et (sc (xV 3) (sc (xV 3) sn))) sn)))))))))))))))
    (p1 (pri (oI (hcM 0 h_law_of hr (by decide) psx (sc (xV 4) sn) (lenS len0))))))))
theorem ok_law (df : Df K mg "law" s_law ["script"] f fd) (h_is_fraction : Hs PySem.Challenge.pw_samebehind_k01_fractions w K mg base 2 "is_fraction" s_is_fraction ["value"] (spP K cls (.im) 1 r_is_fraction)) (h_fraction : Hs PySem.Challenge.pw_samebehind_k01_fractions w K mg base 1 "fraction" s_fraction ["a", "d"] (spP K cls (.im) 2 r_fraction)) (h_added : Hs PySem.Challenge.pw_samebehind_k01_fractions w K mg base 2 "added" s_added ["one", "other"] (spP K cls (.im) 2 r_added)) (h_times : Hs PySem.Challenge.pw_samebehind_k01_fractions w K mg base 2 "times" s_times ["one", "other"] (spP K cls (.im) 2 r_times)) (h_minus : Hs PySem.Challenge.pw_samebehind_k01_fractions w K mg base 1 "minus" s_minus ["one"] (spP K cls (.im) 1 r_minus)) (h_over : Hs PySem.Challenge.pw_samebehind_k01_fractions w K mg base 2 "over" s_over ["one", "other"] (spP K cls (.im) 2 r_over)) (h_is_less : Hs PySem.Challenge.pw_samebehind_k01_fractions w K mg base 1 "is_less" s_is_less ["one", "other"] (spP K cls (.im) 2 r_is_less)) (h_law_draw : Hs PySem.Challenge.pw_samebehind_k01_fractions w K mg base 1 "_law_draw" s_law_draw ["script", "salt"] (spP K cls (.rc [.mu .im, .im]) 2 r_law_draw)) (h_law_same : Hs PySem.Challenge.pw_samebehind_k01_fractions w K mg base 4 "_law_same" s_law_same ["value", "due"] (spP K cls (.im) 2 (r_law_same 4))) (h_law_fraction : Hs PySem.Challenge.pw_samebehind_k01_fractions w K mg base 1 "_law_fraction" s_law_fraction ["a", "d"] (spP K cls (.im) 2 r_law_fraction)) (h_law_is_fraction : Hs PySem.Challenge.pw_samebehind_k01_fractions w K mg base 2 "_law_is_fraction" s_law_is_fraction ["value"] (spP K cls (.im) 1 r_law_is_fraction)) (h_law_pair : Hs PySem.Challenge.pw_samebehind_k01_fractions w K mg base 3 "_law_pair" s_law_pair ["deal"] (spM K cls (.rc [.mu .im, .im]) (.im) 1 r_law_pair)) (h_law_near : Hs PySem.Challenge.pw_samebehind_k01_fractions w K mg base 3 "_law_near" s_law_near ["deal", "one"] (spM K cls (.rc [.mu .im, .im]) (.im) 2 r_law_near)) (b_range : mg "range" = none) : Hs PySem.Challenge.pw_samebehind_k01_fractions w K mg base 5 "law" s_law ["script"] (spP K cls (.im) 1 r_law) := by
  refine df.hs ?_
  rw [show (r_law : List D → Rs D) = runP (.im) (["script", "deal", "turn", "one", "other", "due", "by", "both", "value"] : List Str).length b_law from rfl]
  refine def_okP (κ := k_law) (m := b_law) df.fn sc_law rfl (fun i hi => by unfold k_law; first | rfl | (split <;> first | rfl | omega)) ?_
  intro cdv A outer s H E σ0 hr
  exact (pc (pso (i := 1) sc_law.nd (hc h_law_draw hr (by decide) psx (sc (xV 0) (sc xi sn)) (lenS (lenS len0))))
    (pc (pf psu rfl (ir b_range (sc xi sn)) (gn (i := 2) sc_law.nd) ng_n (pc (ppar (i := 3) (j := 4) rfl sc_law.nd (sc (oI (hcM 1 h_law_pair hr (by decide) psx sn len0)) (sc (oI (hcM 1 h_law_pair hr (by decide) psx sn len0)) sn)))
    (pc (ppar (i := 5) (j := 6) rfl sc_law.nd (sc (oI (hc h_law_fraction hr (by decide) psx (sc (xIx (av (xV 3)) (av xi)) (sc (xIx (av (xV 3)) (av xi)) sn)) (lenS (lenS len0)))) (sc (oI (hc h_law_fraction hr (by decide) psx (sc (xIx (av (xV 4)) (av xi)) (sc (xIx (av (xV 4)) (av xi)) sn)) (lenS (lenS len0)))) sn)))
    (pc (pif (tw (wo (tn (tt (av (oI (hc h_law_same hr (by omega) psx (sc (oI (hcK0 2 [1, 0] h_fraction hr (by decide) psx (kc (xIx (av (xV 3)) (av xi)) (kc (xIx (av (xV 3)) (av xi)) kn)) (lenS (lenS len0)) (fun _ _ _ _ _ _ us ws hu hw => match us, ws, hu, hw with | [], [_, _], _, _ => rfl))) (sc (xV 5) sn)) (lenS (lenS len0))))))) (wo1 (tn (tt (av (oI (hc h_law_same hr (by omega) psx (sc (oI (hc h_fraction hr (by decide) psx (sc (xIx (av (xV 4)) (av xi)) (sc (xIx (av (xV 4)) (av xi)) sn)) (lenS (lenS len0)))) (sc (xV 6) sn)) (lenS (lenS len0)))))))))) (p1 (pri xb)) pn)
    (pc (ps (i := 7) sc_law.nd (oI (hc h_law_fraction hr (by decide) psx (sc (xAdd (av (xMul (av (xIx (av (xV 5)) (av xi))) (av (xIx (av (xV 6)) (av xi))))) (av (xMul (av (xIx (av (xV 6)) (av xi))) (av (xIx (av (xV 5)) (av xi)))))) (sc (xMul (av (xIx (av (xV 5)) (av xi))) (av (xIx (av (xV 6)) (av xi)))) sn)) (lenS (lenS len0)))))
    (pc (pif (tw (wo (tn (tt (av (oI (hc h_law_same hr (by omega) psx (sc (oI (hcK0 2 [1, 0] h_added hr (by decide) psx (kc (xV 6) (kc (xV 5) kn)) (lenS (lenS len0)) (fun _ _ _ _ _ _ us ws hu hw => match us, ws, hu, hw with | [], [_, _], _, _ => rfl))) (sc (xV 7) sn)) (lenS (lenS len0))))))) (wo1 (tn (tt (av (oI (hc h_law_same hr (by omega) psx (sc (oI (hc h_times hr (by decide) psx (sc (xV 5) (sc (xV 6) sn)) (lenS (lenS len0)))) (sc (oI (hc h_law_fraction hr (by decide) psx (sc (xMul (av (xIx (av (xV 5)) (av xi))) (av (xIx (av (xV 6)) (av xi)))) (sc (xMul (av (xIx (av (xV 5)) (av xi))) (av (xIx (av (xV 6)) (av xi)))) sn)) (lenS (lenS len0)))) sn)) (lenS (lenS len0)))))))))) (p1 (pri xb)) pn)
    (pc (pif (tw (wo (tn (tt (av (oI (hc h_law_same hr (by omega) psx (sc (oI (hcK0 1 [0] h_minus hr (by decide) psx (kc (xV 5) kn) (lenS len0) (fun _ _ _ _ _ _ us ws hu hw => match us, ws, hu, hw with | [], [_], _, _ => rfl))) (sc (et (sc (xSub (av xi) (av (xIx (av (xV 5)) (av xi)))) (sc (xIx (av (xV 5)) (av xi)) sn))) sn)) (lenS (lenS len0))))))) (wo1 (tn (tt (av (oI (hc h_law_same hr (by omega) psx (sc (oI (hc h_minus hr (by decide) psx (sc (xV 7) sn) (lenS len0))) (sc (et (sc (xSub (av xi) (av (xIx (av (xV 7)) (av xi)))) (sc (xIx (av (xV 7)) (av xi)) sn))) sn)) (lenS (lenS len0)))))))))) (p1 (pri xb)) pn)
    (pc (pif (tw (wa (tNe hr (av (xIx (av (xV 6)) (av xi))) (av xi)) (wa1 (tn (tt (av (oI (hc h_law_same hr (by omega) psx (sc (oI (hc h_over hr (by decide) psx (sc (xV 5) (sc (xV 6) sn)) (lenS (lenS len0)))) (sc (oI (hc h_law_fraction hr (by decide) psx (sc (xMul (av (xIx (av (xV 5)) (av xi))) (av (xIx (av (xV 6)) (av xi)))) (sc (xMul (av (xIx (av (xV 5)) (av xi))) (av (xIx (av (xV 6)) (av xi)))) sn)) (lenS (lenS len0)))) sn)) (lenS (lenS len0)))))))))) (p1 (pri xb)) pn)
    (pc (pif (tw (wo (tn (tt (av (oI (hc h_law_same hr (by omega) psx (sc (oI (hc h_is_less hr (by decide) psx (sc (xV 5) (sc (xV 6) sn)) (lenS (lenS len0)))) (sc (cLt hr (av (xMul (av (xIx (av (xV 5)) (av xi))) (av (xIx (av (xV 6)) (av xi))))) (av (xMul (av (xIx (av (xV 6)) (av xi))) (av (xIx (av (xV 5)) (av xi)))))) sn)) (lenS (lenS len0))))))) (wo1 (tn (tt (av (oI (hc h_law_same hr (by omega) psx (sc (oI (hcK0 2 [1, 0] h_is_less hr (by decide) psx (kc (xV 5) (kc (xV 5) kn)) (lenS (lenS len0)) (fun _ _ _ _ _ _ us ws hu hw => match us, ws, hu, hw with | [], [_, _], _, _ => rfl))) (sc xb sn)) (lenS (lenS len0)))))))))) (p1 (pri xb)) pn)
    (p1 (pf psu rfl (iq (fi (fl (sc (xV 5) (sc (oI (hcM 1 h_law_near hr (by decide) psx (sc (xV 5) sn) (lenS len0))) (sc (oI (hcM 1 h_law_near hr (by decide) psx (sc (xV 6) sn) (lenS len0))) sn)))))) (gn (i := 8) sc_law.nd) ng_n (p1 (pif (tw (wo (tn (tt (av (oI (hc h_law_same hr (by omega) psx (sc (oI (hc h_is_fraction hr (by decide) psx (sc (xV 8) sn) (lenS len0))) (sc (oI (hc h_law_is_fraction hr (by decide) psx (sc (xV 8) sn) (lenS len0))) sn)) (lenS (lenS len0))))))) (wo1 (tn (tt (av (oI (hc h_law_same hr (by omega) psx (sc (oI (hcK0 1 [0] h_is_fraction hr (by decide) psx (kc (xV 5) kn) (lenS len0) (fun _ _ _ _ _ _ us ws hu hw => match us, ws, hu, hw with | [], [_], _, _ => rfl))) (sc xb sn)) (lenS (lenS len0)))))))))) (p1 (pri xb)) pn)))))))))))))
    (p1 (pri xb))))
end
end Zd

namespace Zd
open PySem PySem.Spec
open PyProof.Rows L2
/-! ### which values are fractions -/
theorem is_int_ok (v : D) : r_is_integer [v] = .ok (.bool (isInt v && !isBool v)) := by
  unfold r_is_integer runP b_is_integer
  cases v <;> simp only [mV, mC, vA, rA, get, gets, mU, mB, mL, lNil, lCons, eF, bool_b, mT, mTr, mNot, mAnd, mOr, eNot, eAnd, eOr, mIf, sNil, sCons, mTup, fLst, mM, pNil, pSeq, pBk, pCt, pIf, pRet, put, pSet, pEx, gN, gE, gC, gT, pAs, pPar, pFor, fComp, tmY, flo, gAdd, gSub, gMul, gDiv, gMod, gPow, gNeg, gLt, gLe, gGt, gGe, gIs, gIsN, isNo, isBo, gIx, optR, oN, oS, toI, wSeq, seqOf, wZip, listAt, mApp, mPop, mPopAt, mAt, uAt, uC, mUB, mPopIn, vB, pAppIn, pPutAt, itemAt, putAt, mCall, mCallM, mCallK, mRc2, gIsi, isInt, isBool, isStr, isTup, isList, gLen, gAbs, gInt, gGcd, gMax, gMin, gTup, tru, ok_bind, no_bind, ex_bind, List.getElem?_cons_succ, List.getElem?_cons_zero, List.set_cons_succ, List.set_cons_zero, List.length_cons, List.length_nil, Nat.reduceAdd, Nat.reduceLT, Nat.reduceLeDiff, Nat.zero_add, if_true, if_pos_t, if_false_b, ite_tt, atI0, atI1, atI2, Bool.not_true, Bool.not_false, gEq_i, gNe_i, List.map_cons, List.map_nil, List.append_nil, List.nil_append, List.cons_append, List.replicate] <;> rfl
theorem law_int_ok (v : D) : r_law_is_int [v] = .ok (.bool (isInt v && !isBool v)) := by
  unfold r_law_is_int runP b_law_is_int
  cases v <;> simp only [mV, mC, vA, rA, get, gets, mU, mB, mL, lNil, lCons, eF, bool_b, mT, mTr, mNot, mAnd, mOr, eNot, eAnd, eOr, mIf, sNil, sCons, mTup, fLst, mM, pNil, pSeq, pBk, pCt, pIf, pRet, put, pSet, pEx, gN, gE, gC, gT, pAs, pPar, pFor, fComp, tmY, flo, gAdd, gSub, gMul, gDiv, gMod, gPow, gNeg, gLt, gLe, gGt, gGe, gIs, gIsN, isNo, isBo, gIx, optR, oN, oS, toI, wSeq, seqOf, wZip, listAt, mApp, mPop, mPopAt, mAt, uAt, uC, mUB, mPopIn, vB, pAppIn, pPutAt, itemAt, putAt, mCall, mCallM, mCallK, mRc2, gIsi, isInt, isBool, isStr, isTup, isList, gLen, gAbs, gInt, gGcd, gMax, gMin, gTup, tru, ok_bind, no_bind, ex_bind, List.getElem?_cons_succ, List.getElem?_cons_zero, List.set_cons_succ, List.set_cons_zero, List.length_cons, List.length_nil, Nat.reduceAdd, Nat.reduceLT, Nat.reduceLeDiff, Nat.zero_add, if_true, if_pos_t, if_false_b, ite_tt, atI0, atI1, atI2, Bool.not_true, Bool.not_false, gEq_i, gNe_i, List.map_cons, List.map_nil, List.append_nil, List.nil_append, List.cons_append, List.replicate] <;> rfl
theorem in_two (n : Int) : gIn (.int n) (.tuple [.int 2]) = .ok (.bool (2 == n)) := by
  have c : min (PyData.depthAll [PyData.int 2]) (PyData.int n).depth ≤ 60 := by rw [depth_i]; omega
  unfold gIn
  have e : isIn (.int n) (.tuple [.int 2]) = .ok ([PyData.int 2].any fun y => PyData.eqv y (.int n)) := by
    unfold isIn
    exact if_pos c
  rw [e]
  simp only [List.any_cons, List.any_nil, eqv_i, Bool.or_false, ok_bind]
theorem row_ok (v : D) : r_is_row_of [v, .tuple [.int 2]] = .ok (.bool (match v with | .tuple xs => (2 == (xs.length : Int)) | _ => false)) := by
  have st : ([v, .tuple [.int 2]] : List D).map some ++ List.replicate (2 - ([v, .tuple [.int 2]] : List D).length) none = [some v, some (.tuple [.int 2])] := rfl
  unfold r_is_row_of runP b_is_row_of
  rw [st]
  cases v <;> simp only [in_two, mV, mC, vA, rA, get, gets, mU, mB, mL, lNil, lCons, eF, bool_b, mT, mTr, mNot, mAnd, mOr, eNot, eAnd, eOr, mIf, sNil, sCons, mTup, fLst, mM, pNil, pSeq, pBk, pCt, pIf, pRet, put, pSet, pEx, gN, gE, gC, gT, pAs, pPar, pFor, fComp, tmY, flo, gAdd, gSub, gMul, gDiv, gMod, gPow, gNeg, gLt, gLe, gGt, gGe, gIs, gIsN, isNo, isBo, gIx, optR, oN, oS, toI, wSeq, seqOf, wZip, listAt, mApp, mPop, mPopAt, mAt, uAt, uC, mUB, mPopIn, vB, pAppIn, pPutAt, itemAt, putAt, mCall, mCallM, mCallK, mRc2, gIsi, isInt, isBool, isStr, isTup, isList, gLen, gAbs, gInt, gGcd, gMax, gMin, gTup, tru, ok_bind, no_bind, ex_bind, List.getElem?_cons_succ, List.getElem?_cons_zero, List.set_cons_succ, List.set_cons_zero, List.length_cons, List.length_nil, Nat.reduceAdd, Nat.reduceLT, Nat.reduceLeDiff, Nat.zero_add, if_true, if_pos_t, if_false_b, ite_tt, atI0, atI1, atI2, Bool.not_true, Bool.not_false, gEq_i, gNe_i, List.map_cons, List.map_nil, List.append_nil, List.nil_append, List.cons_append, List.replicate]
def isf : D → Bool
  | .tuple [.int x, .int y] => decide (0 < y) && ((Nat.gcd x.natAbs y.natAbs : Int) == 1)
  | _ => false
theorem isf_ok (v : D) : r_is_fraction [v] = .ok (.bool (isf v)) := by
  have st : ([v] : List D).map some ++ List.replicate (1 - ([v] : List D).length) none = [some v] := rfl
  have z1 : 1 ≤ sizeLine := by decide
  have ro := row_ok v
  unfold r_is_fraction runP b_is_fraction
  rw [st]
  cases v with
  | tuple xs =>
    match xs with
    | [] => simp only [ro, if_pos z1, isf, mV, mC, vA, rA, get, gets, mU, mB, mL, lNil, lCons, eF, bool_b, mT, mTr, mNot, mAnd, mOr, eNot, eAnd, eOr, mIf, sNil, sCons, mTup, fLst, mM, pNil, pSeq, pBk, pCt, pIf, pRet, put, pSet, pEx, gN, gE, gC, gT, pAs, pPar, pFor, fComp, tmY, flo, gAdd, gSub, gMul, gDiv, gMod, gPow, gNeg, gLt, gLe, gGt, gGe, gIs, gIsN, isNo, isBo, gIx, optR, oN, oS, toI, wSeq, seqOf, wZip, listAt, mApp, mPop, mPopAt, mAt, uAt, uC, mUB, mPopIn, vB, pAppIn, pPutAt, itemAt, putAt, mCall, mCallM, mCallK, mRc2, gIsi, isInt, isBool, isStr, isTup, isList, gLen, gAbs, gInt, gGcd, gMax, gMin, gTup, tru, ok_bind, no_bind, ex_bind, List.getElem?_cons_succ, List.getElem?_cons_zero, List.set_cons_succ, List.set_cons_zero, List.length_cons, List.length_nil, Nat.reduceAdd, Nat.reduceLT, Nat.reduceLeDiff, Nat.zero_add, if_true, if_pos_t, if_false_b, ite_tt, atI0, atI1, atI2, Bool.not_true, Bool.not_false, gEq_i, gNe_i, List.map_cons, List.map_nil, List.append_nil, List.nil_append, List.cons_append, List.replicate]; rfl
    | [x] => simp only [ro, if_pos z1, isf, mV, mC, vA, rA, get, gets, mU, mB, mL, lNil, lCons, eF, bool_b, mT, mTr, mNot, mAnd, mOr, eNot, eAnd, eOr, mIf, sNil, sCons, mTup, fLst, mM, pNil, pSeq, pBk, pCt, pIf, pRet, put, pSet, pEx, gN, gE, gC, gT, pAs, pPar, pFor, fComp, tmY, flo, gAdd, gSub, gMul, gDiv, gMod, gPow, gNeg, gLt, gLe, gGt, gGe, gIs, gIsN, isNo, isBo, gIx, optR, oN, oS, toI, wSeq, seqOf, wZip, listAt, mApp, mPop, mPopAt, mAt, uAt, uC, mUB, mPopIn, vB, pAppIn, pPutAt, itemAt, putAt, mCall, mCallM, mCallK, mRc2, gIsi, isInt, isBool, isStr, isTup, isList, gLen, gAbs, gInt, gGcd, gMax, gMin, gTup, tru, ok_bind, no_bind, ex_bind, List.getElem?_cons_succ, List.getElem?_cons_zero, List.set_cons_succ, List.set_cons_zero, List.length_cons, List.length_nil, Nat.reduceAdd, Nat.reduceLT, Nat.reduceLeDiff, Nat.zero_add, if_true, if_pos_t, if_false_b, ite_tt, atI0, atI1, atI2, Bool.not_true, Bool.not_false, gEq_i, gNe_i, List.map_cons, List.map_nil, List.append_nil, List.nil_append, List.cons_append, List.replicate]; rfl
    | x :: y :: z :: r =>
      have e : ((2 : Int) == ((r.length + 1 + 1 + 1 : Nat) : Int)) = false := by simp; omega
      simp only [List.length_cons, e] at ro
      simp only [ro, if_pos z1, isf, mV, mC, vA, rA, get, gets, mU, mB, mL, lNil, lCons, eF, bool_b, mT, mTr, mNot, mAnd, mOr, eNot, eAnd, eOr, mIf, sNil, sCons, mTup, fLst, mM, pNil, pSeq, pBk, pCt, pIf, pRet, put, pSet, pEx, gN, gE, gC, gT, pAs, pPar, pFor, fComp, tmY, flo, gAdd, gSub, gMul, gDiv, gMod, gPow, gNeg, gLt, gLe, gGt, gGe, gIs, gIsN, isNo, isBo, gIx, optR, oN, oS, toI, wSeq, seqOf, wZip, listAt, mApp, mPop, mPopAt, mAt, uAt, uC, mUB, mPopIn, vB, pAppIn, pPutAt, itemAt, putAt, mCall, mCallM, mCallK, mRc2, gIsi, isInt, isBool, isStr, isTup, isList, gLen, gAbs, gInt, gGcd, gMax, gMin, gTup, tru, ok_bind, no_bind, ex_bind, List.getElem?_cons_succ, List.getElem?_cons_zero, List.set_cons_succ, List.set_cons_zero, List.length_cons, List.length_nil, Nat.reduceAdd, Nat.reduceLT, Nat.reduceLeDiff, Nat.zero_add, if_true, if_pos_t, if_false_b, ite_tt, atI0, atI1, atI2, Bool.not_true, Bool.not_false, gEq_i, gNe_i, List.map_cons, List.map_nil, List.append_nil, List.nil_append, List.cons_append, List.replicate]
    | [x, y] =>
      have e : ((2 : Int) == ((0 + 1 + 1 : Nat) : Int)) = true := by decide
      simp only [List.length_cons, List.length_nil, e] at ro
      have ix := is_int_ok x
      have iy := is_int_ok y
      cases x with
      | int i =>
        cases y with
        | int j =>
          by_cases hj : 0 < j
          · simp only [ro, ix, iy, if_pos z1, isf, decide_eq_true hj, Bool.and_true, Bool.true_and, Bool.not_false, mV, mC, vA, rA, get, gets, mU, mB, mL, lNil, lCons, eF, bool_b, mT, mTr, mNot, mAnd, mOr, eNot, eAnd, eOr, mIf, sNil, sCons, mTup, fLst, mM, pNil, pSeq, pBk, pCt, pIf, pRet, put, pSet, pEx, gN, gE, gC, gT, pAs, pPar, pFor, fComp, tmY, flo, gAdd, gSub, gMul, gDiv, gMod, gPow, gNeg, gLt, gLe, gGt, gGe, gIs, gIsN, isNo, isBo, gIx, optR, oN, oS, toI, wSeq, seqOf, wZip, listAt, mApp, mPop, mPopAt, mAt, uAt, uC, mUB, mPopIn, vB, pAppIn, pPutAt, itemAt, putAt, mCall, mCallM, mCallK, mRc2, gIsi, isInt, isBool, isStr, isTup, isList, gLen, gAbs, gInt, gGcd, gMax, gMin, gTup, tru, ok_bind, no_bind, ex_bind, List.getElem?_cons_succ, List.getElem?_cons_zero, List.set_cons_succ, List.set_cons_zero, List.length_cons, List.length_nil, Nat.reduceAdd, Nat.reduceLT, Nat.reduceLeDiff, Nat.zero_add, if_true, if_pos_t, if_false_b, ite_tt, atI0, atI1, atI2, Bool.not_true, Bool.not_false, gEq_i, gNe_i, List.map_cons, List.map_nil, List.append_nil, List.nil_append, List.cons_append, List.replicate]
          · simp only [ro, ix, iy, if_pos z1, isf, decide_eq_false hj, Bool.and_true, Bool.true_and, Bool.false_and, Bool.not_false, mV, mC, vA, rA, get, gets, mU, mB, mL, lNil, lCons, eF, bool_b, mT, mTr, mNot, mAnd, mOr, eNot, eAnd, eOr, mIf, sNil, sCons, mTup, fLst, mM, pNil, pSeq, pBk, pCt, pIf, pRet, put, pSet, pEx, gN, gE, gC, gT, pAs, pPar, pFor, fComp, tmY, flo, gAdd, gSub, gMul, gDiv, gMod, gPow, gNeg, gLt, gLe, gGt, gGe, gIs, gIsN, isNo, isBo, gIx, optR, oN, oS, toI, wSeq, seqOf, wZip, listAt, mApp, mPop, mPopAt, mAt, uAt, uC, mUB, mPopIn, vB, pAppIn, pPutAt, itemAt, putAt, mCall, mCallM, mCallK, mRc2, gIsi, isInt, isBool, isStr, isTup, isList, gLen, gAbs, gInt, gGcd, gMax, gMin, gTup, tru, ok_bind, no_bind, ex_bind, List.getElem?_cons_succ, List.getElem?_cons_zero, List.set_cons_succ, List.set_cons_zero, List.length_cons, List.length_nil, Nat.reduceAdd, Nat.reduceLT, Nat.reduceLeDiff, Nat.zero_add, if_true, if_pos_t, if_false_b, ite_tt, atI0, atI1, atI2, Bool.not_true, Bool.not_false, gEq_i, gNe_i, List.map_cons, List.map_nil, List.append_nil, List.nil_append, List.cons_append, List.replicate]
        | _ => simp only [ro, ix, iy, if_pos z1, isf, Bool.and_true, Bool.true_and, Bool.false_and, Bool.and_false, Bool.not_false, Bool.not_true, mV, mC, vA, rA, get, gets, mU, mB, mL, lNil, lCons, eF, bool_b, mT, mTr, mNot, mAnd, mOr, eNot, eAnd, eOr, mIf, sNil, sCons, mTup, fLst, mM, pNil, pSeq, pBk, pCt, pIf, pRet, put, pSet, pEx, gN, gE, gC, gT, pAs, pPar, pFor, fComp, tmY, flo, gAdd, gSub, gMul, gDiv, gMod, gPow, gNeg, gLt, gLe, gGt, gGe, gIs, gIsN, isNo, isBo, gIx, optR, oN, oS, toI, wSeq, seqOf, wZip, listAt, mApp, mPop, mPopAt, mAt, uAt, uC, mUB, mPopIn, vB, pAppIn, pPutAt, itemAt, putAt, mCall, mCallM, mCallK, mRc2, gIsi, isInt, isBool, isStr, isTup, isList, gLen, gAbs, gInt, gGcd, gMax, gMin, gTup, tru, ok_bind, no_bind, ex_bind, List.getElem?_cons_succ, List.getElem?_cons_zero, List.set_cons_succ, List.set_cons_zero, List.length_cons, List.length_nil, Nat.reduceAdd, Nat.reduceLT, Nat.reduceLeDiff, Nat.zero_add, if_true, if_pos_t, if_false_b, ite_tt, atI0, atI1, atI2, Bool.not_true, Bool.not_false, gEq_i, gNe_i, List.map_cons, List.map_nil, List.append_nil, List.nil_append, List.cons_append, List.replicate]
      | _ => simp only [ro, ix, iy, if_pos z1, isf, Bool.and_true, Bool.true_and, Bool.false_and, Bool.and_false, Bool.not_false, Bool.not_true, mV, mC, vA, rA, get, gets, mU, mB, mL, lNil, lCons, eF, bool_b, mT, mTr, mNot, mAnd, mOr, eNot, eAnd, eOr, mIf, sNil, sCons, mTup, fLst, mM, pNil, pSeq, pBk, pCt, pIf, pRet, put, pSet, pEx, gN, gE, gC, gT, pAs, pPar, pFor, fComp, tmY, flo, gAdd, gSub, gMul, gDiv, gMod, gPow, gNeg, gLt, gLe, gGt, gGe, gIs, gIsN, isNo, isBo, gIx, optR, oN, oS, toI, wSeq, seqOf, wZip, listAt, mApp, mPop, mPopAt, mAt, uAt, uC, mUB, mPopIn, vB, pAppIn, pPutAt, itemAt, putAt, mCall, mCallM, mCallK, mRc2, gIsi, isInt, isBool, isStr, isTup, isList, gLen, gAbs, gInt, gGcd, gMax, gMin, gTup, tru, ok_bind, no_bind, ex_bind, List.getElem?_cons_succ, List.getElem?_cons_zero, List.set_cons_succ, List.set_cons_zero, List.length_cons, List.length_nil, Nat.reduceAdd, Nat.reduceLT, Nat.reduceLeDiff, Nat.zero_add, if_true, if_pos_t, if_false_b, ite_tt, atI0, atI1, atI2, Bool.not_true, Bool.not_false, gEq_i, gNe_i, List.map_cons, List.map_nil, List.append_nil, List.nil_append, List.cons_append, List.replicate]
  | _ => simp only [ro, if_pos z1, isf, mV, mC, vA, rA, get, gets, mU, mB, mL, lNil, lCons, eF, bool_b, mT, mTr, mNot, mAnd, mOr, eNot, eAnd, eOr, mIf, sNil, sCons, mTup, fLst, mM, pNil, pSeq, pBk, pCt, pIf, pRet, put, pSet, pEx, gN, gE, gC, gT, pAs, pPar, pFor, fComp, tmY, flo, gAdd, gSub, gMul, gDiv, gMod, gPow, gNeg, gLt, gLe, gGt, gGe, gIs, gIsN, isNo, isBo, gIx, optR, oN, oS, toI, wSeq, seqOf, wZip, listAt, mApp, mPop, mPopAt, mAt, uAt, uC, mUB, mPopIn, vB, pAppIn, pPutAt, itemAt, putAt, mCall, mCallM, mCallK, mRc2, gIsi, isInt, isBool, isStr, isTup, isList, gLen, gAbs, gInt, gGcd, gMax, gMin, gTup, tru, ok_bind, no_bind, ex_bind, List.getElem?_cons_succ, List.getElem?_cons_zero, List.set_cons_succ, List.set_cons_zero, List.length_cons, List.length_nil, Nat.reduceAdd, Nat.reduceLT, Nat.reduceLeDiff, Nat.zero_add, if_true, if_pos_t, if_false_b, ite_tt, atI0, atI1, atI2, Bool.not_true, Bool.not_false, gEq_i, gNe_i, List.map_cons, List.map_nil, List.append_nil, List.nil_append, List.cons_append, List.replicate]
theorem pr2_eq (a d b e : Int) : gEq (pr2 a d) (pr2 b e) = .ok (.bool (a == b && d == e)) := by
  have h : ∀ x y : Int, (pr2 x y).depth = 1 := fun x y => by
    unfold pr2
    rw [PyData.depth, PyData.depthAll, PyData.depthAll, PyData.depthAll, depth_i, depth_i]
    rfl
  unfold gEq
  rw [h, h, if_pos (by decide)]
  unfold pr2
  rw [PyData.eqv, PySem.W.eqv_all_cons, PySem.W.eqv_all_cons, eqv_i, eqv_i, PyData.eqvAll, Bool.and_true]
theorem fr_eq {a d : Int} (hd : 0 < d) : (fn a d == a && fd a d == d) = ((Nat.gcd a.natAbs d.natAbs : Int) == 1) := by
  by_cases h : Nat.gcd a.natAbs d.natAbs = 1
  · obtain ⟨e1, e2⟩ := fr_self hd h
    rw [e1, e2, h]
    simp
  · have e : ((Nat.gcd a.natAbs d.natAbs : Int) == 1) = false := by simp; omega
    rw [e]
    have c := fr_cop (a := a) (d := d) (by omega)
    by_cases e1 : fn a d = a
    · by_cases e2 : fd a d = d
      · rw [e1, e2] at c; exact absurd c h
      · simp [e2]
    · simp [e1]
theorem law_isf_ok (v : D) (k : Nat) (hk : k ≤ 8000) (h : ∀ x y, v = .tuple [.int x, .int y] → Sz k y) : r_law_is_fraction [v] = .ok (.bool (isf v)) := by
  have st : ([v] : List D).map some ++ List.replicate (1 - ([v] : List D).length) none = [some v] := rfl
  have ro := row_ok v
  unfold r_law_is_fraction runP b_law_is_fraction
  rw [st]
  cases v with
  | tuple xs =>
    match xs with
    | [] => simp only [isf, mV, mC, vA, rA, get, gets, mU, mB, mL, lNil, lCons, eF, bool_b, mT, mTr, mNot, mAnd, mOr, eNot, eAnd, eOr, mIf, sNil, sCons, mTup, fLst, mM, pNil, pSeq, pBk, pCt, pIf, pRet, put, pSet, pEx, gN, gE, gC, gT, pAs, pPar, pFor, fComp, tmY, flo, gAdd, gSub, gMul, gDiv, gMod, gPow, gNeg, gLt, gLe, gGt, gGe, gIs, gIsN, isNo, isBo, gIx, optR, oN, oS, toI, wSeq, seqOf, wZip, listAt, mApp, mPop, mPopAt, mAt, uAt, uC, mUB, mPopIn, vB, pAppIn, pPutAt, itemAt, putAt, mCall, mCallM, mCallK, mRc2, gIsi, isInt, isBool, isStr, isTup, isList, gLen, gAbs, gInt, gGcd, gMax, gMin, gTup, tru, ok_bind, no_bind, ex_bind, List.getElem?_cons_succ, List.getElem?_cons_zero, List.set_cons_succ, List.set_cons_zero, List.length_cons, List.length_nil, Nat.reduceAdd, Nat.reduceLT, Nat.reduceLeDiff, Nat.zero_add, if_true, if_pos_t, if_false_b, ite_tt, atI0, atI1, atI2, Bool.not_true, Bool.not_false, gEq_i, gNe_i, List.map_cons, List.map_nil, List.append_nil, List.nil_append, List.cons_append, List.replicate]; rfl
    | [x] => simp only [isf, mV, mC, vA, rA, get, gets, mU, mB, mL, lNil, lCons, eF, bool_b, mT, mTr, mNot, mAnd, mOr, eNot, eAnd, eOr, mIf, sNil, sCons, mTup, fLst, mM, pNil, pSeq, pBk, pCt, pIf, pRet, put, pSet, pEx, gN, gE, gC, gT, pAs, pPar, pFor, fComp, tmY, flo, gAdd, gSub, gMul, gDiv, gMod, gPow, gNeg, gLt, gLe, gGt, gGe, gIs, gIsN, isNo, isBo, gIx, optR, oN, oS, toI, wSeq, seqOf, wZip, listAt, mApp, mPop, mPopAt, mAt, uAt, uC, mUB, mPopIn, vB, pAppIn, pPutAt, itemAt, putAt, mCall, mCallM, mCallK, mRc2, gIsi, isInt, isBool, isStr, isTup, isList, gLen, gAbs, gInt, gGcd, gMax, gMin, gTup, tru, ok_bind, no_bind, ex_bind, List.getElem?_cons_succ, List.getElem?_cons_zero, List.set_cons_succ, List.set_cons_zero, List.length_cons, List.length_nil, Nat.reduceAdd, Nat.reduceLT, Nat.reduceLeDiff, Nat.zero_add, if_true, if_pos_t, if_false_b, ite_tt, atI0, atI1, atI2, Bool.not_true, Bool.not_false, gEq_i, gNe_i, List.map_cons, List.map_nil, List.append_nil, List.nil_append, List.cons_append, List.replicate]; rfl
    | x :: y :: z :: r =>
      have e : (((r.length + 1 + 1 + 1 : Nat) : Int) == (2 : Int)) = false := by simp; omega
      simp only [e, isf, mV, mC, vA, rA, get, gets, mU, mB, mL, lNil, lCons, eF, bool_b, mT, mTr, mNot, mAnd, mOr, eNot, eAnd, eOr, mIf, sNil, sCons, mTup, fLst, mM, pNil, pSeq, pBk, pCt, pIf, pRet, put, pSet, pEx, gN, gE, gC, gT, pAs, pPar, pFor, fComp, tmY, flo, gAdd, gSub, gMul, gDiv, gMod, gPow, gNeg, gLt, gLe, gGt, gGe, gIs, gIsN, isNo, isBo, gIx, optR, oN, oS, toI, wSeq, seqOf, wZip, listAt, mApp, mPop, mPopAt, mAt, uAt, uC, mUB, mPopIn, vB, pAppIn, pPutAt, itemAt, putAt, mCall, mCallM, mCallK, mRc2, gIsi, isInt, isBool, isStr, isTup, isList, gLen, gAbs, gInt, gGcd, gMax, gMin, gTup, tru, ok_bind, no_bind, ex_bind, List.getElem?_cons_succ, List.getElem?_cons_zero, List.set_cons_succ, List.set_cons_zero, List.length_cons, List.length_nil, Nat.reduceAdd, Nat.reduceLT, Nat.reduceLeDiff, Nat.zero_add, if_true, if_pos_t, if_false_b, ite_tt, atI0, atI1, atI2, Bool.not_true, Bool.not_false, gEq_i, gNe_i, List.map_cons, List.map_nil, List.append_nil, List.nil_append, List.cons_append, List.replicate]
    | [x, y] =>
      have e : (((2 : Nat) : Int) == (2 : Int)) = true := by decide
      have ix := law_int_ok x
      have iy := law_int_ok y
      cases x with
      | int i =>
        cases y with
        | int j =>
          by_cases hj : 0 < j
          · have f := law_fraction_ok (a := i) (d := j) (by omega) (h i j rfl) hk
            have q := pr2_eq (fn i j) (fd i j) i j
            rw [fr_eq hj] at q
            unfold pr2 at q
            unfold fr pr2 at f
            simp only [e, f, q, ix, iy, isf, decide_eq_true hj, Bool.and_true, Bool.true_and, Bool.not_false, mV, mC, vA, rA, get, gets, mU, mB, mL, lNil, lCons, eF, bool_b, mT, mTr, mNot, mAnd, mOr, eNot, eAnd, eOr, mIf, sNil, sCons, mTup, fLst, mM, pNil, pSeq, pBk, pCt, pIf, pRet, put, pSet, pEx, gN, gE, gC, gT, pAs, pPar, pFor, fComp, tmY, flo, gAdd, gSub, gMul, gDiv, gMod, gPow, gNeg, gLt, gLe, gGt, gGe, gIs, gIsN, isNo, isBo, gIx, optR, oN, oS, toI, wSeq, seqOf, wZip, listAt, mApp, mPop, mPopAt, mAt, uAt, uC, mUB, mPopIn, vB, pAppIn, pPutAt, itemAt, putAt, mCall, mCallM, mCallK, mRc2, gIsi, isInt, isBool, isStr, isTup, isList, gLen, gAbs, gInt, gGcd, gMax, gMin, gTup, tru, ok_bind, no_bind, ex_bind, List.getElem?_cons_succ, List.getElem?_cons_zero, List.set_cons_succ, List.set_cons_zero, List.length_cons, List.length_nil, Nat.reduceAdd, Nat.reduceLT, Nat.reduceLeDiff, Nat.zero_add, if_true, if_pos_t, if_false_b, ite_tt, atI0, atI1, atI2, Bool.not_true, Bool.not_false, gEq_i, gNe_i, List.map_cons, List.map_nil, List.append_nil, List.nil_append, List.cons_append, List.replicate]
          · simp only [e, ix, iy, isf, decide_eq_false hj, Bool.and_true, Bool.true_and, Bool.false_and, Bool.not_false, mV, mC, vA, rA, get, gets, mU, mB, mL, lNil, lCons, eF, bool_b, mT, mTr, mNot, mAnd, mOr, eNot, eAnd, eOr, mIf, sNil, sCons, mTup, fLst, mM, pNil, pSeq, pBk, pCt, pIf, pRet, put, pSet, pEx, gN, gE, gC, gT, pAs, pPar, pFor, fComp, tmY, flo, gAdd, gSub, gMul, gDiv, gMod, gPow, gNeg, gLt, gLe, gGt, gGe, gIs, gIsN, isNo, isBo, gIx, optR, oN, oS, toI, wSeq, seqOf, wZip, listAt, mApp, mPop, mPopAt, mAt, uAt, uC, mUB, mPopIn, vB, pAppIn, pPutAt, itemAt, putAt, mCall, mCallM, mCallK, mRc2, gIsi, isInt, isBool, isStr, isTup, isList, gLen, gAbs, gInt, gGcd, gMax, gMin, gTup, tru, ok_bind, no_bind, ex_bind, List.getElem?_cons_succ, List.getElem?_cons_zero, List.set_cons_succ, List.set_cons_zero, List.length_cons, List.length_nil, Nat.reduceAdd, Nat.reduceLT, Nat.reduceLeDiff, Nat.zero_add, if_true, if_pos_t, if_false_b, ite_tt, atI0, atI1, atI2, Bool.not_true, Bool.not_false, gEq_i, gNe_i, List.map_cons, List.map_nil, List.append_nil, List.nil_append, List.cons_append, List.replicate]
        | _ => simp only [e, ix, iy, isf, Bool.and_true, Bool.true_and, Bool.false_and, Bool.and_false, Bool.not_false, Bool.not_true, mV, mC, vA, rA, get, gets, mU, mB, mL, lNil, lCons, eF, bool_b, mT, mTr, mNot, mAnd, mOr, eNot, eAnd, eOr, mIf, sNil, sCons, mTup, fLst, mM, pNil, pSeq, pBk, pCt, pIf, pRet, put, pSet, pEx, gN, gE, gC, gT, pAs, pPar, pFor, fComp, tmY, flo, gAdd, gSub, gMul, gDiv, gMod, gPow, gNeg, gLt, gLe, gGt, gGe, gIs, gIsN, isNo, isBo, gIx, optR, oN, oS, toI, wSeq, seqOf, wZip, listAt, mApp, mPop, mPopAt, mAt, uAt, uC, mUB, mPopIn, vB, pAppIn, pPutAt, itemAt, putAt, mCall, mCallM, mCallK, mRc2, gIsi, isInt, isBool, isStr, isTup, isList, gLen, gAbs, gInt, gGcd, gMax, gMin, gTup, tru, ok_bind, no_bind, ex_bind, List.getElem?_cons_succ, List.getElem?_cons_zero, List.set_cons_succ, List.set_cons_zero, List.length_cons, List.length_nil, Nat.reduceAdd, Nat.reduceLT, Nat.reduceLeDiff, Nat.zero_add, if_true, if_pos_t, if_false_b, ite_tt, atI0, atI1, atI2, Bool.not_true, Bool.not_false, gEq_i, gNe_i, List.map_cons, List.map_nil, List.append_nil, List.nil_append, List.cons_append, List.replicate]
      | _ => simp only [e, ix, iy, isf, Bool.and_true, Bool.true_and, Bool.false_and, Bool.and_false, Bool.not_false, Bool.not_true, mV, mC, vA, rA, get, gets, mU, mB, mL, lNil, lCons, eF, bool_b, mT, mTr, mNot, mAnd, mOr, eNot, eAnd, eOr, mIf, sNil, sCons, mTup, fLst, mM, pNil, pSeq, pBk, pCt, pIf, pRet, put, pSet, pEx, gN, gE, gC, gT, pAs, pPar, pFor, fComp, tmY, flo, gAdd, gSub, gMul, gDiv, gMod, gPow, gNeg, gLt, gLe, gGt, gGe, gIs, gIsN, isNo, isBo, gIx, optR, oN, oS, toI, wSeq, seqOf, wZip, listAt, mApp, mPop, mPopAt, mAt, uAt, uC, mUB, mPopIn, vB, pAppIn, pPutAt, itemAt, putAt, mCall, mCallM, mCallK, mRc2, gIsi, isInt, isBool, isStr, isTup, isList, gLen, gAbs, gInt, gGcd, gMax, gMin, gTup, tru, ok_bind, no_bind, ex_bind, List.getElem?_cons_succ, List.getElem?_cons_zero, List.set_cons_succ, List.set_cons_zero, List.length_cons, List.length_nil, Nat.reduceAdd, Nat.reduceLT, Nat.reduceLeDiff, Nat.zero_add, if_true, if_pos_t, if_false_b, ite_tt, atI0, atI1, atI2, Bool.not_true, Bool.not_false, gEq_i, gNe_i, List.map_cons, List.map_nil, List.append_nil, List.nil_append, List.cons_append, List.replicate]
  | _ => simp only [isf, mV, mC, vA, rA, get, gets, mU, mB, mL, lNil, lCons, eF, bool_b, mT, mTr, mNot, mAnd, mOr, eNot, eAnd, eOr, mIf, sNil, sCons, mTup, fLst, mM, pNil, pSeq, pBk, pCt, pIf, pRet, put, pSet, pEx, gN, gE, gC, gT, pAs, pPar, pFor, fComp, tmY, flo, gAdd, gSub, gMul, gDiv, gMod, gPow, gNeg, gLt, gLe, gGt, gGe, gIs, gIsN, isNo, isBo, gIx, optR, oN, oS, toI, wSeq, seqOf, wZip, listAt, mApp, mPop, mPopAt, mAt, uAt, uC, mUB, mPopIn, vB, pAppIn, pPutAt, itemAt, putAt, mCall, mCallM, mCallK, mRc2, gIsi, isInt, isBool, isStr, isTup, isList, gLen, gAbs, gInt, gGcd, gMax, gMin, gTup, tru, ok_bind, no_bind, ex_bind, List.getElem?_cons_succ, List.getElem?_cons_zero, List.set_cons_succ, List.set_cons_zero, List.length_cons, List.length_nil, Nat.reduceAdd, Nat.reduceLT, Nat.reduceLeDiff, Nat.zero_add, if_true, if_pos_t, if_false_b, ite_tt, atI0, atI1, atI2, Bool.not_true, Bool.not_false, gEq_i, gNe_i, List.map_cons, List.map_nil, List.append_nil, List.nil_append, List.cons_append, List.replicate]
/-! ### what the law draws -/
theorem p10 (n : Nat) (h : n ≤ 100) : 10 ^ n < 2 ^ 401 := by
  have h1 : 10 ^ n ≤ 16 ^ n := Nat.pow_le_pow_left (by decide) n
  have h2 : 16 ^ n = 2 ^ (4 * n) := by rw [Nat.pow_mul]
  have h3 : 2 ^ (4 * n) < 2 ^ 401 := Nat.pow_lt_pow_right (by decide) (by omega)
  omega
theorem great_ok {d : D} {n : Nat} (h : Deal d) (hn : n ≤ 100) : ∃ v d', r_law_great [d, .int n] = .ok (.int v, d') ∧ Deal d' ∧ Sz 401 v := by
  have st : ([d, PyData.int n] : List D).map some ++ List.replicate (4 - ([d, PyData.int n] : List D).length) none = [some d, some (.int n), none, none] := rfl
  have wr : wRng (sCons (mV 1) sNil) [some d, some (.int n), some (.int 0), none] = .ok ((List.range n).map fun i => .int (i : Nat), [some d, some (.int n), some (.int 0), none]) := wRng_of (j := n) rfl (by omega) (by omega)
  obtain ⟨δ1, e1, d1, v, x, rfl, hd1, v1⟩ := pFor_ix (t := gN 3) (m := pSet 2 (mB gAdd (vA (mB gMul (vA (mC (.int 10))) (vA (mV 2)))) (vA (mCallM 0 r_law_any (sCons (mC (.int 10)) sNil))))) (I := fun i δ => ∃ (d : D) (v : Nat) (x : Option D), δ = [some d, some (.int n), some (.int v), x] ∧ Deal d ∧ v < 10 ^ i) wr (fun y hy i δ hi hI => by
    obtain ⟨d, v, x, rfl, hd, v1⟩ := hI
    obtain ⟨u, d', e, hd', u0, u1⟩ := any_ok (m := 10) hd (by decide) (by decide)
    obtain ⟨w, rfl⟩ : ∃ w : Nat, u = w := ⟨u.toNat, by omega⟩
    · have hi : i < n := by simpa using hi
      have hv := v1
      have sv : Sz 401 (v : Int) := by
        unfold Sz
        rw [Int.natAbs_natCast]
        exact Nat.lt_trans hv (p10 i (by omega))
      have c : (10 : Int).natAbs.log2 + (v : Int).natAbs.log2 < 1000000 := by
        have := sv.log
        have e2 : (10 : Int).natAbs.log2 < 20 := by decide
        omega
      refine ⟨[some d, some (.int n), some (.int v), some y], rfl, [some d', some (.int n), some (.int ((10 * v + w : Nat) : Int)), some y], ?_, d', 10 * v + w, some y, rfl, hd', ?_⟩
      · have e3 : (10 * (v : Int) + (w : Int)) = ((10 * v + w : Nat) : Int) := by omega
        simp only [e, if_pos c, e3, mV, mC, vA, rA, get, gets, mU, mB, mL, lNil, lCons, eF, bool_b, mT, mTr, mNot, mAnd, mOr, eNot, eAnd, eOr, mIf, sNil, sCons, mTup, fLst, mM, pNil, pSeq, pBk, pCt, pIf, pRet, put, pSet, pEx, gN, gE, gC, gT, pAs, pPar, pFor, fComp, tmY, flo, gAdd, gSub, gMul, gDiv, gMod, gPow, gNeg, gLt, gLe, gGt, gGe, gIs, gIsN, isNo, isBo, gIx, optR, oN, oS, toI, wSeq, seqOf, wZip, listAt, mApp, mPop, mPopAt, mAt, uAt, uC, mUB, mPopIn, vB, pAppIn, pPutAt, itemAt, putAt, mCall, mCallM, mCallK, mRc2, gIsi, isInt, isBool, isStr, isTup, isList, gLen, gAbs, gInt, gGcd, gMax, gMin, gTup, tru, ok_bind, no_bind, ex_bind, List.getElem?_cons_succ, List.getElem?_cons_zero, List.set_cons_succ, List.set_cons_zero, List.length_cons, List.length_nil, Nat.reduceAdd, Nat.reduceLT, Nat.reduceLeDiff, Nat.zero_add, if_true, if_pos_t, if_false_b, ite_tt, atI0, atI1, atI2, Bool.not_true, Bool.not_false, gEq_i, gNe_i, List.map_cons, List.map_nil, List.append_nil, List.nil_append, List.cons_append, List.replicate]
      · rw [Nat.pow_succ]
        omega) ⟨d, 0, none, rfl, h, by decide⟩
  have hl : ((List.range n).map fun i => PyData.int (i : Nat)).length = n := by simp
  rw [hl] at v1
  have sv : Sz 401 (v : Int) := by
    unfold Sz
    rw [Int.natAbs_natCast]
    exact Nat.lt_trans v1 (p10 n hn)
  obtain ⟨u, d2, e2, hd2, u0, u1⟩ := any_ok (m := 2) hd1 (by decide) (by decide)
  have s1 : pSet 2 (mC (.int 0)) [some d, some (.int n), none, none] = .ok (.nx, [some d, some (.int n), some (.int 0), none]) := rfl
  unfold r_law_great runM b_law_great
  rw [st, pSeq_nx s1, pSeq_nx e1]
  by_cases hu : u = 0
  · subst hu
    refine ⟨v, d2, ?_, hd2, sv⟩
    have e3 : ((0 : Int) == 0) = true := rfl
    simp only [e2, e3, mV, mC, vA, rA, get, gets, mU, mB, mL, lNil, lCons, eF, bool_b, mT, mTr, mNot, mAnd, mOr, eNot, eAnd, eOr, mIf, sNil, sCons, mTup, fLst, mM, pNil, pSeq, pBk, pCt, pIf, pRet, put, pSet, pEx, gN, gE, gC, gT, pAs, pPar, pFor, fComp, tmY, flo, gAdd, gSub, gMul, gDiv, gMod, gPow, gNeg, gLt, gLe, gGt, gGe, gIs, gIsN, isNo, isBo, gIx, optR, oN, oS, toI, wSeq, seqOf, wZip, listAt, mApp, mPop, mPopAt, mAt, uAt, uC, mUB, mPopIn, vB, pAppIn, pPutAt, itemAt, putAt, mCall, mCallM, mCallK, mRc2, gIsi, isInt, isBool, isStr, isTup, isList, gLen, gAbs, gInt, gGcd, gMax, gMin, gTup, tru, ok_bind, no_bind, ex_bind, List.getElem?_cons_succ, List.getElem?_cons_zero, List.set_cons_succ, List.set_cons_zero, List.length_cons, List.length_nil, Nat.reduceAdd, Nat.reduceLT, Nat.reduceLeDiff, Nat.zero_add, if_true, if_pos_t, if_false_b, ite_tt, atI0, atI1, atI2, Bool.not_true, Bool.not_false, gEq_i, gNe_i, List.map_cons, List.map_nil, List.append_nil, List.nil_append, List.cons_append, List.replicate]
  · refine ⟨0 - v, d2, ?_, hd2, sv.neg⟩
    have e3 : (u == 0) = false := by simp [hu]
    simp only [e2, e3, mV, mC, vA, rA, get, gets, mU, mB, mL, lNil, lCons, eF, bool_b, mT, mTr, mNot, mAnd, mOr, eNot, eAnd, eOr, mIf, sNil, sCons, mTup, fLst, mM, pNil, pSeq, pBk, pCt, pIf, pRet, put, pSet, pEx, gN, gE, gC, gT, pAs, pPar, pFor, fComp, tmY, flo, gAdd, gSub, gMul, gDiv, gMod, gPow, gNeg, gLt, gLe, gGt, gGe, gIs, gIsN, isNo, isBo, gIx, optR, oN, oS, toI, wSeq, seqOf, wZip, listAt, mApp, mPop, mPopAt, mAt, uAt, uC, mUB, mPopIn, vB, pAppIn, pPutAt, itemAt, putAt, mCall, mCallM, mCallK, mRc2, gIsi, isInt, isBool, isStr, isTup, isList, gLen, gAbs, gInt, gGcd, gMax, gMin, gTup, tru, ok_bind, no_bind, ex_bind, List.getElem?_cons_succ, List.getElem?_cons_zero, List.set_cons_succ, List.set_cons_zero, List.length_cons, List.length_nil, Nat.reduceAdd, Nat.reduceLT, Nat.reduceLeDiff, Nat.zero_add, if_true, if_pos_t, if_false_b, ite_tt, atI0, atI1, atI2, Bool.not_true, Bool.not_false, gEq_i, gNe_i, List.map_cons, List.map_nil, List.append_nil, List.nil_append, List.cons_append, List.replicate]
theorem pair_core {F1 F2 : List D → Rs (D × D)} {d d1 d2 d3 d4 d5 n : D} {g by_ dd aa : Int} (e1 : F2 [d, .list [.int 1, .int 2, .int 5, .int 12, .int 60, .int 90]] = .ok (n, d1)) (e2 : F1 [d1, n] = .ok (.int g, d2)) (e3 : F2 [d2, .list [.int 1, .int 1, .int 2, .int 6, .int (1 + (if g < 0 then -g else g))]] = .ok (.int by_, d3))
    (e4 : F1 [d3, n] = .ok (.int dd, d4)) (e5 : F1 [d4, n] = .ok (.int aa, d5)) (c1 : aa.natAbs.log2 + by_.natAbs.log2 < 1000000) (c2 : dd.natAbs.log2 + by_.natAbs.log2 < 1000000) (b : Bool) (e0 : (dd == 0) = b) : (pSeq (pSet 1 (mCallM 0 F2 (sCons (eF (fLst (sCons (mC (.int 1)) (sCons (mC (.int 2)) (sCons (mC (.int 5)) (sCons (mC (.int 12)) (sCons (mC (.int 60)) (sCons (mC (.int 90)) sNil)))))))) sNil)))
    (pSeq (pPar 2 3 (sCons (mCallM 0 F2 (sCons (eF (fLst (sCons (mC (.int 1)) (sCons (mC (.int 1)) (sCons (mC (.int 2)) (sCons (mC (.int 6)) (sCons (mB gAdd (vA (mC (.int 1))) (vA (mL gAbs (lCons (vA (mCallM 0 F1 (sCons (mV 1) sNil))) lNil)))) sNil))))))) sNil)) (sCons (mCallM 0 F1 (sCons (mV 1) sNil)) sNil)))
    (pRet (mTup (sCons (mB gMul (vA (mCallM 0 F1 (sCons (mV 1) sNil))) (vA (mV 2))) (sCons (mIf (mT (mB gNe (vA (mV 3)) (vA (mC (.int 0))))) (mB gMul (vA (mV 3)) (vA (mV 2))) (mV 2)) sNil)))))) [some d, none, none, none] = .ok (.rt (pr2 (aa * by_) (if b = true then by_ else dd * by_)), [some d5, some n, some (.int by_), some (.int dd)]) := by
  have z6 : 6 ≤ sizeLine := by decide
  have z5 : 5 ≤ sizeLine := by decide
  have z2 : 2 ≤ sizeLine := by decide
  cases b with
  | true => simp only [e1, e2, e3, e4, e5, e0, if_pos c1, if_pos z6, if_pos z5, if_pos z2, pr2, mV, mC, vA, rA, get, gets, mU, mB, mL, lNil, lCons, eF, bool_b, mT, mTr, mNot, mAnd, mOr, eNot, eAnd, eOr, mIf, sNil, sCons, mTup, fLst, mM, pNil, pSeq, pBk, pCt, pIf, pRet, put, pSet, pEx, gN, gE, gC, gT, pAs, pPar, pFor, fComp, tmY, flo, gAdd, gSub, gMul, gDiv, gMod, gPow, gNeg, gLt, gLe, gGt, gGe, gIs, gIsN, isNo, isBo, gIx, optR, oN, oS, toI, wSeq, seqOf, wZip, listAt, mApp, mPop, mPopAt, mAt, uAt, uC, mUB, mPopIn, vB, pAppIn, pPutAt, itemAt, putAt, mCall, mCallM, mCallK, mRc2, gIsi, isInt, isBool, isStr, isTup, isList, gLen, gAbs, gInt, gGcd, gMax, gMin, gTup, tru, ok_bind, no_bind, ex_bind, List.getElem?_cons_succ, List.getElem?_cons_zero, List.set_cons_succ, List.set_cons_zero, List.length_cons, List.length_nil, Nat.reduceAdd, Nat.reduceLT, Nat.reduceLeDiff, Nat.zero_add, if_true, if_pos_t, if_false_b, ite_tt, atI0, atI1, atI2, Bool.not_true, Bool.not_false, gEq_i, gNe_i, List.map_cons, List.map_nil, List.append_nil, List.nil_append, List.cons_append, List.replicate]
  | false => simp only [e1, e2, e3, e4, e5, e0, if_pos c1, if_pos c2, if_pos z6, if_pos z5, if_pos z2, pr2, mV, mC, vA, rA, get, gets, mU, mB, mL, lNil, lCons, eF, bool_b, mT, mTr, mNot, mAnd, mOr, eNot, eAnd, eOr, mIf, sNil, sCons, mTup, fLst, mM, pNil, pSeq, pBk, pCt, pIf, pRet, put, pSet, pEx, gN, gE, gC, gT, pAs, pPar, pFor, fComp, tmY, flo, gAdd, gSub, gMul, gDiv, gMod, gPow, gNeg, gLt, gLe, gGt, gGe, gIs, gIsN, isNo, isBo, gIx, optR, oN, oS, toI, wSeq, seqOf, wZip, listAt, mApp, mPop, mPopAt, mAt, uAt, uC, mUB, mPopIn, vB, pAppIn, pPutAt, itemAt, putAt, mCall, mCallM, mCallK, mRc2, gIsi, isInt, isBool, isStr, isTup, isList, gLen, gAbs, gInt, gGcd, gMax, gMin, gTup, tru, ok_bind, no_bind, ex_bind, List.getElem?_cons_succ, List.getElem?_cons_zero, List.set_cons_succ, List.set_cons_zero, List.length_cons, List.length_nil, Nat.reduceAdd, Nat.reduceLT, Nat.reduceLeDiff, Nat.zero_add, if_true, if_pos_t, if_false_b, ite_tt, atI0, atI1, atI2, Bool.not_true, Bool.not_false, gEq_i, gNe_i, List.map_cons, List.map_nil, List.append_nil, List.nil_append, List.cons_append, List.replicate]
theorem pair_ok {d : D} (h : Deal d) : ∃ a c d', r_law_pair [d] = .ok (pr2 a c, d') ∧ Deal d' ∧ c ≠ 0 ∧ Sz 810 a ∧ Sz 810 c := by
  have st : ([d] : List D).map some ++ List.replicate (4 - ([d] : List D).length) none = [some d, none, none, none] := rfl
  have z6 : 6 ≤ sizeLine := by decide
  have z5 : 5 ≤ sizeLine := by decide
  have z2 : 2 ≤ sizeLine := by decide
  obtain ⟨s, d1, e1, h1, hs⟩ := of_ok (xs := [.int 1, .int 2, .int 5, .int 12, .int 60, .int 90]) h (by simp) (by simp)
  obtain ⟨n, rfl, hn⟩ : ∃ n : Nat, s = .int n ∧ n ≤ 100 := by
    simp only [List.mem_cons, List.not_mem_nil, or_false] at hs
    rcases hs with rfl | rfl | rfl | rfl | rfl | rfl
    · exact ⟨1, rfl, by decide⟩
    · exact ⟨2, rfl, by decide⟩
    · exact ⟨5, rfl, by decide⟩
    · exact ⟨12, rfl, by decide⟩
    · exact ⟨60, rfl, by decide⟩
    · exact ⟨90, rfl, by decide⟩
  obtain ⟨g, d2, e2, h2, sg⟩ := great_ok h1 hn
  obtain ⟨b, d3, e3, h3, hb⟩ := of_ok (xs := [.int 1, .int 1, .int 2, .int 6, .int (1 + (if g < 0 then -g else g))]) h2 (by simp) (by simp)
  obtain ⟨by_, rfl, b0, sb⟩ : ∃ i : Int, b = .int i ∧ 0 < i ∧ Sz 402 i := by
    have big : ∀ m : Nat, m < 8 → m < 2 ^ 402 := fun m hm => Nat.lt_trans hm (by have := Nat.pow_lt_pow_right (a := 2) (by decide) (show 3 < 402 by decide); omega)
    have hg : 0 < 1 + (if g < 0 then -g else g) := by split <;> omega
    have sg2 : Sz 402 (1 + (if g < 0 then -g else g)) := by
      have a1 : Sz 401 (1 : Int) := Nat.lt_of_lt_of_le (by decide : 1 < 2 ^ 1) (Nat.pow_le_pow_right (by decide) (by decide))
      refine Sz.add a1 ?_
      split
      · exact sg.neg'
      · exact sg
    simp only [List.mem_cons,
              List.not_mem_nil, or_false] at hb
    rcases hb with rfl | rfl | rfl | rfl | rfl
    · exact ⟨1, rfl, by decide, big 1 (by decide)⟩
    · exact ⟨1, rfl, by decide, big 1 (by decide)⟩
    · exact ⟨2, rfl, by decide, big 2 (by decide)⟩
    · exact ⟨6, rfl, by decide, big 6 (by decide)⟩
    · exact ⟨_, rfl, hg, sg2⟩
  obtain ⟨dd, d4, e4, h4, sd⟩ := great_ok h3 hn
  obtain ⟨aa, d5, e5, h5, sa⟩ := great_ok h4 hn
  have c1 := cMul sa sb (by decide)
  have c2 := cMul sd sb (by decide)
  have k := pair_core e1 e2 e3 e4 e5 c1 c2 (dd == 0) rfl
  have r : r_law_pair [d] = .ok (pr2 (aa * by_) (if (dd == 0) = true then by_ else dd * by_), d5) := by
    unfold r_law_pair runM b_law_pair
    rw [st, k]
    rfl
  by_cases hd : dd = 0
  · refine ⟨_, _, d5, r, h5, ?_, (sa.mul sb).up (by decide), ?_⟩
    · rw [if_pos (by simp [hd])]; omega
    · rw [if_pos (by simp [hd])]; exact sb.up (by decide)
  · refine ⟨_, _, d5, r, h5, ?_, (sa.mul sb).up (by decide), ?_⟩
    · rw [if_neg (by simp [hd])]; exact Int.mul_ne_zero hd (by omega)
    · rw [if_neg (by simp [hd])]; exact (sd.mul sb).up (by decide)
theorem near_ok {d : D} {a c : Int} {k : Nat} (h : Deal d) (hk : k ≤ 1800) (ha : Sz k a) (hc : Sz k c) (h1 : 1 ≤ k) : ∃ v d', r_law_near [d, pr2 a c] = .ok (v, d') ∧ Deal d' ∧ ∀ x y, v = .tuple [.int x, .int y] → Sz (k + 2) y := by
  have st : ([d, pr2 a c] : List D).map some ++ List.replicate (5 - ([d, pr2 a c] : List D).length) none = [some d, some (pr2 a c), none, none, none] := rfl
  have c2 : (2 : Int).natAbs.log2 + a.natAbs.log2 < 1000000 := by
    have := ha.log
    have e2 : (2 : Int).natAbs.log2 < 20 := by decide
    omega
  have c3 : (2 : Int).natAbs.log2 + c.natAbs.log2 < 1000000 := by
    have := hc.log
    have e2 : (2 : Int).natAbs.log2 < 20 := by decide
    omega
  have c4 : c.natAbs.log2 < 1920 := by
    have := hc.log
    omega
  have z1 : 1 ≤ sizeLine := by decide
  have z2 : 2 ≤ sizeLine := by decide
  have z3 : 3 ≤ sizeLine := by decide
  have z10 : 10 ≤ sizeLine := by decide
  have z12 : 12 ≤ sizeLine := by decide
  have z22 : 22 ≤ sizeLine := by decide
  obtain ⟨v, d1, e1, hd1, hv⟩ := of_ok (xs := [.tuple [.int a, .int c], .tuple [.int (2 * a), .int (2 * c)], .tuple [.int (0 - a), .int (0 - c)], .tuple [.int a, .int 0], .list [.int a, .int c], .tuple [.int a, .int c, .int 1], .tuple [.int a], .int a, .tuple [.bool true, .int 1], .tuple [.int a, .bool true], .tuple [.int a, .str (toString c)], .none,
    .tuple [.int 0, .int c], .tuple [.int 0, .int 1], .tuple [.int 0, .int 2], .tuple [.int c, .int a], .tuple [.int a, .int (0 - c)], .tuple [.none, .int 1], .str "1", .tuple [.tuple [.int a, .int c]], .tuple [.int (a + c), .int c], .tuple [.int c, .int c]]) h (by simp) (by simp)
  refine ⟨v, d1, ?_, hd1, fun x y e => ?_⟩
  · unfold r_law_near runM b_law_near
    rw [st]
    simp only [e1, pr2, gStr, if_pos c2, if_pos c3, if_pos c4, if_pos z1, if_pos z2, if_pos z3, if_pos z10, if_pos z12, if_pos z22, mV, mC, vA, rA, get, gets, mU, mB, mL, lNil, lCons, eF, bool_b, mT, mTr, mNot, mAnd, mOr, eNot, eAnd, eOr, mIf, sNil, sCons, mTup, fLst, mM, pNil, pSeq, pBk, pCt, pIf, pRet, put, pSet, pEx, gN, gE, gC, gT, pAs, pPar, pFor, fComp, tmY, flo, gAdd, gSub, gMul, gDiv, gMod, gPow, gNeg, gLt, gLe, gGt, gGe, gIs, gIsN, isNo, isBo, gIx, optR, oN, oS, toI, wSeq, seqOf, wZip, listAt, mApp, mPop, mPopAt, mAt, uAt, uC, mUB, mPopIn, vB, pAppIn, pPutAt, itemAt, putAt, mCall, mCallM, mCallK, mRc2, gIsi, isInt, isBool, isStr, isTup, isList, gLen, gAbs, gInt, gGcd, gMax, gMin, gTup, tru, ok_bind, no_bind, ex_bind, List.getElem?_cons_succ, List.getElem?_cons_zero, List.set_cons_succ, List.set_cons_zero, List.length_cons, List.length_nil, Nat.reduceAdd, Nat.reduceLT, Nat.reduceLeDiff, Nat.zero_add, if_true, if_pos_t, if_false_b, ite_tt, atI0, atI1, atI2, Bool.not_true, Bool.not_false, gEq_i, gNe_i, List.map_cons, List.map_nil, List.append_nil, List.nil_append, List.cons_append, List.replicate]
  · have sm : ∀ i : Int, i.natAbs < 4 → Sz (k + 2) i := fun i hi => Nat.lt_of_lt_of_le (show i.natAbs < 2 ^ 2 from hi) (Nat.pow_le_pow_right (by decide) (by omega))
    have s2 : Sz (k + 2) (2 * c) := (Sz.mul (k := 2) (show Sz 2 2 by unfold Sz; decide) hc).up (by omega)
    subst e
    simp only [List.mem_cons, List.not_mem_nil, or_false, PyData.tuple.injEq, List.cons.injEq, PyData.int.injEq, reduceCtorEq, and_false, false_and, and_true, false_or, or_false] at hv
    have hc' := hc.up (show k ≤ k + 2 by omega)
    have ha' := ha.up (show k ≤ k + 2 by omega)
    have hn' := hc.neg.up (show k ≤ k + 2 by omega)
    have s0 := sm 0 (by decide)
    have s1 := sm 1 (by decide)
    have s22 := sm 2 (by decide)
    rcases hv with ⟨_, rfl⟩ | ⟨_, rfl⟩ | ⟨_, rfl⟩ | ⟨_, rfl⟩ | ⟨_, rfl⟩ | ⟨_, rfl⟩ | ⟨_, rfl⟩ | ⟨_, rfl⟩ | ⟨_, rfl⟩ | ⟨_, rfl⟩ | ⟨_, rfl⟩ <;> assumption
/-! ### the law -/
theorem is_less_ok {a d b e : Int} {k : Nat} (h : Fq k a d) (h' : Fq k b e) (hk : k ≤ 4000) : r_is_less [pr2 a d, pr2 b e] = .ok (.bool (decide (a * e < b * d))) := by
  have c1 := cMul h.sa h'.sd (by omega)
  have c2 := cMul h'.sa h.sd (by omega)
  have st : ([pr2 a d, pr2 b e] : List D).map some ++ List.replicate (2 - ([pr2 a d, pr2 b e] : List D).length) none = [some (pr2 a d), some (pr2 b e)] := rfl
  unfold r_is_less runP b_is_less
  rw [st]
  simp only [pr2, if_pos c1, if_pos c2, mV, mC, vA, rA, get, gets, mU, mB, mL, lNil, lCons, eF, bool_b, mT, mTr, mNot, mAnd, mOr, eNot, eAnd, eOr, mIf, sNil, sCons, mTup, fLst, mM, pNil, pSeq, pBk, pCt, pIf, pRet, put, pSet, pEx, gN, gE, gC, gT, pAs, pPar, pFor, fComp, tmY, flo, gAdd, gSub, gMul, gDiv, gMod, gPow, gNeg, gLt, gLe, gGt, gGe, gIs, gIsN, isNo, isBo, gIx, optR, oN, oS, toI, wSeq, seqOf, wZip, listAt, mApp, mPop, mPopAt, mAt, uAt, uC, mUB, mPopIn, vB, pAppIn, pPutAt, itemAt, putAt, mCall, mCallM, mCallK, mRc2, gIsi, isInt, isBool, isStr, isTup, isList, gLen, gAbs, gInt, gGcd, gMax, gMin, gTup, tru, ok_bind, no_bind, ex_bind, List.getElem?_cons_succ, List.getElem?_cons_zero, List.set_cons_succ, List.set_cons_zero, List.length_cons, List.length_nil, Nat.reduceAdd, Nat.reduceLT, Nat.reduceLeDiff, Nat.zero_add, if_true, if_pos_t, if_false_b, ite_tt, atI0, atI1, atI2, Bool.not_true, Bool.not_false, gEq_i, gNe_i, List.map_cons, List.map_nil, List.append_nil, List.nil_append, List.cons_append, List.replicate]
theorem sr2 (a d : Int) : r_law_same 4 [pr2 a d, pr2 a d] = .ok (.bool true) := same_refl (n := 3) rfl
theorem srb (b : Bool) : r_law_same 4 [.bool b, .bool b] = .ok (.bool true) := same_refl (n := 3) rfl
theorem isf_fq {k : Nat} {a d : Int} (h : Fq k a d) : isf (pr2 a d) = true := by
  unfold isf pr2
  simp only [h.cop, decide_eq_true h.pos]
  rfl
theorem turn_core {P NE : List D → Rs (D × D)} {LF SM FR AD TI MI OV LS IF LI : List D → Rs D} {S x2 x3 x4 x5 x6 x7 x8 : Option D} {d d1 d2 d3 d4 n1 n2 : D} {a c b e p q r s u v u' v' : Int} {t t1 t2 : Bool}
    (p1 : P [d] = .ok (.tuple [.int a, .int c], d1)) (p2 : P [d1] = .ok (.tuple [.int b, .int e], d2)) (f1 : LF [.int a, .int c] = .ok (.tuple [.int p, .int q])) (f2 : LF [.int b, .int e] = .ok (.tuple [.int r, .int s])) (g1 : FR [.int a, .int c] = .ok (.tuple [.int p, .int q])) (g2 : FR [.int b, .int e] = .ok (.tuple [.int r, .int s]))
    (f3 : LF [.int (p * s + r * q), .int (q * s)] = .ok (.tuple [.int u, .int v])) (ad : AD [.tuple [.int p, .int q], .tuple [.int r, .int s]] = .ok (.tuple [.int u, .int v])) (ti : TI [.tuple [.int p, .int q], .tuple [.int r, .int s]] = .ok (.tuple [.int u', .int v'])) (f4 : LF [.int (p * r), .int (q * s)] = .ok (.tuple [.int u', .int v']))
    (mi1 : MI [.tuple [.int p, .int q]] = .ok (.tuple [.int (0 - p), .int q])) (mi2 : MI [.tuple [.int u, .int v]] = .ok (.tuple [.int (0 - u), .int v])) (le1 : LS [.tuple [.int p, .int q], .tuple [.int r, .int s]] = .ok (.bool t)) (ht : decide (p * s < r * q) = t) (le2 : LS [.tuple [.int p, .int q], .tuple [.int p, .int q]] = .ok (.bool false))
    (ov : (r == 0) = false → ∃ x y, OV [.tuple [.int p, .int q], .tuple [.int r, .int s]] = .ok (.tuple [.int x, .int y]) ∧ LF [.int (p * s), .int (q * r)] = .ok (.tuple [.int x, .int y]))
    (ne1 : NE [d2, .tuple [.int p, .int q]] = .ok (n1, d3)) (ne2 : NE [d3, .tuple [.int r, .int s]] = .ok (n2, d4)) (sm : ∀ x y, SM [.tuple [.int x, .int y], .tuple [.int x, .int y]] = .ok (.bool true)) (smb : ∀ b, SM [.bool b, .bool b] = .ok (.bool true))
    (i0 : IF [.tuple [.int p, .int q]] = .ok (.bool true)) (l0 : LI [.tuple [.int p, .int q]] = .ok (.bool true)) (i1 : IF [n1] = .ok (.bool t1)) (l1 : LI [n1] = .ok (.bool t1)) (i2 : IF [n2] = .ok (.bool t2)) (l2 : LI [n2] = .ok (.bool t2))
    (c1 : p.natAbs.log2 + s.natAbs.log2 < 1000000) (c2 : r.natAbs.log2 + q.natAbs.log2 < 1000000) (c3 : q.natAbs.log2 + s.natAbs.log2 < 1000000) (c4 : p.natAbs.log2 + r.natAbs.log2 < 1000000) (c5 : q.natAbs.log2 + r.natAbs.log2 < 1000000) :
    (pSeq (pPar 3 4 (sCons (mCallM 1 P sNil) (sCons (mCallM 1 P sNil) sNil)))
    (pSeq (pPar 5 6 (sCons (mCall LF (sCons (mB gIx (vA (mV 3)) (vA (mC (.int 0)))) (sCons (mB gIx (vA (mV 3)) (vA (mC (.int 1)))) sNil))) (sCons (mCall LF (sCons (mB gIx (vA (mV 4)) (vA (mC (.int 0)))) (sCons (mB gIx (vA (mV 4)) (vA (mC (.int 1)))) sNil))) sNil)))
    (pSeq (pIf (mOr (mNot (mTr (vA (mCall SM (sCons (mCallK [1, 0] FR sNil (sCons (mB gIx (vA (mV 3)) (vA (mC (.int 1)))) (sCons (mB gIx (vA (mV 3)) (vA (mC (.int 0)))) sNil))) (sCons (mV 5) sNil)))))) (mNot (mTr (vA (mCall SM (sCons (mCall FR (sCons (mB gIx (vA (mV 4)) (vA (mC (.int 0)))) (sCons (mB gIx (vA (mV 4)) (vA (mC (.int 1)))) sNil))) (sCons (mV 6) sNil))))))) (pRet (mC (.bool false))) pNil)
    (pSeq (pSet 7 (mCall LF (sCons (mB gAdd (vA (mB gMul (vA (mB gIx (vA (mV 5)) (vA (mC (.int 0))))) (vA (mB gIx (vA (mV 6)) (vA (mC (.int 1))))))) (vA (mB gMul (vA (mB gIx (vA (mV 6)) (vA (mC (.int 0))))) (vA (mB gIx (vA (mV 5)) (vA (mC (.int 1)))))))) (sCons (mB gMul (vA (mB gIx (vA (mV 5)) (vA (mC (.int 1))))) (vA (mB gIx (vA (mV 6)) (vA (mC (.int 1)))))) sNil))))
    (pSeq (pIf (mOr (mNot (mTr (vA (mCall SM (sCons (mCallK [1, 0] AD sNil (sCons (mV 6) (sCons (mV 5) sNil))) (sCons (mV 7) sNil)))))) (mNot (mTr (vA (mCall SM (sCons (mCall TI (sCons (mV 5) (sCons (mV 6) sNil))) (sCons (mCall LF (sCons (mB gMul (vA (mB gIx (vA (mV 5)) (vA (mC (.int 0))))) (vA (mB gIx (vA (mV 6)) (vA (mC (.int 0)))))) (sCons (mB gMul (vA (mB gIx (vA (mV 5)) (vA (mC (.int 1))))) (vA (mB gIx (vA (mV 6)) (vA (mC (.int 1)))))) sNil))) sNil))))))) (pRet (mC (.bool false))) pNil)
    (pSeq (pIf (mOr (mNot (mTr (vA (mCall SM (sCons (mCallK [0] MI sNil (sCons (mV 5) sNil)) (sCons (mTup (sCons (mB gSub (vA (mC (.int 0))) (vA (mB gIx (vA (mV 5)) (vA (mC (.int 0)))))) (sCons (mB gIx (vA (mV 5)) (vA (mC (.int 1)))) sNil))) sNil)))))) (mNot (mTr (vA (mCall SM (sCons (mCall MI (sCons (mV 7) sNil)) (sCons (mTup (sCons (mB gSub (vA (mC (.int 0))) (vA (mB gIx (vA (mV 7)) (vA (mC (.int 0)))))) (sCons (mB gIx (vA (mV 7)) (vA (mC (.int 1)))) sNil))) sNil))))))) (pRet (mC (.bool false))) pNil)
    (pSeq (pIf (mAnd (mT (mB gNe (vA (mB gIx (vA (mV 6)) (vA (mC (.int 0))))) (vA (mC (.int 0))))) (mNot (mTr (vA (mCall SM (sCons (mCall OV (sCons (mV 5) (sCons (mV 6) sNil))) (sCons (mCall LF (sCons (mB gMul (vA (mB gIx (vA (mV 5)) (vA (mC (.int 0))))) (vA (mB gIx (vA (mV 6)) (vA (mC (.int 1)))))) (sCons (mB gMul (vA (mB gIx (vA (mV 5)) (vA (mC (.int 1))))) (vA (mB gIx (vA (mV 6)) (vA (mC (.int 0)))))) sNil))) sNil))))))) (pRet (mC (.bool false))) pNil)
    (pSeq (pIf (mOr (mNot (mTr (vA (mCall SM (sCons (mCall LS (sCons (mV 5) (sCons (mV 6) sNil))) (sCons (mB gLt (vA (mB gMul (vA (mB gIx (vA (mV 5)) (vA (mC (.int 0))))) (vA (mB gIx (vA (mV 6)) (vA (mC (.int 1))))))) (vA (mB gMul (vA (mB gIx (vA (mV 6)) (vA (mC (.int 0))))) (vA (mB gIx (vA (mV 5)) (vA (mC (.int 1)))))))) sNil)))))) (mNot (mTr (vA (mCall SM (sCons (mCallK [1, 0] LS sNil (sCons (mV 5) (sCons (mV 5) sNil))) (sCons (mC (.bool false)) sNil))))))) (pRet (mC (.bool false))) pNil)
    (pFor (wSeq (eF (fLst (sCons (mV 5) (sCons (mCallM 1 NE (sCons (mV 5) sNil)) (sCons (mCallM 1 NE (sCons (mV 6) sNil)) sNil)))))) (gN 8) (pIf (mOr (mNot (mTr (vA (mCall SM (sCons (mCall IF (sCons (mV 8) sNil)) (sCons (mCall LI (sCons (mV 8) sNil)) sNil)))))) (mNot (mTr (vA (mCall SM (sCons (mCallK [0] IF sNil (sCons (mV 5) sNil)) (sCons (mC (.bool true)) sNil))))))) (pRet (mC (.bool false))) pNil)))))))))) [S, some d, x2, x3, x4, x5, x6, x7, x8] = .ok (.nx, [S, some d4, x2, some (.tuple [.int a, .int c]), some (.tuple [.int b, .int e]), some (.tuple [.int p, .int q]), some (.tuple [.int r, .int s]), some (.tuple [.int u, .int v]), some n2]) := by
  have z2 : 2 ≤ sizeLine := by decide
  have z3 : 3 ≤ sizeLine := by decide
  cases hr : r == 0 with
  | true => simp only [p1, p2, f1, f2, g1, g2, f3, ad, ti, f4, mi1, mi2, le1, ht, le2, ne1, ne2, sm, smb, i0, l0, i1, l1, i2, l2, hr, if_pos c1, if_pos c2, if_pos c3, if_pos c4, if_pos c5, if_pos z2, if_pos z3, pick, List.filterMap, loopF, mV, mC, vA, rA, get, gets, mU, mB, mL, lNil, lCons, eF, bool_b, mT, mTr, mNot, mAnd, mOr, eNot, eAnd, eOr, mIf, sNil, sCons, mTup, fLst, mM, pNil, pSeq, pBk, pCt, pIf, pRet, put, pSet, pEx, gN, gE, gC, gT, pAs, pPar, pFor, fComp, tmY, flo, gAdd, gSub, gMul, gDiv, gMod, gPow, gNeg, gLt, gLe, gGt, gGe, gIs, gIsN, isNo, isBo, gIx, optR, oN, oS, toI, wSeq, seqOf, wZip, listAt, mApp, mPop, mPopAt, mAt, uAt, uC, mUB, mPopIn, vB, pAppIn, pPutAt, itemAt, putAt, mCall, mCallM, mCallK, mRc2, gIsi, isInt, isBool, isStr, isTup, isList, gLen, gAbs, gInt, gGcd, gMax, gMin, gTup, tru, ok_bind, no_bind, ex_bind, List.getElem?_cons_succ, List.getElem?_cons_zero, List.set_cons_succ, List.set_cons_zero, List.length_cons, List.length_nil, Nat.reduceAdd, Nat.reduceLT, Nat.reduceLeDiff, Nat.zero_add, if_true, if_pos_t, if_false_b, ite_tt, atI0, atI1, atI2, Bool.not_true, Bool.not_false, gEq_i, gNe_i, List.map_cons, List.map_nil, List.append_nil, List.nil_append, List.cons_append, List.replicate]
  | false =>
    obtain ⟨x, y, o1, o2⟩ := ov hr
    simp only [p1, p2, f1, f2, g1, g2, f3, ad, ti, f4, mi1, mi2, le1, ht, le2, ne1, ne2, sm, smb, i0, l0, i1, l1, i2, l2, hr, o1, o2, if_pos c1, if_pos c2, if_pos c3, if_pos c4, if_pos c5, if_pos z2, if_pos z3, pick, List.filterMap, loopF, mV, mC, vA, rA, get, gets, mU, mB, mL, lNil, lCons, eF, bool_b, mT, mTr, mNot, mAnd, mOr, eNot, eAnd, eOr, mIf, sNil, sCons, mTup, fLst, mM, pNil, pSeq, pBk, pCt, pIf, pRet, put, pSet, pEx, gN, gE, gC, gT, pAs, pPar, pFor, fComp, tmY, flo, gAdd, gSub, gMul, gDiv, gMod, gPow, gNeg, gLt, gLe, gGt, gGe, gIs, gIsN, isNo, isBo, gIx, optR, oN, oS, toI, wSeq, seqOf, wZip, listAt, mApp, mPop, mPopAt, mAt, uAt, uC, mUB, mPopIn, vB, pAppIn, pPutAt, itemAt, putAt, mCall, mCallM, mCallK, mRc2, gIsi, isInt, isBool, isStr, isTup, isList, gLen, gAbs, gInt, gGcd, gMax, gMin, gTup, tru, ok_bind, no_bind, ex_bind, List.getElem?_cons_succ, List.getElem?_cons_zero, List.set_cons_succ, List.set_cons_zero, List.length_cons, List.length_nil, Nat.reduceAdd, Nat.reduceLT, Nat.reduceLeDiff, Nat.zero_add, if_true, if_pos_t, if_false_b, ite_tt, atI0, atI1, atI2, Bool.not_true, Bool.not_false, gEq_i, gNe_i, List.map_cons, List.map_nil, List.append_nil, List.nil_append, List.cons_append, List.replicate]
theorem law_holds (ns : List Int) (hns : ns.length ≤ 63) : r_law [.list (ns.map .int)] = .ok (.bool true) := by
  obtain ⟨d0, e0, h0⟩ := draw_ok ns 1 (by decide) (by decide) hns
  have st : ([.list (ns.map .int)] : List D).map some ++ List.replicate (9 - ([.list (ns.map .int)] : List D).length) none = [some (.list (ns.map .int)), none, none, none, none, none, none, none, none] := rfl
  unfold r_law runP b_law
  rw [st]
  have s1 : pSet 1 (mCall r_law_draw (sCons (mV 0) (sCons (mC (.int 1)) sNil))) [some (.list (ns.map .int)), none, none, none, none, none, none, none, none] = .ok (.nx, [some (.list (ns.map .int)), some d0, none, none, none, none, none, none, none]) := by
    simp only [e0, mV, mC, vA, rA, get, gets, mU, mB, mL, lNil, lCons, eF, bool_b, mT, mTr, mNot, mAnd, mOr, eNot, eAnd, eOr, mIf, sNil, sCons, mTup, fLst, mM, pNil, pSeq, pBk, pCt, pIf, pRet, put, pSet, pEx, gN, gE, gC, gT, pAs, pPar, pFor, fComp, tmY, flo, gAdd, gSub, gMul, gDiv, gMod, gPow, gNeg, gLt, gLe, gGt, gGe, gIs, gIsN, isNo, isBo, gIx, optR, oN, oS, toI, wSeq, seqOf, wZip, listAt, mApp, mPop, mPopAt, mAt, uAt, uC, mUB, mPopIn, vB, pAppIn, pPutAt, itemAt, putAt, mCall, mCallM, mCallK, mRc2, gIsi, isInt, isBool, isStr, isTup, isList, gLen, gAbs, gInt, gGcd, gMax, gMin, gTup, tru, ok_bind, no_bind, ex_bind, List.getElem?_cons_succ, List.getElem?_cons_zero, List.set_cons_succ, List.set_cons_zero, List.length_cons, List.length_nil, Nat.reduceAdd, Nat.reduceLT, Nat.reduceLeDiff, Nat.zero_add, if_true, if_pos_t, if_false_b, ite_tt, atI0, atI1, atI2, Bool.not_true, Bool.not_false, gEq_i, gNe_i, List.map_cons, List.map_nil, List.append_nil, List.nil_append, List.cons_append, List.replicate]
  rw [pSeq_nx s1]
  have wr : wRng (sCons (mC (.int 4)) sNil) [some (.list (ns.map .int)), some d0, none, none, none, none, none, none, none] = .ok ((List.range 4).map fun i => .int (i : Nat), [some (.list (ns.map .int)), some d0, none, none, none, none, none, none, none]) := wRng_of (j := 4) rfl (by decide) (by decide)
  obtain ⟨δ1, e1, _⟩ := pFor_ok (t := gN 2) (m := (pSeq (pPar 3 4 (sCons (mCallM 1 r_law_pair sNil) (sCons (mCallM 1 r_law_pair sNil) sNil)))
    (pSeq (pPar 5 6 (sCons (mCall r_law_fraction (sCons (mB gIx (vA (mV 3)) (vA (mC (.int 0)))) (sCons (mB gIx (vA (mV 3)) (vA (mC (.int 1)))) sNil))) (sCons (mCall r_law_fraction (sCons (mB gIx (vA (mV 4)) (vA (mC (.int 0)))) (sCons (mB gIx (vA (mV 4)) (vA (mC (.int 1)))) sNil))) sNil)))
    (pSeq (pIf (mOr (mNot (mTr (vA (mCall (r_law_same 4) (sCons (mCallK [1, 0] r_fraction sNil (sCons (mB gIx (vA (mV 3)) (vA (mC (.int 1)))) (sCons (mB gIx (vA (mV 3)) (vA (mC (.int 0)))) sNil))) (sCons (mV 5) sNil)))))) (mNot (mTr (vA (mCall (r_law_same 4) (sCons (mCall r_fraction (sCons (mB gIx (vA (mV 4)) (vA (mC (.int 0)))) (sCons (mB gIx (vA (mV 4)) (vA (mC (.int 1)))) sNil))) (sCons (mV 6) sNil))))))) (pRet (mC (.bool false))) pNil)
    (pSeq (pSet 7 (mCall r_law_fraction (sCons (mB gAdd (vA (mB gMul (vA (mB gIx (vA (mV 5)) (vA (mC (.int 0))))) (vA (mB gIx (vA (mV 6)) (vA (mC (.int 1))))))) (vA (mB gMul (vA (mB gIx (vA (mV 6)) (vA (mC (.int 0))))) (vA (mB gIx (vA (mV 5)) (vA (mC (.int 1)))))))) (sCons (mB gMul (vA (mB gIx (vA (mV 5)) (vA (mC (.int 1))))) (vA (mB gIx (vA (mV 6)) (vA (mC (.int 1)))))) sNil))))
    (pSeq (pIf (mOr (mNot (mTr (vA (mCall (r_law_same 4) (sCons (mCallK [1, 0] r_added sNil (sCons (mV 6) (sCons (mV 5) sNil))) (sCons (mV 7) sNil)))))) (mNot (mTr (vA (mCall (r_law_same 4) (sCons (mCall r_times (sCons (mV 5) (sCons (mV 6) sNil))) (sCons (mCall r_law_fraction (sCons (mB gMul (vA (mB gIx (vA (mV 5)) (vA (mC (.int 0))))) (vA (mB gIx (vA (mV 6)) (vA (mC (.int 0)))))) (sCons (mB gMul (vA (mB gIx (vA (mV 5)) (vA (mC (.int 1))))) (vA (mB gIx (vA (mV 6)) (vA (mC (.int 1)))))) sNil))) sNil))))))) (pRet (mC (.bool false))) pNil)
    (pSeq (pIf (mOr (mNot (mTr (vA (mCall (r_law_same 4) (sCons (mCallK [0] r_minus sNil (sCons (mV 5) sNil)) (sCons (mTup (sCons (mB gSub (vA (mC (.int 0))) (vA (mB gIx (vA (mV 5)) (vA (mC (.int 0)))))) (sCons (mB gIx (vA (mV 5)) (vA (mC (.int 1)))) sNil))) sNil)))))) (mNot (mTr (vA (mCall (r_law_same 4) (sCons (mCall r_minus (sCons (mV 7) sNil)) (sCons (mTup (sCons (mB gSub (vA (mC (.int 0))) (vA (mB gIx (vA (mV 7)) (vA (mC (.int 0)))))) (sCons (mB gIx (vA (mV 7)) (vA (mC (.int 1)))) sNil))) sNil))))))) (pRet (mC (.bool false))) pNil)
    (pSeq (pIf (mAnd (mT (mB gNe (vA (mB gIx (vA (mV 6)) (vA (mC (.int 0))))) (vA (mC (.int 0))))) (mNot (mTr (vA (mCall (r_law_same 4) (sCons (mCall r_over (sCons (mV 5) (sCons (mV 6) sNil))) (sCons (mCall r_law_fraction (sCons (mB gMul (vA (mB gIx (vA (mV 5)) (vA (mC (.int 0))))) (vA (mB gIx (vA (mV 6)) (vA (mC (.int 1)))))) (sCons (mB gMul (vA (mB gIx (vA (mV 5)) (vA (mC (.int 1))))) (vA (mB gIx (vA (mV 6)) (vA (mC (.int 0)))))) sNil))) sNil))))))) (pRet (mC (.bool false))) pNil)
    (pSeq (pIf (mOr (mNot (mTr (vA (mCall (r_law_same 4) (sCons (mCall r_is_less (sCons (mV 5) (sCons (mV 6) sNil))) (sCons (mB gLt (vA (mB gMul (vA (mB gIx (vA (mV 5)) (vA (mC (.int 0))))) (vA (mB gIx (vA (mV 6)) (vA (mC (.int 1))))))) (vA (mB gMul (vA (mB gIx (vA (mV 6)) (vA (mC (.int 0))))) (vA (mB gIx (vA (mV 5)) (vA (mC (.int 1)))))))) sNil)))))) (mNot (mTr (vA (mCall (r_law_same 4) (sCons (mCallK [1, 0] r_is_less sNil (sCons (mV 5) (sCons (mV 5) sNil))) (sCons (mC (.bool false)) sNil))))))) (pRet (mC (.bool false))) pNil)
    (pFor (wSeq (eF (fLst (sCons (mV 5) (sCons (mCallM 1 r_law_near (sCons (mV 5) sNil)) (sCons (mCallM 1 r_law_near (sCons (mV 6) sNil)) sNil)))))) (gN 8) (pIf (mOr (mNot (mTr (vA (mCall (r_law_same 4) (sCons (mCall r_is_fraction (sCons (mV 8) sNil)) (sCons (mCall r_law_is_fraction (sCons (mV 8) sNil)) sNil)))))) (mNot (mTr (vA (mCall (r_law_same 4) (sCons (mCallK [0] r_is_fraction sNil (sCons (mV 5) sNil)) (sCons (mC (.bool true)) sNil))))))) (pRet (mC (.bool false))) pNil))))))))))) (I := fun δ => ∃ d x2 x3 x4 x5 x6 x7 x8, δ = [some (.list (ns.map .int)), some d, x2, x3, x4, x5, x6, x7, x8] ∧ Deal d) wr (fun y hy δ hI => by
    obtain ⟨d, x2, x3, x4, x5, x6, x7, x8, rfl, hd⟩ := hI
    refine ⟨[some (.list (ns.map .int)), some d, some y, x3, x4, x5, x6, x7, x8], rfl, ?_⟩
    obtain ⟨a, c, d1, e1, h1, c0, sa, sc⟩ := pair_ok hd
    obtain ⟨b, e, d2, e2, h2, b0, sb, se⟩ := pair_ok h1
    have f1 := law_fraction_ok (a := a) c0 sc (by decide)
    have f2 := law_fraction_ok (a := b) b0 se (by decide)
    have g1 := fraction_ok (a := a) c0 sc (by decide)
    have g2 := fraction_ok (a := b) b0 se (by decide)
    have q1 := fq_of c0 sa sc
    have q2 := fq_of b0 sb se
    have se1 := sr2 (fn a c) (fd a c)
    have se2 := sr2 (fn b e) (fd b e)
    unfold fr at f1 f2 g1 g2
    generalize fn a c = p at *
    generalize fd a c = q at *
    generalize fn b e = r at *
    generalize fd b e = s at *
    have w1 := q1.up (show 810 ≤ 1800 by decide)
    have w2 := q2.up (show 810 ≤ 1800 by decide)
    have ad := added_ok w1 w2 (by decide)
    have ti := times_ok w1 w2 (by decide)
    have pq := w1.pos
    have rs := w2.pos
    have hp : q * s ≠ 0 := Int.mul_ne_zero (by omega) (by omega)
    have sn : Sz 1621 (p * s + r * q) := (q1.sa.mul q2.sd).add (q2.sa.mul q1.sd)
    have sd := q1.sd.mul q2.sd
    have f3 := law_fraction_ok (a := p * s + r * q) hp sd (by decide)
    have f4 := law_fraction_ok (a := p * r) hp sd (by decide)
    have se3 := sr2 (fn (p * s + r * q) (q * s)) (fd (p * s + r * q) (q * s))
    have se4 := sr2 (fn (p * r) (q * s)) (fd (p * r) (q * s))
    unfold fr at ad ti f3 f4
    generalize fn (p * s + r * q) (q * s) = u at *
    generalize fd (p * s + r * q) (q * s) = v at *
    generalize fn (p * r) (q * s) = u' at *
    generalize fd (p * r) (q * s) = v' at *
    have mi1 := minus_ok (a := p) (d := q)
    have mi2 := minus_ok (a := u) (d := v)
    rw [show -p = 0 - p by omega] at mi1
    rw [show -u = 0 - u by omega] at mi2
    have se5 := sr2 (0 - p) q
    have se6 := sr2 (0 - u) v
    have le1 := is_less_ok w1 w2 (by decide)
    have le2 := is_less_ok w1 w1 (by decide)
    rw [show decide (p * q < p * q) = false from decide_eq_false (by omega)] at le2
    have se7 := srb (decide (p * s < r * q))
    have se8 := srb false
    have c1 := cMul q1.sa q2.sd (by decide)
    have c2 := cMul q2.sa q1.sd (by decide)
    have c3 := cMul q1.sd q2.sd (by decide)
    have c4 := cMul q1.sa q2.sa (by decide)
    have c5 := cMul q1.sd q2.sa (by decide)
    have z2 : 2 ≤ sizeLine := by decide
    have z3 : 3 ≤ sizeLine := by decide
    obtain ⟨n1, d3, n1e, h3, n1h⟩ := near_ok (a := p) (c := q) (k := 1800) h2 (by decide) w1.sa w1.sd (by decide)
    obtain ⟨n2, d4, n2e, h4, n2h⟩ := near_ok (a := r) (c := s) (k := 1800) h3 (by decide) w2.sa w2.sd (by decide)
    have ov : (r == 0) = false → ∃ x y, r_over [pr2 p q, pr2 r s] = .ok (pr2 x y) ∧ r_law_fraction [.int (p * s), .int (q * r)] = .ok (pr2 x y) := fun hr => by
      have hr : r ≠ 0 := by simpa using hr
      refine ⟨_, _, over_ok w1 w2 hr (by decide), law_fraction_ok (Int.mul_ne_zero (by omega) hr) (q1.sd.mul q2.sa) (by decide)⟩
    have i0 := isf_ok (pr2 p q)
    have l0 := law_isf_ok (pr2 p q) 2000 (by decide) fun x y e => by
      unfold pr2 at e
      cases e
      exact w1.sd.up (by decide)
    rw [isf_fq w1] at i0 l0
    have i1 := isf_ok n1
    have l1 := law_isf_ok n1 2000 (by decide) fun x y e => (n1h x y e).up (by decide)
    have i2 := isf_ok n2
    have l2 := law_isf_ok n2 2000 (by decide) fun x y e => (n2h x y e).up (by decide)
    refine ⟨_, turn_core e1 e2 f1 f2 g1 g2 f3 ad ti f4 mi1 mi2 le1 rfl le2 ov n1e n2e sr2 srb i0 l0 i1 l1 i2 l2 c1 c2 c3 c4 c5, .inl rfl, _, _, _, _, _, _, _, _, rfl, h4⟩) ⟨d0, none, none, none, none, none, none, none, rfl, h0⟩
  rw [pSeq_nx e1]
  rfl
end Zd

namespace Zd
open PySem PySem.Spec
open PyProof.Rows L2
theorem all_mk {w : World} {K : PySem.W.Frag} {h : Heap} {mg : Str → Option Value} {cls : Cl} {fa : Addr} (X : K.In h) (G : h.Ns mainGlobals mg) (hfa : mg "law" = some (.ref fa)) {f_is_integer f_is_row_of f_is_fraction f_fraction f_added f_times f_minus f_over f_is_less f_law_draw f_law_same f_law_fraction f_law_is_int f_law_is_fraction f_law_any f_law_of f_law_great f_law_pair f_law_near f_law : Addr} {od_is_integer an_is_integer od_is_row_of an_is_row_of od_is_fraction an_is_fraction od_fraction an_fraction od_added an_added od_times an_times od_minus an_minus od_over an_over od_is_less an_is_less od_law_draw an_law_draw od_law_same an_law_same od_law_fraction an_law_fraction od_law_is_int an_law_is_int od_law_is_fraction an_law_is_fraction od_law_any an_law_any od_law_of an_law_of od_law_great an_law_great od_law_pair an_law_pair od_law_near an_law_near od_law an_law : Option Addr} {oc_is_integer kV_is_integer dc_is_integer pm_is_integer cd_is_integer ct_is_integer oc_is_row_of kV_is_row_of dc_is_row_of pm_is_row_of cd_is_row_of ct_is_row_of oc_is_fraction kV_is_fraction dc_is_fraction pm_is_fraction cd_is_fraction ct_is_fraction oc_fraction kV_fraction dc_fraction pm_fraction cd_fraction ct_fraction oc_added kV_added dc_added pm_added cd_added ct_added oc_times kV_times dc_times pm_times cd_times ct_times oc_minus kV_minus dc_minus pm_minus cd_minus ct_minus oc_over kV_over dc_over pm_over cd_over ct_over oc_is_less kV_is_less dc_is_less pm_is_less cd_is_less ct_is_less oc_law_draw kV_law_draw dc_law_draw pm_law_draw cd_law_draw ct_law_draw oc_law_same kV_law_same dc_law_same pm_law_same cd_law_same ct_law_same oc_law_fraction kV_law_fraction dc_law_fraction pm_law_fraction cd_law_fraction ct_law_fraction oc_law_is_int kV_law_is_int dc_law_is_int pm_law_is_int cd_law_is_int ct_law_is_int oc_law_is_fraction kV_law_is_fraction dc_law_is_fraction pm_law_is_fraction cd_law_is_fraction ct_law_is_fraction oc_law_any kV_law_any dc_law_any pm_law_any cd_law_any ct_law_any oc_law_of kV_law_of dc_law_of pm_law_of cd_law_of ct_law_of oc_law_great kV_law_great dc_law_great pm_law_great cd_law_great ct_law_great oc_law_pair kV_law_pair dc_law_pair pm_law_pair cd_law_pair ct_law_pair oc_law_near kV_law_near dc_law_near pm_law_near cd_law_near ct_law_near oc_law kV_law dc_law pm_law cd_law ct_law : Value} {sl_is_integer sl_is_row_of sl_is_fraction sl_fraction sl_added sl_times sl_minus sl_over sl_is_less sl_law_draw sl_law_same sl_law_fraction sl_law_is_int sl_law_is_fraction sl_law_any sl_law_of sl_law_great sl_law_pair sl_law_near sl_law : Array (Option Value)}
    (a_is_integer : PySem.W.nsIn K mainGlobals "is_integer" = some (some (.ref f_is_integer))) (l_is_integer : K.lookup f_is_integer = some ⟨oc_is_integer, od_is_integer, .func (PySem.W.fnOf "is_integer" "is_integer" (defArgs s_is_integer) (defBody s_is_integer) (defScope s_is_integer) .none kV_is_integer dc_is_integer pm_is_integer an_is_integer cd_is_integer ct_is_integer), sl_is_integer⟩) (c_is_integer : PySem.W.codeIn K cd_is_integer "is_integer" = true) (k_is_integer : PySem.W.keepIn K (.ref f_is_integer) = true)
    (a_is_row_of : PySem.W.nsIn K mainGlobals "is_row_of" = some (some (.ref f_is_row_of))) (l_is_row_of : K.lookup f_is_row_of = some ⟨oc_is_row_of, od_is_row_of, .func (PySem.W.fnOf "is_row_of" "is_row_of" (defArgs s_is_row_of) (defBody s_is_row_of) (defScope s_is_row_of) .none kV_is_row_of dc_is_row_of pm_is_row_of an_is_row_of cd_is_row_of ct_is_row_of), sl_is_row_of⟩) (c_is_row_of : PySem.W.codeIn K cd_is_row_of "is_row_of" = true) (k_is_row_of : PySem.W.keepIn K (.ref f_is_row_of) = true)
    (a_is_fraction : PySem.W.nsIn K mainGlobals "is_fraction" = some (some (.ref f_is_fraction))) (l_is_fraction : K.lookup f_is_fraction = some ⟨oc_is_fraction, od_is_fraction, .func (PySem.W.fnOf "is_fraction" "is_fraction" (defArgs s_is_fraction) (defBody s_is_fraction) (defScope s_is_fraction) .none kV_is_fraction dc_is_fraction pm_is_fraction an_is_fraction cd_is_fraction ct_is_fraction), sl_is_fraction⟩) (c_is_fraction : PySem.W.codeIn K cd_is_fraction "is_fraction" = true) (k_is_fraction : PySem.W.keepIn K (.ref f_is_fraction) = true)
    (a_fraction : PySem.W.nsIn K mainGlobals "fraction" = some (some (.ref f_fraction))) (l_fraction : K.lookup f_fraction = some ⟨oc_fraction, od_fraction, .func (PySem.W.fnOf "fraction" "fraction" (defArgs s_fraction) (defBody s_fraction) (defScope s_fraction) .none kV_fraction dc_fraction pm_fraction an_fraction cd_fraction ct_fraction), sl_fraction⟩) (c_fraction : PySem.W.codeIn K cd_fraction "fraction" = true) (k_fraction : PySem.W.keepIn K (.ref f_fraction) = true)
    (a_added : PySem.W.nsIn K mainGlobals "added" = some (some (.ref f_added))) (l_added : K.lookup f_added = some ⟨oc_added, od_added, .func (PySem.W.fnOf "added" "added" (defArgs s_added) (defBody s_added) (defScope s_added) .none kV_added dc_added pm_added an_added cd_added ct_added), sl_added⟩) (c_added : PySem.W.codeIn K cd_added "added" = true) (k_added : PySem.W.keepIn K (.ref f_added) = true)
    (a_times : PySem.W.nsIn K mainGlobals "times" = some (some (.ref f_times))) (l_times : K.lookup f_times = some ⟨oc_times, od_times, .func (PySem.W.fnOf "times" "times" (defArgs s_times) (defBody s_times) (defScope s_times) .none kV_times dc_times pm_times an_times cd_times ct_times), sl_times⟩) (c_times : PySem.W.codeIn K cd_times "times" = true) (k_times : PySem.W.keepIn K (.ref f_times) = true)
    (a_minus : PySem.W.nsIn K mainGlobals "minus" = some (some (.ref f_minus))) (l_minus : K.lookup f_minus = some ⟨oc_minus, od_minus, .func (PySem.W.fnOf "minus" "minus" (defArgs s_minus) (defBody s_minus) (defScope s_minus) .none kV_minus dc_minus pm_minus an_minus cd_minus ct_minus), sl_minus⟩) (c_minus : PySem.W.codeIn K cd_minus "minus" = true) (k_minus : PySem.W.keepIn K (.ref f_minus) = true)
    (a_over : PySem.W.nsIn K mainGlobals "over" = some (some (.ref f_over))) (l_over : K.lookup f_over = some ⟨oc_over, od_over, .func (PySem.W.fnOf "over" "over" (defArgs s_over) (defBody s_over) (defScope s_over) .none kV_over dc_over pm_over an_over cd_over ct_over), sl_over⟩) (c_over : PySem.W.codeIn K cd_over "over" = true) (k_over : PySem.W.keepIn K (.ref f_over) = true)
    (a_is_less : PySem.W.nsIn K mainGlobals "is_less" = some (some (.ref f_is_less))) (l_is_less : K.lookup f_is_less = some ⟨oc_is_less, od_is_less, .func (PySem.W.fnOf "is_less" "is_less" (defArgs s_is_less) (defBody s_is_less) (defScope s_is_less) .none kV_is_less dc_is_less pm_is_less an_is_less cd_is_less ct_is_less), sl_is_less⟩) (c_is_less : PySem.W.codeIn K cd_is_less "is_less" = true) (k_is_less : PySem.W.keepIn K (.ref f_is_less) = true)
    (a_law_draw : PySem.W.nsIn K mainGlobals "_law_draw" = some (some (.ref f_law_draw))) (l_law_draw : K.lookup f_law_draw = some ⟨oc_law_draw, od_law_draw, .func (PySem.W.fnOf "_law_draw" "_law_draw" (defArgs s_law_draw) (defBody s_law_draw) (defScope s_law_draw) .none kV_law_draw dc_law_draw pm_law_draw an_law_draw cd_law_draw ct_law_draw), sl_law_draw⟩) (c_law_draw : PySem.W.codeIn K cd_law_draw "_law_draw" = true) (k_law_draw : PySem.W.keepIn K (.ref f_law_draw) = true)
    (a_law_same : PySem.W.nsIn K mainGlobals "_law_same" = some (some (.ref f_law_same))) (l_law_same : K.lookup f_law_same = some ⟨oc_law_same, od_law_same, .func (PySem.W.fnOf "_law_same" "_law_same" (defArgs s_law_same) (defBody s_law_same) (defScope s_law_same) .none kV_law_same dc_law_same pm_law_same an_law_same cd_law_same ct_law_same), sl_law_same⟩) (c_law_same : PySem.W.codeIn K cd_law_same "_law_same" = true) (k_law_same : PySem.W.keepIn K (.ref f_law_same) = true)
    (a_law_fraction : PySem.W.nsIn K mainGlobals "_law_fraction" = some (some (.ref f_law_fraction))) (l_law_fraction : K.lookup f_law_fraction = some ⟨oc_law_fraction, od_law_fraction, .func (PySem.W.fnOf "_law_fraction" "_law_fraction" (defArgs s_law_fraction) (defBody s_law_fraction) (defScope s_law_fraction) .none kV_law_fraction dc_law_fraction pm_law_fraction an_law_fraction cd_law_fraction ct_law_fraction), sl_law_fraction⟩) (c_law_fraction : PySem.W.codeIn K cd_law_fraction "_law_fraction" = true) (k_law_fraction : PySem.W.keepIn K (.ref f_law_fraction) = true)
    (a_law_is_int : PySem.W.nsIn K mainGlobals "_law_is_int" = some (some (.ref f_law_is_int))) (l_law_is_int : K.lookup f_law_is_int = some ⟨oc_law_is_int, od_law_is_int, .func (PySem.W.fnOf "_law_is_int" "_law_is_int" (defArgs s_law_is_int) (defBody s_law_is_int) (defScope s_law_is_int) .none kV_law_is_int dc_law_is_int pm_law_is_int an_law_is_int cd_law_is_int ct_law_is_int), sl_law_is_int⟩) (c_law_is_int : PySem.W.codeIn K cd_law_is_int "_law_is_int" = true) (k_law_is_int : PySem.W.keepIn K (.ref f_law_is_int) = true)
    (a_law_is_fraction : PySem.W.nsIn K mainGlobals "_law_is_fraction" = some (some (.ref f_law_is_fraction))) (l_law_is_fraction : K.lookup f_law_is_fraction = some ⟨oc_law_is_fraction, od_law_is_fraction, .func (PySem.W.fnOf "_law_is_fraction" "_law_is_fraction" (defArgs s_law_is_fraction) (defBody s_law_is_fraction) (defScope s_law_is_fraction) .none kV_law_is_fraction dc_law_is_fraction pm_law_is_fraction an_law_is_fraction cd_law_is_fraction ct_law_is_fraction), sl_law_is_fraction⟩) (c_law_is_fraction : PySem.W.codeIn K cd_law_is_fraction "_law_is_fraction" = true) (k_law_is_fraction : PySem.W.keepIn K (.ref f_law_is_fraction) = true)
    (a_law_any : PySem.W.nsIn K mainGlobals "_law_any" = some (some (.ref f_law_any))) (l_law_any : K.lookup f_law_any = some ⟨oc_law_any, od_law_any, .func (PySem.W.fnOf "_law_any" "_law_any" (defArgs s_law_any) (defBody s_law_any) (defScope s_law_any) .none kV_law_any dc_law_any pm_law_any an_law_any cd_law_any ct_law_any), sl_law_any⟩) (c_law_any : PySem.W.codeIn K cd_law_any "_law_any" = true) (k_law_any : PySem.W.keepIn K (.ref f_law_any) = true)
    (a_law_of : PySem.W.nsIn K mainGlobals "_law_of" = some (some (.ref f_law_of))) (l_law_of : K.lookup f_law_of = some ⟨oc_law_of, od_law_of, .func (PySem.W.fnOf "_law_of" "_law_of" (defArgs s_law_of) (defBody s_law_of) (defScope s_law_of) .none kV_law_of dc_law_of pm_law_of an_law_of cd_law_of ct_law_of), sl_law_of⟩) (c_law_of : PySem.W.codeIn K cd_law_of "_law_of" = true) (k_law_of : PySem.W.keepIn K (.ref f_law_of) = true)
    (a_law_great : PySem.W.nsIn K mainGlobals "_law_great" = some (some (.ref f_law_great))) (l_law_great : K.lookup f_law_great = some ⟨oc_law_great, od_law_great, .func (PySem.W.fnOf "_law_great" "_law_great" (defArgs s_law_great) (defBody s_law_great) (defScope s_law_great) .none kV_law_great dc_law_great pm_law_great an_law_great cd_law_great ct_law_great), sl_law_great⟩) (c_law_great : PySem.W.codeIn K cd_law_great "_law_great" = true) (k_law_great : PySem.W.keepIn K (.ref f_law_great) = true)
    (a_law_pair : PySem.W.nsIn K mainGlobals "_law_pair" = some (some (.ref f_law_pair))) (l_law_pair : K.lookup f_law_pair = some ⟨oc_law_pair, od_law_pair, .func (PySem.W.fnOf "_law_pair" "_law_pair" (defArgs s_law_pair) (defBody s_law_pair) (defScope s_law_pair) .none kV_law_pair dc_law_pair pm_law_pair an_law_pair cd_law_pair ct_law_pair), sl_law_pair⟩) (c_law_pair : PySem.W.codeIn K cd_law_pair "_law_pair" = true) (k_law_pair : PySem.W.keepIn K (.ref f_law_pair) = true)
    (a_law_near : PySem.W.nsIn K mainGlobals "_law_near" = some (some (.ref f_law_near))) (l_law_near : K.lookup f_law_near = some ⟨oc_law_near, od_law_near, .func (PySem.W.fnOf "_law_near" "_law_near" (defArgs s_law_near) (defBody s_law_near) (defScope s_law_near) .none kV_law_near dc_law_near pm_law_near an_law_near cd_law_near ct_law_near), sl_law_near⟩) (c_law_near : PySem.W.codeIn K cd_law_near "_law_near" = true) (k_law_near : PySem.W.keepIn K (.ref f_law_near) = true)
    (a_law : PySem.W.nsIn K mainGlobals "law" = some (some (.ref f_law))) (l_law : K.lookup f_law = some ⟨oc_law, od_law, .func (PySem.W.fnOf "law" "law" (defArgs s_law) (defBody s_law) (defScope s_law) .none kV_law dc_law pm_law an_law cd_law ct_law), sl_law⟩) (c_law : PySem.W.codeIn K cd_law "law" = true) (k_law : PySem.W.keepIn K (.ref f_law) = true)
    (z_abs : PySem.W.nsIn K mainGlobals "abs" = some none)
    (z_bool : PySem.W.nsIn K mainGlobals "bool" = some none)
    (z_gcd : PySem.W.nsIn K mainGlobals "gcd" = some (some (.builtin "math.gcd")))
    (z_int : PySem.W.nsIn K mainGlobals "int" = some none)
    (z_isinstance : PySem.W.nsIn K mainGlobals "isinstance" = some none)
    (z_len : PySem.W.nsIn K mainGlobals "len" = some none)
    (z_range : PySem.W.nsIn K mainGlobals "range" = some none)
    (z_str : PySem.W.nsIn K mainGlobals "str" = some none)
    (z_tuple : PySem.W.nsIn K mainGlobals "tuple" = some none)
    (z_zip : PySem.W.nsIn K mainGlobals "zip" = some none) :
    ∃ fd : FuncData, (∀ (s : Shared) (v : Value), BindsTo s fd ⟨[v], []⟩ [("script", v)]) ∧ ∀ base : Heap, K.In base → base.Ns mainGlobals mg → FnOk PySem.Challenge.pw_samebehind_k01_fractions w K mg base (L2.CX PySem.Challenge.pw_samebehind_k01_fractions w) 5 fa fd ["script"] (spP K cls (.im) 1 r_law) := by
  have e := hfa.symm.trans (PySem.W.mg_of X G a_law)
  cases e
  have F_is_integer := fun_mk (st := s_is_integer) l_is_integer c_is_integer k_is_integer
  have d_is_integer : Df K mg "is_integer" s_is_integer ["value"] _ _ := ⟨F_is_integer, PySem.W.mg_of X G a_is_integer, F_is_integer.binds fun _ _ _ _ _ _ us hl => match us, hl with | [_], _ => rfl⟩
  have F_is_row_of := fun_mk (st := s_is_row_of) l_is_row_of c_is_row_of k_is_row_of
  have d_is_row_of : Df K mg "is_row_of" s_is_row_of ["value", "sizes"] _ _ := ⟨F_is_row_of, PySem.W.mg_of X G a_is_row_of, F_is_row_of.binds fun _ _ _ _ _ _ us hl => match us, hl with | [_, _], _ => rfl⟩
  have F_is_fraction := fun_mk (st := s_is_fraction) l_is_fraction c_is_fraction k_is_fraction
  have d_is_fraction : Df K mg "is_fraction" s_is_fraction ["value"] _ _ := ⟨F_is_fraction, PySem.W.mg_of X G a_is_fraction, F_is_fraction.binds fun _ _ _ _ _ _ us hl => match us, hl with | [_], _ => rfl⟩
  have F_fraction := fun_mk (st := s_fraction) l_fraction c_fraction k_fraction
  have d_fraction : Df K mg "fraction" s_fraction ["a", "d"] _ _ := ⟨F_fraction, PySem.W.mg_of X G a_fraction, F_fraction.binds fun _ _ _ _ _ _ us hl => match us, hl with | [_, _], _ => rfl⟩
  have F_added := fun_mk (st := s_added) l_added c_added k_added
  have d_added : Df K mg "added" s_added ["one", "other"] _ _ := ⟨F_added, PySem.W.mg_of X G a_added, F_added.binds fun _ _ _ _ _ _ us hl => match us, hl with | [_, _], _ => rfl⟩
  have F_times := fun_mk (st := s_times) l_times c_times k_times
  have d_times : Df K mg "times" s_times ["one", "other"] _ _ := ⟨F_times, PySem.W.mg_of X G a_times, F_times.binds fun _ _ _ _ _ _ us hl => match us, hl with | [_, _], _ => rfl⟩
  have F_minus := fun_mk (st := s_minus) l_minus c_minus k_minus
  have d_minus : Df K mg "minus" s_minus ["one"] _ _ := ⟨F_minus, PySem.W.mg_of X G a_minus, F_minus.binds fun _ _ _ _ _ _ us hl => match us, hl with | [_], _ => rfl⟩
  have F_over := fun_mk (st := s_over) l_over c_over k_over
  have d_over : Df K mg "over" s_over ["one", "other"] _ _ := ⟨F_over, PySem.W.mg_of X G a_over, F_over.binds fun _ _ _ _ _ _ us hl => match us, hl with | [_, _], _ => rfl⟩
  have F_is_less := fun_mk (st := s_is_less) l_is_less c_is_less k_is_less
  have d_is_less : Df K mg "is_less" s_is_less ["one", "other"] _ _ := ⟨F_is_less, PySem.W.mg_of X G a_is_less, F_is_less.binds fun _ _ _ _ _ _ us hl => match us, hl with | [_, _], _ => rfl⟩
  have F_law_draw := fun_mk (st := s_law_draw) l_law_draw c_law_draw k_law_draw
  have d_law_draw : Df K mg "_law_draw" s_law_draw ["script", "salt"] _ _ := ⟨F_law_draw, PySem.W.mg_of X G a_law_draw, F_law_draw.binds fun _ _ _ _ _ _ us hl => match us, hl with | [_, _], _ => rfl⟩
  have F_law_same := fun_mk (st := s_law_same) l_law_same c_law_same k_law_same
  have d_law_same : Df K mg "_law_same" s_law_same ["value", "due"] _ _ := ⟨F_law_same, PySem.W.mg_of X G a_law_same, F_law_same.binds fun _ _ _ _ _ _ us hl => match us, hl with | [_, _], _ => rfl⟩
  have F_law_fraction := fun_mk (st := s_law_fraction) l_law_fraction c_law_fraction k_law_fraction
  have d_law_fraction : Df K mg "_law_fraction" s_law_fraction ["a", "d"] _ _ := ⟨F_law_fraction, PySem.W.mg_of X G a_law_fraction, F_law_fraction.binds fun _ _ _ _ _ _ us hl => match us, hl with | [_, _], _ => rfl⟩
  have F_law_is_int := fun_mk (st := s_law_is_int) l_law_is_int c_law_is_int k_law_is_int
  have d_law_is_int : Df K mg "_law_is_int" s_law_is_int ["value"] _ _ := ⟨F_law_is_int, PySem.W.mg_of X G a_law_is_int, F_law_is_int.binds fun _ _ _ _ _ _ us hl => match us, hl with | [_], _ => rfl⟩
  have F_law_is_fraction := fun_mk (st := s_law_is_fraction) l_law_is_fraction c_law_is_fraction k_law_is_fraction
  have d_law_is_fraction : Df K mg "_law_is_fraction" s_law_is_fraction ["value"] _ _ := ⟨F_law_is_fraction, PySem.W.mg_of X G a_law_is_fraction, F_law_is_fraction.binds fun _ _ _ _ _ _ us hl => match us, hl with | [_], _ => rfl⟩
  have F_law_any := fun_mk (st := s_law_any) l_law_any c_law_any k_law_any
  have d_law_any : Df K mg "_law_any" s_law_any ["deal", "bound"] _ _ := ⟨F_law_any, PySem.W.mg_of X G a_law_any, F_law_any.binds fun _ _ _ _ _ _ us hl => match us, hl with | [_, _], _ => rfl⟩
  have F_law_of := fun_mk (st := s_law_of) l_law_of c_law_of k_law_of
  have d_law_of : Df K mg "_law_of" s_law_of ["deal", "some"] _ _ := ⟨F_law_of, PySem.W.mg_of X G a_law_of, F_law_of.binds fun _ _ _ _ _ _ us hl => match us, hl with | [_, _], _ => rfl⟩
  have F_law_great := fun_mk (st := s_law_great) l_law_great c_law_great k_law_great
  have d_law_great : Df K mg "_law_great" s_law_great ["deal", "digits"] _ _ := ⟨F_law_great, PySem.W.mg_of X G a_law_great, F_law_great.binds fun _ _ _ _ _ _ us hl => match us, hl with | [_, _], _ => rfl⟩
  have F_law_pair := fun_mk (st := s_law_pair) l_law_pair c_law_pair k_law_pair
  have d_law_pair : Df K mg "_law_pair" s_law_pair ["deal"] _ _ := ⟨F_law_pair, PySem.W.mg_of X G a_law_pair, F_law_pair.binds fun _ _ _ _ _ _ us hl => match us, hl with | [_], _ => rfl⟩
  have F_law_near := fun_mk (st := s_law_near) l_law_near c_law_near k_law_near
  have d_law_near : Df K mg "_law_near" s_law_near ["deal", "one"] _ _ := ⟨F_law_near, PySem.W.mg_of X G a_law_near, F_law_near.binds fun _ _ _ _ _ _ us hl => match us, hl with | [_, _], _ => rfl⟩
  have F_law := fun_mk (st := s_law) l_law c_law k_law
  have d_law : Df K mg "law" s_law ["script"] _ _ := ⟨F_law, PySem.W.mg_of X G a_law, F_law.binds fun _ _ _ _ _ _ us hl => match us, hl with | [_], _ => rfl⟩
  have b_abs := PySem.W.mg_none_of X G z_abs
  have b_bool := PySem.W.mg_none_of X G z_bool
  have b_gcd := PySem.W.mg_of X G z_gcd
  have b_int := PySem.W.mg_none_of X G z_int
  have b_isinstance := PySem.W.mg_none_of X G z_isinstance
  have b_len := PySem.W.mg_none_of X G z_len
  have b_range := PySem.W.mg_none_of X G z_range
  have b_str := PySem.W.mg_none_of X G z_str
  have b_tuple := PySem.W.mg_none_of X G z_tuple
  have b_zip := PySem.W.mg_none_of X G z_zip
  refine ⟨PySem.W.fnOf "law" "law" (defArgs s_law) (defBody s_law) (defScope s_law) .none kV_law dc_law pm_law an_law cd_law ct_law, fun s v => .of_eq rfl, fun base _ _ => ?_⟩
  have h_is_integer := ok_is_integer (w := w) (base := base) (cls := cls) d_is_integer b_bool b_int b_isinstance
  have h_is_row_of := ok_is_row_of (w := w) (base := base) (cls := cls) d_is_row_of b_isinstance b_len b_tuple
  have h_is_fraction := ok_is_fraction (w := w) (base := base) (cls := cls) d_is_fraction h_is_integer h_is_row_of b_gcd
  have h_fraction := ok_fraction (w := w) (base := base) (cls := cls) d_fraction b_gcd
  have h_added := ok_added (w := w) (base := base) (cls := cls) d_added h_fraction
  have h_times := ok_times (w := w) (base := base) (cls := cls) d_times h_fraction
  have h_minus := ok_minus (w := w) (base := base) (cls := cls) d_minus 
  have h_over := ok_over (w := w) (base := base) (cls := cls) d_over h_fraction
  have h_is_less := ok_is_less (w := w) (base := base) (cls := cls) d_is_less 
  have h_law_draw := ok_law_draw (w := w) (base := base) (cls := cls) d_law_draw b_abs b_int
  have h_law_same : Hs PySem.Challenge.pw_samebehind_k01_fractions w K mg base 4 "_law_same" s_law_same ["value", "due"] (spP K cls (.im) 2 (r_law_same 4)) := d_law_same.hs (ok_law_same d_law_same b_bool b_int b_isinstance b_len b_str b_tuple b_zip 4)
  have h_law_fraction := ok_law_fraction (w := w) (base := base) (cls := cls) d_law_fraction b_abs b_int
  have h_law_is_int := ok_law_is_int (w := w) (base := base) (cls := cls) d_law_is_int b_bool b_int b_isinstance
  have h_law_is_fraction := ok_law_is_fraction (w := w) (base := base) (cls := cls) d_law_is_fraction h_law_fraction h_law_is_int b_isinstance b_len b_tuple
  have h_law_any := ok_law_any (w := w) (base := base) (cls := cls) d_law_any b_int
  have h_law_of := ok_law_of (w := w) (base := base) (cls := cls) d_law_of h_law_any b_len
  have h_law_great := ok_law_great (w := w) (base := base) (cls := cls) d_law_great h_law_any b_range
  have h_law_pair := ok_law_pair (w := w) (base := base) (cls := cls) d_law_pair h_law_of h_law_great b_abs
  have h_law_near := ok_law_near (w := w) (base := base) (cls := cls) d_law_near h_law_of b_str
  have h_law := ok_law (w := w) (base := base) (cls := cls) d_law h_is_fraction h_fraction h_added h_times h_minus h_over h_is_less h_law_draw h_law_same h_law_fraction h_law_is_fraction h_law_pair h_law_near b_range
  obtain ⟨f1, fd1, F1, m1, _, h1⟩ := h_law.ex
  rw [PySem.W.mg_of X G a_law] at m1
  cases m1
  obtain ⟨_, _, _, _, _, _, _, _, _, q1, q2, _⟩ := F1.ex
  subst q1
  rw [l_law] at q2
  cases q2
  exact h1
end Zd
open PySem PySem.W
open PyProof.Rows
set_option maxHeartbeats 0 in
theorem PySem.Challenge.cw_samebehind_k01_fractions_holds : PySem.Challenge.rw_samebehind_k01_fractions.Holds := by
  w_on; o_law; k_head
  (case hw => w_witness2)
  k_fill
  refine L2.walk_of (l := PySem.Challenge.rw_samebehind_k01_fractions) (n := 63) (k := 5) (x := "script") (CX := fun w => L2.CX PySem.Challenge.pw_samebehind_k01_fractions w) (sp := fun w => Zd.spP _ (fun _ => 0) .im 1 Zd.r_law) rfl (by decide) rfl ⟨rfl, by decide, by decide⟩ (fun w h Y => PySem.W.kIn_of Y) ?F (fun w H a ns hl hO hS => Zd.top_ok (by kernel_rfl) Zd.law_holds hl hO hS) (fun _ _ _ _ _ ⟨_, _, _, _, _, _, _, _, _, _, _, _, z⟩ => z)
  case F =>
    intro w mg fa h KX G hmg
    refine' Zd.all_mk KX G hmg ?a_is_integer ?l_is_integer ?c_is_integer ?k_is_integer ?a_is_row_of ?l_is_row_of ?c_is_row_of ?k_is_row_of ?a_is_fraction ?l_is_fraction ?c_is_fraction ?k_is_fraction ?a_fraction ?l_fraction ?c_fraction ?k_fraction ?a_added ?l_added ?c_added ?k_added ?a_times ?l_times ?c_times ?k_times ?a_minus ?l_minus ?c_minus ?k_minus ?a_over ?l_over ?c_over ?k_over ?a_is_less ?l_is_less ?c_is_less ?k_is_less ?a_law_draw ?l_law_draw ?c_law_draw ?k_law_draw ?a_law_same ?l_law_same ?c_law_same ?k_law_same ?a_law_fraction ?l_law_fraction ?c_law_fraction ?k_law_fraction ?a_law_is_int ?l_law_is_int ?c_law_is_int ?k_law_is_int ?a_law_is_fraction ?l_law_is_fraction ?c_law_is_fraction ?k_law_is_fraction ?a_law_any ?l_law_any ?c_law_any ?k_law_any ?a_law_of ?l_law_of ?c_law_of ?k_law_of ?a_law_great ?l_law_great ?c_law_great ?k_law_great ?a_law_pair ?l_law_pair ?c_law_pair ?k_law_pair ?a_law_near ?l_law_near ?c_law_near ?k_law_near ?a_law ?l_law ?c_law ?k_law ?z_abs ?z_bool ?z_gcd ?z_int ?z_isinstance ?z_len ?z_range ?z_str ?z_tuple ?z_zip
    (case a_is_integer => k_is)
    (case l_is_integer => k_is)
    (case c_is_integer => k_is)
    (case k_is_integer => k_is)
    (case a_is_row_of => k_is)
    (case l_is_row_of => k_is)
    (case c_is_row_of => k_is)
    (case k_is_row_of => k_is)
    (case a_is_fraction => k_is)
    (case l_is_fraction => k_is)
    (case c_is_fraction => k_is)
    (case k_is_fraction => k_is)
    (case a_fraction => k_is)
    (case l_fraction => k_is)
    (case c_fraction => k_is)
    (case k_fraction => k_is)
    (case a_added => k_is)
    (case l_added => k_is)
    (case c_added => k_is)
    (case k_added => k_is)
    (case a_times => k_is)
    (case l_times => k_is)
    (case c_times => k_is)
    (case k_times => k_is)
    (case a_minus => k_is)
    (case l_minus => k_is)
    (case c_minus => k_is)
    (case k_minus => k_is)
    (case a_over => k_is)
    (case l_over => k_is)
    (case c_over => k_is)
    (case k_over => k_is)
    (case a_is_less => k_is)
    (case l_is_less => k_is)
    (case c_is_less => k_is)
    (case k_is_less => k_is)
    (case a_law_draw => k_is)
    (case l_law_draw => k_is)
    (case c_law_draw => k_is)
    (case k_law_draw => k_is)
    (case a_law_same => k_is)
    (case l_law_same => k_is)
    (case c_law_same => k_is)
    (case k_law_same => k_is)
    (case a_law_fraction => k_is)
    (case l_law_fraction => k_is)
    (case c_law_fraction => k_is)
    (case k_law_fraction => k_is)
    (case a_law_is_int => k_is)
    (case l_law_is_int => k_is)
    (case c_law_is_int => k_is)
    (case k_law_is_int => k_is)
    (case a_law_is_fraction => k_is)
    (case l_law_is_fraction => k_is)
    (case c_law_is_fraction => k_is)
    (case k_law_is_fraction => k_is)
    (case a_law_any => k_is)
    (case l_law_any => k_is)
    (case c_law_any => k_is)
    (case k_law_any => k_is)
    (case a_law_of => k_is)
    (case l_law_of => k_is)
    (case c_law_of => k_is)
    (case k_law_of => k_is)
    (case a_law_great => k_is)
    (case l_law_great => k_is)
    (case c_law_great => k_is)
    (case k_law_great => k_is)
    (case a_law_pair => k_is)
    (case l_law_pair => k_is)
    (case c_law_pair => k_is)
    (case k_law_pair => k_is)
    (case a_law_near => k_is)
    (case l_law_near => k_is)
    (case c_law_near => k_is)
    (case k_law_near => k_is)
    (case a_law => k_is)
    (case l_law => k_is)
    (case c_law => k_is)
    (case k_law => k_is)
    (case z_abs => k_is)
    (case z_bool => k_is)
    (case z_gcd => k_is)
    (case z_int => k_is)
    (case z_isinstance => k_is)
    (case z_len => k_is)
    (case z_range => k_is)
    (case z_str => k_is)
    (case z_tuple => k_is)
    (case z_zip => k_is)

