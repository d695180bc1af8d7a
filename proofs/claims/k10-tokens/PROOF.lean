import PyProof.Rows.All
import Wide.All
import OpenK.AllK
import Wide.FinOn
import HandS.ForMost
import HandS.ForExc
import HandS.Zip
import HandS.Gcd
import HandS.Wide
import HandS.Deep
import HandS.Flow
import HandS.TupMul
import HandS.TupAny
import HandS.Style
import HandS.IsInst
import KE.DataEq
import KE.LtData
import HandS.Star
import KE.KRevSl
import HandS.Text
import HandS.Flt
import PyProof.StrOps2
import HandS.Codes
import PySem.Challenge.RW_samebehind_k10_whole_tokens_of_any_text
set_option Elab.async false
set_option linter.all false
set_option maxRecDepth 100000
set_option maxHeartbeats 3000000
namespace Zd
open PySem PySem.Spec
open PyProof.Rows L2

abbrev D := PyData
/-- a run's end: a value, an error of a class with its argument, or nothing told -/
inductive Rs (α : Type) where
  | ok (a : α)
  | ex (c : Str) (a : D)
  | no
def Rs.bind {α β : Type} (x : Rs α) (f : α → Rs β) : Rs β := match x with
  | .ok a => f a
  | .ex c a => .ex c a
  | .no => .no
instance : Monad Rs where
  pure := .ok
  bind := Rs.bind
theorem pure_ok {α : Type} (a : α) : (pure a : Rs α) = .ok a := rfl
theorem ok_bind {α β : Type} (a : α) (f : α → Rs β) : ((Rs.ok a) >>= f) = f a := rfl
theorem ex_bind {α β : Type} (c : Str) (a : D) (f : α → Rs β) : ((Rs.ex c a : Rs α) >>= f) = .ex c a := rfl
theorem no_bind {α β : Type} (f : α → Rs β) : ((Rs.no : Rs α) >>= f) = .no := rfl
def Out {α : Type} (r : Rs α) (q : α → Prop) (e : Str → D → Prop) : Prop := match r with
  | .ok a => q a
  | .ex c a => e c a
  | .no => False
theorem Out.bind {α β : Type} {x : Rs α} {f : α → Rs β} {q : β → Prop} {e : Str → D → Prop} (h : Out (x >>= f) q e) : Out x (fun a => Out (f a) q e) e := by
  cases x with
  | ok a => exact h
  | ex c a => exact h
  | no => exact h
theorem Out.mono {α : Type} {r : Rs α} {q q' : α → Prop} {e e' : Str → D → Prop} (h : Out r q e) (hq : ∀ a, q a → q' a) (he : ∀ c a, e c a → e' c a) : Out r q' e' := by
  cases r with
  | ok a => exact hq a h
  | ex c a => exact he c a h
  | no => exact h

abbrev Om := Addr → Prop
mutual
/-- v stands for d, in lists that nobody may change (ω: those that may be) -/
inductive Rep (K : PySem.W.Frag) (ω : Om) (H : Hp) : V → D → Prop
  | non : Rep K ω H .non .none
  | bl (b : Bool) : Rep K ω H (.bl b) (.bool b)
  | int (i : Int) : Rep K ω H (.int i) (.int i)
  | str (x : Str) : Rep K ω H (.str x) (.str x)
  | tup {a : Addr} {xs : List V} {ds : List D} : SqT K H a xs → Reps K ω H xs ds → Rep K ω H (.ref a) (.tuple ds)
  | lst {a : Addr} {xs : List V} {ds : List D} : (Rd H a (.lst xs) ∧ ¬ ω a) → Reps K ω H xs ds → Rep K ω H (.ref a) (.list ds)
inductive Reps (K : PySem.W.Frag) (ω : Om) (H : Hp) : List V → List D → Prop
  | nil : Reps K ω H [] []
  | cons {v : V} {vs : List V} {d : D} {ds : List D} : Rep K ω H v d → Reps K ω H vs ds → Reps K ω H (v :: vs) (d :: ds)
end

/-- what stays of data that nobody may change -/
structure Grow (ω : Om) (H : Hp) (ω' : Om) (H' : Hp) : Prop where
  keep : ∀ a o, H a = some o → ¬ ω a → H' a = some o
  wf : ∀ a, ω a → ∃ xs, H a = some (.lst xs)
  om : ∀ a, ω' a → ω a ∨ H a = none
section
variable {K : PySem.W.Frag} {ω ω' ω'' : Om} {H H' H'' : Hp}
theorem Grow.nl (g : Grow ω H ω' H') {a : Addr} {o : HO} (h : H a = some o) (hn : ∀ xs, o ≠ .lst xs) : H' a = some o := by
  refine g.keep a o h fun z => ?_
  obtain ⟨xs, e⟩ := g.wf a z
  rw [h] at e
  exact hn xs (Option.some.inj e)
theorem Grow.sqT (g : Grow ω H ω' H') {a : Addr} {xs : List V} (h : SqT K H a xs) : SqT K H' a xs := by
  rcases (h) with
      (h | ⟨o, h⟩) | h
  · exact .inl (.inl (g.nl h fun _ z => nomatch z))
  · exact .inl (.inr ⟨o, g.nl h fun _ z => nomatch z⟩)
  · exact .inr h
theorem Grow.rdl (g : Grow ω H ω' H') {a : Addr} {xs : List V} (h : Rd H a (.lst xs) ∧ ¬ ω a) : Rd H' a (.lst xs) ∧ ¬ ω' a := by
  obtain ⟨h, n⟩ := h
  refine ⟨?_, fun z => ?_⟩
  · rcases h with h | ⟨o, h⟩
    · exact .inl (g.keep _ _ h n)
    · exact .inr ⟨o, g.keep _ _ h n⟩
  · rcases g.om a z with z | z
    · exact n z
    · rcases h with h | ⟨o, h⟩ <;> (rw [h] at z; cases z)
mutual
theorem Rep.mono (g : Grow ω H ω' H') : ∀ (d : D) (v : V), Rep K ω H v d → Rep K ω' H' v d
  | .none, _, h => by cases h; exact .non
  | .bool b, _, h => by cases h; exact .bl b
  | .int i, _, h => by cases h; exact .int i
  | .str x, _, h => by cases h; exact .str x
  | .tuple ds, _, h => by
    cases h with
    | tup hs ha => exact .tup (g.sqT hs) (Reps.mono g ds _ ha)
  | .list ds, _, h => by
    cases h with
    | lst hs ha =>
      exact .lst (g.rdl hs) (Reps.mono g ds _ ha)
  | .dict _, _, h => by cases h
theorem Reps.mono (g : Grow ω H ω' H') : ∀ (ds : List D) (vs : List V), Reps K ω H vs ds → Reps K ω' H' vs ds
  | [], _, h => by cases h; exact .nil
  | d :: ds, _, h => by
    cases h with
    | cons h1 h2 => exact .cons (Rep.mono g d _ h1) (Reps.mono g ds _ h2)
end
theorem Rep.up {v : V} {d : D} (h : Rep K ω H v d) (g : Grow ω H ω' H') : Rep K ω' H' v d := Rep.mono g d v h
theorem Reps.up {v : List V} {d : List D} (h : Reps K ω H v d) (g : Grow ω H ω' H') : Reps K ω' H' v d := Reps.mono g d v h
theorem Reps.length : ∀ {vs : List V} {ds : List D}, Reps K ω H vs ds → vs.length = ds.length
  | _, [], h => by cases h; rfl
  | _, _ :: _, h => by
    cases h with
    | cons _ t => simp [Reps.length t]
theorem Reps.get : ∀ {vs : List V} {ds : List D} {i : Nat} {v : V}, Reps K ω H vs ds → vs[i]? = some v → ∃ d, ds[i]? = some d ∧ Rep K ω H v d
  | _, [], _, _, h, e => by cases h; simp at e
  | _, _ :: _, 0, _, h, e => by
    cases h with
    | cons r _ => simp at e; subst e; exact ⟨_, rfl, r⟩
  | _, _ :: _, i + 1, _, h, e => by
    cases h with
    | cons _ t => exact Reps.get (i := i) t (by simpa using e)
theorem Reps.getD : ∀ {vs : List V} {ds : List D} {i : Nat} {d : D}, Reps K ω H vs ds → ds[i]? = some d → ∃ v, vs[i]? = some v ∧ Rep K ω H v d
  | _, [], _, _, h, e => by cases h; simp at e
  | _, _ :: _, 0, _, h, e => by
    cases h with
    | cons r _ => simp at e; subst e; exact ⟨_, rfl, r⟩
  | _, _ :: _, i + 1, _, h, e => by
    cases h with
    | cons _ t => exact Reps.getD (i := i) t (by simpa using e)
theorem Reps.append : ∀ {vs ws : List V} {ds es : List D}, Reps K ω H vs ds → Reps K ω H ws es → Reps K ω H (vs ++ ws) (ds ++ es)
  | _, _, [], _, h, t => by cases h; exact t
  | _, _, _ :: _, _, h, t => by
    cases h with
    | cons r q => exact .cons r (Reps.append q t)
theorem Reps.take : ∀ {vs : List V} {ds : List D} (n : Nat), Reps K ω H vs ds → Reps K ω H (vs.take n) (ds.take n)
  | _, [], n, h => by cases h; simp; exact .nil
  | _, _ :: _, 0, h => .nil
  | _, _ :: _, n + 1, h => by
    cases h with
    | cons r q => exact .cons r (Reps.take n q)
theorem Reps.drop : ∀ {vs : List V} {ds : List D} (n : Nat), Reps K ω H vs ds → Reps K ω H (vs.drop n) (ds.drop n)
  | _, [], n, h => by cases h; simp; exact .nil
  | _, _ :: _, 0, h => h
  | _, _ :: _, n + 1, h => by
    cases h with
    | cons r q => exact Reps.drop n q
theorem Reps.snoc {vs : List V} {ds : List D} {v : V} {d : D} (h : Reps K ω H vs ds) (r : Rep K ω H v d) : Reps K ω H (vs ++ [v]) (ds ++ [d]) := h.append (.cons r .nil)
theorem Reps.rep {vs : List V} {ds : List D} (h : Reps K ω H vs ds) : ∀ k : Nat, Reps K ω H (List.replicate k vs).flatten (List.replicate k ds).flatten
  | 0 => .nil
  | k + 1 => by
    rw [List.replicate_succ, List.replicate_succ,
              List.flatten_cons, List.flatten_cons]
    exact h.append (h.rep k)
theorem Reps.dropLast {vs : List V} {ds : List D} (h : Reps K ω H vs ds) : Reps K ω H vs.dropLast ds.dropLast := by
  rw [List.dropLast_eq_take, List.dropLast_eq_take, h.length]
  exact h.take _
theorem Reps.set {v : V} {d : D} (r : Rep K ω H v d) : ∀ {vs : List V} {ds : List D} (i : Nat), Reps K ω H vs ds → Reps K ω H (vs.set i v) (ds.set i d)
  | _, [], _, h => by cases h; exact .nil
  | _, _ :: _, 0, h => by
    cases h with
    | cons _ t => exact .cons r t
  | _, _ :: _, i + 1, h => by
    cases h with
    | cons q t => exact .cons q (Reps.set r i t)
theorem Reps.eraseIdx : ∀ {vs : List V} {ds : List D} (i : Nat), Reps K ω H vs ds → Reps K ω H (vs.eraseIdx i) (ds.eraseIdx i)
  | _, [], _, h => by cases h; exact .nil
  | _, _ :: _, 0, h => by
    cases h with
    | cons _ t => exact t
  | _, _ :: _, i + 1, h => by
    cases h with
    | cons q t => exact .cons q (Reps.eraseIdx i t)
theorem Reps.reverse {vs : List V} {ds : List D} (h : Reps K ω H vs ds) : Reps K ω H vs.reverse ds.reverse := by
  induction ds generalizing vs with
  | nil => cases h; exact .nil
  | cons d ds ih =>
    cases h with
    | cons r q =>
      rw [List.reverse_cons,
                List.reverse_cons]
      exact (ih q).append (.cons r .nil)
mutual
theorem Rep.dp : ∀ (d : D) (v : V), Rep K ω H v d → Dp K H v d
  | .none, _, h => by cases h; exact .non
  | .bool b, _, h => by cases h; exact .bl b
  | .int i, _, h => by cases h; exact .int i
  | .str x, _, h => by cases h; exact .str x
  | .tuple ds, _, h => by
    cases h with
    | tup hs ha => exact .tup hs (Reps.dp ds _ ha)
  | .list ds, _, h => by
    cases h with
    | lst hs ha =>
      exact .lst (.inl hs.1) (Reps.dp ds _ ha)
  | .dict _, _, h => by cases h
theorem Reps.dp : ∀ (ds : List D) (vs : List V), Reps K ω H vs ds → DpAll K H vs ds
  | [], _, h => by cases h; exact .nil
  | d :: ds, _, h => by
    cases h with
    | cons h1 h2 => exact .cons (Rep.dp d _ h1) (Reps.dp ds _ h2)
end
end

/-- how a slot's value is held: nobody may change it; a list of ours (its items of one shape, or each of its own) -/
inductive Sh where
  | im
  | mu (s : Sh)
  | rc (ss : List Sh)
mutual
inductive Own (K : PySem.W.Frag) (ω : Om) (H : Hp) : Sh → V → D → List Addr → Prop
  | im {v : V} {d : D} : Rep K ω H v d → Own K ω H .im v d []
  | mu {s : Sh} {a : Addr} {vs : List V} {ds : List D} {f : List Addr} : H a = some (.lst vs) → Owns K ω H (List.replicate ds.length s) vs ds f → Own K ω H (.mu s) (.ref a) (.list ds) (a :: f)
  | rc {ss : List Sh} {a : Addr} {vs : List V} {ds : List D} {f : List Addr} : H a = some (.lst vs) → Owns K ω H ss vs ds f → Own K ω H (.rc ss) (.ref a) (.list ds) (a :: f)
inductive Owns (K : PySem.W.Frag) (ω : Om) (H : Hp) : List Sh → List V → List D → List Addr → Prop
  | nil : Owns K ω H [] [] [] []
  | cons {s : Sh} {ss : List Sh} {v : V} {vs : List V} {d : D} {ds : List D} {f g : List Addr} : Own K ω H s v d f → Owns K ω H ss vs ds g → Owns K ω H (s :: ss) (v :: vs) (d :: ds) (f ++ g)
end
section
variable {K : PySem.W.Frag} {ω ω' ω'' : Om} {H H' H'' : Hp}
mutual
theorem Own.mono (g : Grow ω H ω' H') : ∀ (d : D) (s : Sh) (v : V) (f : List Addr), (∀ a ∈ f, H' a = H a) → Own K ω H s v d f → Own K ω' H' s v d f
  | .list ds, _, _, _, hf, h => by
    cases h with
    | im r => exact .im (r.up g)
    | mu e t => exact .mu ((hf _ List.mem_cons_self).trans e) (Owns.mono g ds _ _ _ (fun a ha => hf a (List.mem_cons_of_mem _ ha)) t)
    | rc e t => exact .rc ((hf _ List.mem_cons_self).trans e) (Owns.mono g ds _ _ _ (fun a ha => hf a (List.mem_cons_of_mem _ ha)) t)
  | .none, _, _, _, _, h => by cases h with | im r => exact .im (r.up g)
  | .bool _, _, _, _, _, h => by cases h with | im r => exact .im (r.up g)
  | .int _, _, _, _, _, h => by cases h with | im r => exact .im (r.up g)
  | .str _, _, _, _, _, h => by cases h with | im r => exact .im (r.up g)
  | .tuple _, _, _, _, _, h => by cases h with | im r => exact .im (r.up g)
  | .dict _, _, _, _, _, h => by cases h with | im r => exact .im (r.up g)
theorem Owns.mono (g : Grow ω H ω' H') : ∀ (ds : List D) (ss : List Sh) (vs : List V) (f : List Addr), (∀ a ∈ f, H' a = H a) → Owns K ω H ss vs ds f → Owns K ω' H' ss vs ds f
  | [], _, _, _, _, h => by cases h; exact .nil
  | d :: ds, _, _, _, hf, h => by
    cases h with
    | cons r t => exact .cons (Own.mono g d _ _ _ (fun a ha => hf a (List.mem_append_left _ ha)) r) (Owns.mono g ds _ _ _ (fun a ha => hf a (List.mem_append_right _ ha)) t)
end
mutual
theorem Own.lsts : ∀ (d : D) (s : Sh) (v : V) (f : List Addr), Own K ω H s v d f → ∀ a ∈ f, ∃ xs, H a = some (.lst xs)
  | .list ds, _, _, _, h => by
    cases h with
    | im r => exact fun _ z => absurd z (by simp)
    | mu e t =>
      intro a ha
      rcases (List.mem_cons.mp ha) with rfl | ha
      · exact ⟨_, e⟩
      · exact Owns.lsts ds _ _ _ t a ha
    | rc e t =>
      intro a ha
      rcases (List.mem_cons.mp ha) with rfl | ha
      · exact ⟨_, e⟩
      · exact Owns.lsts ds _ _ _ t a ha
  | .none, _, _, _, h => by cases h with | im r => exact fun _ z => absurd z (by simp)
  | .bool _, _, _, _, h => by cases h with | im r => exact fun _ z => absurd z (by simp)
  | .int _, _, _, _, h => by cases h with | im r => exact fun _ z => absurd z (by simp)
  | .str _, _, _, _, h => by cases h with | im r => exact fun _ z => absurd z (by simp)
  | .tuple _, _, _, _, h => by cases h with | im r => exact fun _ z => absurd z (by simp)
  | .dict _, _, _, _, h => by cases h with | im r => exact fun _ z => absurd z (by simp)
theorem Owns.lsts : ∀ (ds : List D) (ss : List Sh) (vs : List V) (f : List Addr), Owns K ω H ss vs ds f → ∀ a ∈ f, ∃ xs, H a = some (.lst xs)
  | [], _, _, _, h => by cases h; exact fun _ z => absurd z (by simp)
  | d :: ds, _, _, _, h => by
    cases h with
    | cons r t =>
      intro a ha
      rcases (List.mem_append.mp ha) with ha | ha
      · exact Own.lsts d _ _ _ r a ha
      · exact Owns.lsts ds _ _ _ t a ha
end
theorem Owns.ims : ∀ {ds : List D} {vs : List V} {f : List Addr}, Owns K ω H (List.replicate ds.length .im) vs ds f → Reps K ω H vs ds ∧ f = []
  | [], _, _, h => by cases h; exact ⟨.nil, rfl⟩
  | d :: ds, _, _, h => by
    rw [List.length_cons, List.replicate_succ] at h
    cases h with
    | cons r t =>
      obtain ⟨q, rfl⟩ := Owns.ims t
      cases r with
      | im r => exact ⟨.cons r q, rfl⟩
theorem Owns.of : ∀ {ds : List D} {vs : List V}, Reps K ω H vs ds → Owns K ω H (List.replicate ds.length .im) vs ds []
  | [], _, h => by cases h; exact .nil
  | d :: ds, _, h => by
    cases h with
    | cons r t => exact .cons (f := []) (g := []) (.im r) (Owns.of t)
theorem Own.mui {a : Addr} {vs : List V} {ds : List D} (h : H a = some (.lst vs)) (r : Reps K ω H vs ds) : Own K ω H (.mu .im) (.ref a) (.list ds) [a] := .mu h (Owns.of r)
theorem Own.mui_inv {v : V} {d : D} {f : List Addr} (h : Own K ω H (.mu .im) v d f) : ∃ a vs ds, v = .ref a ∧ d = .list ds ∧ f = [a] ∧ H a = some (.lst vs) ∧ Reps K ω H vs ds := by
  cases h with
  | mu e t =>
    obtain ⟨r, rfl⟩ := t.ims
    exact ⟨_, _, _, rfl, rfl, rfl, e, r⟩
theorem Own.im_inv {v : V} {d : D} {f : List Addr} (h : Own K ω H .im v d f) : Rep K ω H v d ∧ f = [] := by
  cases h with
  | im r => exact ⟨r, rfl⟩
end
end Zd

namespace Zd
open PySem PySem.Spec
open PyProof.Rows L2

abbrev Dl := List (Option D)
abbrev Fps := Nat → List Addr
abbrev Kn := Nat → Sh
abbrev Fp (φ : Fps) : Om := fun a => ∃ i, a ∈ φ i
/-- the slots σ stand for δ, slot i held as κ i says, with the lists φ i of its own -/
structure Slots (K : PySem.W.Frag) (κ : Kn) (ω : Om) (H : Hp) (σ : L2.St) (δ : Dl) (φ : Fps) : Prop where
  len : σ.length = δ.length
  at_ : ∀ i d, δ[i]? = some (some d) → ∃ v, σ[i]? = some (some v) ∧ Own K ω H (κ i) v d (φ i)
  nod : ∀ i, (φ i).Nodup
  dis : ∀ i j a, i ≠ j → a ∈ φ i → a ∉ φ j
  sub : ∀ a, Fp φ a → ω a
  wf : ∀ a, ω a → ∃ xs, H a = some (.lst xs)
/-- what a run may change: the lists in P; what is new -/
structure Step (ω P : Om) (H : Hp) (ω' P' : Om) (H' : Hp) : Prop where
  keep : ∀ a o, H a = some o → ¬ P a → H' a = some o
  om : ∀ a, ω' a → ω a ∨ H a = none
  stay : ∀ a, ω a → ¬ P a → ω' a
  fp : ∀ a, P' a → P a ∨ H a = none
  sub : ∀ a, P a → ω a
  wf : ∀ a, ω a → ∃ xs, H a = some (.lst xs)
abbrev Ext (H H' : Hp) : Prop := ∀ a o, H a = some o → H' a = some o
theorem Ext.refl (H : Hp) : Ext H H := fun _ _ h => h
theorem Ext.trans {H H1 H2 : Hp} (a : Ext H H1) (b :
          Ext H1 H2) : Ext H H2 := fun c o h => b c o (a c o h)
theorem Ext.upd {H : Hp} {p : Addr} {o : HO} (h : H p = none) : Ext H (upd H p o) := fun a u e => by
  rw [upd_ne (ne_of_none e h)]
  exact e
section
variable {K : PySem.W.Frag} {κ : Kn} {ω ω1 ω2 ω' P P1 P2 P' : Om} {H H1 H2 H' : Hp} {σ : L2.St} {δ : Dl} {φ : Fps}
theorem Step.grow (s : Step ω P H ω' P' H') : Grow ω H ω' H' := ⟨fun a o h n => s.keep a o h fun p => n (s.sub a p), s.wf, s.om⟩
theorem Step.ext (sub : ∀ a, P a → ω a) (wf : ∀ a, ω a → ∃ xs, H a = some (.lst xs)) (e : Ext H H') : Step ω P H ω P H' :=
  ⟨fun a o h _ => e a o h, fun a h => .inl h, fun a h _ => h, fun a h => .inl h, sub, wf⟩
theorem Step.trans (a : Step ω P H ω1 P1 H1) (b : Step ω1 P1 H1 ω2 P2 H2) : Step ω P H ω2 P2 H2 where
  keep := fun c o h n => b.keep c o (a.keep c o h n) fun p => (a.fp c p).elim n fun z => by rw [h] at z; cases z
  om := fun c h => by
    rcases b.om c h with h | h
    · exact a.om c h
    · cases e : H c with
      | none => exact .inr rfl
      | some o =>
        by_cases hp : P c
        · exact .inl (a.sub c hp)
        · rw [a.keep c o e hp] at h; cases h
  stay := fun c h n => b.stay c (a.stay c h n) fun p => (a.fp c p).elim n fun z => by
    obtain ⟨xs, e⟩ := a.wf c h
    rw [e] at z; cases z
  fp := fun c h => by
    rcases b.fp c h with h | h
    · exact a.fp c h
    · cases e : H c with
      | none => exact .inr rfl
      | some o =>
        by_cases hp : P c
        · exact .inl hp
        · rw [a.keep c o e hp] at h; cases h
  sub := a.sub
  wf := a.wf
theorem Slots.refl (s : Slots K κ ω H σ δ φ) : Step ω (Fp φ) H ω (Fp φ) H := .ext s.sub s.wf (Ext.refl H)
theorem Slots.step (s : Slots K κ ω H σ δ φ) (e : Ext H H') : Step ω (Fp φ) H ω (Fp φ) H' := .ext s.sub s.wf e
theorem Slots.ext (s : Slots K κ ω H σ δ φ) (e : Ext H H') : Slots K κ ω H' σ δ φ where
  len := s.len
  at_ := fun i d h => by
    obtain ⟨v, h1, h2⟩ := s.at_ i d h
    refine ⟨v, h1, Own.mono (s.step e).grow d _ _ _ (fun a ha => ?_) h2⟩
    obtain ⟨xs, q⟩ := Own.lsts d _ _ _ h2 a ha
    rw [q, e a _ q]
  nod := s.nod
  dis := s.dis
  sub := s.sub
  wf := fun a h => by
    obtain ⟨xs, q⟩ := s.wf a h
    exact ⟨xs, e a _ q⟩
end

/-- which address a class of errors has -/
abbrev Cl := Str → Addr
/-- an error of the class c with the argument a reaches E -/
def Esc (K : PySem.W.Frag) (cls : Cl) (E : XK) (ω P : Om) (H : Hp) (c : Str) (a : D) : Prop :=
  ∀ ω' P' H' dx v, Step ω P H ω' P' H' → H' dx = some (.xd [("at", v)]) → Rep K ω' H' v a → E (.ref (cls c)) (some dx) H'
theorem Esc.up {K : PySem.W.Frag} {cls : Cl} {E : XK} {ω P ω1 P1 : Om} {H H1 : Hp} {c : Str} {a : D} (h : Esc K cls E ω P H c a) (s : Step ω P H ω1 P1 H1) : Esc K cls E ω1 P1 H1 c a :=
  fun ω' P' H' dx v t e r => h ω' P' H' dx v (s.trans t) e r

/-- the context of a body at this layer -/
structure Gm where
  K : PySem.W.Frag
  cls : Cl
  E : XK
  κ : Kn
abbrev RR := Om → Hp → Fps → V → D → Prop
def tX (G : Gm) (R : L2.St → RR) (m : Dl → Rs (D × Dl)) : TE := fun σ H Q => ∃ ω δ φ, Slots G.K G.κ ω H σ δ φ ∧
  Out (m δ) (fun r => ∀ ω' H' φ' v, Step ω (Fp φ) H ω' (Fp φ') H' → Slots G.K G.κ ω' H' σ r.2 φ' → R σ ω' H' φ' v r.1 → Q v H') (Esc G.K G.cls G.E ω (Fp φ) H)
abbrev tI (G : Gm) (m : Dl → Rs (D × Dl)) : TE := tX G (fun _ ω H _ v d => Rep G.K ω H v d) m
/-- an operand: a value, or the list in a slot as it will stand -/
inductive AV where
  | v (d : D)
  | r (i : Nat)
def Flat : Sh → Prop
  | .im => True
  | .mu .im => True
  | _ => False
def AvR (K : PySem.W.Frag) (κ : Kn) (σ : L2.St) (ω : Om) (H : Hp) (v : V) : AV → Prop
  | .v d => Rep K ω H v d
  | .r i => σ[i]? = some (some v) ∧ Flat (κ i)
theorem AvR.up {K : PySem.W.Frag} {κ : Kn} {σ : L2.St} {ω ω' : Om} {H H' : Hp} {v : V} {a : AV} (h : AvR K κ σ ω H v a) (g : Grow ω H ω' H') : AvR K κ σ ω' H' v a := by
  cases a with
  | v d => exact Rep.up h g
  | r i => exact h
def tA1 (G : Gm) (m : Dl → Rs (AV × Dl)) : TE := fun σ H Q => ∃ ω δ φ, Slots G.K G.κ ω H σ δ φ ∧
  Out (m δ) (fun r => ∀ ω' H' φ' v, Step ω (Fp φ) H ω' (Fp φ') H' → Slots G.K G.κ ω' H' σ r.2 φ' → AvR G.K G.κ σ ω' H' v r.1 → Q v H') (Esc G.K G.cls G.E ω (Fp φ) H)
inductive AvRs (K : PySem.W.Frag) (κ : Kn) (σ : L2.St) (ω : Om) (H : Hp) : List V → List AV → Prop
  | nil : AvRs K κ σ ω H [] []
  | cons {v : V} {vs : List V} {a : AV} {as : List AV} : AvR K κ σ ω H v a → AvRs K κ σ ω H vs as → AvRs K κ σ ω H (v :: vs) (a :: as)
theorem AvRs.up {K : PySem.W.Frag} {κ : Kn} {σ : L2.St} {ω ω' : Om} {H H' : Hp} : ∀ {vs : List V} {as : List AV}, AvRs K κ σ ω H vs as → Grow ω H ω' H' → AvRs K κ σ ω' H' vs as
  | _, _, .nil, _ => .nil
  | _, _, .cons r t, g => .cons (r.up g) (t.up g)
def tAr (G : Gm) (m : Dl → Rs (List AV × Dl)) : TA := fun σ H Q => ∃ ω δ φ, Slots G.K G.κ ω H σ δ φ ∧
  Out (m δ) (fun r => ∀ ω' H' φ' vs, Step ω (Fp φ) H ω' (Fp φ') H' → Slots G.K G.κ ω' H' σ r.2 φ' → AvRs G.K G.κ σ ω' H' vs r.1 → Q vs H') (Esc G.K G.cls G.E ω (Fp φ) H)
/-- a test -/
def tT (G : Gm) (m : Dl → Rs (Bool × Dl)) : TT := fun σ H Q => ∃ ω δ φ, Slots G.K G.κ ω H σ δ φ ∧
  Out (m δ) (fun r => ∀ ω' H' φ', Step ω (Fp φ) H ω' (Fp φ') H' → Slots G.K G.κ ω' H' σ r.2 φ' → Q r.1 H') (Esc G.K G.cls G.E ω (Fp φ) H)
/-- a new list -/
def tF (G : Gm) (m : Dl → Rs (List D × Dl)) : TE := fun σ H Q => ∃ ω δ φ, Slots G.K G.κ ω H σ δ φ ∧
  Out (m δ) (fun r => ∀ ω' H' φ' p vs, Step ω (Fp φ) H ω' (Fp φ') H' → Slots G.K G.κ ω' H' σ r.2 φ' → H' p = none → Reps G.K ω' H' vs r.1 → Q (.ref p) (upd H' p (.lst vs))) (Esc G.K G.cls G.E ω (Fp φ) H)
/-- something of ours -/
def tO (G : Gm) (s : Sh) (m : Dl → Rs (D × Dl)) : TE := fun σ H Q => ∃ ω δ φ, Slots G.K G.κ ω H σ δ φ ∧
  Out (m δ) (fun r => ∀ ω' H' φ' v f, Step ω (Fp φ) H ω' (fun a => Fp φ' a ∨ a ∈ f) H' → Slots G.K G.κ ω' H' σ r.2 φ' → Own G.K ω' H' s v r.1 f → f.Nodup → (∀ a ∈ f, ω' a ∧ ¬ Fp φ' a) → Q v H') (Esc G.K G.cls G.E ω (Fp φ) H)

theorem pe_if {X : Cx} {e : Expr} {t t' : TE} (h : PE X e t) (w : ∀ σ H Q, t' σ H Q → t σ H Q) : PE X e t' := ⟨fun pins s σ H Q I q => h.run pins s σ H Q I (w σ H Q q)⟩
theorem pt_if {X : Cx} {e : Expr} {t t' : TT} (h : PT X e t) (w : ∀ σ H Q, t' σ H Q → t σ H Q) : PT X e t' := ⟨fun pins s σ H Q I q => h.run pins s σ H Q I (w σ H Q q)⟩
theorem pw_if {X : Cx} {e : Expr} {t t' : TT} (h : PW X e t) (w : ∀ σ H Q, t' σ H Q → t σ H Q) : PW X e t' := ⟨fun wh pins s σ H Q I q => h.run wh pins s σ H Q I (w σ H Q q)⟩
theorem pa_if {X : Cx} {es : List Expr} {t t' : TA} (h : PA X es t) (w : ∀ σ H Q, t' σ H Q → t σ H Q) : PA X es t' := ⟨fun pos pins s σ H Q I q => h.run pos pins s σ H Q I (w σ H Q q)⟩
theorem ps_if' {X : Cx} {st : Stmt} {t t' : TS} (h : PS X st t) (w : ∀ D σ H, t' D σ H → t D σ H) : PS X st t' := ⟨fun pins s σ H D I q => h.run pins s σ H D I (w D σ H q)⟩
theorem pss_if' {X : Cx} {st : List Stmt} {t t' : TS} (h : PSs X st t) (w : ∀ D σ H, t' D σ H → t D σ H) : PSs X st t' := ⟨fun pins s σ H D I q => h.run pins s σ H D I (w D σ H q)⟩

/-! ### the runs of the forms -/
abbrev Em := Dl → Rs (D × Dl)
abbrev Am := Dl → Rs (AV × Dl)
abbrev Lm := Dl → Rs (List AV × Dl)
abbrev Tm := Dl → Rs (Bool × Dl)
abbrev Fm := Dl → Rs (List D × Dl)
def mV (i : Nat) : Em := fun δ => match δ[i]? with
  | some (some d) => .ok (d, δ)
  | _ => .no
def mC (d : D) : Em := fun δ => .ok (d, δ)
def vA (m : Em) : Am := fun δ => m δ >>= fun r => .ok (.v r.1, r.2)
def rA (i : Nat) : Am := fun δ => match δ[i]? with
  | some (some _) => .ok (.r i, δ)
  | _ => .no
def get (δ : Dl) : AV → Rs D
  | .v d => .ok d
  | .r i => match δ[i]? with
    | some (some d) => .ok d
    | _ => .no
def gets (δ : Dl) : List AV → Rs (List D)
  | [] => .ok []
  | a :: as => get δ a >>= fun d => gets δ as >>= fun ds => .ok (d :: ds)
def mU (g : D → Rs D) (m : Am) : Em := fun δ => m δ >>= fun r => get r.2 r.1 >>= fun d => g d >>= fun e => .ok (e, r.2)
def mB (g : D → D → Rs D) (m n : Am) : Em := fun δ => m δ >>= fun r => n r.2 >>= fun q => get q.2 r.1 >>= fun d => get q.2 q.1 >>= fun e => g d e >>= fun z => .ok (z, q.2)
def mL (g : List D → Rs D) (m : Lm) : Em := fun δ => m δ >>= fun r => gets r.2 r.1 >>= fun ds => g ds >>= fun e => .ok (e, r.2)
def lNil : Lm := fun δ => .ok ([], δ)
def lCons (m : Am) (n : Lm) : Lm := fun δ => m δ >>= fun r => n r.2 >>= fun q => .ok (r.1 :: q.1, q.2)
def fU (g : D → Rs (List D)) (m : Am) : Fm := fun δ => m δ >>= fun r => get r.2 r.1 >>= fun d => g d >>= fun e => .ok (e, r.2)
def fB (g : D → D → Rs (List D)) (m n : Am) : Fm := fun δ => m δ >>= fun r => n r.2 >>= fun q => get q.2 r.1 >>= fun d => get q.2 q.1 >>= fun e => g d e >>= fun z => .ok (z, q.2)
def fL (m : Lm) : Fm := fun δ => m δ >>= fun r => gets r.2 r.1 >>= fun ds => if ds.length ≤ 1000 then .ok (ds, r.2) else .no
def eF (m : Fm) : Em := fun δ => m δ >>= fun r => .ok (.list r.1, r.2)

/-- to be read: of ours or not -/
def Lk (K : PySem.W.Frag) (ω : Om) (H : Hp) (v : V) (d : D) : Prop := Rep K ω H v d ∨ ∃ a vs ds, v = .ref a ∧ d = .list ds ∧ H a = some (.lst vs) ∧ Reps K ω H vs ds
section
variable {K : PySem.W.Frag} {κ : Kn} {ω : Om} {H : Hp} {σ : L2.St} {δ : Dl} {φ : Fps} {v : V} {d : D}
theorem Lk.of {s : Sh} {f : List Addr} (h : Own K ω H s v d f) (hf : Flat s) : Lk K ω H v d := by
  cases s with
  | im => exact .inl h.im_inv.1
  | mu s =>
    cases s with
    | im =>
      obtain ⟨a, vs, ds, rfl, rfl, _, e, r⟩ := h.mui_inv
      exact .inr ⟨a, vs, ds, rfl, rfl, e, r⟩
    | _ => exact hf.elim
  | rc _ => exact hf.elim
theorem Lk.dp (h : Lk K ω H v d) : Dp K H v d := by
  rcases h with h | ⟨a, vs, ds, rfl, rfl, e, r⟩
  · exact Rep.dp d v h
  · exact .lst (.inl (.inl e)) (Reps.dp ds vs r)
theorem Lk.rdl {ds : List D} (h : Lk K ω H v (.list ds)) : ∃ a vs, v = .ref a ∧ Rd H a (.lst vs) ∧ Reps K ω H vs ds := by
  rcases h with h | ⟨a, vs, es, rfl, e, e1, r⟩
  · cases h with
    | lst hs ha => exact ⟨_, _, rfl, hs.1, ha⟩
  · cases e
    exact ⟨a, vs, rfl, .inl e1, r⟩
theorem Lk.list {ds : List D} (h : Lk K ω H v (.list ds)) : ∃ a vs, v = .ref a ∧ SqL K H a vs ∧ Reps K ω H vs ds := by
  obtain ⟨a, vs, h1, h2, h3⟩ := h.rdl
  exact ⟨a, vs, h1, .inl h2, h3⟩
theorem Lk.tuple {ds : List D} (h : Lk K ω H v (.tuple ds)) : ∃ a vs, v = .ref a ∧ SqT K H a vs ∧ Reps K ω H vs ds := by
  rcases h with h | ⟨a, vs, es, rfl, e, e1, r⟩
  · cases h with
    | tup hs ha => exact ⟨_, _, rfl, hs, ha⟩
  · cases e
theorem Lk.rep (h : Lk K ω H v d) (n : ∀ ds, d ≠ .list ds) : Rep K ω H v d := by
  rcases h with h | ⟨a, vs, es, rfl, e, e1, r⟩
  · exact h
  · exact (n _ e).elim
theorem Lk.int {i : Int} (h : Lk K ω H v (.int i)) : v = .int i := by
  have := h.rep (fun _ z => nomatch z)
  cases this; rfl
theorem Lk.str {x : Str} (h : Lk K ω H v (.str x)) : v = .str x := by
  have := h.rep (fun _ z => nomatch z)
  cases this; rfl
theorem Lk.bool {x : Bool} (h : Lk K ω H v (.bool x)) : v = .bl x := by
  have := h.rep (fun _ z => nomatch z)
  cases this; rfl
theorem Lk.none (h : Lk K ω H v .none) : v = .non := by
  have := h.rep (fun _ z => nomatch z)
  cases this; rfl
theorem Slots.got (s : Slots K κ ω H σ δ φ) {a : AV} (h : AvR K κ σ ω H v a) {q : D → Prop} {e : Str → D → Prop} (hq : Out (get δ a) q e) : ∃ d, Lk K ω H v d ∧ q d := by
  cases a with
  | v d => exact ⟨d, .inl h, hq⟩
  | r i =>
    obtain ⟨h1, h2⟩ := h
    cases e1 : δ[i]? with
    | none => simp only [get, e1] at hq; exact hq.elim
    | some o =>
      simp only [get, e1] at hq
      cases o with
      | none => exact hq.elim
      | some d =>
        obtain ⟨w, h3, h4⟩ := s.at_ i d e1
        rw [h1] at h3
        cases h3
        exact ⟨d, .of h4 h2, hq⟩
inductive Lks (K : PySem.W.Frag) (ω : Om) (H : Hp) : List V → List D → Prop
  | nil : Lks K ω H [] []
  | cons {v : V} {vs : List V} {d : D} {ds : List D} : Lk K ω H v d → Lks K ω H vs ds → Lks K ω H (v :: vs) (d :: ds)
theorem Slots.gots (s : Slots K κ ω H σ δ φ) : ∀ {as : List AV} {vs : List V} {q : List D → Prop} {e : Str → D → Prop}, AvRs K κ σ ω H vs as → Out (gets δ as) q e → ∃ ds, Lks K ω H vs ds ∧ q ds
  | [], _, _, _, h, hq => by cases h; exact ⟨[], .nil, hq⟩
  | a :: as, _, _, _, h, hq => by
    cases h with
    | cons r t =>
      obtain ⟨d, h1, h2⟩ := s.got r (Out.bind hq)
      obtain ⟨ds, h3, h4⟩ := s.gots t (Out.bind h2)
      exact ⟨d :: ds, .cons h1 h3, h4⟩
end

section
variable {X : Cx} {G : Gm} {e a b : Expr} {es : List Expr} {pos : Pos}
/-- an operand that nobody may change -/
theorem av {m : Em} (h : PE X e (tI G m)) : PE X e (tA1 G (vA m)) := by
  refine pe_if h fun σ H Q ⟨ω, δ, φ, s, o⟩ => ⟨ω, δ, φ, s, (Out.bind o).mono (fun r hr ω' H' φ' v h1 h2 h3 => hr ω' H' φ' v h1 h2 h3) fun _ _ z => z⟩
theorem xV (i : Nat) {x : Str} (hN : X.N[i]? = some x := by rfl) (hv : Vis X.env.scope x := by first | exact Or.inl rfl | exact Or.inr (Or.inl rfl) | exact Or.inr (Or.inr rfl)) (hk : G.κ i = .im := by rfl) (hd : (x == ("__debug__" : Str)) = false := by decide)
    (hcd : (x == ("__classdict__" : Str)) = false := by decide) : PE X (.Name x pos) (tI G (mV i)) := by
  refine pe_if (pe_var hN hv hd hcd) fun σ H Q ⟨ω, δ, φ, s, o⟩ => ?_
  unfold mV at o
  cases e1 : δ[i]? with
  | none => rw [e1] at o; exact o.elim
  | some z =>
    rw [e1] at o
    cases z with
    | none => exact o.elim
    | some d =>
      obtain ⟨w, h3, h4⟩ := s.at_ i d e1
      rw [hk] at h4
      exact ⟨w, h3, o ω H φ w s.refl s h4.im_inv.1⟩
/-- the list in a slot, to be read -/
theorem xR (i : Nat) {x : Str} (hN : X.N[i]? = some x := by rfl) (hv : Vis X.env.scope x := by first | exact Or.inl rfl | exact Or.inr (Or.inl rfl) | exact Or.inr (Or.inr rfl)) (hk : Flat (G.κ i) := by exact trivial) (hd : (x == ("__debug__" : Str)) = false := by decide)
    (hcd : (x == ("__classdict__" : Str)) = false := by decide) : PE X (.Name x pos) (tA1 G (rA i)) := by
  refine pe_if (pe_var hN hv hd hcd) fun σ H Q ⟨ω, δ, φ, s, o⟩ => ?_
  cases e1 : δ[i]? with
  | none => simp only [rA, e1] at o; exact o.elim
  | some z =>
    simp only [rA, e1] at o
    cases z with
    | none => exact o.elim
    | some d =>
      obtain ⟨w, h3, h4⟩ := s.at_ i d e1
      exact ⟨w, h3, o ω H φ w s.refl s ⟨h3, hk⟩⟩
theorem xC {v : V} {d : D} (h : PE X e (tC v)) (r : ∀ ω H, Rep G.K ω H v d) : PE X e (tI G (mC d)) :=
  pe_if h fun σ H Q ⟨ω, δ, φ, s, o⟩ => o ω H φ v s.refl s (r ω H)
theorem xi {i j} : PE X (.Constant (.int i) j pos) (tI G (mC (.int i))) := xC pe_int fun _ _ => .int i
theorem xb {i j} : PE X (.Constant (.bool i) j pos) (tI G (mC (.bool i))) := xC pe_bl fun _ _ => .bl i
theorem xn {j} : PE X (.Constant .none j pos) (tI G (mC .none)) := xC pe_non fun _ _ => .non
theorem xs {x j} : PE X (.Constant (.str x) j pos) (tI G (mC (.str x))) := xC pe_str fun _ _ => .str x

/-- what is asked of an operation: it reads, and makes new things alone -/
abbrev Wf (ω : Om) (H : Hp) : Prop := ∀ a, ω a → ∃ xs, H a = some (.lst xs)
def UnD (K : PySem.W.Frag) (r : V → Hp → VK → Prop) (g : D → Rs D) : Prop := ∀ ω H x d Q, Wf ω H → Lk K ω H x d → Out (g d) (fun z => ∀ H' v, Ext H H' → Rep K ω H' v z → Q v H') (fun _ _ => False) → r x H Q
def BiD (K : PySem.W.Frag) (r : R2) (g : D → D → Rs D) : Prop := ∀ ω H x y d e Q, Wf ω H → Lk K ω H x d → Lk K ω H y e → Out (g d e) (fun z => ∀ H' v, Ext H H' → Rep K ω H' v z → Q v H') (fun _ _ => False) → r x y H Q
def LiD (K : PySem.W.Frag) (r : List V → Hp → VK → Prop) (g : List D → Rs D) : Prop := ∀ ω H xs ds Q, Wf ω H → Lks K ω H xs ds → Out (g ds) (fun z => ∀ H' v, Ext H H' → Rep K ω H' v z → Q v H') (fun _ _ => False) → r xs H Q
/-- .. or a new list -/
def BiF (K : PySem.W.Frag) (r : R2) (g : D → D → Rs (List D)) : Prop := ∀ ω H x y d e Q, Wf ω H → Lk K ω H x d → Lk K ω H y e → Out (g d e) (fun z => ∀ p vs, H p = none → Reps K ω H vs z → Q (.ref p) (upd H p (.lst vs))) (fun _ _ => False) → r x y H Q
def LiF (K : PySem.W.Frag) (r : List V → Hp → VK → Prop) (g : List D → Rs (List D)) : Prop := ∀ ω H xs ds Q, Wf ω H → Lks K ω H xs ds → Out (g ds) (fun z => ∀ p vs, H p = none → Reps K ω H vs z → Q (.ref p) (upd H p (.lst vs))) (fun _ _ => False) → r xs H Q

theorem out_no {α : Type} {r : Rs α} {q : α → Prop} {e : Str → D → Prop} (h : Out r q e) (n : ∀ c a, r ≠ .ex c a) : Out r q (fun _ _ => False) := by
  cases r with
  | ok a => exact h
  | ex c a => exact (n c a rfl).elim
  | no => exact h
/-- an operation that raises nothing -/
def NoX {α β : Type} (g : α → Rs β) : Prop := ∀ x c a, g x ≠ .ex c a
def NoX2 {α β γ : Type} (g : α → β → Rs γ) : Prop := ∀ x y c a, g x y ≠ .ex c a

theorem bi_core {ta : Am} {tb : Am} (ha : PE X a (tA1 G ta)) (hb : PE X b (tA1 G tb)) {r : R2} {β : Type} {g : D → D → Rs β} (nx : NoX2 g) {k : Om → Hp → Fps → L2.St → Dl → V → V → D → D → VK → β → Prop}
    {σ : L2.St} {H : Hp} {Q : VK} (h : ∃ ω δ φ, Slots G.K G.κ ω H σ δ φ ∧ Out (ta δ >>= fun r => tb r.2 >>= fun q => get q.2 r.1 >>= fun d => get q.2 q.1 >>= fun e => g d e >>= fun z => .ok (z, q.2))
      (fun r => ∀ ω' H' φ', Step ω (Fp φ) H ω' (Fp φ') H' → Slots G.K G.κ ω' H' σ r.2 φ' → ∀ x y d e, Lk G.K ω' H' x d → Lk G.K ω' H' y e → k ω' H' φ' σ r.2 x y d e Q r.1) (Esc G.K G.cls G.E ω (Fp φ) H))
    (hr : ∀ ω' H' φ' δ' x y d e, Slots G.K G.κ ω' H' σ δ' φ' → Lk G.K ω' H' x d → Lk G.K ω' H' y e → Out (g d e) (fun z => k ω' H' φ' σ δ' x y d e Q z) (fun _ _ => False) → r x y H' Q) :
    tOp r (tA1 G ta) (tA1 G tb) σ H Q := by
  obtain ⟨ω, δ, φ, s, o⟩ := h
  refine ⟨ω, δ, φ, s, (Out.bind o).mono (fun q1 h1 ω1 H1 φ1 x st1 s1 r1 => ⟨ω1, q1.2, φ1, s1, (Out.bind h1).mono (fun q2 h2 ω2 H2 φ2 y st2 s2 r2 => ?_) fun c z q => q.up st1⟩) fun _ _ z => z⟩
  obtain ⟨d, l1, h3⟩ := s2.got (r1.up st2.grow) (Out.bind h2)
  obtain ⟨e, l2, h4⟩ := s2.got r2 (Out.bind h3)
  refine hr ω2 H2 φ2 q2.2 x y d e s2 l1 l2 ((out_no (Out.bind h4) (nx d e)).mono (fun z hz => ?_) fun _ _ z => z)
  exact hz ω2 H2 φ2 (st1.trans st2) s2 x y d e l1 l2
theorem bi {op : Operator} {r : R2} {g : D → D → Rs D} {ta tb : Am} (ho : OpR X (binaryOp op) r) (hd : BiD G.K r g) (nx : NoX2 g) (ha : PE X a (tA1 G ta)) (hb : PE X b (tA1 G tb)) : PE X (.BinOp a op b pos) (tI G (mB g ta tb)) := by
  refine pe_if (pe_op ho ha hb) fun σ H Q h => bi_core ha hb (r := r) nx (k := fun ω H φ σ δ x y d e Q z => ∀ H' v, Ext H H' → Rep G.K ω H' v z → Q v H') ?_ fun ω H φ δ x y d e s l1 l2 o => hd ω H x y d e Q s.wf l1 l2 o
  obtain ⟨ω, δ, φ, s, o⟩ := h
  exact ⟨ω, δ, φ, s, o.mono (fun r hr ω' H' φ' st s' x y d e _ _ H'' v ex rp => hr ω' H'' φ' v (st.trans (s'.step ex)) (s'.ext ex) rp) fun _ _ z => z⟩
/-- .. that makes a new list -/
theorem biF {op : Operator} {r : R2} {g : D → D → Rs (List D)} {ta tb : Am} (ho : OpR X (binaryOp op) r) (hd : BiF G.K r g) (nx : NoX2 g) (ha : PE X a (tA1 G ta)) (hb : PE X b (tA1 G tb)) : PE X (.BinOp a op b pos) (tF G (fB g ta tb)) := by
  refine pe_if (pe_op ho ha hb) fun σ H Q h => bi_core ha hb (r := r) nx (k := fun ω H φ σ δ x y d e Q z => ∀ p vs, H p = none → Reps G.K ω H vs z → Q (.ref p) (upd H p (.lst vs))) ?_ fun ω H φ δ x y d e s l1 l2 o => hd ω H x y d e Q s.wf l1 l2 o
  obtain ⟨ω, δ, φ, s, o⟩ := h
  exact ⟨ω, δ, φ, s, o.mono (fun r hr ω' H' φ' st s' x y d e _ _ p vs hp rp => hr ω' H' φ' p vs st s' hp rp) fun _ _ z => z⟩
end
end Zd

namespace Zd
open PySem PySem.Spec
open PyProof.Rows L2
section
variable {X : Cx} {G : Gm} {e a b c : Expr} {es : List Expr} {pos : Pos}

/-! ### comparisons -/
theorem cm {op : CmpOp} {r : R2} {g : D → D → Rs D} {ta tb : Am} (ho : OpR X (compareOp op) r) (hd : BiD G.K r g) (nx : NoX2 g) (ha : PE X a (tA1 G ta)) (hb : PE X b (tA1 G tb)) (hm : behindInMarks op b = false := by with_unfolding_all rfl) : PE X (.Compare a [op] [b] pos) (tI G (mB g ta tb)) := by
  refine pe_if (pe_cmpR ho ha hb hm) fun σ H Q h => bi_core ha hb (r := r) nx (k := fun ω H φ σ δ x y d e Q z => ∀ H' v, Ext H H' → Rep G.K ω H' v z → Q v H') ?_ fun ω H φ δ x y d e s l1 l2 o => hd ω H x y d e Q s.wf l1 l2 o
  obtain ⟨ω, δ, φ, s, o⟩ := h
  exact ⟨ω, δ, φ, s, o.mono (fun r hr ω' H' φ' st s' x y d e _ _ H'' v ex rp => hr ω' H'' φ' v (st.trans (s'.step ex)) (s'.ext ex) rp) fun _ _ z => z⟩
def bool (d : D) : Rs Bool := match d with
  | .bool b => .ok b
  | _ => .no
theorem bool_inv {d : D} {q : Bool → Prop} {e : Str → D → Prop} (h : Out (bool d) q e) : ∃ b, d = .bool b ∧ q b := by
  cases d with
  | bool b => exact ⟨b, rfl, h⟩
  | _ => exact h.elim
def mT (m : Em) : Tm := fun δ => m δ >>= fun r => bool r.1 >>= fun b => .ok (b, r.2)
theorem cmt {op : CmpOp} {r : R2} {g : D → D → Rs D} {ta tb : Am} (ho : OpR X (compareOp op) r) (hd : BiD G.K r g) (nx : NoX2 g) (ha : PE X a (tA1 G ta)) (hb : PE X b (tA1 G tb)) (hm : behindInMarks op b = false := by with_unfolding_all rfl) : PT X (.Compare a [op] [b] pos) (tT G (mT (mB g ta tb))) := by
  refine pt_if (pt_cmpR ho ha hb hm) fun σ H Q h => ?_
  refine bi_core ha hb (r := r) (Q := fun x H1 => ∃ c, x = .bl c ∧ Q c H1) nx (k := fun ω H φ σ δ x y d e Q z => ∀ H' v, Ext H H' → Rep G.K ω H' v z → Q v H') ?_ fun ω H φ δ x y d e s l1 l2 o => hd ω H x y d e _ s.wf l1 l2 o
  obtain ⟨ω, δ, φ, s, o⟩ := h
  refine ⟨ω, δ, φ, s, (Out.bind o).mono (fun r hr ω' H' φ' st s' x y d e _ _ H'' v ex rp => ?_) fun _ _ z => z⟩
  obtain ⟨b, e1, h1⟩ := bool_inv (Out.bind hr)
  rw [e1] at rp
  cases rp
  exact ⟨b, rfl, h1 ω' H'' φ' (st.trans (s'.step ex)) (s'.ext ex)⟩
/-- any other test: the value's truth -/
def tru (d : D) : Rs Bool := match d with
  | .none => .ok false
  | .bool b => .ok b
  | .int i => .ok (i != 0)
  | .str y => if y.length ≤ sizeLine then .ok ((y.length : Int) != 0) else .no
  | .list ds => .ok (!ds.isEmpty)
  | .tuple ds => .ok (!ds.isEmpty)
  | .dict _ => .no
theorem Reps.isEmpty {K : PySem.W.Frag} {ω : Om} {H : Hp} {vs : List V} {ds : List D} (h : Reps K ω H vs ds) : vs.isEmpty = ds.isEmpty := by
  cases h <;> rfl
theorem tru_ok' {K : PySem.W.Frag} {ω : Om} {H : Hp} {v : V} {d : D} (l : Lk K ω H v d) {q : Bool → Prop} {e : Str → D → Prop} (h : Out (tru d) q e) : ∃ k, TruV K v H k ∧ q k := by
  cases d with
  | none => rw [l.none]; exact ⟨false, rfl, h⟩
  | bool b => rw [l.bool]; exact ⟨b, rfl, h⟩
  | int i => rw [l.int]; exact ⟨_, rfl, h⟩
  | str y =>
    rw [l.str]
    simp only [tru] at h
    by_cases hy : y.length ≤ sizeLine
    · rw [if_pos hy] at h
      exact ⟨_, ⟨hy, rfl⟩, h⟩
    · rw [if_neg hy] at h
      exact h.elim
  | list ds =>
    obtain ⟨a, vs, rfl, hs, r⟩ := l.list
    exact ⟨_, .inl ⟨vs, hs, rfl⟩, by rw [r.isEmpty]; exact h⟩
  | tuple ds =>
    obtain ⟨a, vs, rfl, hs, r⟩ := l.tuple
    exact ⟨_, .inr (.inl ⟨vs, hs, rfl⟩), by rw [r.isEmpty]; exact h⟩
  | dict _ => exact h.elim
def mTr (m : Am) : Tm := fun δ => m δ >>= fun r => get r.2 r.1 >>= fun d => tru d >>= fun b => .ok (b, r.2)
theorem tt {m : Am} (h : PE X e (tA1 G m)) (hK : X.K = G.K := by rfl) (he : ∀ whole, isTrue e X.env whole = (do let v ← whole; standAt e.pos; holding [v] (truthy v)) := by intro _; rfl) : PT X e (tT G (mTr m)) := by
  refine pt_if (pt_truth h he) fun σ H Q ⟨ω, δ, φ, s, o⟩ => ⟨ω, δ, φ, s, (Out.bind o).mono (fun r hr ω' H' φ' v st s' rp => ?_) fun _ _ z => z⟩
  obtain ⟨d, l, h1⟩ := s'.got rp (Out.bind hr)
  obtain ⟨k, h2, h3⟩ := tru_ok' l (Out.bind h1)
  exact ⟨k, hK ▸ h2, h3 ω' H' φ' st s'⟩
def mNot (m : Tm) : Tm := fun δ => m δ >>= fun r => .ok (!r.1, r.2)
def mAnd (m n : Tm) : Tm := fun δ => m δ >>= fun r => if r.1 = true then n r.2 else .ok (false, r.2)
def mOr (m n : Tm) : Tm := fun δ => m δ >>= fun r => if r.1 = true then .ok (true, r.2) else n r.2
theorem tn {m : Tm} (h : PT X a (tT G m)) : PT X (.UnaryOp .Not a pos) (tT G (mNot m)) := by
  refine pt_if (pt_not h) fun σ H Q ⟨ω, δ, φ, s, o⟩ => ⟨ω, δ, φ, s, (Out.bind o).mono (fun r hr ω' H' φ' st s' => hr ω' H' φ' st s') fun _ _ z => z⟩
theorem wa1 {m : Tm} (h : PT X a (tT G m)) : PW X (.BoolOp .And [a] pos) (tT G m) := pw_and1 h
theorem wo1 {m : Tm} (h : PT X a (tT G m)) : PW X (.BoolOp .Or [a] pos) (tT G m) := pw_or1 h
theorem wa {m n : Tm} (h : PT X a (tT G m)) (h' : PW X (.BoolOp .And (b :: es) pos) (tT G n)) : PW X (.BoolOp .And (a :: b :: es) pos) (tT G (mAnd m n)) := by
  refine pw_if (pw_and h h') fun σ H Q ⟨ω, δ, φ, s, o⟩ => ⟨ω, δ, φ, s, (Out.bind o).mono (fun r hr ω' H' φ' st s' => ?_) fun _ _ z => z⟩
  cases e1 : r.1 with
  | true =>
    rw [if_pos rfl]
    rw [e1, if_pos rfl] at hr
    exact ⟨ω', r.2, φ', s', hr.mono (fun q hq ω2 H2 φ2 st2 s2 => hq ω2 H2 φ2 (st.trans st2) s2) fun _ _ z => z.up st⟩
  | false =>
    rw [if_neg
              Bool.false_ne_true]
    rw [e1, if_neg Bool.false_ne_true] at hr
    exact hr ω' H' φ' st s'
theorem wo {m n : Tm} (h : PT X a (tT G m)) (h' : PW X (.BoolOp .Or (b :: es) pos) (tT G n)) : PW X (.BoolOp .Or (a :: b :: es) pos) (tT G (mOr m n)) := by
  refine pw_if (pw_or h h') fun σ H Q ⟨ω, δ, φ, s, o⟩ => ⟨ω, δ, φ, s, (Out.bind o).mono (fun r hr ω' H' φ' st s' => ?_) fun _ _ z => z⟩
  cases e1 : r.1 with
  | true =>
    rw [if_pos rfl]
    rw [e1, if_pos rfl] at hr
    exact hr ω' H' φ' st s'
  | false =>
    rw [if_neg
              Bool.false_ne_true]
    rw [e1, if_neg Bool.false_ne_true] at hr
    exact ⟨ω', r.2, φ', s', hr.mono (fun q hq ω2 H2 φ2 st2 s2 => hq ω2 H2 φ2 (st.trans st2) s2) fun _ _ z => z.up st⟩
theorem tw {m : Tm} (h : PW X e (tT G m)) : PT X e (tT G m) := h.pt
/-- and, or, not as values -/
def eNot (m : Em) : Em := fun δ => m δ >>= fun r => bool r.1 >>= fun b => .ok (.bool (!b), r.2)
def eAnd (m n : Em) : Em := fun δ => m δ >>= fun r => bool r.1 >>= fun b => if b = true then n r.2 else .ok (.bool false, r.2)
def eOr (m n : Em) : Em := fun δ => m δ >>= fun r => bool r.1 >>= fun b => if b = true then .ok (.bool true, r.2) else n r.2
theorem en {m : Em} (h : PE X a (tI G m)) : PE X (.UnaryOp .Not a pos) (tI G (eNot m)) := by
  refine pe_if (pe_not h) fun σ H Q ⟨ω, δ, φ, s, o⟩ => ⟨ω, δ, φ, s, (Out.bind o).mono (fun r hr ω' H' φ' v st s' rp => ?_) fun _ _ z => z⟩
  obtain ⟨b, e1, h1⟩ := bool_inv (Out.bind hr)
  rw [e1] at rp
  cases rp
  exact ⟨b, rfl, h1 ω' H' φ' _ st s' (.bl _)⟩
theorem e1' {op} {m : Em} (h : PE X a (tI G m)) : PE X (.BoolOp op [a] pos) (tI G m) := pe_one h
theorem ea {m n : Em} (h : PE X a (tI G m)) (h' : PE X (.BoolOp .And (b :: es) pos) (tI G n)) : PE X (.BoolOp .And (a :: b :: es) pos) (tI G (eAnd m n)) := by
  refine pe_if (pe_and h h') fun σ H Q ⟨ω, δ, φ, s, o⟩ => ⟨ω, δ, φ, s, (Out.bind o).mono (fun r hr ω' H' φ' v st s' rp => ?_) fun _ _ z => z⟩
  obtain ⟨b, e1, h1⟩ := bool_inv (Out.bind hr)
  rw [e1] at rp
  cases rp
  refine ⟨b, rfl, ?_⟩
  cases b with
  | true =>
    rw [if_pos rfl] at h1 ⊢
    exact ⟨ω', r.2, φ', s', h1.mono (fun q hq ω2 H2 φ2 v st2 s2 r2 => hq ω2 H2 φ2 v (st.trans st2) s2 r2) fun _ _ z => z.up st⟩
  | false =>
    rw [if_neg Bool.false_ne_true] at h1 ⊢
    exact h1 ω' H' φ' _ st s' (.bl _)
theorem eo {m n : Em} (h : PE X a (tI G m)) (h' : PE X (.BoolOp .Or (b :: es) pos) (tI G n)) : PE X (.BoolOp .Or (a :: b :: es) pos) (tI G (eOr m n)) := by
  refine pe_if (pe_or h h') fun σ H Q ⟨ω, δ, φ, s, o⟩ => ⟨ω, δ, φ, s, (Out.bind o).mono (fun r hr ω' H' φ' v st s' rp => ?_) fun _ _ z => z⟩
  obtain ⟨b, e1, h1⟩ := bool_inv (Out.bind hr)
  rw [e1] at rp
  cases rp
  refine ⟨b, rfl, ?_⟩
  cases b with
  | true =>
    rw [if_pos rfl] at h1 ⊢
    exact h1 ω' H' φ' _ st s' (.bl _)
  | false =>
    rw [if_neg Bool.false_ne_true] at h1 ⊢
    exact ⟨ω', r.2, φ', s', h1.mono (fun q hq ω2 H2 φ2 v st2 s2 r2 => hq ω2 H2 φ2 v (st.trans st2) s2 r2) fun _ _ z => z.up st⟩
/-- x if t else y -/
def mIf (t : Tm) (m n : Em) : Em := fun δ => t δ >>= fun r => if r.1 = true then m r.2 else n r.2
theorem ie {t : Tm} {m n : Em} (hc : PT X c (tT G t)) (ha : PE X a (tI G m)) (hb : PE X b (tI G n)) : PE X (.IfExp c a b pos) (tI G (mIf t m n)) := by
  refine pe_if (pe_ifExp hc ha hb) fun σ H Q ⟨ω, δ, φ, s, o⟩ => ⟨ω, δ, φ, s, (Out.bind o).mono (fun r hr ω' H' φ' st s' => ?_) fun _ _ z => z⟩
  cases e1 : r.1 with
  | true =>
    rw [if_pos rfl]
    rw [e1, if_pos rfl] at hr
    exact ⟨ω', r.2, φ', s', hr.mono (fun q hq ω2 H2 φ2 v st2 s2 r2 => hq ω2 H2 φ2 v (st.trans st2) s2 r2) fun _ _ z => z.up st⟩
  | false =>
    rw [if_neg
              Bool.false_ne_true]
    rw [e1, if_neg Bool.false_ne_true] at hr
    exact ⟨ω', r.2, φ', s', hr.mono (fun q hq ω2 H2 φ2 v st2 s2 r2 => hq ω2 H2 φ2 v (st.trans st2) s2 r2) fun _ _ z => z.up st⟩

/-! ### displays, argument lists -/
abbrev Sm := Dl → Rs (List D × Dl)
def tS (G : Gm) (m : Sm) : TA := fun σ H Q => ∃ ω δ φ, Slots G.K G.κ ω H σ δ φ ∧
  Out (m δ) (fun r => ∀ ω' H' φ' vs, Step ω (Fp φ) H ω' (Fp φ') H' → Slots G.K G.κ ω' H' σ r.2 φ' → Reps G.K ω' H' vs r.1 → Q vs H') (Esc G.K G.cls G.E ω (Fp φ) H)
def sNil : Sm := fun δ => .ok ([], δ)
def sCons (m : Em) (n : Sm) : Sm := fun δ => m δ >>= fun r => n r.2 >>= fun q => .ok (r.1 :: q.1, q.2)
theorem sn : PA X [] (tS G sNil) := pa_if pa_nil fun σ H Q ⟨ω, δ, φ, s, o⟩ => o ω H φ [] s.refl s .nil
theorem sc {m : Em} {n : Sm} (h : PE X e (tI G m)) (hr : PA X es (tS G n)) (hs : starEach (e :: es) X.env = (false, eval e X.env) :: starEach es X.env := by rfl) : PA X (e :: es) (tS G (sCons m n)) := by
  refine pa_if (pa_cons h hr hs) fun σ H Q ⟨ω, δ, φ, s, o⟩ => ⟨ω, δ, φ, s, (Out.bind o).mono (fun r h1 ω' H' φ' v st s' rp => ⟨ω', r.2, φ', s', (Out.bind h1).mono (fun q hq ω2 H2 φ2 vs st2 s2 r2 => ?_) fun _ _ z => z.up st⟩) fun _ _ z => z⟩
  exact hq ω2 H2 φ2 (v :: vs) (st.trans st2) s2 (.cons (Rep.up rp st2.grow) r2)
theorem ln : PA X [] (tAr G lNil) := pa_if pa_nil fun σ H Q ⟨ω, δ, φ, s, o⟩ => o ω H φ [] s.refl s .nil
theorem lc {m : Am} {n : Lm} (h : PE X e (tA1 G m)) (hr : PA X es (tAr G n)) (hs : starEach (e :: es) X.env = (false, eval e X.env) :: starEach es X.env := by rfl) : PA X (e :: es) (tAr G (lCons m n)) := by
  refine pa_if (pa_cons h hr hs) fun σ H Q ⟨ω, δ, φ, s, o⟩ => ⟨ω, δ, φ, s, (Out.bind o).mono (fun r h1 ω' H' φ' v st s' rp => ⟨ω', r.2, φ', s', (Out.bind h1).mono (fun q hq ω2 H2 φ2 vs st2 s2 r2 => ?_) fun _ _ z => z.up st⟩) fun _ _ z => z⟩
  exact hq ω2 H2 φ2 (v :: vs) (st.trans st2) s2 (.cons (AvR.up rp st2.grow) r2)
def mTup (m : Sm) : Em := fun δ => m δ >>= fun r => if r.1.length ≤ sizeLine then .ok (.tuple r.1, r.2) else .no
theorem Rep.newT {K : PySem.W.Frag} {ω : Om} {H : Hp} {p : Addr} {vs : List V} {ds : List D} (wf : Wf ω H) (hp : H p = none) (h : Reps K ω H vs ds) : Rep K ω (upd H p (.tup vs)) (.ref p) (.tuple ds) :=
  .tup (.inl (.inl upd_same)) (h.up ⟨fun a o e _ => Ext.upd hp a o e, wf, fun a z => .inl z⟩)
theorem Rep.newL {K : PySem.W.Frag} {ω : Om} {H : Hp} {p : Addr} {vs : List V} {ds : List D} (wf : Wf ω H) (hp : H p = none) (h : Reps K ω H vs ds) : Rep K ω (upd H p (.lst vs)) (.ref p) (.list ds) :=
  .lst ⟨.inl upd_same, fun z => by obtain ⟨xs, e⟩ := wf p z; rw [hp] at e; cases e⟩ (h.up ⟨fun a o e _ => Ext.upd hp a o e, wf, fun a z => .inl z⟩)
theorem et {x1} {m : Sm} (h : PA X es (tS G m)) : PE X (.Tuple es x1 pos) (tI G (mTup m)) := by
  refine pe_if (pe_tup h) fun σ H Q ⟨ω, δ, φ, s, o⟩ => ⟨ω, δ, φ, s, (Out.bind o).mono (fun r hr ω' H' φ' vs st s' rp => ?_) fun _ _ z => z⟩
  by_cases hl : r.1.length ≤ sizeLine
  · rw [if_pos hl] at hr
    refine ⟨by rw [rp.length]; exact hl, fun p hp => ?_⟩
    exact hr ω' _ φ' _ (st.trans (s'.step (Ext.upd hp))) (s'.ext (Ext.upd hp)) (Rep.newT s'.wf hp rp)
  · rw [if_neg hl] at hr
    exact hr.elim
def fLst (m : Sm) : Fm := fun δ => m δ >>= fun r => if r.1.length ≤ sizeLine then .ok (r.1, r.2) else .no
theorem fl {m : Sm} (h : PA X es (tS G m)) : PE X (.List es pos) (tF G (fLst m)) := by
  refine pe_if (pe_lst h) fun σ H Q ⟨ω, δ, φ, s, o⟩ => ⟨ω, δ, φ, s, (Out.bind o).mono (fun r hr ω' H' φ' vs st s' rp => ?_) fun _ _ z => z⟩
  by_cases hl : r.1.length ≤ sizeLine
  · rw [if_pos hl] at hr
    refine ⟨by rw [rp.length]; exact hl, fun p hp => ?_⟩
    exact hr ω' H' φ' p vs st s' hp rp
  · rw [if_neg hl] at hr
    exact hr.elim
/-- a new list as a value that nobody changes -/
theorem fi {m : Fm} (h : PE X e (tF G m)) : PE X e (tI G (eF m)) := by
  refine pe_if h fun σ H Q ⟨ω, δ, φ, s, o⟩ => ⟨ω, δ, φ, s, (Out.bind o).mono (fun r hr ω' H' φ' p vs st s' hp rp => ?_) fun _ _ z => z⟩
  exact hr ω' _ φ' _ (st.trans (s'.step (Ext.upd hp))) (s'.ext (Ext.upd hp)) (Rep.newL s'.wf hp rp)
/-- .. as one of ours -/
theorem Own.newL {K : PySem.W.Frag} {ω : Om} {H : Hp} {p : Addr} {vs : List V} {ds : List D} (wf : Wf ω H) (hp : H p = none) (h : Reps K ω H vs ds) : Own K (fun a => ω a ∨ a = p) (upd H p (.lst vs)) (.mu .im) (.ref p) (.list ds) [p] :=
  .mui upd_same (h.up ⟨fun a o e _ => Ext.upd hp a o e, wf, fun a z => z.elim .inl fun e => .inr (e ▸ hp)⟩)
theorem Slots.more {K : PySem.W.Frag} {κ : Kn} {ω ω' : Om} {H H' : Hp} {σ : L2.St} {δ : Dl} {φ : Fps} (s : Slots K κ ω H σ δ φ) (e : Ext H H') (h1 : ∀ a, ω a → ω' a) (h2 : ∀ a, ω' a → ω a ∨ H a = none) (h3 : ∀ a, ω' a → ∃ xs, H' a = some (.lst xs)) : Slots K κ ω' H' σ δ φ where
  len := s.len
  at_ := fun i d h => by
    obtain ⟨v, q1, q2⟩ := s.at_ i d h
    refine ⟨v, q1, Own.mono (ω' := ω') ⟨fun a o h _ => e a o h, s.wf, h2⟩ d _ _ _ (fun a ha => ?_) q2⟩
    obtain ⟨xs, q⟩ := Own.lsts d _ _ _ q2 a ha
    rw [q, e a _ q]
  nod := s.nod
  dis := s.dis
  sub := fun a h => h1 a (s.sub a h)
  wf := h3
theorem fo {m : Fm} (h : PE X e (tF G m)) : PE X e (tO G (.mu .im) (eF m)) := by
  refine pe_if h fun σ H Q ⟨ω, δ, φ, s, o⟩ => ⟨ω, δ, φ, s, (Out.bind o).mono (fun r hr ω' H' φ' p vs st s' hp rp => ?_) fun _ _ z => z⟩
  have wf2 : ∀ a, ω' a ∨ a = p → ∃ xs, (upd H' p (.lst vs)) a = some (.lst xs) := fun a h => by
    rcases h with h | rfl
    · obtain ⟨xs, q⟩ := s'.wf a h
      exact ⟨xs, Ext.upd hp a _ q⟩
    · exact ⟨vs, upd_same⟩
  have np : ¬ Fp φ' p := fun z => by
    obtain ⟨xs, q⟩ := s'.wf p (s'.sub p z)
    rw [hp] at q; cases q
  refine hr (fun a => ω' a ∨ a = p) _ φ' _ [p] (st.trans ⟨fun a o e _ => Ext.upd hp a o e, fun a z => z.elim .inl fun e => .inr (e ▸ hp), fun a z _ => .inl z, fun a z => z.elim .inl fun e => .inr ((List.mem_singleton.mp e) ▸ hp), s'.sub, s'.wf⟩)
    (s'.more (Ext.upd hp) (fun a z => .inl z) (fun a z => z.elim .inl fun e => .inr (e ▸ hp)) wf2) (Own.newL s'.wf hp rp) (by simp) fun a ha => ?_
  rw [List.mem_singleton.mp ha]
  exact ⟨.inr rfl, np⟩
theorem oim {m : Em} (h : PE X e (tI G m)) : PE X e (tO G .im m) := by
  refine pe_if h fun σ H Q ⟨ω, δ, φ, s, o⟩ => ⟨ω, δ, φ, s, o.mono (fun r hr ω' H' φ' v st s' rp => ?_) fun _ _ z => z⟩
  refine hr ω' H' φ' v [] ⟨st.keep, st.om, st.stay, fun a z => z.elim (st.fp a) fun z => absurd z (by simp), st.sub, st.wf⟩ s' (.im rp) .nil fun a ha => absurd ha (by simp)
/-- what is ours, let go -/
def without (ω : Om) (f : List Addr) : Om := fun a => ω a ∧ a ∉ f
end
section
variable {K : PySem.W.Frag} {ω : Om} {H : Hp}
mutual
theorem Own.let (F : List Addr) : ∀ (d : D) (s : Sh) (v : V) (f : List Addr), (∀ a ∈ f, a ∈ F) → Own K ω H s v d f → (∀ a, ω a → ∃ xs, H a = some (.lst xs)) → Rep K (without ω F) H v d
  | .list ds, _, _, _, hf, h, wf => by
    cases h with
    | im r => exact r.up ⟨fun a o e _ => e, wf, fun a z => .inl z.1⟩
    | mu e t => exact .lst ⟨.inl e, fun z => z.2 (hf _ List.mem_cons_self)⟩ (Owns.let F ds _ _ _ (fun a ha => hf a (List.mem_cons_of_mem _ ha)) t wf)
    | rc e t => exact .lst ⟨.inl e, fun z => z.2 (hf _ List.mem_cons_self)⟩ (Owns.let F ds _ _ _ (fun a ha => hf a (List.mem_cons_of_mem _ ha)) t wf)
  | .none, _, _, _, _, h, wf => by cases h with | im r => exact r.up ⟨fun a o e _ => e, wf, fun a z => .inl z.1⟩
  | .bool _, _, _, _, _, h, wf => by cases h with | im r => exact r.up ⟨fun a o e _ => e, wf, fun a z => .inl z.1⟩
  | .int _, _, _, _, _, h, wf => by cases h with | im r => exact r.up ⟨fun a o e _ => e, wf, fun a z => .inl z.1⟩
  | .str _, _, _, _, _, h, wf => by cases h with | im r => exact r.up ⟨fun a o e _ => e, wf, fun a z => .inl z.1⟩
  | .tuple _, _, _, _, _, h, wf => by cases h with | im r => exact r.up ⟨fun a o e _ => e, wf, fun a z => .inl z.1⟩
  | .dict _, _, _, _, _, h, wf => by cases h with | im r => exact r.up ⟨fun a o e _ => e, wf, fun a z => .inl z.1⟩
theorem Owns.let (F : List Addr) : ∀ (ds : List D) (ss : List Sh) (vs : List V) (f : List Addr), (∀ a ∈ f, a ∈ F) → Owns K ω H ss vs ds f → (∀ a, ω a → ∃ xs, H a = some (.lst xs)) → Reps K (without ω F) H vs ds
  | [], _, _, _, _, h, _ => by cases h; exact .nil
  | d :: ds, _, _, _, hf, h, wf => by
    cases h with
    | cons r t => exact .cons (Own.let F d _ _ _ (fun a ha => hf a (List.mem_append_left _ ha)) r wf) (Owns.let F ds _ _ _ (fun a ha => hf a (List.mem_append_right _ ha)) t wf)
end
theorem Slots.less {κ : Kn} {σ : L2.St} {δ : Dl} {φ : Fps} {F : List Addr} (s : Slots K κ ω H σ δ φ) (h : ∀ a ∈ F, ¬ Fp φ a) : Slots K κ (without ω F) H σ δ φ where
  len := s.len
  at_ := fun i d h => by
    obtain ⟨v, q1, q2⟩ := s.at_ i d h
    exact ⟨v, q1, Own.mono (ω' := without ω F) ⟨fun a o e _ => e, s.wf, fun a z => .inl z.1⟩ d _ _ _ (fun a ha => rfl) q2⟩
  nod := s.nod
  dis := s.dis
  sub := fun a z => ⟨s.sub a z, fun m => h a m z⟩
  wf := fun a z => s.wf a z.1
end
section
variable {X : Cx} {G : Gm} {e a b c : Expr} {es : List Expr} {pos : Pos}
theorem oI {sh : Sh} {m : Em} (h : PE X e (tO G sh m)) : PE X e (tI G m) := by
  refine pe_if h fun σ H Q ⟨ω, δ, φ, s, o⟩ => ⟨ω, δ, φ, s, o.mono (fun r hr ω' H' φ' v f st s' ow nd hf => ?_) fun _ _ z => z⟩
  refine hr (without ω' f) H' φ' v ⟨st.keep, fun a z => st.om a z.1, fun a z n => ⟨st.stay a z n, fun m => ?_⟩, fun a z => st.fp a (.inl z), st.sub, st.wf⟩ (s'.less fun a ha => (hf a ha).2) (Own.let f _ _ _ _ (fun a ha => ha) ow s'.wf)
  rcases st.fp a (.inr m) with q | q
  · exact n q
  · obtain ⟨xs, q2⟩ := st.wf a z
    rw [q] at q2; cases q2
/-- a slot's own list, moved out -/
def mM (i : Nat) : Em := fun δ => match δ[i]? with
  | some (some d) => .ok (d, δ.set i none)
  | _ => .no
theorem Slots.out {K : PySem.W.Frag} {κ : Kn} {ω : Om} {H : Hp} {σ : L2.St} {δ : Dl} {φ : Fps} (s : Slots K κ ω H σ δ φ) (i : Nat) : Slots K κ ω H σ (δ.set i none) (fun j => if j = i then [] else φ j) where
  len := by rw [List.length_set]; exact s.len
  at_ := fun j d h => by
    by_cases e : i = j
    · subst e
      rw [List.getElem?_set] at h
      simp at h
    · rw [List.getElem?_set_ne e] at h
      rw [if_neg (Ne.symm e)]
      exact s.at_ j d h
  nod := fun j => by split <;> simp [s.nod]
  dis := fun j k a n h => by
    split at h
    · simp at h
    · split
      · simp
      · exact s.dis j k a n h
  sub := fun a ⟨j, h⟩ => by
    dsimp only at h
    split at h
    · simp at h
    · exact s.sub a ⟨j, h⟩
  wf := s.wf
theorem xM (i : Nat) {x : Str} (hN : X.N[i]? = some x := by rfl) (hv : Vis X.env.scope x := by first | exact Or.inl rfl | exact Or.inr (Or.inl rfl) | exact Or.inr (Or.inr rfl)) (hd : (x == ("__debug__" : Str)) = false := by decide)
    (hcd : (x == ("__classdict__" : Str)) = false := by decide) : PE X (.Name x pos) (tO G (G.κ i) (mM i)) := by
  refine pe_if (pe_var hN hv hd hcd) fun σ H Q ⟨ω, δ, φ, s, o⟩ => ?_
  cases e1 : δ[i]? with
  | none => simp only [mM, e1] at o; exact o.elim
  | some z =>
    simp only [mM, e1] at o
    cases z with
    | none => exact o.elim
    | some d =>
      obtain ⟨w, h3, h4⟩ := s.at_ i d e1
      have np : ∀ a ∈ φ i, ¬ Fp (fun j => if j = i then [] else φ j) a := fun a ha ⟨j, hj⟩ => by
        dsimp only at hj
        by_cases e : j = i
        · rw [if_pos e] at hj; simp at hj
        · rw [if_neg e] at hj
          exact s.dis j i a e hj ha
      refine ⟨w, h3, o ω H (fun j => if j = i then [] else φ j) w (φ i) ⟨fun a o h _ => h, fun a h => .inl h, fun a h _ => h, fun a h => .inl ?_, s.sub, s.wf⟩ (s.out i) h4 (s.nod i) fun a ha => ⟨s.sub a ⟨i, ha⟩, np a ha⟩⟩
      rcases h with ⟨j, hj⟩ | h
      · dsimp only at hj
        split at hj
        · simp at hj
        · exact ⟨j, hj⟩
      · exact ⟨i, h⟩
end
end Zd

namespace Zd
open PySem PySem.Spec
open PyProof.Rows L2

/-! ### statements -/
inductive Fl where
  | nx
  | rt (d : D)
  | bk
  | ct
abbrev Pm := Dl → Rs (Fl × Dl)
/-- the slots at pin hold what they held -/
abbrev Pin (pin : Nat → Bool) (σ σ' : L2.St) : Prop := ∀ i, pin i = true → σ'[i]? = σ[i]?
/-- a body's own: what stays in its slot, how what is handed back is held -/
structure Gs extends Gm where
  pin : Nat → Bool
  ret : Sh
def Ret (G : Gs) (D : Ends) (ω P : Om) (H : Hp) (pin : Nat → Bool) (σ : L2.St) (d : PySem.PyData) (δ' : Dl) : Prop :=
  ∀ ω' H' σ' φ' v f, Step ω P H ω' (fun a => Fp φ' a ∨ a ∈ f) H' → Slots G.K G.κ ω' H' σ' δ' φ' → Pin pin σ σ' → Own G.K ω' H' G.ret v d f → f.Nodup → (∀ a ∈ f, ω' a ∧ ¬ Fp φ' a) → D.rt v H'
def tP (G : Gs) (σ0 : L2.St) (m : Pm) : TS := fun D σ H => Pin G.pin σ0 σ ∧ ∃ ω δ φ, Slots G.K G.κ ω H σ δ φ ∧
  Out (m δ) (fun r => match r.1 with
    | .nx => ∀ ω' H' σ' φ', Step ω (Fp φ) H ω' (Fp φ') H' → Slots G.K G.κ ω' H' σ' r.2 φ' → Pin G.pin σ0 σ' → D.nx σ' H'
    | .bk => ∀ ω' H' σ' φ', Step ω (Fp φ) H ω' (Fp φ') H' → Slots G.K G.κ ω' H' σ' r.2 φ' → Pin G.pin σ0 σ' → D.bk σ' H'
    | .ct => ∀ ω' H' σ' φ', Step ω (Fp φ) H ω' (Fp φ') H' → Slots G.K G.κ ω' H' σ' r.2 φ' → Pin G.pin σ0 σ' → D.ct σ' H'
    | .rt d => ∀ ω' H' σ' φ' v f, Step ω (Fp φ) H ω' (fun a => Fp φ' a ∨ a ∈ f) H' → Slots G.K G.κ ω' H' σ' r.2 φ' → Pin G.pin σ0 σ' → Own G.K ω' H' G.ret v d f → f.Nodup → (∀ a ∈ f, ω' a ∧ ¬ Fp φ' a) → D.rt v H')
    (Esc G.K G.cls G.E ω (Fp φ) H)
def pNil : Pm := fun δ => .ok (.nx, δ)
def pSeq (m n : Pm) : Pm := fun δ => m δ >>= fun r => match r.1 with
  | .nx => n r.2
  | .rt d => .ok (.rt d, r.2)
  | .bk => .ok (.bk, r.2)
  | .ct => .ok (.ct, r.2)
section
variable {X : Cx} {G : Gs} {σ0 : L2.St} {st : Stmt} {sts a b : List Stmt} {e c : Expr} {pos : Pos}
/-- the ends of a run that follows on another's -/
theorem tP_go {m : Pm} {D : Ends} {σ : L2.St} {H : Hp} {ω P : Om} {ω1 : Om} {H1 : Hp} {φ1 : Fps} {δ1 : Dl} {σ1 : L2.St} (st : Step ω P H ω1 (Fp φ1) H1) (s1 : Slots G.K G.κ ω1 H1 σ1 δ1 φ1) (p1 : Pin G.pin σ0 σ1)
    (o : Out (m δ1) (fun r => match r.1 with
    | .nx => ∀ ω' H' σ' φ', Step ω P H ω' (Fp φ') H' → Slots G.K G.κ ω' H' σ' r.2 φ' → Pin G.pin σ0 σ' → D.nx σ' H'
    | .bk => ∀ ω' H' σ' φ', Step ω P H ω' (Fp φ') H' → Slots G.K G.κ ω' H' σ' r.2 φ' → Pin G.pin σ0 σ' → D.bk σ' H'
    | .ct => ∀ ω' H' σ' φ', Step ω P H ω' (Fp φ') H' → Slots G.K G.κ ω' H' σ' r.2 φ' → Pin G.pin σ0 σ' → D.ct σ' H'
    | .rt d => ∀ ω' H' σ' φ' v f, Step ω P H ω' (fun a => Fp φ' a ∨ a ∈ f) H' → Slots G.K G.κ ω' H' σ' r.2 φ' → Pin G.pin σ0 σ' → Own G.K ω' H' G.ret v d f → f.Nodup → (∀ a ∈ f, ω' a ∧ ¬ Fp φ' a) → D.rt v H')
    (Esc G.K G.cls G.E ω P H)) : tP G σ0 m D σ1 H1 := by
  refine ⟨p1, ω1, δ1, φ1, s1, o.mono (fun r hr => ?_) fun _ _ z => z.up st⟩
  cases e1 : r.1 with
  | nx => simp only [e1] at hr ⊢; exact fun ω' H' σ' φ' t => hr ω' H' σ' φ' (st.trans t)
  | bk => simp only [e1] at hr ⊢; exact fun ω' H' σ' φ' t => hr ω' H' σ' φ' (st.trans t)
  | ct => simp only [e1] at hr ⊢; exact fun ω' H' σ' φ' t => hr ω' H' σ' φ' (st.trans t)
  | rt d => simp only [e1] at hr ⊢; exact fun ω' H' σ' φ' v f t => hr ω' H' σ' φ' v f (st.trans t)
theorem pn : PSs X [] (tP G σ0 pNil) := pss_if' pss_nil fun D σ H ⟨p, ω, δ, φ, s, o⟩ => o ω H σ φ s.refl s p
theorem tP_seq {m n : Pm} {D : Ends} {σ : L2.St} {H : Hp} (h : tP G σ0 (pSeq m n) D σ H) : tP G σ0 m { D with nx := tP G σ0 n D } σ H := by
  obtain ⟨p, ω, δ, φ, s, o⟩ := h
  refine ⟨p, ω, δ, φ, s, (Out.bind o).mono (fun r hr => ?_) fun _ _ z => z⟩
  cases e1 : r.1 with
  | nx => simp only [e1] at hr ⊢; exact fun ω' H' σ' φ' t s' p' => tP_go (σ := σ) t s' p' hr
  | bk => simp only [e1] at hr ⊢; exact hr
  | ct => simp only [e1] at hr ⊢; exact hr
  | rt d => simp only [e1] at hr ⊢; exact hr
theorem pc {m n : Pm} (h : PS X st (tP G σ0 m)) (h' : PSs X sts (tP G σ0 n)) : PSs X (st :: sts) (tP G σ0 (pSeq m n)) :=
  pss_if' (pss_cons h h') fun D σ H q => tP_seq q
theorem p1 {m : Pm} (h : PS X st (tP G σ0 m)) : PSs X [st] (tP G σ0 m) := pss_one h
def pBk : Pm := fun δ => .ok (.bk, δ)
def pCt : Pm := fun δ => .ok (.ct, δ)
theorem pps : PS X (.Pass pos) (tP G σ0 pNil) := ps_if' ps_pass fun D σ H ⟨p, ω, δ, φ, s, o⟩ => o ω H σ φ s.refl s p
theorem pbk : PS X (.Break pos) (tP G σ0 pBk) := ps_if' ps_break fun D σ H ⟨p, ω, δ, φ, s, o⟩ => o ω H σ φ s.refl s p
theorem pct : PS X (.Continue pos) (tP G σ0 pCt) := ps_if' ps_continue fun D σ H ⟨p, ω, δ, φ, s, o⟩ => o ω H σ φ s.refl s p
def pIf (t : Tm) (m n : Pm) : Pm := fun δ => t δ >>= fun r => if r.1 = true then m r.2 else n r.2
theorem pif {t : Tm} {m n : Pm} (hc : PT X c (tT G.toGm t)) (ha : PSs X a (tP G σ0 m)) (hb : PSs X b (tP G σ0 n)) : PS X (.If c a b pos) (tP G σ0 (pIf t m n)) := by
  refine ps_if' (ps_if hc ha hb) fun D σ H ⟨p, ω, δ, φ, s, o⟩ => ⟨ω, δ, φ, s, (Out.bind o).mono (fun r hr ω' H' φ' st s' => ?_) fun _ _ z => z⟩
  cases e1 : r.1 with
  | true =>
    rw [if_pos rfl]
    rw [e1, if_pos rfl] at hr
    exact tP_go (σ := σ) st s' p hr
  | false =>
    rw [if_neg
              Bool.false_ne_true]
    rw [e1, if_neg Bool.false_ne_true] at hr
    exact tP_go (σ := σ) st s' p hr
def pRet (m : Em) : Pm := fun δ => m δ >>= fun r => .ok (.rt r.1, r.2)
theorem pr {sh : Sh} {m : Em} (h : PE X e (tO G.toGm sh m)) (hs : G.ret = sh := by rfl) : PS X (.Return (some e) pos) (tP G σ0 (pRet m)) := by
  refine ps_if' (ps_ret h) fun D σ H ⟨p, ω, δ, φ, s, o⟩ => ⟨ω, δ, φ, s, (Out.bind o).mono (fun r hr ω' H' φ' v f st s' ow nd hf => ?_) fun _ _ z => z⟩
  exact hr ω' H' σ φ' v f st s' p (hs ▸ ow) nd hf
theorem pri {m : Em} (h : PE X e (tI G.toGm m)) (hs : G.ret = .im := by rfl) : PS X (.Return (some e) pos) (tP G σ0 (pRet m)) := pr (oim h) hs
theorem prn (hs : G.ret = .im := by rfl) : PS X (.Return none pos) (tP G σ0 (pRet (mC .none))) := by
  refine ps_if' ps_retN fun D σ H ⟨p, ω, δ, φ, s, o⟩ => ?_
  exact o ω H σ φ .non [] ⟨fun a o h _ => h, fun a h => .inl h, fun a h _ => h, fun a h => h.elim .inl fun h => absurd h (by simp), s.sub, s.wf⟩ s p (by rw [hs]; exact .im .non) .nil fun a ha => absurd ha (by simp)

/-! ### stores -/
theorem Slots.put {K : PySem.W.Frag} {κ : Kn} {ω : Om} {H : Hp} {σ : L2.St} {δ : Dl} {φ : Fps} (s : Slots K κ ω H σ δ φ) (i : Nat) (hi : i < δ.length) {v : V} {d : PySem.PyData} {f : List Addr} (ow : Own K ω H (κ i) v d f) (nd : f.Nodup) (hf : ∀ a ∈ f, ω a ∧ ¬ Fp φ a) :
    Slots K κ ω H (σ.set i (some v)) (δ.set i (some d)) (fun j => if j = i then f else φ j) where
  len := by rw [List.length_set, List.length_set]; exact s.len
  at_ := fun j e h => by
    by_cases q : i = j
    · subst q
      rw [List.getElem?_set_self hi] at h
      cases h
      refine ⟨v, List.getElem?_set_self (by rw [s.len]; exact hi), ?_⟩
      rw [if_pos rfl]
      exact ow
    · rw [List.getElem?_set_ne q] at h
      rw [if_neg (Ne.symm q), List.getElem?_set_ne q]
      exact s.at_ j e h
  nod := fun j => by split <;> first | exact nd | exact s.nod j
  dis := fun j k a n h => by
    split at h
    · rename_i ej
      rw [if_neg (by rw [← ej]; exact Ne.symm n)]
      exact fun z => (hf a h).2 ⟨k, z⟩
    · split
      · exact fun z => (hf a z).2 ⟨j, h⟩
      · exact s.dis j k a n h
  sub := fun a ⟨j, h⟩ => by
    dsimp only at h
    split at h
    · exact (hf a h).1
    · exact s.sub a ⟨j, h⟩
  wf := s.wf
def put (δ : Dl) (i : Nat) (d : PySem.PyData) : Rs Dl := if i < δ.length then .ok (δ.set i (some d)) else .no
def pSet (i : Nat) (m : Em) : Pm := fun δ => m δ >>= fun r => put r.2 i r.1 >>= fun δ' => .ok (.nx, δ')
theorem put_inv {δ : Dl} {i : Nat} {d : PySem.PyData} {q : Dl → Prop} {e : Str → PySem.PyData → Prop} (h : Out (put δ i d) q e) : i < δ.length ∧ q (δ.set i (some d)) := by
  unfold put at h
  by_cases hi : i < δ.length
  · rw [if_pos hi] at h
    exact ⟨hi, h⟩
  · rw [if_neg hi] at h
    exact h.elim
theorem pin_set {pin : Nat → Bool} {σ σ' : L2.St} {i : Nat} {v : V} (p : Pin pin σ σ') (hp : pin i = false) : Pin pin σ (σ'.set i (some v)) := fun j hj => by
  rw [List.getElem?_set_ne (by rintro rfl; rw [hp] at hj; cases hj)]
  exact p j hj
/-- what a store at a slot leaves -/
theorem put_step {K : PySem.W.Frag} {κ : Kn} {ω ω' P : Om} {H H' : Hp} {σ : L2.St} {δ : Dl} {φ : Fps} {f : List Addr} (st : Step ω P H ω' (fun a => Fp φ a ∨ a ∈ f) H') (i : Nat) : Step ω P H ω' (Fp (fun j => if j = i then f else φ j)) H' :=
  ⟨st.keep, st.om, st.stay, fun a ⟨j, h⟩ => by
    dsimp only at h
    split at h
    · exact st.fp a (.inr h)
    · exact st.fp a (.inl ⟨j, h⟩), st.sub, st.wf⟩
theorem pso {i : Nat} {x : Str} {m : Em} {pos' : Pos} {sh : Sh} (hN : X.N.Nodup) (he : PE X e (tO G.toGm sh m)) (hsh : G.κ i = sh := by rfl) (hi : X.N[i]? = some x := by rfl) (hx : Loc X.env.scope x := by first | exact Or.inl rfl | exact Or.inr rfl) (hp : G.pin i = false := by rfl) (hs : swapsWith e (some (.Name x pos')) pos.line X.env = pure false := by rfl) (hf : X.fn x = true ∨ X.env.scope.names.lookup x = some .local := by first | exact .inl rfl | exact .inr rfl | assumption) :
    PS X (.Assign [.Name x pos'] e pos) (tP G σ0 (pSet i m)) := by
  refine ps_if' (ps_set hN hi hx he hs hf) fun D σ H ⟨p, ω, δ, φ, s, o⟩ => ⟨ω, δ, φ, s, (Out.bind o).mono (fun r hr ω' H' φ' v f st s' ow nd hf => ?_) fun _ _ z => z⟩
  obtain ⟨hi', hr⟩ := put_inv (Out.bind hr)
  rw [← hsh] at ow
  exact hr ω' H' _ _ (put_step (K := G.K) (κ := G.κ) (σ := σ) (δ := δ) st i) (s'.put i hi' ow nd hf) (pin_set p hp)
theorem ps {i : Nat} {x : Str} {m : Em} {pos' : Pos} (hN : X.N.Nodup) (he : PE X e (tI G.toGm m)) (hsh : G.κ i = .im := by rfl) (hi : X.N[i]? = some x := by rfl) (hx : Loc X.env.scope x := by first | exact Or.inl rfl | exact Or.inr rfl) (hp : G.pin i = false := by rfl) (hs : swapsWith e (some (.Name x pos')) pos.line X.env = pure false := by rfl) (hf : X.fn x = true ∨ X.env.scope.names.lookup x = some .local := by first | exact .inl rfl | exact .inr rfl | assumption) :
    PS X (.Assign [.Name x pos'] e pos) (tP G σ0 (pSet i m)) := pso hN (oim he) hsh hi hx hp hs hf
/-- an expression for what it does -/
def pEx (m : Em) : Pm := fun δ => m δ >>= fun r => .ok (.nx, r.2)
theorem pe {m : Em} (he : PE X e (tI G.toGm m)) (hs : swapsWith e none pos.line X.env = pure false := by rfl) : PS X (.Expr e pos) (tP G σ0 (pEx m)) := by
  refine ps_if' (ps_expr he hs) fun D σ H ⟨p, ω, δ, φ, s, o⟩ => ⟨ω, δ, φ, s, (Out.bind o).mono (fun r hr ω' H' φ' v st s' rp => ?_) fun _ _ z => z⟩
  exact hr ω' H' σ φ' st s' p

/-! ### targets -/
abbrev Tg := PySem.PyData → Dl → Rs Dl
def tG (G : Gs) (σ0 : L2.St) (t : Tg) : TG := fun v σ H Q => Pin G.pin σ0 σ ∧ ∃ ω δ φ d, Slots G.K G.κ ω H σ δ φ ∧ Rep G.K ω H v d ∧
  Out (t d δ) (fun δ' => ∀ σ' φ', Step ω (Fp φ) H ω (Fp φ') H → Slots G.K G.κ ω H σ' δ' φ' → Pin G.pin σ0 σ' → σ'.length = σ.length → Q σ' H) (fun _ _ => False)
def gN (i : Nat) : Tg := fun d δ => put δ i d
theorem Slots.puti {K : PySem.W.Frag} {κ : Kn} {ω : Om} {H : Hp} {σ : L2.St} {δ : Dl} {φ : Fps} (s : Slots K κ ω H σ δ φ) (i : Nat) (hi : i < δ.length) {v : V} {d : PySem.PyData} (hk : κ i = .im) (r : Rep K ω H v d) :
    Slots K κ ω H (σ.set i (some v)) (δ.set i (some d)) (fun j => if j = i then [] else φ j) ∧ Step ω (Fp φ) H ω (Fp (fun j => if j = i then [] else φ j)) H :=
  ⟨s.put i hi (by rw [hk]; exact .im r) .nil fun a ha => absurd ha (by simp), fun a o h _ => h, fun a h => .inl h, fun a h _ => h, fun a ⟨j, h⟩ => by
    dsimp only at h
    split at h
    · exact absurd h (by simp)
    · exact .inl ⟨j, h⟩, s.sub, s.wf⟩
theorem gn {i : Nat} {x : Str} (hN : X.N.Nodup) (hi : X.N[i]? = some x := by rfl) (hk : G.κ i = .im := by rfl) (hp : G.pin i = false := by rfl) (hx : Loc X.env.scope x := by first | exact Or.inl rfl | exact Or.inr rfl) (hf : X.fn x = true ∨ X.env.scope.names.lookup x = some .local := by first | exact .inl rfl | exact .inr rfl | assumption) :
    PG X (.Name x pos) (tG G σ0 (gN i)) := by
  refine ⟨fun pins s σ H v u Q I r h => (pg_name hN hi hx hf).run pins s σ H v u Q I r ?_⟩
  obtain ⟨p, ω, δ, φ, d, sl, rp, o⟩ := h
  obtain ⟨hi', q⟩ := put_inv o
  obtain ⟨s2, st⟩ := sl.puti i hi' hk rp
  exact q _ _ st s2 (pin_set p hp) (List.length_set ..)
abbrev Tgs := List PySem.PyData → Dl → Rs Dl
def tGs (G : Gs) (σ0 : L2.St) (t : Tgs) : TGs := fun vs σ H Q => Pin G.pin σ0 σ ∧ ∃ ω δ φ ds, Slots G.K G.κ ω H σ δ φ ∧ Reps G.K ω H vs ds ∧
  Out (t ds δ) (fun δ' => ∀ σ' φ', Step ω (Fp φ) H ω (Fp φ') H → Slots G.K G.κ ω H σ' δ' φ' → Pin G.pin σ0 σ' → σ'.length = σ.length → Q σ' H) (fun _ _ => False)
def gE : Tgs := fun ds δ => match ds with
  | [] => .ok δ
  | _ => .no
def gC (t : Tg) (u : Tgs) : Tgs := fun ds δ => match ds with
  | d :: ds => t d δ >>= fun δ' => u ds δ'
  | [] => .no
theorem ge : PGs X [] (tGs G σ0 gE) := by
  refine ⟨fun pins s σ H vs us Q I r h => pgs_nil.run pins s σ H vs us Q I r ?_⟩
  obtain ⟨p, ω, δ, φ, ds, sl, rp, o⟩ := h
  cases ds with
  | nil =>
    cases rp
    exact ⟨rfl, o σ φ sl.refl sl p rfl⟩
  | cons d ds => exact o.elim
theorem gc {es : List Expr} {t : Tg} {u : Tgs} (h1 : PG X e (tG G σ0 t)) (h2 : PGs X es (tGs G σ0 u)) (hs : (assignEach (e :: es) X.env).map (·.2) = assign e X.env :: (assignEach es X.env).map (·.2) := by rfl) : PGs X (e :: es) (tGs G σ0 (gC t u)) := by
  refine ⟨fun pins s σ H vs us Q I r h => (pgs_cons h1 h2 hs).run pins s σ H vs us Q I r ?_⟩
  obtain ⟨p, ω, δ, φ, ds, sl, rp, o⟩ := h
  cases ds with
  | nil => exact o.elim
  | cons d ds =>
    cases rp with
    | cons r1 r2 =>
      refine ⟨_, _, rfl, p, ω, δ, φ, d, sl, r1, (Out.bind o).mono (fun δ1 h1 σ1 φ1 st1 s1 p1 l1 => ⟨p1, ω, δ1, φ1, ds, s1, r2, h1.mono (fun δ2 h2 σ2 φ2 st2 s2 p2 l2 => h2 σ2 φ2 (st1.trans st2) s2 p2 (l2.trans l1)) fun _ _ z => z⟩) fun _ _ z => z⟩
def gT (n : Nat) (t : Tgs) : Tg := fun d δ => match d with
  | .tuple ds => if ds.length = n then t ds δ else .no
  | _ => .no
theorem gt {es : List Expr} {k : Nat} {t : Tgs} {n : Nat} (hc : X.calm = true) (h : PGs X es (tGs G σ0 t)) (hK : X.K = G.K := by rfl)
    (hn : (assignEach es X.env).length = n := by rfl) (hst : (assignEach es X.env).findIdx? (·.1) = none := by rfl) : PG X (.Tuple es k pos) (tG G σ0 (gT n t)) := by
  refine ⟨fun pins s σ H v u Q I r q => (pg_tup hc h hn hst).run pins s σ H v u Q I r ?_⟩
  obtain ⟨p, ω, δ, φ, d, sl, rp, o⟩ := q
  cases d with
  | tuple ds =>
    simp only [gT] at o
    by_cases hl : ds.length = n
    · rw [if_pos hl] at o
      obtain ⟨a, vs, rfl, hs, rs⟩ := Lk.tuple (.inl rp)
      exact ⟨a, vs, rfl, hK ▸ hs, by rw [rs.length]; exact hl, p, ω, δ, φ, ds, sl, rs, o⟩
    · rw [if_neg hl] at o
      exact o.elim
  | _ => exact o.elim
/-- target = e -/
def pAs (t : Tg) (m : Em) : Pm := fun δ => m δ >>= fun r => t r.1 r.2 >>= fun δ' => .ok (.nx, δ')
theorem ex_no {α : Type} {r : Rs α} {q : α → Prop} {e : Str → PySem.PyData → Prop} (h : Out r q e) (n : ∀ c a, ¬ e c a) : Out r q (fun _ _ => False) := h.mono (fun _ z => z) fun c a z => n c a z
/-- a target raises nothing -/
def NoG (t : Tg) : Prop := ∀ d δ c a, t d δ ≠ .ex c a
def NoGs (t : Tgs) : Prop := ∀ d δ c a, t d δ ≠ .ex c a
theorem put_nx {δ : Dl} {i : Nat} {d : PySem.PyData} {c : Str} {a : PySem.PyData} : put δ i d ≠ .ex c a := by unfold put; split <;> (intro z; cases z)
theorem ng_n {i : Nat} : NoG (gN i) := fun _ _ _ _ => put_nx
theorem ng_e : NoGs gE := fun ds _ _ _ => by cases ds <;> (intro z; cases z)
theorem bind_nx {α β : Type} {x : Rs α} {f : α → Rs β} {c : Str} {a : PySem.PyData} (h1 : ∀ c a, x ≠ .ex c a) (h2 : ∀ y c a, f y ≠ .ex c a) : (x >>= f) ≠ .ex c a := by
  cases x with
  | ok y => exact h2 y c a
  | ex c a => exact fun _ => h1 c a rfl
  | no => intro z; cases z
theorem ng_c {t : Tg} {u : Tgs} (h : NoG t) (h' : NoGs u) : NoGs (gC t u) := fun ds δ c a => by
  cases ds with
  | nil => intro z; cases z
  | cons d ds => exact bind_nx (fun c a => h d δ c a) fun y c a => h' ds y c a
theorem ng_t {n : Nat} {t : Tgs} (h : NoGs t) : NoG (gT n t) := fun d δ c a => by
  cases d with
  | tuple ds =>
    show (if ds.length = n then t ds δ else .no) ≠ _
    split
    · exact h ds δ c a
    · intro z; cases z
  | _ => intro z; cases z
theorem pas {tg : Expr} {m : Em} {t : Tg} (he : PE X e (tI G.toGm m)) (hg : PG X tg (tG G σ0 t)) (nx : NoG t) (hs : swapsWithSole [tg] e pos.line X.env = pure false := by rfl) (hw : swappedStores [tg] e X.env = pure none := by rfl)
    (h1 : (assignEach [tg] X.env).map (·.2) = [assign tg X.env] := by rfl) : PS X (.Assign [tg] e pos) (tP G σ0 (pAs t m)) := by
  refine ps_if' (ps_asg he hg hs hw h1) fun D σ H ⟨p, ω, δ, φ, s, o⟩ => ⟨ω, δ, φ, s, (Out.bind o).mono (fun r hr ω' H' φ' v st s' rp => ?_) fun _ _ z => z⟩
  refine ⟨p, ω', r.2, φ', r.1, s', rp, (out_no (Out.bind hr) (nx _ _)).mono (fun δ' hq σ' φ2 st2 s2 p2 _ => ?_) fun _ _ z => z⟩
  exact hq ω' H' σ' φ2 (st.trans st2) s2 p2
/-- a, b = x, y with plain names -/
def pPar (i j : Nat) (m : Sm) : Pm := fun δ => m δ >>= fun r => match r.1 with
  | [d, e] => put r.2 i d >>= fun δ1 => put δ1 j e >>= fun δ2 => .ok (.nx, δ2)
  | _ => .no
theorem ppar {i j : Nat} {x y : Str} {ea eb : Expr} {m : Sm} {px py pt : Pos} {kt k2 pt2} (hc : X.calm = true) (hN : X.N.Nodup) (ha : PA X [ea, eb] (tS G.toGm m)) (hi : X.N[i]? = some x := by rfl) (hj : X.N[j]? = some y := by rfl) (hij : i ≠ j := by decide)
    (hki : G.κ i = .im := by rfl) (hkj : G.κ j = .im := by rfl) (hpi : G.pin i = false := by rfl) (hpj : G.pin j = false := by rfl) (hx : X.env.scope.names.lookup x = some .local := by rfl) (hy : X.env.scope.names.lookup y = some .local := by rfl)
    (hw : swappedStores [.Tuple [.Name x px, .Name y py] kt pt] (.Tuple [ea, eb] k2 pt2) X.env = pure (some [x, y]) := by rfl)
    (hs : swapsWithSole [.Tuple [.Name x px, .Name y py] kt pt] (.Tuple [ea, eb] k2 pt2) pos.line X.env = pure false := by rfl) :
    PS X (.Assign [.Tuple [.Name x px, .Name y py] kt pt] (.Tuple [ea, eb] k2 pt2) pos) (tP G σ0 (pPar i j m)) := by
  refine ps_if' (ps_par hc hN hi hj hij hx hy ha hw hs) fun D σ H ⟨p, ω, δ, φ, s, o⟩ => ⟨ω, δ, φ, s, (Out.bind o).mono (fun r hr ω' H' φ' vs st s' rp => ?_) fun _ _ z => z⟩
  obtain ⟨ds, δ1⟩ := r
  match ds, rp, hr with
  | [], _, hr => exact hr.elim
  | [d], _, hr => exact hr.elim
  | d :: e :: f :: g, _, hr => exact hr.elim
  | [d, e], rp, hr =>
    cases rp with
    | cons r1 r2 =>
      cases r2 with
      | cons r2 r3 =>
        cases r3
        obtain ⟨h1, h2⟩ := put_inv (Out.bind hr)
        obtain ⟨h3, h4⟩ := put_inv (Out.bind h2)
        obtain ⟨s2, st2⟩ := s'.puti i h1 hki r1
        obtain ⟨s3, st3⟩ := s2.puti j h3 hkj r2
        exact ⟨_, _, rfl, h4 ω' H' _ _ ((st.trans st2).trans st3) s3 (pin_set (pin_set p hpi) hpj)⟩

/-! ### while -/
def loopW (t : Tm) (m : Pm) : Nat → Pm
  | 0 => fun _ => .no
  | n + 1 => fun δ => t δ >>= fun r => if r.1 = true then m r.2 >>= fun q => match q.1 with
    | .nx => loopW t m n q.2
    | .ct => loopW t m n q.2
    | .bk => .ok (.nx, q.2)
    | .rt d => .ok (.rt d, q.2)
  else .ok (.nx, r.2)
theorem pw {t : Tm} {m : Pm} (n : Nat) (hp : PassesOwn (model X.prog X.w) X.A X.env X.xe) (hc : PT X c (tT G.toGm t)) (hb : PSs X a (tP G σ0 m)) : PS X (.While c a [] pos) (tP G σ0 (loopW t m n)) := by
  refine ps_if' (ps_while hp hc hb) fun D σ H h => ?_
  refine ⟨fun k σ H => tP G σ0 (loopW t m k) D σ H, ⟨n, h⟩, ?_⟩
  intro k σ H ⟨p, ω, δ, φ, s, o⟩
  cases k with
  | zero => exact o.elim
  | succ k =>
    refine ⟨ω, δ, φ, s, (Out.bind o).mono (fun r hr ω' H' φ' st s' => ?_) fun _ _ z => z⟩
    cases e1 : r.1 with
    | true =>
      rw [if_pos rfl]
      rw [e1, if_pos rfl] at hr
      refine ⟨fun σ' H' => tP G σ0 (loopW t m k) D σ' H', fun σ' H' q => ⟨k, Nat.lt_succ_self k, q⟩, p, ω', r.2, φ', s', (Out.bind hr).mono (fun q hq => ?_) fun _ _ z => z.up st⟩
      cases e2 : q.1 with
      | nx => simp only [e2] at hq ⊢; exact fun ω2 H2 σ2 φ2 st2 s2 p2 => tP_go (σ := σ) (st.trans st2) s2 p2 hq
      | ct => simp only [e2] at hq ⊢; exact fun ω2 H2 σ2 φ2 st2 s2 p2 => tP_go (σ := σ) (st.trans st2) s2 p2 hq
      | bk => simp only [e2] at hq ⊢; exact fun ω2 H2 σ2 φ2 st2 s2 p2 => hq ω2 H2 σ2 φ2 (st.trans st2) s2 p2
      | rt d => simp only [e2] at hq ⊢; exact fun ω2 H2 σ2 φ2 v f st2 s2 p2 => hq ω2 H2 σ2 φ2 v f (st.trans st2) s2 p2
    | false =>
      rw [if_neg
                Bool.false_ne_true]
      rw [e1, if_neg Bool.false_ne_true] at hr
      exact hr ω' H' σ φ' st s' p
end
end Zd

namespace Zd
open PySem PySem.Spec
open PyProof.Rows L2

/-! ### loops over things -/
/-- J gives xs, while W stands -/
structure Wk (K : PySem.W.Frag) (J : It) (xs : List D) (W : Om → Hp → Prop) : Prop where
  goes : ∀ i ω H, i < xs.length → W ω H → J.go i H
  stops : ∀ ω H, W ω H → J.stop xs.length H
  yields : ∀ i ω H x H', W ω H → Wf ω H → i < xs.length → J.yld i H x H' → Ext H H' ∧ ∃ d, xs[i]? = some d ∧ Rep K ω H' x d
  stay : ∀ ω P H ω' P' H', Step ω P H ω' P' H' → W ω H → W ω' H'
def tW (G : Gm) (m : Sm) : TI := fun σ H R => ∃ ω δ φ, Slots G.K G.κ ω H σ δ φ ∧
  Out (m δ) (fun r => ∀ ω' H' φ' J W, Step ω (Fp φ) H ω' (Fp φ') H' → Slots G.K G.κ ω' H' σ r.2 φ' → Wk G.K J r.1 W → W ω' H' → R J H') (Esc G.K G.cls G.E ω (Fp φ) H)
theorem pi_if {X : Cx} {tg e : Expr} {t t' : TI} (h : PI X tg e t) (w : ∀ σ H R, t' σ H R → t σ H R) : PI X tg e t' := ⟨fun pins s σ H R I q => h.run pins s σ H R I (w σ H R q)⟩
def loopF (t : Tg) (m : Pm) : List D → Pm
  | [] => fun δ => .ok (.nx, δ)
  | d :: ds => fun δ => t d δ >>= fun δ1 => m δ1 >>= fun q => match q.1 with
    | .nx => loopF t m ds q.2
    | .ct => loopF t m ds q.2
    | .bk => .ok (.nx, q.2)
    | .rt d => .ok (.rt d, q.2)
def pFor (w : Sm) (t : Tg) (m : Pm) : Pm := fun δ => w δ >>= fun r => loopF t m r.1 r.2
theorem Slots.gup {K : PySem.W.Frag} {κ : Kn} {ω : Om} {H H' : Hp} {σ : L2.St} {δ : Dl} {φ : Fps} (s : Slots K κ ω H σ δ φ) (e : Ext H H') : Step ω (Fp φ) H ω (Fp φ) H' ∧ Slots K κ ω H' σ δ φ := ⟨s.step e, s.ext e⟩
section
variable {X : Cx} {G : Gs} {σ0 : L2.St} {body : List Stmt} {tg iter : Expr} {pos : Pos}
theorem pf {w : Sm} {t : Tg} {m : Pm} (hp : PassesOwn (model X.prog X.w) X.A X.env X.xe) (hc : X.calm = true) (hi : PI X tg iter (tW G.toGm w)) (hg : PG X tg (tG G σ0 t)) (nx : NoG t) (hb : PSs X body (tP G σ0 m))
    (hs : ∀ x, foldedSetIterable iter X.env x = pure x := by intro _; rfl) : PS X (.For tg iter body [] pos) (tP G σ0 (pFor w t m)) := by
  refine ps_if' (ps_for hp hc hi hg hb hs) fun D σ H ⟨p, ω, δ, φ, s, o⟩ => ⟨ω, δ, φ, s, (Out.bind o).mono (fun r hr ω' H' φ' J W st s' wk hW => ?_) fun _ _ z => z⟩
  obtain ⟨xs, δ1⟩ := r
  refine ⟨fun i k σ' H1 => k = xs.length - i ∧ i ≤ xs.length ∧ ∃ ω1 δ1 φ1, Step ω (Fp φ) H ω1 (Fp φ1) H1 ∧ Slots G.K G.κ ω1 H1 σ' δ1 φ1 ∧ Pin G.pin σ0 σ' ∧ W ω1 H1 ∧
    Out (loopF t m (xs.drop i) δ1) (fun r => match r.1 with
    | .nx => ∀ ω' H' σ' φ', Step ω (Fp φ) H ω' (Fp φ') H' → Slots G.K G.κ ω' H' σ' r.2 φ' → Pin G.pin σ0 σ' → D.nx σ' H'
    | .bk => ∀ ω' H' σ' φ', Step ω (Fp φ) H ω' (Fp φ') H' → Slots G.K G.κ ω' H' σ' r.2 φ' → Pin G.pin σ0 σ' → D.bk σ' H'
    | .ct => ∀ ω' H' σ' φ', Step ω (Fp φ) H ω' (Fp φ') H' → Slots G.K G.κ ω' H' σ' r.2 φ' → Pin G.pin σ0 σ' → D.ct σ' H'
    | .rt d => ∀ ω' H' σ' φ' v f, Step ω (Fp φ) H ω' (fun a => Fp φ' a ∨ a ∈ f) H' → Slots G.K G.κ ω' H' σ' r.2 φ' → Pin G.pin σ0 σ' → Own G.K ω' H' G.ret v d f → f.Nodup → (∀ a ∈ f, ω' a ∧ ¬ Fp φ' a) → D.rt v H')
    (Esc G.K G.cls G.E ω (Fp φ) H), ⟨xs.length, by simp, Nat.zero_le _, ω', δ1, φ', st, s', p, hW, hr⟩, ?_⟩
  rintro i k σ1 H1 ⟨rfl, hle, ω1, δ1, φ1, st1, s1, p1, hW1, o1⟩
  by_cases hlt : i < xs.length
  · right
    refine ⟨wk.goes i ω1 H1 hlt hW1, _, fun σ' H' (q : (fun σ' H1 => i + 1 ≤ xs.length ∧ ∃ ω1 δ1 φ1, Step ω (Fp φ) H ω1 (Fp φ1) H1 ∧ Slots G.K G.κ ω1 H1 σ' δ1 φ1 ∧ Pin G.pin σ0 σ' ∧ W ω1 H1 ∧ Out (loopF t m (xs.drop (i + 1)) δ1) _ _) σ' H') => ⟨xs.length - (i + 1), by omega, rfl, q⟩, fun x H2 y => ?_⟩
    obtain ⟨ex, d, hd, rp⟩ := wk.yields i ω1 H1 x H2 hW1 s1.wf hlt y
    have hdrop : xs.drop i = d :: xs.drop (i + 1) := by
      rw [List.drop_eq_getElem_cons
                hlt]
      rw [List.getElem?_eq_getElem hlt] at hd
      rw [Option.some.inj hd]
    rw [hdrop] at o1
    obtain ⟨st2, s2⟩ := s1.gup ex
    refine ⟨p1, ω1, δ1, φ1, d, s2, rp, (out_no (Out.bind o1) (nx _ _)).mono (fun δ3 h3 σ3 φ3 st3 s3 p3 _ => ?_) fun _ _ z => z⟩
    have st13 := (st1.trans st2).trans st3
    have hW3 : W ω1 H2 := wk.stay _ _ _ _ _ _ (st2.trans st3) hW1
    refine ⟨p3, ω1, δ3, φ3, s3, (Out.bind h3).mono (fun q hq => ?_) fun _ _ z => z.up st13⟩
    cases e1 : q.1 with
    | nx => simp only [e1] at hq ⊢; exact fun ω4 H4 σ4 φ4 st4 s4 p4 => ⟨hlt, ω4, q.2, φ4, st13.trans st4, s4, p4, wk.stay _ _ _ _ _ _ st4 hW3, hq⟩
    | ct => simp only [e1] at hq ⊢; exact fun ω4 H4 σ4 φ4 st4 s4 p4 => ⟨hlt, ω4, q.2, φ4, st13.trans st4, s4, p4, wk.stay _ _ _ _ _ _ st4 hW3, hq⟩
    | bk => simp only [e1] at hq ⊢; exact fun ω4 H4 σ4 φ4 st4 s4 p4 => hq ω4 H4 σ4 φ4 (st13.trans st4) s4 p4
    | rt d => simp only [e1] at hq ⊢; exact fun ω4 H4 σ4 φ4 v f st4 s4 p4 => hq ω4 H4 σ4 φ4 v f (st13.trans st4) s4 p4
  · left
    have e : i = xs.length := by omega
    subst e
    rw [List.drop_length] at o1
    exact ⟨wk.stops ω1 H1 hW1, o1 ω1 H1 σ1 φ1 st1 s1 p1⟩
end

/-! ### list comprehensions -/
def wipeD (δ : Dl) : List Nat → Dl
  | [] => δ
  | v :: vs => (wipeD δ vs).set v none
def back (δ δ' : Dl) : List Nat → Dl
  | [] => δ'
  | v :: vs => (back δ δ' vs).set v (δ.getD v none)
theorem wipeD_len (δ : Dl) : ∀ vs, (wipeD δ vs).length = δ.length
  | [] => rfl
  | v :: vs => by rw [wipeD, List.length_set, wipeD_len δ vs]
theorem wipeD_some {δ : Dl} {i : Nat} {d : D} : ∀ {vs : List Nat}, (wipeD δ vs)[i]? = some (some d) → δ[i]? = some (some d) ∧ i ∉ vs
  | [], h => ⟨h, by simp⟩
  | v :: vs, h => by
    unfold wipeD at h
    by_cases hi : v = i
    · subst hi
      by_cases hv : v < (wipeD δ vs).length
      · rw [List.getElem?_set_self
                hv] at h; cases h
      · rw [List.getElem?_eq_none
                (by simpa using hv)] at h; cases h
    · rw [List.getElem?_set_ne
              hi] at h
      obtain ⟨h1, h2⟩ := wipeD_some h
      exact ⟨h1, by simp only [List.mem_cons,
                not_or]; exact ⟨fun e => hi e.symm, h2⟩⟩
theorem wipe_at {σ : L2.St} {i : Nat} {vs : List Nat} (h : i ∉ vs) : (wipe σ vs)[i]? = σ[i]? := wipe_out h
theorem back_len (δ δ' : Dl) : ∀ vs, (back δ δ' vs).length = δ'.length
  | [] => rfl
  | v :: vs => by rw [back, List.length_set, back_len δ δ' vs]
theorem back_out {δ δ' : Dl} {i : Nat} : ∀ {vs : List Nat}, i ∉ vs → (back δ δ' vs)[i]? = δ'[i]?
  | [], _ => rfl
  | v :: vs, h => by
    simp only [List.mem_cons, not_or] at h
    rw [back, List.getElem?_set_ne (Ne.symm h.1), back_out h.2]
theorem back_in {δ δ' : Dl} {i : Nat} (hl : i < δ'.length) : ∀ {vs : List Nat}, i ∈ vs → (back δ δ' vs)[i]? = some (δ.getD i none)
  | v :: vs, h => by
    rw [back]
    by_cases e : v = i
    · subst e
      rw [List.getElem?_set_self (by rw [back_len]; exact hl)]
    · rw [List.getElem?_set_ne e]
      exact back_in hl ((List.mem_cons.mp h).resolve_left (Ne.symm e))
/-- within the block its own names are nobody's lists -/
def kin (κ : Kn) (vs : List Nat) : Kn := fun i => if vs.contains i = true then .im else κ i
def fin (φ : Fps) (vs : List Nat) : Fps := fun i => if vs.contains i = true then [] else φ i
theorem cont {vs : List Nat} {i : Nat} : vs.contains i = true ↔ i ∈ vs := by simp
theorem Slots.wipe {K : PySem.W.Frag} {κ : Kn} {ω : Om} {H : Hp} {σ : L2.St} {δ : Dl} {φ : Fps} (s : Slots K κ ω H σ δ φ) (vs : List Nat) : Slots K (kin κ vs) ω H (wipe σ vs) (wipeD δ vs) (fin φ vs) where
  len := by rw [wipe_length, wipeD_len]; exact s.len
  at_ := fun i d h => by
    obtain ⟨h1, h2⟩ := wipeD_some h
    obtain ⟨v, h3, h4⟩ := s.at_ i d h1
    refine ⟨v, by rw [wipe_out h2]; exact h3, ?_⟩
    unfold kin fin
    rw [if_neg (fun z => h2 (cont.mp z)), if_neg (fun z => h2 (cont.mp z))]
    exact h4
  nod := fun i => by unfold fin; split <;> simp [s.nod]
  dis := fun i j a n h => by
    unfold fin at h ⊢
    split at h
    · simp at h
    · split
      · simp
      · exact s.dis i j a n h
  sub := fun a ⟨i, h⟩ => by
    unfold fin at h
    split at h
    · simp at h
    · exact s.sub a ⟨i, h⟩
  wf := s.wf
theorem fin_sub {φ : Fps} {vs : List Nat} {a : Addr} (h : Fp (fin φ vs) a) : Fp φ a := by
  obtain ⟨i, h⟩ := h
  unfold fin at h
  split at h
  · simp at h
  · exact ⟨i, h⟩
/-- behind a turn: the outer names are as they were -/
theorem Slots.unwipe {K : PySem.W.Frag} {κ : Kn} {ω ω4 : Om} {H H4 : Hp} {σ σ2 : L2.St} {δ δ4 : Dl} {φ φ4 : Fps} {vs : List Nat} (s : Slots K κ ω H σ δ φ) (st : Step ω (Fp (fin φ vs)) H ω4 (Fp φ4) H4) (s4 : Slots K (kin κ vs) ω4 H4 σ2 δ4 φ4)
    (hl : σ2.length = σ.length) (ho : ∀ i, i ∉ vs → σ2[i]? = σ[i]?) : Slots K κ ω4 H4 σ (back δ δ4 vs) (fun i => if vs.contains i = true then φ i else φ4 i) ∧ Step ω (Fp φ) H ω4 (Fp (fun i => if vs.contains i = true then φ i else φ4 i)) H4 := by
  have lst : ∀ i a, a ∈ φ i → ∃ xs, H a = some (.lst xs) := fun i a h => s.wf a (s.sub a ⟨i, h⟩)
  -- an outer list of a name of the block's
  have apart : ∀ i a, i ∈ vs → a ∈ φ i → ¬ Fp (fin φ vs) a := fun i a hi h ⟨j, hj⟩ => by
    unfold fin at hj
    split at hj
    · simp at hj
    · rename_i hn
      exact s.dis i j a (fun e => hn (cont.mpr (e ▸ hi))) h hj
  have apart4 : ∀ i a, i ∈ vs → a ∈ φ i → ¬ Fp φ4 a := fun i a hi h z => by
    rcases st.fp a z with q | q
    · exact apart i a hi h q
    · obtain ⟨xs, e⟩ := lst i a h
      rw [e] at q; cases q
  refine ⟨⟨?_, fun i d h => ?_, fun i => ?_, fun i j a n h => ?_, fun a ⟨i, h⟩ => ?_, s4.wf⟩, ?_⟩
  · rw [back_len, ← s4.len, hl]
  · by_cases hi : i ∈ vs
    · have hlt : i < δ4.length := by
        have := (List.getElem?_eq_some_iff.mp h).1
        rwa [back_len] at this
      rw [back_in hlt hi] at h
      have e : δ[i]? = some (some d) := by
        have e := Option.some.inj h
        rw [List.getD_eq_getElem?_getD] at e
        cases q : δ[i]? with
        | none => rw [q] at e; exact nomatch e
        | some o => rw [q] at e; exact congrArg some e
      obtain ⟨v, h1, h2⟩ := s.at_ i d e
      refine ⟨v, h1, ?_⟩
      rw [if_pos (cont.mpr hi)]
      refine Own.mono st.grow d _ _ _ (fun a ha => ?_) h2
      obtain ⟨xs, q⟩ := lst i a ha
      rw [q, st.keep a _ q (apart i a hi ha)]
    · rw [back_out hi] at h
      obtain ⟨v, h1, h2⟩ := s4.at_ i d h
      have e2 : kin κ vs i = κ i := if_neg fun z => hi (cont.mp z)
      rw [e2] at h2
      rw [ho i hi] at h1
      rw [if_neg (fun z => hi (cont.mp z))]
      exact ⟨v, h1, h2⟩
  · split
    · exact s.nod i
    · exact s4.nod i
  · split at h
    · rename_i hi
      split
      · exact s.dis i j a n h
      · exact fun z => apart4 i a (cont.mp hi) h ⟨j, z⟩
    · split
      · rename_i hj
        exact fun z => apart4 j a (cont.mp hj) z ⟨i, h⟩
      · exact s4.dis i j a n h
  · dsimp only at h
    split at h
    · rename_i hi
      exact st.stay a (s.sub a ⟨i, h⟩) (apart i a (cont.mp hi) h)
    · exact s4.sub a ⟨i, h⟩
  · refine ⟨fun a o h n => st.keep a o h fun z => n (fin_sub z), st.om, fun a h n => st.stay a h fun z => n (fin_sub z), fun a ⟨i, h⟩ => ?_, s.sub, s.wf⟩
    dsimp only at h
    split at h
    · exact .inl ⟨i, h⟩
    · exact (st.fp a ⟨i, h⟩).imp fin_sub id

/-- no error -/
def nox {α : Type} : Rs α → Rs α
  | .ok a => .ok a
  | _ => .no
theorem nox_inv {α : Type} {r : Rs α} {q : α → Prop} {e : Str → D → Prop} (h : Out (nox r) q e) : Out r q (fun _ _ => False) := by
  cases r with
  | ok a => exact h
  | ex c a => exact h
  | no => exact h
def compF (vs : List Nat) (t : Tg) (c : Tm) (e : Em) : List D → Fm
  | [] => fun δ => .ok ([], δ)
  | d :: ds => fun δ => t d (wipeD δ vs) >>= fun δ1 => c δ1 >>= fun r => if r.1 = true then e r.2 >>= fun q => compF vs t c e ds (back δ q.2 vs) >>= fun z => .ok (q.1 :: z.1, z.2)
    else compF vs t c e ds (back δ r.2 vs)
def fComp (vs : List Nat) (w : Sm) (t : Tg) (c : Tm) (e : Em) : Fm := fun δ => w δ >>= fun r => if r.1.length ≤ sizeLine then nox (compF vs t c e r.1 r.2) else .no
def tmY : Tm := fun δ => .ok (true, δ)
theorem py {X : Cx} {G : Gm} : PTs X [] (tT G tmY) := ⟨fun pins s σ H Q I ⟨ω, δ, φ, sl, o⟩ => pts_nil.run pins s σ H Q I (o ω H φ sl.refl sl)⟩
theorem py1 {X : Cx} {G : Gm} {c : Expr} {m : Tm} (h : PT X c (tT G m)) : PTs X [c] (tT G m) := pts_one h
/-- what stands within the block -/
abbrev inB (G : Gm) (vs : List Nat) : Gs := { K := G.K, cls := G.cls, E := E0, κ := kin G.κ vs, pin := fun i => !vs.contains i, ret := .im }

section
variable {X : Cx} {G : Gm}
theorem tLc_of {w : Sm} {t : Tg} {c : Tm} {e : Em} {vs : List Nat} (nx : NoG t) {σ : L2.St} {H : Hp} {Q : VK} (h : tO G (.mu .im) (eF (fComp vs w t c e)) σ H Q) :
    tLc (tW G w) (fun v σ' H' Q' => tG (inB G vs) σ' t v σ' H' Q') (tT (inB G vs).toGm c) (tI (inB G vs).toGm e) vs σ H Q := by
  obtain ⟨ω, δ, φ, s, o⟩ := h
  refine ⟨ω, δ, φ, s, (Out.bind (Out.bind o)).mono (fun r hr ω' H' φ' J W st s' wk hW => ?_) fun _ _ z => z⟩
  intro L hL
  obtain ⟨xs, δ1⟩ := r
  by_cases hsz : xs.length ≤ sizeLine
  rotate_left
  · rw [if_neg hsz] at hr
    exact hr.elim
  rw [if_pos hsz] at hr
  have hr := nox_inv hr
  -- the state of the loop
  refine ⟨fun i k H1 => k = xs.length - i ∧ i ≤ xs.length ∧ ∃ ω1 δ1 φ1 acc ds, Step ω (Fp φ) H ω1 (fun a => Fp φ1 a ∨ a ∈ [L]) H1 ∧ Slots G.K G.κ ω1 H1 σ δ1 φ1 ∧ W ω1 H1 ∧ H1 L = some (.lst acc) ∧ Reps G.K ω1 H1 acc ds ∧ acc.length ≤ i ∧ ω1 L ∧ ¬ Fp φ1 L ∧
    Out (compF vs t c e (xs.drop i) δ1) (fun z => ∀ ω' H' φ' v f, Step ω (Fp φ) H ω' (fun a => Fp φ' a ∨ a ∈ f) H' → Slots G.K G.κ ω' H' σ z.2 φ' → Own G.K ω' H' (.mu .im) v (.list (ds ++ z.1)) f → f.Nodup → (∀ a ∈ f, ω' a ∧ ¬ Fp φ' a) → Q v H') (fun _ _ => False),
    ⟨xs.length, by simp, Nat.zero_le _, fun a => ω' a ∨ a = L, δ1, φ', [], [], ?_, ?_, ?_, upd_same, .nil, Nat.le_refl _, .inr rfl, ?_, ?_⟩, ?_⟩
  · exact st.trans ⟨fun a o e _ => Ext.upd hL a o e, fun a z => z.elim .inl fun e => .inr (e ▸ hL), fun a z _ => .inl z, fun a z => z.elim .inl fun e => .inr ((List.mem_singleton.mp e) ▸ hL), s'.sub, s'.wf⟩
  · refine s'.more (Ext.upd hL) (fun a z => .inl z) (fun a z => z.elim .inl fun e => .inr (e ▸ hL)) fun a h => ?_
    rcases h with h | rfl
    · obtain ⟨xs, q⟩ := s'.wf a h
      exact ⟨xs, Ext.upd hL a _ q⟩
    · exact ⟨[], upd_same⟩
  · exact wk.stay _ (Fp φ') _ _ (fun a => Fp φ' a ∨ a ∈ [L]) _ ⟨fun a o e _ => Ext.upd hL a o e, fun a z => z.elim .inl fun e => .inr (e ▸ hL), fun a z _ => .inl z, fun a z => z.elim .inl fun e => .inr ((List.mem_singleton.mp e) ▸ hL), s'.sub, s'.wf⟩ hW
  · intro z
    obtain ⟨xs, q⟩ := s'.wf L (s'.sub L z)
    rw [hL] at q; cases q
  · exact hr
  rintro i k H1 ⟨rfl, hle, ω1, δ1, φ1, acc, ds, st1, s1, hW1, hLa, ra, hla, oL, nL, o1⟩
  by_cases hlt : i < xs.length
  · right
    refine ⟨wk.goes i ω1 H1 hlt hW1, _, fun H' (q : (fun H1 => i + 1 ≤ xs.length ∧ ∃ ω1 δ1 φ1 acc ds, Step ω (Fp φ) H ω1 (fun a => Fp φ1 a ∨ a ∈ [L]) H1 ∧ Slots G.K G.κ ω1 H1 σ δ1 φ1 ∧ W ω1 H1 ∧ H1 L = some (.lst acc) ∧ Reps G.K ω1 H1 acc ds ∧ acc.length ≤ i + 1 ∧ ω1 L ∧ ¬ Fp φ1 L ∧ Out (compF vs t c e (xs.drop (i + 1)) δ1) (fun z => ∀ ω' H' φ' v f, Step ω (Fp φ) H ω' (fun a => Fp φ' a ∨ a ∈ f) H' → Slots G.K G.κ ω' H' σ z.2 φ' → Own G.K ω' H' (.mu .im) v (.list (ds ++ z.1)) f → f.Nodup → (∀ a ∈ f, ω' a ∧ ¬ Fp φ' a) → Q v H') (fun _ _ => False)) H') => ⟨xs.length - (i + 1), by omega, rfl, q⟩, fun x H2 y => ?_⟩
    obtain ⟨ex, d, hd, rp⟩ := wk.yields i ω1 H1 x H2 hW1 s1.wf hlt y
    have hdrop : xs.drop i = d :: xs.drop (i + 1) := by
      rw [List.drop_eq_getElem_cons
                hlt]
      rw [List.getElem?_eq_getElem hlt] at hd
      rw [Option.some.inj hd]
    rw [hdrop] at o1
    have s2 := s1.ext ex
    have st2 : Step ω1 (Fp (fin φ1 vs)) H1 ω1 (Fp (fin φ1 vs)) H2 := .ext (fun a z => s1.sub a (fin_sub z)) s1.wf ex
    refine ⟨fun j _ => rfl, ω1, wipeD δ1 vs, fin φ1 vs, d, s2.wipe vs, rp, (out_no (Out.bind o1) (nx _ _)).mono (fun δ3 h3 σ3 φ3 st3 s3 p3 l3 => ?_) fun _ _ z => z⟩
    have p3' : ∀ j, j ∉ vs → σ3[j]? = (wipe σ vs)[j]? := fun j hj => p3 j (by
      show (!vs.contains j) = true
      rw [Bool.not_eq_true']
      exact Bool.eq_false_iff.mpr fun z => hj (cont.mp z))
    have ho : ∀ j, j ∉ vs → σ3[j]? = σ[j]? := fun j hj => (p3' j hj).trans (wipe_out hj)
    have hl3 : σ3.length = σ.length := l3.trans (wipe_length σ vs)
    -- the block's names forgotten again
    have hwp : wipe σ3 vs = wipe σ vs := by
      apply List.ext_getElem?
      intro j
      by_cases hj : j ∈ vs
      · have wn : ∀ (τ : L2.St) (us : List Nat), j ∈ us → j < τ.length → (L2.wipe τ us)[j]? = some none := by
          intro τ us
          induction us with
          | nil => intro h; simp at h
          | cons u us ih =>
            intro h hlt
            unfold L2.wipe
            by_cases e : u = j
            · subst e
              rw [List.getElem?_set_self (by rw [wipe_length]; exact hlt)]
            · rw [List.getElem?_set_ne e]
              exact ih ((List.mem_cons.mp h).resolve_left (Ne.symm e)) hlt
        by_cases hjl : j < σ.length
        · rw [wn σ vs hj hjl, wn σ3 vs hj (by omega)]
        · rw [List.getElem?_eq_none (by rw [wipe_length]; omega), List.getElem?_eq_none (by rw [wipe_length]; omega)]
      · rw [wipe_out hj, wipe_out hj, ho j hj]
    refine ⟨hwp, ω1, δ3, φ3, s3, (Out.bind h3).mono (fun r hr ω4 H4 φ4 st4 s4 => ?_) fun _ _ z => z.elim⟩
    show (if r.1 = true then _ else _)
    have st14 := (st2.trans st3).trans st4
    -- what the element's run leaves of the outer state
    have outer : ∀ {ω5 : Om} {H5 : Hp} {φ5 : Fps} {δ5 : Dl}, Step ω1 (Fp (fin φ1 vs)) H1 ω5 (Fp φ5) H5 → Slots G.K (kin G.κ vs) ω5 H5 σ3 δ5 φ5 →
        ∃ φ6, Slots G.K G.κ ω5 H5 σ (back δ1 δ5 vs) φ6 ∧ Step ω (Fp φ) H ω5 (fun a => Fp φ6 a ∨ a ∈ [L]) H5 ∧ W ω5 H5 ∧ H5 L = some (.lst acc) ∧ Reps G.K ω5 H5 acc ds ∧ ω5 L ∧ ¬ Fp φ6 L := fun {ω5 H5 φ5 δ5} st5 s5 => by
      obtain ⟨s6, st6⟩ := s1.unwipe st5 s5 hl3 ho
      have nf : ¬ Fp (fin φ1 vs) L := fun z => nL (fin_sub z)
      have keepL := st5.keep L _ hLa nf
      have st6' : Step ω1 (fun a => Fp φ1 a ∨ a ∈ [L]) H1 ω5 (fun a => Fp (fun i => if vs.contains i = true then φ1 i else φ5 i) a ∨ a ∈ [L]) H5 :=
        ⟨fun a o h n => st6.keep a o h fun z => n (.inl z), st6.om, fun a h n => st6.stay a h fun z => n (.inl z), fun a z => z.elim (fun z => (st6.fp a z).imp .inl id) fun z => .inl (.inr z), fun a z => z.elim (st6.sub a) fun z => (List.mem_singleton.mp z) ▸ oL, st6.wf⟩
      refine ⟨_, s6, st1.trans st6', wk.stay _ _ _ _ _ _ st6 hW1, keepL, ra.up st6.grow, st6.stay L oL nL, fun z => ?_⟩
      rcases st6.fp L z with q | q
      · exact nL q
      · rw [hLa] at q; cases q
    cases e1 : r.1 with
    | true =>
      rw [if_pos rfl]
      rw [e1, if_pos rfl] at hr
      refine ⟨ω4, r.2, φ4, s4, (Out.bind hr).mono (fun q hq ω5 H5 φ5 yv st5 s5 ry => ?_) fun _ _ z => z.elim⟩
      obtain ⟨φ6, s6, st6, hW6, hL6, ra6, oL6, nL6⟩ := outer (st14.trans st5) s5
      refine ⟨acc, hL6, by omega, hlt, ω5, back δ1 q.2 vs, φ6, acc ++ [yv], ds ++ [q.1], ?_, ?_, ?_, upd_same, ?_, by rw [List.length_append]; show acc.length + 1 ≤ i + 1; omega, oL6, nL6, ?_⟩
      all_goals (have gr : Grow ω5 H5 ω5 (upd H5 L (.lst (acc ++ [yv]))) := ⟨fun a o h n => by rw [upd_ne (fun e => n (by rw [e]; exact oL6))]; exact h, s6.wf, fun a z => .inl z⟩)
      · refine st6.trans ⟨fun a o h n => by rw [upd_ne (fun e => n (.inr (by simp [e])))]; exact h, fun a z => .inl z, fun a z _ => z, fun a z => .inl z, fun a z => z.elim (s6.sub a) fun z => (List.mem_singleton.mp z) ▸ oL6, s6.wf⟩
      · refine ⟨s6.len, fun j dd h => ?_, s6.nod, s6.dis, s6.sub, fun a h => ?_⟩
        · obtain ⟨v, h1, h2⟩ := s6.at_ j dd h
          exact ⟨v, h1, Own.mono gr dd _ _ _ (fun a ha => by rw [upd_ne (fun e => nL6 ⟨j, by rw [← e]; exact ha⟩)]) h2⟩
        · by_cases e : a = L
          · subst e; exact ⟨_, upd_same⟩
          · rw [upd_ne e]; exact s6.wf a h
      · exact wk.stay _ (fun a => a ∈ [L]) _ _ (fun a => a ∈ [L]) _ ⟨fun a o h n => by rw [upd_ne (fun e => n (by simp [e]))]; exact h, fun a z => .inl z, fun a z _ => z, fun a z => .inl z, fun a z => (List.mem_singleton.mp z) ▸ oL6, s6.wf⟩ hW6
      · exact (ra6.up gr).snoc (Rep.up ry gr)
      · refine (Out.bind hq).mono (fun z hz ω' H' φ' v f a1 a2 a3 a4 a5 => ?_) fun _ _ z => z.elim
        rw [List.append_assoc] at a3
        exact hz ω' H' φ' v f a1 a2 a3 a4 a5
    | false =>
      rw [if_neg
                Bool.false_ne_true]
      rw [e1, if_neg Bool.false_ne_true] at hr
      obtain ⟨φ6, s6, st6, hW6, hL6, ra6, oL6, nL6⟩ := outer st14 s4
      exact ⟨hlt, ω4, back δ1 r.2 vs, φ6, acc, ds, st6, s6, hW6, hL6, ra6, by omega, oL6, nL6, hr⟩
  · left
    have e : i = xs.length := by omega
    subst e
    rw [List.drop_length] at o1
    refine ⟨wk.stops ω1 H1 hW1, ?_⟩
    have o1 : ∀ ω' H' φ' v f, Step ω (Fp φ) H ω' (fun a => Fp φ' a ∨ a ∈ f) H' → Slots G.K G.κ ω' H' σ δ1 φ' → Own G.K ω' H' (.mu .im) v (.list (ds ++ [])) f → f.Nodup → (∀ a ∈ f, ω' a ∧ ¬ Fp φ' a) → Q v H' := o1
    rw [List.append_nil] at o1
    exact o1 ω1 H1 φ1 (.ref L) [L] st1 s1 (.mui hLa ra) (by simp) fun a ha => by
      rw [List.mem_singleton.mp ha]
      exact ⟨oL, nL⟩
end
end Zd

namespace Zd
open PySem PySem.Spec
open PyProof.Rows L2
section
variable {X : Cx} {G : Gm}
theorem pg_any {G : Gs} {tg : Expr} {t : Tg} (h : ∀ σ0, PG X tg (tG G σ0 t)) : PG X tg (fun v σ' H' Q' => tG G σ' t v σ' H' Q') := ⟨fun pins s σ H v u Q I r q => (h σ).run pins s σ H v u Q I r q⟩
/-- a list comprehension of one clause -/
theorem cp {elt tg iter : Expr} {ifs : List Expr} {scope : Scope} {own : List (Str × Nat)} {pos : Pos} {w : Sm} {t : Tg} {c : Tm} {e : Em} (hc : X.calm = true) (hN : X.N.Nodup) (hi : PI X tg iter (tW G w)) (ok : BlkOk X.N X.env.scope scope own) (nx : NoG t)
    (hg : ∀ (s : Shared) (H : Hp) (C : Addr) (cl : List (Str × Addr)) (fp : List Addr) (σ0 : L2.St), PG (X.blk s H scope (compEnvC scope cl C X.env) fp) tg (tG (inB G (own.map (·.2))) σ0 t)) (ht : ∀ (s : Shared) (H : Hp) (C : Addr) (cl : List (Str × Addr)) (fp : List Addr), PTs (X.blk s H scope (compEnvC scope cl C X.env) fp) ifs (tT (inB G (own.map (·.2))).toGm c))
    (he : ∀ (s : Shared) (H : Hp) (C : Addr) (cl : List (Str × Addr)) (fp : List Addr), PE (X.blk s H scope (compEnvC scope cl C X.env) fp) elt (tI (inB G (own.map (·.2))).toGm e)) (hs : ∀ x, foldedSetIterable iter X.env x = pure x := by intro _; rfl) :
    PE X (.ListComp elt [⟨tg, iter, ifs, 0⟩] scope pos) (tO G (.mu .im) (eF (fComp (own.map (·.2)) w t c e))) :=
  pe_if (pe_lc hc hN hi ok (fun s H C cl fp => pg_any (hg s H C cl fp)) ht he hs) fun σ H Q h => tLc_of nx h
end
section
variable {X : Cx} {G : Gs} {σ0 : L2.St}
/-- name = [..], on one line, the name a plain local -/
theorem pcp {i : Nat} {y : Str} {py : Pos} {elt tg iter : Expr} {ifs : List Expr} {scope : Scope} {own : List (Str × Nat)} {pos spos : Pos} {w : Sm} {t : Tg} {c : Tm} {e : Em} (hc : X.calm = true) (hN : X.N.Nodup) (hi : PI X tg iter (tW G.toGm w)) (ok : BlkOk X.N X.env.scope scope own) (nx : NoG t)
    (hg : ∀ (s : Shared) (H : Hp) (C : Addr) (cl : List (Str × Addr)) (fp : List Addr) (σ0 : L2.St), PG (X.blk s H scope (compEnvC scope cl C X.env) fp) tg (tG (inB G.toGm (own.map (·.2))) σ0 t)) (ht : ∀ (s : Shared) (H : Hp) (C : Addr) (cl : List (Str × Addr)) (fp : List Addr), PTs (X.blk s H scope (compEnvC scope cl C X.env) fp) ifs (tT (inB G.toGm (own.map (·.2))).toGm c))
    (he : ∀ (s : Shared) (H : Hp) (C : Addr) (cl : List (Str × Addr)) (fp : List Addr), PE (X.blk s H scope (compEnvC scope cl C X.env) fp) elt (tI (inB G.toGm (own.map (·.2))).toGm e))
    (hsh : (G.κ i = .mu .im) ∨ G.κ i = .im := by first | exact Or.inl rfl | exact Or.inr rfl) (hp : G.pin i = false := by rfl) (hy : X.N[i]? = some y := by rfl) (hyl : X.env.scope.names.lookup y = some .local := by rfl)
    (hsw : swapsWith (.ListComp elt [⟨tg, iter, ifs, 0⟩] scope pos) (some (.Name y py)) spos.line X.env = pure true := by first | exact sw_true rfl rfl rfl rfl | exact sw_true rfl rfl rfl (by decide +kernel)) (hs : ∀ x, foldedSetIterable iter X.env x = pure x := by intro _; rfl) :
    PS X (.Assign [.Name y py] (.ListComp elt [⟨tg, iter, ifs, 0⟩] scope pos) spos) (tP G σ0 (pSet i (eF (fComp (own.map (·.2)) w t c e)))) := by
  refine ps_if' (ps_setLc hc hN hy hyl hsw hi ok (fun s H C cl fp => pg_any (hg s H C cl fp)) ht he hs) fun D σ H ⟨p, ω, δ, φ, s, o⟩ => ?_
  have key : ∀ {sh : Sh} {m : Em}, G.κ i = sh → ∀ (ω δ φ), Slots G.K G.κ ω H σ δ φ → Out (pSet i m δ) (fun r => match r.1 with
    | .nx => ∀ ω' H' σ' φ', Step ω (Fp φ) H ω' (Fp φ') H' → Slots G.K G.κ ω' H' σ' r.2 φ' → Pin G.pin σ0 σ' → D.nx σ' H'
    | .bk => ∀ ω' H' σ' φ', Step ω (Fp φ) H ω' (Fp φ') H' → Slots G.K G.κ ω' H' σ' r.2 φ' → Pin G.pin σ0 σ' → D.bk σ' H'
    | .ct => ∀ ω' H' σ' φ', Step ω (Fp φ) H ω' (Fp φ') H' → Slots G.K G.κ ω' H' σ' r.2 φ' → Pin G.pin σ0 σ' → D.ct σ' H'
    | .rt d => ∀ ω' H' σ' φ' v f, Step ω (Fp φ) H ω' (fun a => Fp φ' a ∨ a ∈ f) H' → Slots G.K G.κ ω' H' σ' r.2 φ' → Pin G.pin σ0 σ' → Own G.K ω' H' G.ret v d f → f.Nodup → (∀ a ∈ f, ω' a ∧ ¬ Fp φ' a) → D.rt v H')
    (Esc G.K G.cls G.E ω (Fp φ) H) → tO G.toGm sh m σ H (fun x H1 => gName i x σ H1 D.nx) := fun {sh m} hsh ω δ φ s o => ⟨ω, δ, φ, s, (Out.bind o).mono (fun r hr ω' H' φ' v f st s' ow nd hf => by
      obtain ⟨hi', hr⟩ := put_inv (Out.bind hr)
      rw [← hsh] at ow
      exact hr ω' H' _ _ (put_step (K := G.K) (κ := G.κ) (σ := σ) (δ := δ) st i) (s'.put i hi' ow nd hf) (pin_set p hp)) fun _ _ z => z⟩
  show tLc _ _ _ _ _ σ H (fun x H1 => gName i x σ H1 D.nx)
  refine tLc_of nx ?_
  rcases hsh with hsh | hsh
  · exact key hsh ω δ φ s o
  · -- let go at once
    obtain ⟨ω, δ, φ, s, o⟩ := key (m := eF (fComp (own.map (·.2)) w t c e)) hsh ω δ φ s o
    refine ⟨ω, δ, φ, s, o.mono (fun r hr ω' H' φ' v f st s' ow nd hf => ?_) fun _ _ z => z⟩
    refine hr (without ω' f) H' φ' v [] ⟨st.keep, fun a z => st.om a z.1, fun a z n => ⟨st.stay a z n, fun m => ?_⟩, fun a z => z.elim (fun z => st.fp a (.inl z)) fun z => absurd z (by simp), st.sub, st.wf⟩ (s'.less fun a ha => (hf a ha).2) (.im (Own.let f _ _ _ _ (fun a ha => ha) ow s'.wf)) .nil fun a ha => absurd ha (by simp)
    rcases st.fp a (.inr m) with q | q
    · exact n q
    · obtain ⟨xs, q2⟩ := st.wf a z
      rw [q] at q2; cases q2
end

/-! ### defs: promises, calls -/
def spP (K : PySem.W.Frag) (cls : Cl) (s : Sh) (n : Nat) (F : List D → Rs D) : Sp := fun vs H Q E => vs.length = n ∧ ∃ ω ds, Wf ω H ∧ Reps K ω H vs ds ∧
  Out (F ds) (fun d => ∀ ω' H' v f, Step ω (fun _ => False) H ω' (fun a => a ∈ f) H' → Wf ω' H' → Own K ω' H' s v d f → f.Nodup → (∀ a ∈ f, ω' a) → Q v H') (Esc K cls E ω (fun _ => False) H)
/-- .. the first argument a list of the caller's, that may be changed -/
def spM (K : PySem.W.Frag) (cls : Cl) (s0 s : Sh) (n : Nat) (F : List D → Rs (D × D)) : Sp := fun vs H Q E => vs.length = n ∧ ∃ ω v0 vr d0 ds f0, vs = v0 :: vr ∧ Wf ω H ∧ Own K ω H s0 v0 d0 f0 ∧ f0.Nodup ∧ (∀ a ∈ f0, ω a) ∧ Reps K ω H vr ds ∧
  Out (F (d0 :: ds)) (fun r => ∀ ω' H' v f f0', Step ω (fun a => a ∈ f0) H ω' (fun a => a ∈ f0' ∨ a ∈ f) H' → Wf ω' H' → Own K ω' H' s0 v0 r.2 f0' → f0'.Nodup → (∀ a ∈ f0', ω' a) → Own K ω' H' s v r.1 f → f.Nodup → (∀ a ∈ f, ω' a ∧ a ∉ f0') → Q v H') (Esc K cls E ω (fun a => a ∈ f0) H)
theorem Slots.frame {K : PySem.W.Frag} {κ : Kn} {ω ω' P P' : Om} {H H' : Hp} {σ : L2.St} {δ : Dl} {φ : Fps} (s : Slots K κ ω H σ δ φ) (st : Step ω P H ω' P' H') (n : ∀ a, Fp φ a → ¬ P a) (wf : Wf ω' H') : Slots K κ ω' H' σ δ φ where
  len := s.len
  at_ := fun i d h => by
    obtain ⟨v, h1, h2⟩ := s.at_ i d h
    refine ⟨v, h1, Own.mono st.grow d _ _ _ (fun a ha => ?_) h2⟩
    obtain ⟨xs, q⟩ := Own.lsts d _ _ _ h2 a ha
    rw [q, st.keep a _ q (n a ⟨i, ha⟩)]
  nod := s.nod
  dis := s.dis
  sub := fun a h => st.stay a (s.sub a h) (n a h)
  wf := wf
def mCall (F : List D → Rs D) (m : Sm) : Em := fun δ => m δ >>= fun r => F r.1 >>= fun d => .ok (d, r.2)
section
variable {X : Cx} {G : Gm} {k : Nat} {f : Addr} {fd : FuncData} {ps : List Str} {x : Str} {p pos : Pos} {e : Expr} {es : List Expr}
theorem call_of {n : Nat} {F : List D → Rs D} {s : Sh} {m : Sm} {σ : L2.St} {H : Hp} {Q : VK} (hn : ps.length = n) (h : tO G s (mCall F m) σ H Q) (hl : ∀ δ r, m δ = .ok r → r.1.length = n) : tCall (spP G.K G.cls s n F) [] G.E (tS G m) σ H Q := by
  obtain ⟨ω, δ, φ, sl, o⟩ := h
  have o1 := Out.bind o
  refine ⟨ω, δ, φ, sl, ?_⟩
  cases em : m δ with
  | no => rw [em] at o1; exact o1.elim
  | ex c a => rw [em] at o1; exact o1
  | ok r =>
    rw [em] at o1
    intro ω' H' φ' vs st s' rp
    have o2 : Out (F r.1 >>= fun d => .ok (d, r.2)) _ _ := o1
    refine ⟨by rw [List.append_nil, rp.length]; exact hl δ r em, ω', r.1, s'.wf, by rw [List.append_nil]; exact rp, (Out.bind o2).mono (fun d hd ω2 H2 v f2 st2 wf2 ow nd hf => ?_) fun c a z => ?_⟩
    · have s2 := s'.frame st2 (fun _ _ z => z) wf2
      have fresh : ∀ a ∈ f2, H' a = none := fun a ha => (st2.fp a ha).resolve_left id
      refine hd ω2 H2 φ' v f2 (st.trans ⟨fun a o h _ => st2.keep a o h id, st2.om, fun a h _ => st2.stay a h id, fun a z => z.elim .inl fun z => .inr (fresh a z), s'.sub, s'.wf⟩) s2 ow nd fun a ha => ⟨hf a ha, fun z => ?_⟩
      obtain ⟨xs, q⟩ := s'.wf a (s'.sub a z)
      rw [fresh a ha] at q; cases q
    · exact fun ω2 P2 H2 dx v st2 e2 r2 => z ω2 P2 H2 dx v (st.trans ⟨fun a o h n => st2.keep a o h (fun z => z), st2.om, fun a h _ => st2.stay a h id, fun a z => (st2.fp a z).elim False.elim .inr, s'.sub, s'.wf⟩) e2 r2
/-- a list of so many runs -/
def Len (n : Nat) (m : Sm) : Prop := ∀ δ r, m δ = .ok r → r.1.length = n
theorem len0 : Len 0 sNil := fun δ r h => by cases h; rfl
theorem lenS {n : Nat} {m : Em} {ms : Sm} (h : Len n ms) : Len (n + 1) (sCons m ms) := fun δ r q => by
  unfold sCons at q
  cases e1 : m δ with
  | ok a =>
    rw [e1] at q
    cases e2 : ms a.2 with
    | ok b =>
      have q : (ms a.2 >>= fun q => Rs.ok (a.1 :: q.1, q.2)) = .ok r := q
      rw [e2] at q
      cases q
      simp [h _ _ e2]
    | ex c a' => have q : (ms a.2 >>= fun q => Rs.ok (a.1 :: q.1, q.2)) = .ok r := q; rw [e2] at q; cases q
    | no => have q : (ms a.2 >>= fun q => Rs.ok (a.1 :: q.1, q.2)) = .ok r := q; rw [e2] at q; cases q
  | ex c a => rw [e1] at q; cases q
  | no => rw [e1] at q; cases q
/-- f(e, ..) -/
theorem xcO {n : Nat} {F : List D → Rs D} {s : Sh} {m : Sm} (FF : FnOk X.prog X.w X.K X.mg X.base (L2.CX X.prog X.w) k f fd ps (spP G.K G.cls s n F)) (hr : Room k X.A) (hm : X.mg x = some (.ref f)) (hk : PySem.W.keepIn X.K (.ref f) = true) (hb : Binds X.K fd ps []) (hx : Passes (L2.CX X.prog X.w) X G.E)
    (ha : PA X (e :: es) (tS G m)) (hl : Len n m) (hn : ps.length = n := by rfl) (hg : Gl X x := by rfl) (hdb : (x == ("__debug__" : Str)) = false := by decide) (he : starEach (e :: es) X.env = (false, eval e X.env) :: starEach es X.env := by rfl) (hpl : (backTo pos (starEach es X.env)).any (·.1) = false := by rfl) :
    PE X (.Call (.Name x p) (e :: es) [] pos) (tO G s (mCall F m)) :=
  pe_if (pe_call FF hr hg hm hk hb .nil hx ha hdb he hpl) fun σ H Q h => call_of hn h hl
theorem xc0 {F : List D → Rs D} {s : Sh} (FF : FnOk X.prog X.w X.K X.mg X.base (L2.CX X.prog X.w) k f fd ps (spP G.K G.cls s 0 F)) (hr : Room k X.A) (hm : X.mg x = some (.ref f)) (hk : PySem.W.keepIn X.K (.ref f) = true) (hb : Binds X.K fd ps []) (hx : Passes (L2.CX X.prog X.w) X G.E)
    (hn : ps.length = 0 := by rfl) (hg : Gl X x := by rfl) (hdb : (x == ("__debug__" : Str)) = false := by decide) : PE X (.Call (.Name x p) [] [] pos) (tO G s (mCall F sNil)) := by
  refine pe_if (pe_call0 FF hr hg hm hk hb .nil hx hdb) fun σ H Q h => ?_
  obtain ⟨ω, δ, φ, s1, h⟩ := call_of hn h len0
  exact h ω H φ [] s1.refl s1 .nil
/-- f(own, e, ..), own a list of ours in a slot, that f may change -/
def mCallM (i : Nat) (F : List D → Rs (D × D)) (m : Sm) : Em := fun δ => match δ[i]? with
  | some (some _) => m δ >>= fun r => match r.2[i]? with
    | some (some d0) => F (d0 :: r.1) >>= fun q => .ok (q.1, r.2.set i (some q.2))
    | _ => .no
  | _ => .no
theorem Slots.swap {K : PySem.W.Frag} {κ : Kn} {ω ω' : Om} {H H' : Hp} {σ : L2.St} {δ : Dl} {φ : Fps} {i : Nat} {f0 f : List Addr} {v0 : V} {d0 : D} (s : Slots K κ ω H σ δ φ) (hi : σ[i]? = some (some v0)) (hil : i < δ.length) (st : Step ω (fun a => a ∈ φ i) H ω' (fun a => a ∈ f0 ∨ a ∈ f) H') (wf : Wf ω' H')
    (o0 : Own K ω' H' (κ i) v0 d0 f0) (n0 : f0.Nodup) (h0 : ∀ a ∈ f0, ω' a) (hf : ∀ a ∈ f, ω' a ∧ a ∉ f0) :
    Slots K κ ω' H' σ (δ.set i (some d0)) (fun j => if j = i then f0 else φ j) ∧ Step ω (Fp φ) H ω' (fun a => Fp (fun j => if j = i then f0 else φ j) a ∨ a ∈ f) H' ∧ ∀ a ∈ f, ω' a ∧ ¬ Fp (fun j => if j = i then f0 else φ j) a := by
  have ap : ∀ j a, j ≠ i → a ∈ φ j → a ∉ f0 ∧ a ∉ f := fun j a n h => by
    obtain ⟨xs, q⟩ := s.wf a (s.sub a ⟨j, h⟩)
    constructor
    · intro z
      rcases st.fp a (.inl z) with z | z
      · exact s.dis j i a n h z
      · rw [q] at z; cases z
    · intro z
      rcases st.fp a (.inr z) with z | z
      · exact s.dis j i a n h z
      · rw [q] at z; cases z
  refine ⟨⟨by rw [List.length_set]; exact s.len, fun j d h => ?_, fun j => by split <;> first | exact n0 | exact s.nod j, fun j k a n h => ?_, fun a ⟨j, h⟩ => ?_, wf⟩, ⟨fun a o h n => st.keep a o h fun z => n ⟨i, z⟩, st.om, fun a h n => st.stay a h fun z => n ⟨i, z⟩, fun a z => ?_, s.sub, s.wf⟩, fun a ha => ⟨(hf a ha).1, fun ⟨j, h⟩ => ?_⟩⟩
  · by_cases e : i = j
    · subst e
      rw [List.getElem?_set_self hil] at h
      cases h
      rw [if_pos rfl]
      exact ⟨v0, hi, o0⟩
    · rw [List.getElem?_set_ne e] at h
      rw [if_neg (Ne.symm e)]
      obtain ⟨v, h1, h2⟩ := s.at_ j d h
      refine ⟨v, h1, Own.mono st.grow d _ _ _ (fun a ha => ?_) h2⟩
      obtain ⟨xs, q⟩ := Own.lsts d _ _ _ h2 a ha
      rw [q, st.keep a _ q fun z => s.dis j i a (Ne.symm e) ha z]
  · split at h
    · rename_i ej
      rw [if_neg (by rw [← ej]; exact Ne.symm n)]
      exact fun z => (ap k a (by rw [← ej]; exact Ne.symm n) z).1 h
    · rename_i nj
      split
      · exact (ap j a nj h).1
      · exact s.dis j k a n h
  · dsimp only at h
    split at h
    · exact h0 a h
    · rename_i nj
      exact st.stay a (s.sub a ⟨j, h⟩) fun z => s.dis j i a nj h z
  · rcases z with ⟨j, h⟩ | z
    · dsimp only at h
      split at h
      · exact (st.fp a (.inl h)).imp (fun z => ⟨i, z⟩) id
      · exact .inl ⟨j, h⟩
    · exact (st.fp a (.inr z)).imp (fun z => ⟨i, z⟩) id
  · dsimp only at h
    split at h
    · exact (hf a ha).2 h
    · rename_i nj
      exact (ap j a nj h).2 ha
theorem xcM (i : Nat) {n : Nat} {F : List D → Rs (D × D)} {s0 s : Sh} {m : Sm} {y : Str} {py : Pos} (FF : FnOk X.prog X.w X.K X.mg X.base (L2.CX X.prog X.w) k f fd ps (spM G.K G.cls s0 s (n + 1) F)) (hr : Room k X.A) (hm : X.mg x = some (.ref f)) (hk : PySem.W.keepIn X.K (.ref f) = true) (hb : Binds X.K fd ps []) (hx : Passes (L2.CX X.prog X.w) X G.E)
    (ha : PA X es (tS G m)) (hl : Len n m) (hs0 : G.κ i = s0 := by rfl) (hN : X.N[i]? = some y := by rfl) (hv : Vis X.env.scope y := by first | exact Or.inl rfl | exact Or.inr (Or.inl rfl) | exact Or.inr (Or.inr rfl)) (hyd : (y == ("__debug__" : Str)) = false := by decide)
    (hcd : (y == ("__classdict__" : Str)) = false := by decide) (hg : Gl X x := by rfl) (hdb : (x == ("__debug__" : Str)) = false := by decide) (he : starEach (.Name y py :: es) X.env = (false, eval (.Name y py) X.env) :: starEach es X.env := by rfl) (hpl : (backTo pos (starEach es X.env)).any (·.1) = false := by rfl) :
    PE X (.Call (.Name x p) (.Name y py :: es) [] pos) (tO G s (mCallM i F m)) := by
  refine pe_if (pe_call FF hr hg hm hk hb .nil hx (pa_cons (pe_var hN hv hyd hcd) ha he) hdb he hpl) fun σ H Q ⟨ω, δ, φ, sl, o⟩ => ?_
  cases e0 : δ[i]? with
  | none => simp only [mCallM, e0] at o; exact o.elim
  | some z0 =>
  cases z0 with
  | none => simp only [mCallM, e0] at o; exact o.elim
  | some dd =>
  simp only [mCallM, e0] at o
  obtain ⟨v0, hv0, _⟩ := sl.at_ i dd e0
  refine ⟨v0, hv0, ω, δ, φ, sl, ?_⟩
  have o1 := Out.bind o
  cases em : m δ with
  | no => rw [em] at o1; exact o1.elim
  | ex c a => rw [em] at o1; exact o1
  | ok r =>
    rw [em] at o1
    intro ω' H' φ' vs st s' rp
    have o2 : Out (match r.2[i]? with
      | some (some d0) => F (d0 :: r.1) >>= fun q => .ok (q.1, r.2.set i (some q.2))
      | _ => .no) _ _ := o1
    cases e1 : r.2[i]? with
    | none => simp only [e1] at o2; exact o2.elim
    | some z =>
    cases z with
    | none => simp only [e1] at o2; exact o2.elim
    | some d0 =>
    simp only [e1] at o2
    obtain ⟨v1, hv1, ow1⟩ := s'.at_ i d0 e1
    rw [hv0] at hv1
    cases hv1
    rw [hs0] at ow1
    have hil : i < r.2.length := (List.getElem?_eq_some_iff.mp e1).1
    show spM G.K G.cls s0 s (n + 1) F (v0 :: vs ++ []) H' Q G.E
    rw [List.append_nil]
    refine ⟨by rw [List.length_cons, rp.length, hl δ r em], ω', v0, vs, d0, r.1, φ' i, rfl, s'.wf, ow1, s'.nod i, fun a ha => s'.sub a ⟨i, ha⟩, rp, (Out.bind o2).mono (fun q hq ω2 H2 v f2 f0 st2 wf2 o0 n0 h0 ow nd hf => ?_) fun c a z => ?_⟩
    · rw [← hs0] at o0
      obtain ⟨s2, st3, hf2⟩ := s'.swap hv0 hil st2 wf2 o0 n0 h0 hf
      exact hq ω2 H2 _ v f2 (st.trans st3) s2 ow nd hf2
    · exact fun ω2 P2 H2 dx v st2 e2 r2 => z ω2 P2 H2 dx v (st.trans ⟨fun a o h n => st2.keep a o h fun z => n ⟨i, z⟩, st2.om, fun a h n => st2.stay a h fun z => n ⟨i, z⟩, fun a z => (st2.fp a z).imp (fun z => ⟨i, z⟩) id, s'.sub, s'.wf⟩) e2 r2
end

/-! ### a def keeps its promise, by its body -/
def flo (s : Sh) (f : Fl) : Rs D := match f with
  | .rt d => .ok d
  | .nx => match s with
    | .im => .ok .none
    | _ => .no
  | _ => .no
/-- a def without lists of its caller's -/
def runP (s : Sh) (N : Nat) (m : Pm) : List D → Rs D := fun ds => m (ds.map some ++ List.replicate (N - ds.length) none) >>= fun r => flo s r.1
/-- .. with one, the first -/
def runM (s : Sh) (N : Nat) (m : Pm) : List D → Rs (D × D) := fun ds => m (ds.map some ++ List.replicate (N - ds.length) none) >>= fun r => flo s r.1 >>= fun d => match r.2[0]? with
  | some (some d0) => .ok (d, d0)
  | _ => .no
theorem slots_start {K : PySem.W.Frag} {κ : Kn} {ω : Om} {H : Hp} {N : List Str} {vs : List V} {ds : List D} (r : Reps K ω H vs ds) (wf : Wf ω H) (hk : ∀ i, i < ds.length → κ i = .im) : Slots K κ ω H (L2.start N vs) (ds.map some ++ List.replicate (N.length - ds.length) none) (fun _ => []) where
  len := by unfold L2.start; simp [r.length]
  at_ := fun i d h => by
    have hi : i < ds.length := by
      by_cases hi : i < ds.length
      · exact hi
      · rw [List.getElem?_append_right (by simpa using hi), List.getElem?_replicate] at h
        split at h <;> cases h
    rw [List.getElem?_append_left (by simpa using hi), List.getElem?_map] at h
    have h2 : ds[i]? = some d := by
      cases q : ds[i]? with
      | none => rw [q] at h; cases h
      | some e => rw [q] at h; cases h; rfl
    obtain ⟨v, h3, h4⟩ := r.getD h2
    refine ⟨v, ?_, by rw [hk i hi]; exact .im h4⟩
    unfold L2.start
    rw [List.getElem?_append_left (by simpa [r.length] using hi), List.getElem?_map, h3]
    rfl
  nod := fun _ => .nil
  dis := fun _ _ _ _ h => absurd h (by simp)
  sub := fun a ⟨_, h⟩ => absurd h (by simp)
  wf := wf
theorem slots_startM {K : PySem.W.Frag} {κ : Kn} {ω : Om} {H : Hp} {N : List Str} {v0 : V} {d0 : D} {f0 : List Addr} {vs : List V} {ds : List D} (o : Own K ω H (κ 0) v0 d0 f0) (nd : f0.Nodup) (h0 : ∀ a ∈ f0, ω a) (r : Reps K ω H vs ds) (wf : Wf ω H) (hk : ∀ i, 0 < i → i < ds.length + 1 → κ i = .im) :
    Slots K κ ω H (L2.start N (v0 :: vs)) ((d0 :: ds).map some ++ List.replicate (N.length - (d0 :: ds).length) none) (fun i => if i = 0 then f0 else []) where
  len := by unfold L2.start; simp [r.length]
  at_ := fun i d h => by
    cases i with
    | zero =>
      have e : d0 = d := by simpa using h
      subst e
      exact ⟨v0, by unfold L2.start; simp, by rw [if_pos rfl]; exact o⟩
    | succ i =>
      have s := slots_start (N := N.drop 1) (κ := fun j => κ (j + 1)) r wf (fun j hj => hk (j + 1) (Nat.succ_pos j) (by omega))
      have hlen : (N.drop 1).length - ds.length = N.length - (ds.length + 1) := by rw [List.length_drop]; omega
      have h' : (ds.map some ++ List.replicate ((N.drop 1).length - ds.length) none)[i]? = some (some d) := by
        rw [hlen]
        simpa using h
      obtain ⟨v, h1, h2⟩ := s.at_ i d h'
      refine ⟨v, ?_, by rw [if_neg (Nat.succ_ne_zero i)]; exact h2⟩
      unfold L2.start at h1 ⊢
      rw [r.length, hlen] at h1
      rw [List.length_cons, r.length]
      simpa using h1
  nod := fun i => by split <;> simp [nd]
  dis := fun i j a n h => by
    split at h
    · rename_i e
      rw [if_neg (by rw [← e]; exact Ne.symm n)]
      simp
    · simp at h
  sub := fun a ⟨i, h⟩ => by
    dsimp only at h
    split at h
    · exact h0 a h
    · simp at h
  wf := wf
abbrev gsOf (K : PySem.W.Frag) (cls : Cl) (E : XK) (κ : Kn) (pin : Nat → Bool) (ret : Sh) : Gs := { K := K, cls := cls, E := E, κ := κ, pin := pin, ret := ret }
section
variable {P : Program} {w : World} {K :
          PySem.W.Frag} {mg : Str → Option Value} {base : Heap}
theorem passes_cx {N ps : List Str} {qual : Str} {scope : Scope} {f : Addr} {cd : Value} {A : Around} {outer : List Env} {s : Shared} {H : Hp} {E : XK} : Passes (L2.CX P w) (cxOf (L2.CX P w) P w K mg base N qual scope f cd A outer s H E) E :=
  passes_call (W := fun cls d σ H => E cls d H) (takes_of rfl rfl rfl rfl) fun _ _ _ _ h => h
theorem passes_own {N ps : List Str} {qual : Str} {scope : Scope} {f : Addr} {cd : Value} {A : Around} {outer : List Env} {s : Shared} {H : Hp} {E : XK} : PassesOwn (model P w) (cxOf (L2.CX P w) P w K mg base N qual scope f cd A outer s H E).A (cxOf (L2.CX P w) P w K mg base N qual scope f cd A outer s H E).env (cxOf (L2.CX P w) P w K mg base N qual scope f cd A outer s H E).xe :=
  passes_of (X := cxOf (L2.CX P w) P w K mg base N qual scope f cd A outer s H E) rfl
theorem fl_inv {s : Sh} {f : Fl} {q : D → Prop} {e : Str → D → Prop} (h : Out (flo s f) q e) : (∃ d, f = .rt d ∧ q d) ∨ (f = .nx ∧ s = .im ∧ q .none) := by
  cases f with
  | rt d => exact .inl ⟨d, rfl, h⟩
  | nx =>
    cases s with
    | im => exact .inr ⟨rfl, rfl, h⟩
    | _ => exact h.elim
  | _ => exact h.elim
theorem def_okP {x qual : Str} {st : Stmt} {f : Addr} {fd : FuncData} {N ps : List Str} {k n : Nat} {cls : Cl} {κ : Kn} {ret : Sh} {m : Pm} (F : Fun K x qual st f fd) (S : FnScope N ps (defScope st)) (hn : ps.length = n) (hk : ∀ i, i < n → κ i = .im)
    (hb : ∀ (cdv : Value) (A : Around) (outer : List Env) (s : Shared) (H : Hp) (E : XK) (σ0 : L2.St), Room k (A.deeper (envOfC qual (defScope st) s.heap.objs.size f cdv)) →
      PSs (cxOf (L2.CX P w) P w K mg base N qual (defScope st) f cdv A outer s H E) (defBody st) (tP (gsOf K cls E κ (fun _ => false) ret) σ0 m)) :
    FnOk P w K mg base (L2.CX P w) (k + 1) f fd ps (spP K cls ret n (runP ret N.length m)) := by
  refine F.okX S (fun vs H Q E h => by rw [h.1, hn]) (fun cdv A outer s H vs Q E hr h => ⟨_, hb cdv A outer s H E (L2.start N vs) hr, ?_⟩)
  obtain ⟨hl, ω, ds, wf, rp, o⟩ := h
  have sl := slots_start (N := N) (κ := κ) rp wf (fun i hi => hk i (by rw [← hl, rp.length]; exact hi))
  refine ⟨fun _ _ => rfl, ω, _, _, sl, (Out.bind o).mono (fun r hr => ?_) fun c a z => ?_⟩
  · have em : ∀ a, ¬ Fp (fun _ => ([] : List Addr)) a := fun a ⟨_, z⟩ => by simp at z
    rcases fl_inv hr with ⟨d, e1, hq⟩ | ⟨e1, e2, hq⟩
    · simp only [e1]
      intro ω' H' σ' φ' v f st s' _ ow nd hf
      exact hq ω' H' v f ⟨fun a o h n => st.keep a o h (em a), st.om, fun a h n => st.stay a h (em a), fun a z => (st.fp a (.inr z)).imp (fun z => (em a z).elim) id, fun _ z => z.elim, st.wf⟩ s'.wf ow nd fun a ha => (hf a ha).1
    · simp only [e1]
      intro ω' H' σ' φ' st s' _
      subst e2
      exact hq ω' H' .non [] ⟨fun a o h n => st.keep a o h (em a), st.om, fun a h n => st.stay a h (em a), fun a z => absurd z (by simp), fun _ z => z.elim, st.wf⟩ s'.wf (.im .non) .nil fun a ha => absurd ha (by simp)
  · intro ω' P' H' dx v st e r
    have em : ∀ a, ¬ Fp (fun _ => ([] : List Addr)) a := fun a ⟨_, z⟩ => by simp at z
    exact z ω' P' H' dx v ⟨fun a o h n => st.keep a o h (em a), st.om, fun a h n => st.stay a h (em a), fun a z => (st.fp a z).imp (fun z => (em a z).elim) id, fun _ z => z.elim, st.wf⟩ e r
theorem def_okM {x qual : Str} {st : Stmt} {f : Addr} {fd : FuncData} {N ps : List Str} {k n : Nat} {cls : Cl} {κ : Kn} {ret s0 : Sh} {m : Pm} (F : Fun K x qual st f fd) (S : FnScope N ps (defScope st)) (hn : ps.length = n) (hk : ∀ i, 0 < i → i < n → κ i = .im) (h0 : κ 0 = s0)
    (hb : ∀ (cdv : Value) (A : Around) (outer : List Env) (s : Shared) (H : Hp) (E : XK) (σ0 : L2.St), Room k (A.deeper (envOfC qual (defScope st) s.heap.objs.size f cdv)) →
      PSs (cxOf (L2.CX P w) P w K mg base N qual (defScope st) f cdv A outer s H E) (defBody st) (tP (gsOf K cls E κ (fun i => i == 0) ret) σ0 m)) :
    FnOk P w K mg base (L2.CX P w) (k + 1) f fd ps (spM K cls s0 ret n (runM ret N.length m)) := by
  refine F.okX S (fun vs H Q E h => by rw [h.1, hn]) (fun cdv A outer s H vs Q E hr h => ⟨_, hb cdv A outer s H E (L2.start N vs) hr, ?_⟩)
  obtain ⟨hl, ω, v0, vr, d0, ds, f0, rfl, wf, o0, n0, hf0, rp, o⟩ := h
  rw [← h0] at o0
  have sl := slots_startM (N := N) (κ := κ) o0 n0 hf0 rp wf (fun i h1 hi => hk i h1 (by rw [← hl, List.length_cons, rp.length]; exact hi))
  have em : ∀ a, Fp (fun i => if i = 0 then f0 else []) a ↔ a ∈ f0 := fun a => ⟨fun ⟨i, z⟩ => by
    dsimp only at z
    split at z
    · exact z
    · simp at z, fun z => ⟨0, (if_pos rfl : (if (0 : Nat) = 0 then f0 else []) = f0) ▸ z⟩⟩
  refine ⟨fun _ _ => rfl, ω, _, _, sl, (Out.bind o).mono (fun r hr => ?_) fun c a z => ?_⟩
  · have fin : ∀ (d : D), Out (match r.2[0]? with | some (some d0) => (.ok (d, d0) : Rs (D × D)) | _ => .no) (fun r => ∀ ω' H' v f f0', Step ω (fun a => a ∈ f0) H ω' (fun a => a ∈ f0' ∨ a ∈ f) H' → Wf ω' H' → Own K ω' H' s0 v0 r.2 f0' → f0'.Nodup → (∀ a ∈ f0', ω' a) → Own K ω' H' ret v r.1 f → f.Nodup → (∀ a ∈ f, ω' a ∧ a ∉ f0') → Q v H') (Esc K cls E ω (fun a => a ∈ f0) H) → ∀ ω' H' σ' φ' v f, Step ω (Fp (fun i => if i = 0 then f0 else [])) H ω' (fun a => Fp φ' a ∨ a ∈ f) H' → Slots K κ ω' H' σ' r.2 φ' → Pin (fun i => i == 0) (L2.start N (v0 :: vr)) σ' → Own K ω' H' ret v d f → f.Nodup → (∀ a ∈ f, ω' a ∧ ¬ Fp φ' a) → Q v H' := by
      intro d hq ω' H' σ' φ' v f st s' pn ow nd hf
      cases e0 : r.2[0]? with
      | none => simp only [e0] at hq; exact hq.elim
      | some z =>
      cases z with
      | none => simp only [e0] at hq; exact hq.elim
      | some d1 =>
      simp only [e0] at hq
      obtain ⟨v1, hv1, ow1⟩ := s'.at_ 0 d1 e0
      have hp : σ'[0]? = some (some v0) := by
        rw [pn 0 rfl]
        unfold L2.start
        simp
      rw [hp] at hv1
      cases hv1
      rw [h0] at ow1
      exact hq ω' H' v f (φ' 0) ⟨fun a o h n => st.keep a o h fun z => n ((em a).mp z), st.om, fun a h n => st.stay a h fun z => n ((em a).mp z), fun a z => (z.elim (fun z => st.fp a (.inl ⟨0, z⟩)) fun z => st.fp a (.inr z)).imp (fun z => (em a).mp z) id, hf0, st.wf⟩ s'.wf ow1 (s'.nod 0) (fun a ha => s'.sub a ⟨0, ha⟩) ow nd fun a ha => ⟨(hf a ha).1, fun z => (hf a ha).2 ⟨0, z⟩⟩
    rcases fl_inv (Out.bind hr) with ⟨d, e1, hq⟩ | ⟨e1, e2, hq⟩
    · simp only [e1]
      exact fin d hq
    · simp only [e1]
      intro ω' H' σ' φ' st s' pn
      subst e2
      exact fin .none hq ω' H' σ' φ' .non [] ⟨st.keep, st.om, st.stay, fun a z => z.elim (st.fp a) fun z => absurd z (by simp), st.sub, st.wf⟩ s' pn (.im .non) .nil fun a ha => absurd ha (by simp)
  · intro ω' P' H' dx v st e r
    exact z ω' P' H' dx v ⟨fun a o h n => st.keep a o h fun z => n ((em a).mp z), st.om, fun a h n => st.stay a h fun z => n ((em a).mp z), fun a z => (st.fp a z).imp (fun z => (em a).mp z) id, hf0, st.wf⟩ e r
end
end Zd

namespace Zd
open PySem PySem.Spec
open PyProof.Rows L2

theorem OpR.or {X : Cx} {f : Value → Value → Sem Value} {r r' : R2} (h : OpR X f r) (h' : OpR X f r') : OpR X f (fun x y H Q => r x y H Q ∨ r' x y H Q) := by
  intro pins s σ H x y v u
  intro Q I rx ry q
  rcases q with q | q
  · exact (h pins s σ H x y) v u Q I rx ry q
  · exact (h' pins s σ H x y) v u Q I rx ry q
section
variable {K : PySem.W.Frag} {ω : Om} {H H' : Hp}
theorem ext_grow (wf : Wf ω H) (e : Ext H H') : Grow ω H ω H' := ⟨fun a o h _ => e a o h, wf, fun a z => .inl z⟩
theorem Lk.ext {v : V} {d : D} (h : Lk K ω H v d) (wf : Wf ω H) (e : Ext H H') : Lk K ω H' v d := by
  rcases h with h | ⟨a, vs, ds, rfl, rfl, q, r⟩
  · exact .inl (Rep.up h (ext_grow wf e))
  · exact .inr ⟨a, vs, ds, rfl, rfl, e a _ q, r.up (ext_grow wf e)⟩
theorem Rep.of_int {i : Int} : Rep K ω H (.int i) (.int i) := .int i
end

/-! ### + -/
def gAdd : D → D → Rs D
  | .int i, .int j => .ok (.int (i + j))
  | .str x, .str y => if x.length + y.length ≤ sizeLine then .ok (.str (x ++ y)) else .no
  | .tuple xs, .tuple ys => if xs.length + ys.length ≤ sizeLine then .ok (.tuple (xs ++ ys)) else .no
  | .list xs, .list ys => if xs.length + ys.length ≤ sizeLine then .ok (.list (xs ++ ys)) else .no
  | _, _ => .no
def fAdd : D → D → Rs (List D)
  | .list xs, .list ys => if xs.length + ys.length ≤ sizeLine then .ok (xs ++ ys) else .no
  | _, _ => .no
def rCatR : R2 := fun x y H Q => ∃ l b xs zs, x = .ref l ∧ y = .ref b ∧ Rd H l (.lst xs) ∧ Rd H b (.lst zs) ∧ xs.length + zs.length ≤ sizeLine ∧ ∀ p, H p = none → Q (.ref p) (upd H p (.lst (xs ++ zs)))
section
variable {X : Cx}
theorem op_catR : OpR X (binaryOp .Add) rCatR := by
  rintro pins s σ H x y v u Q I rx ry ⟨a, b, us, ws, rfl, rfl, hU, hW, small, q⟩
  cases rx; cases ry
  obtain ⟨_, is1, _, v1, g1⟩ := hU.ok I.hok
  obtain ⟨_, is2, _, v2, g2⟩ := hW.ok I.hok
  have sz : is1.length + is2.length ≤ sizeLine := by rw [← v1.length, ← v2.length]; exact small
  refine PySem.P.add_list g1 g2 ?_ (by simpa using sz)
  rw [show is1.toArray ++ is2.toArray = (is1 ++ is2).toArray by simp]
  have fits : (us ++ ws).length ≤ sizeLine := by rw [List.length_append]; exact small
  exact ⟨.ref _, _, I.lnew (t' := s.toks) (v1.append v2) fits, rfl, q _ I.fresh⟩
def rAddA (K : PySem.W.Frag) : R2 := fun x y H Q => ((((fun x y H Q => ∃ i j, x = .int i ∧ y = .int j ∧ Q (.int (i + j)) H) x y H Q ∨ (fun x y H Q => ∃ i j, x = .str i ∧ y = .str j ∧ i.length + j.length ≤ sizeLine ∧ Q (.str (i ++ j)) H) x y H Q) ∨ rCatA K x y H Q) ∨ rCatR x y H Q)
theorem op_addA : OpR X (binaryOp .Add) (rAddA X.K) := ((op_add.or op_add_str).or op_catA).or op_catR
end
theorem if_inv {α : Type} {c : Prop} [Decidable c] {x : Rs α} {q : α → Prop} {e : Str → D → Prop} (h : Out (if c then x else .no) q e) : c ∧ Out x q e := by
  by_cases hc : c
  · rw [if_pos hc] at h; exact ⟨hc, h⟩
  · rw [if_neg hc] at h; exact h.elim
theorem bi_add {K : PySem.W.Frag} : BiD K (rAddA K) gAdd := by
  intro ω H x y d e Q wf l1 l2 o
  cases d with
  | int i => cases e with
    | int j => rw [l1.int, l2.int]; exact .inl (.inl (.inl ⟨i, j, rfl, rfl, o H _ (Ext.refl H) (.int _)⟩))
    | _ => exact o.elim
  | str a => cases e with
    | str b =>
      obtain ⟨hc, o⟩ := if_inv o
      rw [l1.str, l2.str]; exact .inl (.inl (.inr ⟨a, b, rfl, rfl, hc, o H _ (Ext.refl H) (.str _)⟩))
    | _ => exact o.elim
  | tuple xs => cases e with
    | tuple ys =>
      obtain ⟨hc, o⟩ := if_inv o
      obtain ⟨a, vs, rfl, h1, r1⟩ := l1.tuple
      obtain ⟨b, ws, rfl, h2, r2⟩ := l2.tuple
      refine .inl (.inr ⟨a, b, vs, ws, rfl, rfl, h1, h2, by rw [r1.length, r2.length]; exact hc, fun e => ?_, fun e1 e2 => ?_, fun _ _ p hp => ?_⟩)
      · subst e
        cases r1
        exact o H _ (Ext.refl H) (.tup h2 r2)
      · subst e2
        cases r2
        rw [List.append_nil] at o
        exact o H _ (Ext.refl H) (.tup h1 r1)
      · exact o _ _ (Ext.upd hp) (Rep.newT wf hp (r1.append r2))
    | _ => exact o.elim
  | list xs => cases e with
    | list ys =>
      obtain ⟨hc, o⟩ := if_inv o
      obtain ⟨a, vs, rfl, h1, r1⟩ := l1.rdl
      obtain ⟨b, ws, rfl, h2, r2⟩ := l2.rdl
      exact .inr ⟨a, b, vs, ws, rfl, rfl, h1, h2, by rw [r1.length, r2.length]; exact hc, fun p hp => o _ _ (Ext.upd hp) (Rep.newL wf hp (r1.append r2))⟩
    | _ => exact o.elim
  | _ => cases e <;> exact o.elim
theorem bf_add {K : PySem.W.Frag} : BiF K (rAddA K) fAdd := by
  intro ω H x y d e Q wf l1 l2 o
  cases d with
  | list xs => cases e with
    | list ys =>
      obtain ⟨hc, o⟩ := if_inv o
      obtain ⟨a, vs, rfl, h1, r1⟩ := l1.rdl
      obtain ⟨b, ws, rfl, h2, r2⟩ := l2.rdl
      exact .inr ⟨a, b, vs, ws, rfl, rfl, h1, h2, by rw [r1.length, r2.length]; exact hc, fun p hp => o p _ hp (r1.append r2)⟩
    | _ => exact o.elim
  | _ => cases e <;> exact o.elim
theorem nx_if {α : Type} {c : Prop} [Decidable c] {a : α} {k : Str} {b : D} : (if c then Rs.ok a else .no) ≠ .ex k b := by
  split <;> (intro z; cases z)
theorem nx_add : NoX2 gAdd := fun x y c a => by
  cases x <;> cases y <;> first | exact nx_if | (intro z; cases z)
theorem nx_fadd : NoX2 fAdd := fun x y c a => by
  cases x <;> cases y <;> first | exact nx_if | (intro z; cases z)

/-! ### - -/
def gSub : D → D → Rs D
  | .int i, .int j => .ok (.int (i - j))
  | _, _ => .no
theorem bi_sub {K : PySem.W.Frag} : BiD K (rI0 fun i j => .int (i - j)) gSub := by
  intro ω H x y d e Q wf l1 l2 o
  cases d with
  | int i => cases e with
    | int j => rw [l1.int, l2.int]; exact ⟨i, j, rfl, rfl, o H _ (Ext.refl H) (.int _)⟩
    | _ => exact o.elim
  | _ => cases e <;> exact o.elim
theorem nx_sub : NoX2 gSub := fun x y c a => by cases x <;> cases y <;> (intro z; cases z)

/-! ### * -/
def rep {α : Type} (k : Int) (xs : List α) : List α := (List.replicate k.toNat xs).flatten
def gMul : D → D → Rs D
  | .int i, .int j => if i.natAbs.log2 + j.natAbs.log2 < 1000000 then .ok (.int (i * j)) else .no
  | .list xs, .int k => if -(2 ^ 63) ≤ k ∧ k < 2 ^ 63 ∧ xs.length * k.toNat ≤ sizeLine then .ok (.list (rep k xs)) else .no
  | _, _ => .no
def rRepR : R2 := fun x y H Q => ∃ l k xs, x = .ref l ∧ y = .int k ∧ Rd H l (.lst xs) ∧ -(2 ^ 63) ≤ k ∧ k < 2 ^ 63 ∧ xs.length * k.toNat ≤ sizeLine ∧
  ∀ p, H p = none → Q (.ref p) (upd H p (.lst (rep k xs)))
/-- what the model makes of a list, so many times -/
theorem rep_arr (n : Nat) (is : List Value) : List.foldl (fun a b => a ++ b) #[] (List.replicate (if is.toArray.isEmpty = true then 0 else n) is.toArray) = (List.replicate n is).flatten.toArray := by
  have all : ∀ m : Nat, List.foldl (fun a b => a ++ b) #[] (List.replicate m is.toArray) = (List.replicate m is).flatten.toArray := fun m => by
    have h := foldl_rep is m []
    rwa [List.nil_append] at h
  rw [all]
  cases is <;> simp
theorem op_repR {X : Cx} : OpR X (binaryOp .Mult) rRepR := by
  rintro pins s σ H x y v u Q I rx ry ⟨a, n, us, rfl, rfl, hU, lo, hi, small, q⟩
  cases rx
  obtain ⟨tk, rfl⟩ := ry
  obtain ⟨_, is, m, vs, g⟩ := hU.ok I.hok
  have sz : is.toArray.size * n.toNat ≤ sizeLine := by rw [List.size_toArray, ← vs.length]; exact small
  have cap : ¬ is.toArray.size * n.toNat > (2 ^ 63 - 1) / 8 := fun z => absurd (Nat.lt_of_lt_of_le z sz) (by decide)
  have fit : ¬ (!Builtin.List.listFitsIndex n) = true := by rw [fitsIndex_both lo hi]; decide
  have few : ¬ Builtin.List.listTooLong (is.toArray.size * n.toNat) = true := by rw [notLongL sz]; decide
  refine wpAny_binaryOp_repeat_ref (T := "list") (U := "int") (by decide) ⟨_, g, rfl⟩ (fun z => typeIs_int z n tk) noFill_list_mul
    F.fills_int_mul F.slot_int_rmul repeat_list F.slot_int_index.lookup ?_
  refine call_meets F.slot_int_rmul (typeIs_int s n tk) F.entry_int_rmul (F.args_int_rmul_2 _ _)
    (int___rmul___int_list n tk a is.toArray m) ⟨g, rfl, ⟨_, g, rfl⟩, ?_⟩
  refine call_meets F.slot_list_mul ⟨_, g, rfl⟩ F.entry_list_mul (F.args_list_mul_2 _ _)
    (AutoListH.list___mul___list_int_3 a is.toArray m n tk fit cap few) ⟨g, ?_⟩
  rw [rep_arr]
  have fits : ((List.replicate n.toNat us).flatten).length ≤ sizeLine := by rw [PyProof.Rows.lm_len_rep_flat, Nat.mul_comm]; exact small
  exact ⟨.ref _, _, I.lnew (t' := s.toks) (vs.rep n.toNat) fits, rfl, q _ I.fresh⟩
theorem bi_mul {K : PySem.W.Frag} : BiD K (fun x y H Q => rI CMulW (fun i j => .int (i * j)) x y H Q ∨ rRepR x y H Q) gMul := by
  intro ω H x y d e Q wf l1 l2 o
  cases d with
  | int i => cases e with
    | int j =>
      obtain ⟨hc, o⟩ := if_inv o
      rw [l1.int, l2.int]; exact .inl ⟨i, j, rfl, rfl, hc, o H _ (Ext.refl H) (.int _)⟩
    | _ => exact o.elim
  | list xs => cases e with
    | int k =>
      obtain ⟨⟨c1, c2, c3⟩, o⟩ := if_inv o
      obtain ⟨a, vs, rfl, h1, r1⟩ := l1.rdl
      rw [l2.int]
      exact .inr ⟨a, k, vs, rfl, rfl, h1, c1, c2, by rw [r1.length]; exact c3, fun p hp => o _ _ (Ext.upd hp) (Rep.newL wf hp (r1.rep k.toNat))⟩
    | _ => exact o.elim
  | _ => cases e <;> exact o.elim
theorem nx_mul : NoX2 gMul := fun x y c a => by
  cases x <;> cases y <;> first | exact nx_if | (intro z; cases z)
theorem op_mulA {X : Cx} : OpR X (binaryOp .Mult) (fun x y H Q => rI CMulW (fun i j => .int (i * j)) x y H Q ∨ rRepR x y H Q) := op_mulW.or op_repR

/-! ### // and % -/
def gDiv : D → D → Rs D
  | .int i, .int j => if j ≠ 0 ∧ j.natAbs.log2 < 9000 then .ok (.int (i.fdiv j)) else .no
  | _, _ => .no
def gMod : D → D → Rs D
  | .int i, .int j => if j ≠ 0 then .ok (.int (i.fmod j)) else .no
  | _, _ => .no
def gPow : D → D → Rs D
  | .int i, .int j => if 0 ≤ j ∧ j ≤ 1000000 ∧ i.natAbs < 2 ^ 64 then .ok (.int (i ^ j.toNat)) else .no
  | _, _ => .no
def CDivX (_ j : Int) : Prop := j ≠ 0 ∧ j.natAbs.log2 < 9000
theorem op_fdivX {X : Cx} : OpR X (binaryOp .FloorDiv) (rI CDivX fun i j => .int (i.fdiv j)) := opI fun i j _ _ _ _ _ hc q => floordiv_int hc.1 q (.inl (PyProof.noPylong_of_log2 hc.2))
theorem bi_div {K : PySem.W.Frag} : BiD K (rI CDivX fun i j => .int (i.fdiv j)) gDiv := by
  intro ω H x y d e Q wf l1 l2 o
  cases d with
  | int i => cases e with
    | int j =>
      obtain ⟨hc, o⟩ := if_inv o
      rw [l1.int, l2.int]; exact ⟨i, j, rfl, rfl, hc, o H _ (Ext.refl H) (.int _)⟩
    | _ => exact o.elim
  | _ => cases e <;> exact o.elim
theorem bi_mod {K : PySem.W.Frag} : BiD K (rI (fun _ j => j ≠ 0) fun i j => .int (i.fmod j)) gMod := by
  intro ω H x y d e Q wf l1 l2 o
  cases d with
  | int i => cases e with
    | int j =>
      obtain ⟨hc, o⟩ := if_inv o
      rw [l1.int, l2.int]; exact ⟨i, j, rfl, rfl, hc, o H _ (Ext.refl H) (.int _)⟩
    | _ => exact o.elim
  | _ => cases e <;> exact o.elim
theorem bi_pow {K : PySem.W.Frag} : BiD K (rI CPow fun i j => .int (i ^ j.toNat)) gPow := by
  intro ω H x y d e Q wf l1 l2 o
  cases d with
  | int i => cases e with
    | int j =>
      obtain ⟨hc, o⟩ := if_inv o
      rw [l1.int, l2.int]; exact ⟨i, j, rfl, rfl, hc, o H _ (Ext.refl H) (.int _)⟩
    | _ => exact o.elim
  | _ => cases e <;> exact o.elim
theorem nx_div : NoX2 gDiv := fun x y c a => by cases x <;> cases y <;> first | exact nx_if | (intro z; cases z)
theorem nx_mod : NoX2 gMod := fun x y c a => by cases x <;> cases y <;> first | exact nx_if | (intro z; cases z)
theorem nx_pow : NoX2 gPow := fun x y c a => by cases x <;> cases y <;> first | exact nx_if | (intro z; cases z)

section
variable {X : Cx} {G : Gm} {a b : Expr} {pos : Pos} {ta tb : Am}
theorem xAdd (ha : PE X a (tA1 G ta)) (hb : PE X b (tA1 G tb)) (hK : X.K = G.K := by rfl) : PE X (.BinOp a .Add b pos) (tI G (mB gAdd ta tb)) := bi (r := rAddA G.K) (hK ▸ op_addA) bi_add nx_add ha hb
theorem fAddL (ha : PE X a (tA1 G ta)) (hb : PE X b (tA1 G tb)) (hK : X.K = G.K := by rfl) : PE X (.BinOp a .Add b pos) (tF G (fB fAdd ta tb)) := biF (r := rAddA G.K) (hK ▸ op_addA) bf_add nx_fadd ha hb
theorem xSub (ha : PE X a (tA1 G ta)) (hb : PE X b (tA1 G tb)) : PE X (.BinOp a .Sub b pos) (tI G (mB gSub ta tb)) := bi op_sub bi_sub nx_sub ha hb
theorem xMul (ha : PE X a (tA1 G ta)) (hb : PE X b (tA1 G tb)) : PE X (.BinOp a .Mult b pos) (tI G (mB gMul ta tb)) := bi op_mulA bi_mul nx_mul ha hb
theorem xDiv (ha : PE X a (tA1 G ta)) (hb : PE X b (tA1 G tb)) : PE X (.BinOp a .FloorDiv b pos) (tI G (mB gDiv ta tb)) := bi op_fdivX bi_div nx_div ha hb
theorem xMod (ha : PE X a (tA1 G ta)) (hb : PE X b (tA1 G tb)) : PE X (.BinOp a .Mod b pos) (tI G (mB gMod ta tb)) := bi op_modN bi_mod nx_mod ha hb
theorem xPow (ha : PE X a (tA1 G ta)) (hb : PE X b (tA1 G tb)) : PE X (.BinOp a .Pow b pos) (tI G (mB gPow ta tb)) := bi op_pow bi_pow nx_pow ha hb
end

/-! ### one-place operations -/
section
variable {X : Cx} {G : Gm} {a b : Expr} {pos : Pos} {ta tb : Am}
theorem un {op : UnaryOp} {r : V → Hp → VK → Prop} {g : D → Rs D} (ho : UnR X (unaryOp op) r) (hd : UnD G.K r g) (nx : NoX g) (ha : PE X a (tA1 G ta)) : PE X (.UnaryOp op a pos) (tI G (mU g ta)) := by
  refine pe_if (pe_un ho ha) fun σ H Q ⟨ω, δ, φ, s, o⟩ => ⟨ω, δ, φ, s, (Out.bind o).mono (fun r1 h1 ω1 H1 φ1 x st1 s1 rx => ?_) fun _ _ z => z⟩
  obtain ⟨d, l1, h2⟩ := s1.got rx (Out.bind h1)
  refine hd ω1 H1 x d Q s1.wf l1 ((out_no (Out.bind h2) (nx d)).mono (fun z hz H' v ex rp => ?_) fun _ _ z => z)
  exact hz ω1 H' φ1 v (st1.trans (s1.step ex)) (s1.ext ex) rp
def gNeg : D → Rs D
  | .int i => .ok (.int (-i))
  | _ => .no
theorem ud_neg {K : PySem.W.Frag} : UnD K (rU fun i => .int (-i)) gNeg := by
  intro ω H x d Q wf l o
  cases d with
  | int i => rw [l.int]; exact ⟨i, rfl, o H _ (Ext.refl H) (.int _)⟩
  | _ => exact o.elim
theorem nx_neg : NoX gNeg := fun x c a => by cases x <;> (intro z; cases z)
theorem xNeg (ha : PE X a (tA1 G ta)) : PE X (.UnaryOp .USub a pos) (tI G (mU gNeg ta)) := un un_neg ud_neg nx_neg ha
end

/-! ### == != -/
mutual
theorem Rep.plain {K : PySem.W.Frag} {ω : Om} {H : Hp} : ∀ (d : D) (v : V), Rep K ω H v d → d.plain = true
  | .none, _, _ => rfl
  | .bool _, _, _ => rfl
  | .int _, _, _ => rfl
  | .str _, _, _ => rfl
  | .tuple ds, _, h => by
    cases h with
    | tup hs ha => simp only [PyData.plain]; exact Reps.plain ds _ ha
  | .list ds, _, h => by
    cases h with
    | lst hs ha => simp only [PyData.plain]; exact Reps.plain ds _ ha
  | .dict _, _, h => by cases h
theorem Reps.plain {K : PySem.W.Frag} {ω : Om} {H : Hp} : ∀ (ds : List D) (vs : List V), Reps K ω H vs ds → PyData.plainAll ds = true
  | [], _, _ => by simp only [PyData.plainAll]
  | d :: ds, _, h => by
    cases h with
    | cons h1 h2 => simp only [PyData.plainAll, Rep.plain d _ h1, Reps.plain ds _ h2, Bool.and_self]
end
theorem Lk.plain {K : PySem.W.Frag} {ω : Om} {H : Hp} {v : V} {d : D} (h : Lk K ω H v d) : d.plain = true := by
  rcases h with h | ⟨a, vs, ds, rfl, rfl, q, r⟩
  · exact Rep.plain d v h
  · simp only [PyData.plain]; exact Reps.plain ds vs r
def gEq (d e : D) : Rs D := if min d.depth e.depth ≤ 60 then .ok (.bool (PyData.eqv d e)) else .no
def gNe (d e : D) : Rs D := if min d.depth e.depth ≤ 60 then .ok (.bool (!PyData.eqv d e)) else .no
def rEqP (K : PySem.W.Frag) : R2 := fun x y H Q => ∃ d e, Dp K H x d ∧ Dp K H y e ∧ d.plain = true ∧ e.plain = true ∧ min d.depth e.depth ≤ 60 ∧ Q (.bl (PyData.eqv d e)) H
def rNeP (K : PySem.W.Frag) : R2 := fun x y H Q => ∃ d e, Dp K H x d ∧ Dp K H y e ∧ d.plain = true ∧ e.plain = true ∧ min d.depth e.depth ≤ 60 ∧ Q (.bl (!PyData.eqv d e)) H
section
variable {X : Cx}
theorem op_eqP {k : Nat} (hr : Room k X.A) : OpR X (compareOp .Eq) (rEqP X.K) := by
  intro pins s σ H x y v u
  intro Q I rx ry h
  obtain ⟨d, e, hd, he, sd, se, hm, q⟩ := h
  obtain ⟨as,
            r1⟩ := Dp.reads I d x v hd rx
  obtain ⟨bs,
            r2⟩ := Dp.reads I e y u he ry
  exact SeqAt.eq_plain r1 r2 sd se (by have := hr.units; omega) ⟨.bl _, H, I, rfl, q⟩
theorem op_neP {k : Nat} (hr : Room k X.A) : OpR X (compareOp .NotEq) (rNeP X.K) := by
  intro pins s σ H x y v u
  intro Q I rx ry h
  obtain ⟨d, e, hd, he, sd, se, hm, q⟩ := h
  obtain ⟨as,
            r1⟩ := Dp.reads I d x v hd rx
  obtain ⟨bs,
            r2⟩ := Dp.reads I e y u he ry
  exact SeqAt.ne_plain r1 r2 sd se (by have := hr.units; omega) ⟨.bl _, H, I, rfl, q⟩
end
theorem bi_eq {K : PySem.W.Frag} : BiD K (rEqP K) gEq := by
  intro ω H x y d e Q wf l1 l2 o
  obtain ⟨hc, o⟩ := if_inv o
  exact ⟨d, e, l1.dp, l2.dp, l1.plain, l2.plain, hc, o H _ (Ext.refl H) (.bl _)⟩
theorem bi_ne {K : PySem.W.Frag} : BiD K (rNeP K) gNe := by
  intro ω H x y d e Q wf l1 l2 o
  obtain ⟨hc, o⟩ := if_inv o
  exact ⟨d, e, l1.dp, l2.dp, l1.plain, l2.plain, hc, o H _ (Ext.refl H) (.bl _)⟩
theorem nx_eq : NoX2 gEq := fun x y c a => nx_if
theorem nx_ne : NoX2 gNe := fun x y c a => nx_if

/-! ### < <= > >= -/
def some? : D → Bool
  | .none => false
  | _ => true
theorem some_ne {d : D} (h : some? d = true) : d ≠ .none := by rintro rfl; cases h
def gLt (d e : D) : Rs D := match d, e with
  | .int i, .int j => .ok (.bool (decide (i < j)))
  | d, e => if PySem.W.alike d e = true ∧ some? d = true ∧ min d.depth e.depth ≤ 60 then .ok (.bool (PySem.W.dataLt d e)) else .no
def gLe : D → D → Rs D
  | .int i, .int j => .ok (.bool (decide (i ≤ j)))
  | _, _ => .no
def gGt : D → D → Rs D
  | .int i, .int j => .ok (.bool (decide (j < i)))
  | _, _ => .no
def gGe : D → D → Rs D
  | .int i, .int j => .ok (.bool (decide (j ≤ i)))
  | _, _ => .no
def rLtD (K : PySem.W.Frag) : R2 := fun x y H Q => ∃ d e, Dp K H x d ∧ Dp K H y e ∧ PySem.W.alike d e = true ∧ d ≠ .none ∧ min d.depth e.depth ≤ 60 ∧ Q (.bl (PySem.W.dataLt d e)) H
theorem op_ltD {X : Cx} {k : Nat} (hr : Room k X.A) : OpR X (compareOp .Lt) (rLtD X.K) := by
  intro pins s σ H x y v u
  intro Q I rx ry h
  obtain ⟨d, e, hd, he, ha, hn, hm, q⟩ := h
  obtain ⟨as,
            r1⟩ := Dp.reads I d x v hd rx
  obtain ⟨bs,
            r2⟩ := Dp.reads I e y u he ry
  exact PySem.W.rcLt_alike d e X.A s v u as bs r1 r2 ha hn (by have := hr.units; omega) _ _ _ _ ⟨.bl _, H, I, rfl, q⟩
theorem bi_lt {K : PySem.W.Frag} : BiD K (fun x y H Q => (rI0 fun i j => .bl (decide (i < j))) x y H Q ∨ rLtD K x y H Q) gLt := by
  intro ω H x y d e Q wf l1 l2 o
  have gen : Out (if PySem.W.alike d e = true ∧ some? d = true ∧ min d.depth e.depth ≤ 60 then .ok (.bool (PySem.W.dataLt d e)) else .no) (fun z => ∀ H' v, Ext H H' → Rep K ω H' v z → Q v H') (fun _ _ => False) → rLtD K x y H Q := fun o => by
    obtain ⟨⟨h1, h2, h3⟩, o⟩ := if_inv o
    exact ⟨d, e, l1.dp, l2.dp, h1, some_ne h2, h3, o H _ (Ext.refl H) (.bl _)⟩
  unfold gLt at o
  split at o
  · rw [l1.int, l2.int]; exact .inl ⟨_, _, rfl, rfl, o H _ (Ext.refl H) (.bl _)⟩
  · exact .inr (gen o)
theorem bi_le {K : PySem.W.Frag} : BiD K (rI0 fun i j => .bl (decide (i ≤ j))) gLe := by
  intro ω H x y d e Q wf l1 l2 o
  cases d with
  | int i => cases e with
    | int j => rw [l1.int, l2.int]; exact ⟨i, j, rfl, rfl, o H _ (Ext.refl H) (.bl _)⟩
    | _ => exact o.elim
  | _ => cases e <;> exact o.elim
theorem bi_gt {K : PySem.W.Frag} : BiD K (rI0 fun i j => .bl (decide (j < i))) gGt := by
  intro ω H x y d e Q wf l1 l2 o
  cases d with
  | int i => cases e with
    | int j => rw [l1.int, l2.int]; exact ⟨i, j, rfl, rfl, o H _ (Ext.refl H) (.bl _)⟩
    | _ => exact o.elim
  | _ => cases e <;> exact o.elim
theorem bi_ge {K : PySem.W.Frag} : BiD K (rI0 fun i j => .bl (decide (j ≤ i))) gGe := by
  intro ω H x y d e Q wf l1 l2 o
  cases d with
  | int i => cases e with
    | int j => rw [l1.int, l2.int]; exact ⟨i, j, rfl, rfl, o H _ (Ext.refl H) (.bl _)⟩
    | _ => exact o.elim
  | _ => cases e <;> exact o.elim
theorem nx_lt : NoX2 gLt := fun x y c a => by unfold gLt; split <;> first | exact nx_if | (intro z; cases z)
theorem nx_le : NoX2 gLe := fun x y c a => by cases x <;> cases y <;> (intro z; cases z)
theorem nx_gt : NoX2 gGt := fun x y c a => by cases x <;> cases y <;> (intro z; cases z)
theorem nx_ge : NoX2 gGe := fun x y c a => by cases x <;> cases y <;> (intro z; cases z)

/-! ### in, not in; is, is not -/
def isIn (d : D) : D → Rs Bool
  | .list xs => if min (PyData.depthAll xs) d.depth ≤ 60 then .ok (xs.any fun y => PyData.eqv y d) else .no
  | .tuple xs => if min (PyData.depthAll xs) d.depth ≤ 60 then .ok (xs.any fun y => PyData.eqv y d) else .no
  | .str z => match d with
    | .str x => .ok (!(Builtin.Str.occurrences z x 0 z.length 1).isEmpty)
    | _ => .no
  | _ => .no
def gIn (d e : D) : Rs D := isIn d e >>= fun b => .ok (.bool b)
def gNi (d e : D) : Rs D := isIn d e >>= fun b => .ok (.bool (!b))
def rInP (K : PySem.W.Frag) (neg : Bool) : R2 := fun x y H Q => ∃ d xs, Dp K H x d ∧ (Dp K H y (.list xs) ∨ Dp K H y (.tuple xs)) ∧ d.plain = true ∧ PyData.plainAll xs = true ∧ min (PyData.depthAll xs) d.depth ≤ 60 ∧
  Q (.bl (if neg then !(xs.any fun y => PyData.eqv y d) else xs.any fun y => PyData.eqv y d)) H
theorem op_inP {X : Cx} {k : Nat} (hr : Room k X.A) : OpR X (compareOp .In) (rInP X.K false) := by
  intro pins s σ H x y v u
  intro Q I rx ry h
  obtain ⟨d, xs, hd, he, sd, se, hm, q⟩ := h
  have hu := hr.units
  obtain ⟨as,
            r1⟩ := Dp.reads I d x v hd rx
  rcases he with he | he
  · obtain ⟨bs, r2⟩ := Dp.reads I _ y u he ry
    exact SeqAt.in_list_data r2 r1 se sd (by omega) ⟨.bl _, H, I, rfl, q⟩
  · obtain ⟨bs, r2⟩ := Dp.reads I _ y u he ry
    exact SeqAt.in_tuple_data r2 r1 se sd (by omega) ⟨.bl _, H, I, rfl, q⟩
theorem op_niP {X : Cx} {k : Nat} (hr : Room k X.A) : OpR X (compareOp .NotIn) (rInP X.K true) := by
  intro pins s σ H x y v u
  intro Q I rx ry h
  obtain ⟨d, xs, hd, he, sd, se, hm, q⟩ := h
  have hu := hr.units
  obtain ⟨as,
            r1⟩ := Dp.reads I d x v hd rx
  rcases he with he | he
  · obtain ⟨bs, r2⟩ := Dp.reads I _ y u he ry
    exact SeqAt.notIn_list_data r2 r1 se sd (by omega) ⟨.bl _, H, I, rfl, q⟩
  · obtain ⟨bs, r2⟩ := Dp.reads I _ y u he ry
    exact SeqAt.notIn_tuple_data r2 r1 se sd (by omega) ⟨.bl _, H, I, rfl, q⟩
abbrev rInA (K : PySem.W.Frag) : R2 := fun x y H Q => rInP K false x y H Q ∨ (fun x y H Q => ∃ i j, x = .str i ∧ y = .str j ∧ Q (.bl (!(Builtin.Str.occurrences j i 0 j.length 1).isEmpty)) H) x y H Q
abbrev rNiA (K : PySem.W.Frag) : R2 := fun x y H Q => rInP K true x y H Q ∨ (fun x y H Q => ∃ i j, x = .str i ∧ y = .str j ∧ Q (.bl (!(!(Builtin.Str.occurrences j i 0 j.length 1).isEmpty))) H) x y H Q
theorem isIn_inv {K : PySem.W.Frag} {ω : Om} {H : Hp} {x y : V} {d e : D} (l1 : Lk K ω H x d) (l2 : Lk K ω H y e) {q : Bool → Prop} (o : Out (isIn d e) q (fun _ _ => False)) :
    (∃ d xs, Dp K H x d ∧ (Dp K H y (.list xs) ∨ Dp K H y (.tuple xs)) ∧ d.plain = true ∧ PyData.plainAll xs = true ∧ min (PyData.depthAll xs) d.depth ≤ 60 ∧ q (xs.any fun y => PyData.eqv y d)) ∨
    ∃ i j, x = .str i ∧ y = .str j ∧ q (!(Builtin.Str.occurrences j i 0 j.length 1).isEmpty) := by
  cases e with
  | list xs =>
    obtain ⟨hc, o⟩ := if_inv o
    have hp := l2.plain
    simp only [PyData.plain] at hp
    exact .inl ⟨d, xs, l1.dp, .inl l2.dp, l1.plain, hp, hc, o⟩
  | tuple xs =>
    obtain ⟨hc, o⟩ := if_inv o
    have hp := l2.plain
    simp only [PyData.plain] at hp
    exact .inl ⟨d, xs, l1.dp, .inr l2.dp, l1.plain, hp, hc, o⟩
  | str z =>
    cases d with
    | str i => exact .inr ⟨i, z, l1.str, l2.str, o⟩
    | _ => exact o.elim
  | _ => exact o.elim
theorem bi_in {K : PySem.W.Frag} : BiD K (rInA K) gIn := by
  intro ω H x y d e Q wf l1 l2 o
  rcases isIn_inv l1 l2 (Out.bind o) with ⟨d, xs, h1, h2, h3, h4, h5, q⟩ | ⟨i, j, h1, h2, q⟩
  · exact .inl ⟨d, xs, h1, h2, h3, h4, h5, q H _ (Ext.refl H) (.bl _)⟩
  · exact .inr ⟨i, j, h1, h2, q H _ (Ext.refl H) (.bl _)⟩
theorem bi_ni {K : PySem.W.Frag} : BiD K (rNiA K) gNi := by
  intro ω H x y d e Q wf l1 l2 o
  rcases isIn_inv l1 l2 (Out.bind o) with ⟨d, xs, h1, h2, h3, h4, h5, q⟩ | ⟨i, j, h1, h2, q⟩
  · exact .inl ⟨d, xs, h1, h2, h3, h4, h5, q H _ (Ext.refl H) (.bl _)⟩
  · exact .inr ⟨i, j, h1, h2, q H _ (Ext.refl H) (.bl _)⟩
theorem isIn_nx {d e : D} : ∀ c a, isIn d e ≠ .ex c a := fun c a => by
  cases e with
  | list xs => exact nx_if
  | tuple xs => exact nx_if
  | str z => cases d <;> (intro z; cases z)
  | _ => intro z; cases z
theorem nx_in : NoX2 gIn := fun x y c a => bind_nx isIn_nx fun _ _ _ => by intro z; cases z
theorem nx_ni : NoX2 gNi := fun x y c a => bind_nx isIn_nx fun _ _ _ => by intro z; cases z
def isNo : D → Bool
  | .none => true
  | _ => false
def isBo (b : Bool) : D → Bool
  | .bool c => decide (c = b)
  | _ => false
def gIs (d e : D) : Rs D := match e with
  | .none => .ok (.bool (isNo d))
  | .bool b => .ok (.bool (isBo b d))
  | _ => .no
def gIsN (d e : D) : Rs D := match e with
  | .none => .ok (.bool (!isNo d))
  | .bool b => .ok (.bool (!isBo b d))
  | _ => .no
/-- x is b -/
theorem op_isC {X : Cx} : OpR X (compareOp .Is) (fun x y H Q => (y = .non ∧ Q (.bl (decide (x = .non))) H) ∨ ∃ b, y = .bl b ∧ Q (.bl (decide (x = .bl b))) H) := by
  intro pins s σ H x y v u
  intro Q I rx ry h
  rcases h with ⟨rfl, q⟩ | ⟨b, rfl, q⟩
  · exact op_isN pins s σ H x .non v u Q I rx ry ⟨rfl, q⟩
  · cases (show u = Value.bool b from ry)
    by_cases e : x = .bl b
    · subst e
      cases (show v = Value.bool b from rx)
      exact wpAny_is_self rfl ⟨.bl true,
                H, I, rfl, by simpa using q⟩
    · have ne : v ≠ Value.bool b := fun z => e (RelV.inj (u := v) rx (by rw [z]; exact rfl))
      have q' : Q (.bl false) H := by rw [decide_eq_false e] at q; exact q
      refine wpAny_is_other ?_ ne ⟨.bl false, H, I, rfl, q'⟩
      cases x <;> first
        | (cases rx; rfl)
        | (obtain ⟨t,
                  rfl⟩ := rx; rfl)
theorem op_isNC {X : Cx} : OpR X (compareOp .IsNot) (fun x y H Q => (y = .non ∧ Q (.bl (!decide (x = .non))) H) ∨ ∃ b, y = .bl b ∧ Q (.bl (!decide (x = .bl b))) H) := by
  intro pins s σ H x y v u
  intro Q I rx ry h
  rcases h with ⟨rfl, q⟩ | ⟨b, rfl, q⟩
  · exact op_notN pins s σ H x .non v u Q I rx ry ⟨rfl, q⟩
  · cases (show u = Value.bool b from ry)
    by_cases e : x = .bl b
    · subst e
      cases (show v = Value.bool b from rx)
      exact wpAny_isNot_self rfl ⟨.bl
                false, H, I, rfl, by simpa using q⟩
    · have ne : v ≠ Value.bool b := fun z => e (RelV.inj (u := v) rx (by rw [z]; exact rfl))
      have q' : Q (.bl true) H := by rw [decide_eq_false e] at q; exact q
      refine wpAny_isNot_other ?_ ne ⟨.bl true, H, I, rfl, q'⟩
      cases x <;> first
        | (cases rx; rfl)
        | (obtain ⟨t,
                  rfl⟩ := rx; rfl)

theorem Lk.isNone {K : PySem.W.Frag} {ω : Om} {H : Hp} {v : V} {d : D} (l : Lk K ω H v d) : decide (v = .non) = isNo d := by
  rcases l with h | ⟨a, vs, ds, rfl, rfl, _, _⟩
  · cases h <;> simp [isNo]
  · simp [isNo]
theorem Lk.isBool {K : PySem.W.Frag} {ω : Om} {H : Hp} {v : V} {d : D} {b : Bool} (l : Lk K ω H v d) : decide (v = .bl b) = isBo b d := by
  rcases l with h | ⟨a, vs, ds, rfl, rfl, _, _⟩
  · cases h <;> simp [isBo]
  · simp [isBo]
theorem bi_is {K : PySem.W.Frag} : BiD K (fun x y H Q => (y = .non ∧ Q (.bl (decide (x = .non))) H) ∨ ∃ b, y = .bl b ∧ Q (.bl (decide (x = .bl b))) H) gIs := by
  intro ω H x y d e Q wf l1 l2 o
  cases e with
  | none => exact .inl ⟨l2.none, by rw [l1.isNone]; exact o H _ (Ext.refl H) (.bl _)⟩
  | bool b => exact .inr ⟨b, l2.bool, by rw [l1.isBool]; exact o H _ (Ext.refl H) (.bl _)⟩
  | _ => exact o.elim
theorem bi_isN {K : PySem.W.Frag} : BiD K (fun x y H Q => (y = .non ∧ Q (.bl (!decide (x = .non))) H) ∨ ∃ b, y = .bl b ∧ Q (.bl (!decide (x = .bl b))) H) gIsN := by
  intro ω H x y d e Q wf l1 l2 o
  cases e with
  | none => exact .inl ⟨l2.none, by rw [l1.isNone]; exact o H _ (Ext.refl H) (.bl _)⟩
  | bool b => exact .inr ⟨b, l2.bool, by rw [l1.isBool]; exact o H _ (Ext.refl H) (.bl _)⟩
  | _ => exact o.elim
theorem nx_is : NoX2 gIs := fun x y c a => by cases y <;> (intro z; cases z)
theorem nx_isN : NoX2 gIsN := fun x y c a => by cases y <;> (intro z; cases z)
section
variable {X : Cx} {G : Gm} {a b : Expr} {pos : Pos} {ta tb : Am} {k : Nat}
theorem cEq (hr : Room k X.A) (ha : PE X a (tA1 G ta)) (hb : PE X b (tA1 G tb)) (hK : X.K = G.K := by rfl) : PE X (.Compare a [.Eq] [b] pos) (tI G (mB gEq ta tb)) := cm (r := rEqP G.K) (hK ▸ op_eqP hr) bi_eq nx_eq ha hb (nomark _)
theorem cNe (hr : Room k X.A) (ha : PE X a (tA1 G ta)) (hb : PE X b (tA1 G tb)) (hK : X.K = G.K := by rfl) : PE X (.Compare a [.NotEq] [b] pos) (tI G (mB gNe ta tb)) := cm (r := rNeP G.K) (hK ▸ op_neP hr) bi_ne nx_ne ha hb (nomark _)
theorem cLt (hr : Room k X.A) (ha : PE X a (tA1 G ta)) (hb : PE X b (tA1 G tb)) (hK : X.K = G.K := by rfl) : PE X (.Compare a [.Lt] [b] pos) (tI G (mB gLt ta tb)) := cm (OpR.or op_lt (hK ▸ op_ltD hr)) bi_lt nx_lt ha hb (nomark _)
theorem cLe (hr : Room k X.A) (ha : PE X a (tA1 G ta)) (hb : PE X b (tA1 G tb)) : PE X (.Compare a [.LtE] [b] pos) (tI G (mB gLe ta tb)) := cm op_le bi_le nx_le ha hb (nomark _)
theorem cGt (hr : Room k X.A) (ha : PE X a (tA1 G ta)) (hb : PE X b (tA1 G tb)) : PE X (.Compare a [.Gt] [b] pos) (tI G (mB gGt ta tb)) := cm op_gt bi_gt nx_gt ha hb (nomark _)
theorem cGe (hr : Room k X.A) (ha : PE X a (tA1 G ta)) (hb : PE X b (tA1 G tb)) : PE X (.Compare a [.GtE] [b] pos) (tI G (mB gGe ta tb)) := cm op_ge bi_ge nx_ge ha hb (nomark _)
theorem cIn (hr : Room k X.A) (ha : PE X a (tA1 G ta)) (hb : PE X b (tA1 G tb)) (hK : X.K = G.K := by rfl) (hm : behindInMarks .In b = false := by with_unfolding_all rfl) : PE X (.Compare a [.In] [b] pos) (tI G (mB gIn ta tb)) := cm (OpR.or (hK ▸ op_inP hr) op_in_str) bi_in nx_in ha hb hm
theorem cNi (hr : Room k X.A) (ha : PE X a (tA1 G ta)) (hb : PE X b (tA1 G tb)) (hK : X.K = G.K := by rfl) (hm : behindInMarks .NotIn b = false := by with_unfolding_all rfl) : PE X (.Compare a [.NotIn] [b] pos) (tI G (mB gNi ta tb)) := cm (OpR.or (hK ▸ op_niP hr) L2.op_notin_str) bi_ni nx_ni ha hb hm
theorem cIs (hr : Room k X.A) (ha : PE X a (tA1 G ta)) (hb : PE X b (tA1 G tb)) : PE X (.Compare a [.Is] [b] pos) (tI G (mB gIs ta tb)) := cm op_isC bi_is nx_is ha hb (nomark _)
theorem cIN (hr : Room k X.A) (ha : PE X a (tA1 G ta)) (hb : PE X b (tA1 G tb)) : PE X (.Compare a [.IsNot] [b] pos) (tI G (mB gIsN ta tb)) := cm op_isNC bi_isN nx_isN ha hb (nomark _)
/-- a comparison as a test -/
theorem ct {op : CmpOp} {m : Em} (h : PE X (.Compare a [op] [b] pos) (tI G m)) (hc : PT X (.Compare a [op] [b] pos) (tT G (mT m))) : PT X (.Compare a [op] [b] pos) (tT G (mT m)) := hc
theorem tEq (hr : Room k X.A) (ha : PE X a (tA1 G ta)) (hb : PE X b (tA1 G tb)) (hK : X.K = G.K := by rfl) : PT X (.Compare a [.Eq] [b] pos) (tT G (mT (mB gEq ta tb))) := cmt (r := rEqP G.K) (hK ▸ op_eqP hr) bi_eq nx_eq ha hb (nomark _)
theorem tNe (hr : Room k X.A) (ha : PE X a (tA1 G ta)) (hb : PE X b (tA1 G tb)) (hK : X.K = G.K := by rfl) : PT X (.Compare a [.NotEq] [b] pos) (tT G (mT (mB gNe ta tb))) := cmt (r := rNeP G.K) (hK ▸ op_neP hr) bi_ne nx_ne ha hb (nomark _)
theorem tLt (hr : Room k X.A) (ha : PE X a (tA1 G ta)) (hb : PE X b (tA1 G tb)) (hK : X.K = G.K := by rfl) : PT X (.Compare a [.Lt] [b] pos) (tT G (mT (mB gLt ta tb))) := cmt (OpR.or op_lt (hK ▸ op_ltD hr)) bi_lt nx_lt ha hb (nomark _)
theorem tLe (hr : Room k X.A) (ha : PE X a (tA1 G ta)) (hb : PE X b (tA1 G tb)) : PT X (.Compare a [.LtE] [b] pos) (tT G (mT (mB gLe ta tb))) := cmt op_le bi_le nx_le ha hb (nomark _)
theorem tGt (hr : Room k X.A) (ha : PE X a (tA1 G ta)) (hb : PE X b (tA1 G tb)) : PT X (.Compare a [.Gt] [b] pos) (tT G (mT (mB gGt ta tb))) := cmt op_gt bi_gt nx_gt ha hb (nomark _)
theorem tGe (hr : Room k X.A) (ha : PE X a (tA1 G ta)) (hb : PE X b (tA1 G tb)) : PT X (.Compare a [.GtE] [b] pos) (tT G (mT (mB gGe ta tb))) := cmt op_ge bi_ge nx_ge ha hb (nomark _)
theorem tIn (hr : Room k X.A) (ha : PE X a (tA1 G ta)) (hb : PE X b (tA1 G tb)) (hK : X.K = G.K := by rfl) (hm : behindInMarks .In b = false := by with_unfolding_all rfl) : PT X (.Compare a [.In] [b] pos) (tT G (mT (mB gIn ta tb))) := cmt (OpR.or (hK ▸ op_inP hr) op_in_str) bi_in nx_in ha hb hm
theorem tNi (hr : Room k X.A) (ha : PE X a (tA1 G ta)) (hb : PE X b (tA1 G tb)) (hK : X.K = G.K := by rfl) (hm : behindInMarks .NotIn b = false := by with_unfolding_all rfl) : PT X (.Compare a [.NotIn] [b] pos) (tT G (mT (mB gNi ta tb))) := cmt (OpR.or (hK ▸ op_niP hr) L2.op_notin_str) bi_ni nx_ni ha hb hm
theorem tIs (hr : Room k X.A) (ha : PE X a (tA1 G ta)) (hb : PE X b (tA1 G tb)) : PT X (.Compare a [.Is] [b] pos) (tT G (mT (mB gIs ta tb))) := cmt op_isC bi_is nx_is ha hb (nomark _)
theorem tIN (hr : Room k X.A) (ha : PE X a (tA1 G ta)) (hb : PE X b (tA1 G tb)) : PT X (.Compare a [.IsNot] [b] pos) (tT G (mT (mB gIsN ta tb))) := cmt op_isNC bi_isN nx_isN ha hb (nomark _)
end

/-! ### items, slices -/
section
variable {X : Cx} {G : Gm} {a b : Expr} {pos : Pos} {ta tb : Am} {k : Nat}
def optR {α : Type} : Option α → Rs α
  | some x => .ok x
  | none => .no
def gIx (d e : D) : Rs D := match d, e with
  | .list xs, .int i => optR (atI xs i)
  | .tuple xs, .int i => optR (atI xs i)
  | .str z, .int i => if z.length ≤ sizeLine then optR ((atI z.cps.toList i).map fun c => PyData.str ⟨#[c]⟩) else .no
  | _, _ => .no
theorem Reps.atI {K : PySem.W.Frag} {ω : Om} {H : Hp} {vs : List V} {ds : List D} {i : Int} {d : D} (r : Reps K ω H vs ds) (h : L2.atI ds i = some d) : ∃ v, L2.atI vs i = some v ∧ Rep K ω H v d := by
  unfold L2.atI at h ⊢
  rw [r.length]
  cases e : ixN ds.length i with
  | none => rw [e] at h; exact nomatch h
  | some j =>
    rw [e] at h
    exact r.getD h
theorem opt_inv {α : Type} {o : Option α} {q : α → Prop} {e : Str → D → Prop} (h : Out (optR o) q e) : ∃ x, o = some x ∧ q x := by
  cases o with
  | some x => exact ⟨x, rfl, h⟩
  | none => exact h.elim
theorem ifx_inv {α : Type} {c : Prop} [Decidable c] {x : Rs α} {q : α → Prop} {e : Str → D → Prop} (h : Out (if c then x else .no) q e) : c ∧ Out x q e := by
  by_cases hc : c
  · rw [if_pos hc] at h; exact ⟨hc, h⟩
  · rw [if_neg hc] at h; exact h.elim
theorem bi_ix {K : PySem.W.Frag} : BiD K (rIx K) gIx := by
  intro ω H x y d e Q wf l1 l2 o
  cases d with
  | list xs => cases e with
    | int i =>
      obtain ⟨z, hz, o⟩ := opt_inv o
      obtain ⟨a, vs, rfl, h1, r1⟩ := l1.list
      obtain ⟨v, hv, rv⟩ := r1.atI hz
      rw [l2.int]
      exact .inl ⟨a, vs, i, v, rfl, rfl, h1, hv, o H _ (Ext.refl H) rv⟩
    | _ => exact o.elim
  | tuple xs => cases e with
    | int i =>
      obtain ⟨z, hz, o⟩ := opt_inv o
      obtain ⟨a, vs, rfl, h1, r1⟩ := l1.tuple
      obtain ⟨v, hv, rv⟩ := r1.atI hz
      rw [l2.int]
      exact .inr (.inl ⟨a, vs, i, v, rfl, rfl, h1, hv, o H _ (Ext.refl H) rv⟩)
    | _ => exact o.elim
  | str z => cases e with
    | int i =>
      obtain ⟨hl, o⟩ := ifx_inv o
      obtain ⟨w, hw, o⟩ := opt_inv o
      obtain ⟨c, hc, rfl⟩ := Option.map_eq_some_iff.mp hw
      rw [l1.str, l2.int]
      exact .inr (.inr ⟨z, i, c, rfl, rfl, hl, hc, o H _ (Ext.refl H) (.str _)⟩)
    | _ => exact o.elim
  | _ => cases e <;> exact o.elim
theorem nx_opt {α : Type} {o : Option α} {c : Str} {a : D} : optR o ≠ .ex c a := by cases o <;> (intro z; cases z)
theorem nx_ifx {α : Type} {c : Prop} [Decidable c] {r : Rs α} {k : Str} {b : D} (h : r ≠ .ex k b) : (if c then r else .no) ≠ .ex k b := by
  split
  · exact h
  · intro z; cases z
theorem nx_ix : NoX2 gIx := fun x y c a => by
  cases x <;> cases y <;> first
    | exact nx_opt
    | exact nx_ifx nx_opt
    | (intro z; cases z)
theorem xIx (ha : PE X a (tA1 G ta)) (hb : PE X b (tA1 G tb)) (hs : PlainIx b := by exact fun _ _ => rfl) (hK : X.K = G.K := by rfl) : PE X (.Subscript a b pos) (tI G (mB gIx ta tb)) := by
  refine pe_if (pe_ix (r := rIx G.K) (hK ▸ ix_seq) ha hb hs) fun σ H Q h => bi_core ha hb (r := rIx G.K) nx_ix (k := fun ω H φ σ δ x y d e Q z => ∀ H' v, Ext H H' → Rep G.K ω H' v z → Q v H') ?_ fun ω H φ δ x y d e s l1 l2 o => bi_ix ω H x y d e Q s.wf l1 l2 o
  obtain ⟨ω, δ, φ, s, o⟩ := h
  exact ⟨ω, δ, φ, s, o.mono (fun r hr ω' H' φ' st s' x y d e _ _ H'' v ex rp => hr ω' H'' φ' v (st.trans (s'.step ex)) (s'.ext ex) rp) fun _ _ z => z⟩
end
end Zd

namespace Zd
open PySem PySem.Spec
open PyProof.Rows L2

/-! ### slices -/
abbrev Om' := Dl → Rs (Option Int × Dl)
def tPo (G : Gm) (m : Om') : TO := fun σ H Q => ∃ ω δ φ, Slots G.K G.κ ω H σ δ φ ∧
  Out (m δ) (fun r => ∀ ω' H' φ', Step ω (Fp φ) H ω' (Fp φ') H' → Slots G.K G.κ ω' H' σ r.2 φ' → Q r.1 H') (Esc G.K G.cls G.E ω (Fp φ) H)
def oN : Om' := fun δ => .ok (none, δ)
def toI : D → Rs Int
  | .int i => .ok i
  | _ => .no
def oS (m : Em) : Om' := fun δ => m δ >>= fun r => toI r.1 >>= fun i => .ok (some i, r.2)
section
variable {X : Cx} {G : Gm} {e : Expr} {lo hi : Option Expr} {pos p2 : Pos}
theorem po_if {o : Option Expr} {t t' : TO} (h : PO X o t) (w : ∀ σ H Q, t' σ H Q → t σ H Q) : PO X o t' := ⟨fun pins s σ H Q I q => h.run pins s σ H Q I (w σ H Q q)⟩
theorem on : PO X none (tPo G oN) := po_if po_none fun σ H Q ⟨ω, δ, φ, s, o⟩ => o ω H φ s.refl s
theorem os {m : Em} (h : PE X e (tI G m)) : PO X (some e) (tPo G (oS m)) := by
  refine po_if (po_some h) fun σ H Q ⟨ω, δ, φ, s, o⟩ => ⟨ω, δ, φ, s, (Out.bind o).mono (fun r hr ω' H' φ' v st s' rp => ?_) fun _ _ z => z⟩
  obtain ⟨d, δ1⟩ := r
  cases d with
  | int i =>
    cases rp
    exact ⟨i, rfl, hr ω' H' φ' st s'⟩
  | _ => exact hr.elim
def cut {α : Type} (xs : List α) (lo hi : Option Int) : List α := (xs.drop (HT.sIx xs.length 0 lo)).take (HT.sIx xs.length xs.length hi - HT.sIx xs.length 0 lo)
def gCut (lo hi : Option Int) : D → Rs D
  | .list xs => .ok (.list (cut xs lo hi))
  | .tuple xs => .ok (.tuple (cut xs lo hi))
  | .str z => if z.length ≤ sizeLine then .ok (.str (cutS z lo hi)) else .no
  | _ => .no
def fCut (lo hi : Option Int) : D → Rs (List D)
  | .list xs => .ok (cut xs lo hi)
  | _ => .no
def mSl (m : Am) (lo hi : Om') : Em := fun δ => m δ >>= fun r => lo r.2 >>= fun l => hi l.2 >>= fun h => get h.2 r.1 >>= fun d => gCut l.1 h.1 d >>= fun e => .ok (e, h.2)
def fSl (m : Am) (lo hi : Om') : Fm := fun δ => m δ >>= fun r => lo r.2 >>= fun l => hi l.2 >>= fun h => get h.2 r.1 >>= fun d => fCut l.1 h.1 d >>= fun e => .ok (e, h.2)
abbrev rSl (K : PySem.W.Frag) : V → Option Int → Option Int → Hp → VK → Prop := fun x lo hi H Q => (rSlL K x lo hi H Q ∨ rSlA K x lo hi H Q) ∨ rSlS x lo hi H Q
theorem Reps.cut {K : PySem.W.Frag} {ω : Om} {H : Hp} {vs : List V} {ds : List D} (r : Reps K ω H vs ds) (lo hi : Option Int) : Reps K ω H (cutV vs lo hi) (Zd.cut ds lo hi) := by
  unfold cutV Zd.cut
  rw [r.length]
  exact (r.drop _).take _
theorem cut_all {α : Type} {xs : List α} {lo hi : Option Int} (h : HT.sIx xs.length 0 lo = 0 ∧ HT.sIx xs.length xs.length hi = xs.length) : cut xs lo hi = xs := by
  unfold cut
  rw [h.1, h.2]
  simp
theorem sl_ok {K : PySem.W.Frag} {ω : Om} {H : Hp} {x : V} {d : D} {lo hi : Option Int} {Q : VK} (wf : Wf ω H) (l : Lk K ω H x d) (o : Out (gCut lo hi d) (fun z => ∀ H' v, Ext H H' → Rep K ω H' v z → Q v H') (fun _ _ => False)) : rSl K x lo hi H Q := by
  cases d with
  | list xs =>
    obtain ⟨a, vs, rfl, h1, r1⟩ := l.list
    exact .inl (.inl ⟨a, vs, rfl, h1, fun p hp => o _ _ (Ext.upd hp) (Rep.newL wf hp (r1.cut lo hi))⟩)
  | tuple xs =>
    obtain ⟨a, vs, rfl, h1, r1⟩ := l.tuple
    refine .inl (.inr ⟨a, vs, rfl, h1, fun hw => ?_, fun _ p hp => o _ _ (Ext.upd hp) (Rep.newT wf hp (r1.cut lo hi))⟩)
    rw [r1.length] at hw
    have o : ∀ H' v, Ext H H' → Rep K ω H' v (.tuple (cut xs lo hi)) → Q v H' := o
    rw [cut_all hw] at o
    exact o H _ (Ext.refl H) (.tup h1 r1)
  | str z =>
    obtain ⟨hc, o⟩ := if_inv o
    rw [l.str]
    exact .inr ⟨z, rfl, hc, o H _ (Ext.refl H) (.str _)⟩
  | _ => exact o.elim
theorem nx_cut {lo hi : Option Int} : NoX (gCut lo hi) := fun x c a => by cases x <;> first | exact nx_if | (intro z; cases z)
theorem xSl {m : Am} {l h : Om'} (he : PE X e (tA1 G m)) (hl : PO X lo (tPo G l)) (hh : PO X hi (tPo G h)) (hK : X.K = G.K := by rfl) : PE X (.Subscript e (.Slice lo hi none p2) pos) (tI G (mSl m l h)) := by
  refine pe_if (pe_slice (r := rSl G.K) (SlR.or (SlR.or (hK ▸ sl_list) (hK ▸ sl_tupA)) sl_str) he hl hh) fun σ H Q ⟨ω, δ, φ, s, o⟩ => ⟨ω, δ, φ, s, (Out.bind o).mono (fun r1 h1 ω1 H1 φ1 x st1 s1 rx => ⟨ω1, r1.2, φ1, s1, (Out.bind h1).mono (fun r2 h2 ω2 H2 φ2 st2 s2 => ⟨ω2, r2.2, φ2, s2, (Out.bind h2).mono (fun r3 h3 ω3 H3 φ3 st3 s3 => ?_) fun _ _ z => z.up (st1.trans st2)⟩) fun _ _ z => z.up st1⟩) fun _ _ z => z⟩
  obtain ⟨d, l1, h4⟩ := s3.got (rx.up (st2.trans st3).grow) (Out.bind h3)
  refine sl_ok s3.wf l1 ((out_no (Out.bind h4) (nx_cut d)).mono (fun z hz H' v ex rp => ?_) fun _ _ z => z)
  exact hz ω3 H' φ3 v (((st1.trans st2).trans st3).trans (s3.step ex)) (s3.ext ex) rp
theorem xSlF {m : Am} {l h : Om'} (he : PE X e (tA1 G m)) (hl : PO X lo (tPo G l)) (hh : PO X hi (tPo G h)) (hK : X.K = G.K := by rfl) : PE X (.Subscript e (.Slice lo hi none p2) pos) (tF G (fSl m l h)) := by
  refine pe_if (pe_slice (r := rSl G.K) (SlR.or (SlR.or (hK ▸ sl_list) (hK ▸ sl_tupA)) sl_str) he hl hh) fun σ H Q ⟨ω, δ, φ, s, o⟩ => ⟨ω, δ, φ, s, (Out.bind o).mono (fun r1 h1 ω1 H1 φ1 x st1 s1 rx => ⟨ω1, r1.2, φ1, s1, (Out.bind h1).mono (fun r2 h2 ω2 H2 φ2 st2 s2 => ⟨ω2, r2.2, φ2, s2, (Out.bind h2).mono (fun r3 h3 ω3 H3 φ3 st3 s3 => ?_) fun _ _ z => z.up (st1.trans st2)⟩) fun _ _ z => z.up st1⟩) fun _ _ z => z⟩
  obtain ⟨d, l1, h4⟩ := s3.got (rx.up (st2.trans st3).grow) (Out.bind h3)
  cases d with
  | list xs =>
    obtain ⟨a, vs, rfl, h1, r1'⟩ := l1.list
    exact .inl (.inl ⟨a, vs, rfl, h1, fun p hp => h4 ω3 H3 φ3 p _ ((st1.trans st2).trans st3) s3 hp (r1'.cut _ _)⟩)
  | _ => exact h4.elim
/-- xs[::-1] -/
def fRev (m : Am) : Fm := fun δ => m δ >>= fun r => get r.2 r.1 >>= fun d => match d with
  | .list xs => .ok (xs.reverse, r.2)
  | _ => .no
theorem xRevF {m : Am} {k : Nat} {p1 p3 : Pos} (he : PE X e (tA1 G m)) (hK : X.K = G.K := by rfl) : PE X (.Subscript e (.Slice none none (some (.UnaryOp .USub (.Constant (.int 1) k p1) p2)) p3) pos) (tF G (fRev m)) := by
  refine pe_if (pe_revL he) fun σ H Q ⟨ω, δ, φ, s, o⟩ => ⟨ω, δ, φ, s, (Out.bind o).mono (fun r hr ω' H' φ' v st s' rx => ?_) fun _ _ z => z⟩
  obtain ⟨d, l, h⟩ := s'.got rx (Out.bind hr)
  cases d with
  | list xs =>
    obtain ⟨a, vs, rfl, h1, r1⟩ := l.list
    exact ⟨a, vs, rfl, hK ▸ h1, fun p hp => h ω' H' φ' p _ st s' hp r1.reverse⟩
  | _ => exact h.elim
end

/-! ### built-in functions -/
section
variable {X : Cx} {G : Gm} {e : Expr} {es : List Expr} {pos p : Pos} {x : Str} {id T : String} {ms : Lm} {r : List V → Hp → VK → Prop} {g : List D → Rs D}
def NoXL (g : List D → Rs D) : Prop := ∀ ds c a, g ds ≠ .ex c a
theorem li_core {t : TA → TE} (hd : LiD G.K r g) (nx : NoXL g) {σ : L2.St} {H : Hp} {Q : VK} (h : tI G (mL g ms) σ H Q) : tCB r (tAr G ms) σ H Q := by
  obtain ⟨ω, δ, φ, s, o⟩ := h
  refine ⟨ω, δ, φ, s, (Out.bind o).mono (fun r1 h1 ω1 H1 φ1 vs st1 s1 rx => ?_) fun _ _ z => z⟩
  obtain ⟨ds, l1, h2⟩ := s1.gots rx (Out.bind h1)
  refine hd ω1 H1 vs ds Q s1.wf l1 ((out_no (Out.bind h2) (nx ds)).mono (fun z hz H' v ex rp => ?_) fun _ _ z => z)
  exact hz ω1 H' φ1 v (st1.trans (s1.step ex)) (s1.ext ex) rp
theorem xB (hc : CallR X (.builtin id) r) (hd : LiD G.K r g) (nx : NoXL g) (hm : X.mg x = none) (hv : bootBuiltins x = some (.builtin id)) (ha : PA X (e :: es) (tAr G ms)) (hg : Gl X x := by rfl) (hn : x ≠ "__name__" := by decide) (hdb : (x == ("__debug__" : Str)) = false := by decide)
    (he : starEach (e :: es) X.env = (false, eval e X.env) :: starEach es X.env := by rfl) (hpl : (backTo pos (starEach es X.env)).any (·.1) = false := by rfl) : PE X (.Call (.Name x p) (e :: es) [] pos) (tI G (mL g ms)) :=
  pe_if (pe_callB hc hg hm hv ha hn hdb he hpl) fun σ H Q h => li_core (t := fun _ => fun _ _ _ => True) hd nx h
theorem xT (hc : CallR X (.type T) r) (hd : LiD G.K r g) (nx : NoXL g) (hm : X.mg x = none) (hv : bootBuiltins x = some (.type T)) (ha : PA X (e :: es) (tAr G ms)) (hg : Gl X x := by rfl) (hn : x ≠ "__name__" := by decide) (hdb : (x == ("__debug__" : Str)) = false := by decide)
    (he : starEach (e :: es) X.env = (false, eval e X.env) :: starEach es X.env := by rfl) (hpl : (backTo pos (starEach es X.env)).any (·.1) = false := by rfl) : PE X (.Call (.Name x p) (e :: es) [] pos) (tI G (mL g ms)) :=
  pe_if (pe_callTy hc hg hm hv ha hn hdb he hpl) fun σ H Q h => li_core (t := fun _ => fun _ _ _ => True) hd nx h
theorem xBf (hc : CallR X (.builtin id) r) (hd : LiD G.K r g) (nx : NoXL g) (hm : X.mg x = some (.builtin id)) (ha : PA X (e :: es) (tAr G ms)) (hg : Gl X x := by rfl) (hdb : (x == ("__debug__" : Str)) = false := by decide)
    (he : starEach (e :: es) X.env = (false, eval e X.env) :: starEach es X.env := by rfl) (hpl : (backTo pos (starEach es X.env)).any (·.1) = false := by rfl) : PE X (.Call (.Name x p) (e :: es) [] pos) (tI G (mL g ms)) :=
  pe_if (pe_callBfun hc hg hm ha hdb he hpl) fun σ H Q h => li_core (t := fun _ => fun _ _ _ => True) hd nx h
end
def gLen : List D → Rs D
  | [.list xs] => .ok (.int xs.length)
  | [.tuple xs] => .ok (.int xs.length)
  | [.str z] => if z.length ≤ sizeLine then .ok (.int z.length) else .no
  | _ => .no
theorem Lks.one {K : PySem.W.Frag} {ω : Om} {H : Hp} {vs : List V} {d : D} (h : Lks K ω H vs [d]) : ∃ v, vs = [v] ∧ Lk K ω H v d := by
  cases h with
  | cons r t => cases t; exact ⟨_, rfl, r⟩
theorem Lks.two {K : PySem.W.Frag} {ω : Om} {H : Hp} {vs : List V} {d e : D} (h : Lks K ω H vs [d, e]) : ∃ v w, vs = [v, w] ∧ Lk K ω H v d ∧ Lk K ω H w e := by
  cases h with
  | cons r t =>
    obtain ⟨w, rfl, q⟩ := t.one
    exact ⟨_, w, rfl, r, q⟩
abbrev rLen (K : PySem.W.Frag) : List V → Hp → VK → Prop := fun xs H Q => (∃ p ys, xs = [.ref p] ∧ (SqL K H p ys ∨ SqT K H p ys) ∧ Q (.int ys.length) H) ∨ ∃ z, xs = [.str z] ∧ z.length ≤ sizeLine ∧ Q (.int z.length) H
theorem ld_len {K : PySem.W.Frag} : LiD K (rLen K) gLen := by
  intro ω H xs ds Q wf l o
  unfold gLen at o
  split at o
  · obtain ⟨v, rfl, lk⟩ := l.one
    obtain ⟨a, vs, rfl, h1, r1⟩ := lk.list
    exact .inl ⟨a, vs, rfl, .inl h1, by rw [r1.length]; exact o H _ (Ext.refl H) (.int _)⟩
  · obtain ⟨v, rfl, lk⟩ := l.one
    obtain ⟨a, vs, rfl, h1, r1⟩ := lk.tuple
    exact .inl ⟨a, vs, rfl, .inr h1, by rw [r1.length]; exact o H _ (Ext.refl H) (.int _)⟩
  · obtain ⟨hc, o⟩ := if_inv o
    obtain ⟨v, rfl, lk⟩ := l.one
    rw [lk.str]
    exact .inr ⟨_, rfl, hc, o H _ (Ext.refl H) (.int _)⟩
  · exact o.elim
theorem nx_len : NoXL gLen := fun ds c a => by unfold gLen; split <;> first | exact nx_if | (intro z; cases z)
def gAbs : List D → Rs D
  | [.int i] => .ok (.int (if i < 0 then -i else i))
  | _ => .no
theorem ld_abs {K : PySem.W.Frag} : LiD K (fun xs H Q => ∃ i, xs = [.int i] ∧ Q (.int (if i < 0 then -i else i)) H) gAbs := by
  intro ω H xs ds Q wf l o
  unfold gAbs at o
  split at o
  · obtain ⟨v, rfl, lk⟩ := l.one
    rw [lk.int]
    exact ⟨_, rfl, o H _ (Ext.refl H) (.int _)⟩
  · exact o.elim
theorem nx_abs : NoXL gAbs := fun ds c a => by unfold gAbs; split <;> (intro z; cases z)
def gInt : List D → Rs D
  | [.int i] => .ok (.int i)
  | [.bool b] => .ok (.int (if b = true then 1 else 0))
  | _ => .no
theorem ld_int {K : PySem.W.Frag} : LiD K (fun xs H Q => (∃ i, xs = [.int i] ∧ Q (.int i) H) ∨ ∃ k : Bool, xs = [.bl k] ∧ Q (.int (if k then 1 else 0)) H) gInt := by
  intro ω H xs ds Q wf l o
  unfold gInt at o
  split at o
  · obtain ⟨v, rfl, lk⟩ := l.one
    rw [lk.int]
    exact .inl ⟨_, rfl, o H _ (Ext.refl H) (.int _)⟩
  · obtain ⟨v, rfl, lk⟩ := l.one
    rw [lk.bool]
    exact .inr ⟨_, rfl, o H _ (Ext.refl H) (.int _)⟩
  · exact o.elim
theorem nx_int : NoXL gInt := fun ds c a => by unfold gInt; split <;> (intro z; cases z)
def gStr : List D → Rs D
  | [.int i] => if i.natAbs.log2 < 1920 then .ok (.str (toString i)) else .no
  | _ => .no
theorem ld_str {K : PySem.W.Frag} : LiD K (fun xs H Q => ∃ i : Int, xs = [.int i] ∧ i.natAbs.log2 < 1920 ∧ Q (.str (toString i)) H) gStr := by
  intro ω H xs ds Q wf l o
  unfold gStr at o
  split at o
  · obtain ⟨hc, o⟩ := if_inv o
    obtain ⟨v, rfl, lk⟩ := l.one
    rw [lk.int]
    exact ⟨_, rfl, hc, o H _ (Ext.refl H) (.str _)⟩
  · exact o.elim
theorem nx_str : NoXL gStr := fun ds c a => by unfold gStr; split <;> first | exact nx_if | (intro z; cases z)
def gGcd : List D → Rs D
  | [.int i, .int j] => .ok (.int ((Nat.gcd i.natAbs j.natAbs : Nat) : Int))
  | _ => .no
theorem ld_gcd {K : PySem.W.Frag} : LiD K rGcd gGcd := by
  intro ω H xs ds Q wf l o
  unfold gGcd at o
  split at o
  · obtain ⟨v, w, rfl, l1, l2⟩ := l.two
    rw [l1.int, l2.int]
    exact ⟨_, _, rfl, o H _ (Ext.refl H) (.int _)⟩
  · exact o.elim
theorem nx_gcd : NoXL gGcd := fun ds c a => by unfold gGcd; split <;> (intro z; cases z)
def gMax : List D → Rs D
  | [.int i, .int j] => .ok (.int (if j > i then j else i))
  | _ => .no
def gMin : List D → Rs D
  | [.int i, .int j] => .ok (.int (if j < i then j else i))
  | _ => .no
theorem ld_max {K : PySem.W.Frag} : LiD K (fun xs H Q => ∃ i j : Int, xs = [.int i, .int j] ∧ Q (.int (if j > i then j else i)) H) gMax := by
  intro ω H xs ds Q wf l o
  unfold gMax at o
  split at o
  · obtain ⟨v, w, rfl, l1, l2⟩ := l.two
    rw [l1.int, l2.int]
    exact ⟨_, _, rfl, o H _ (Ext.refl H) (.int _)⟩
  · exact o.elim
theorem ld_min {K : PySem.W.Frag} : LiD K (fun xs H Q => ∃ i j : Int, xs = [.int i, .int j] ∧ Q (.int (if j < i then j else i)) H) gMin := by
  intro ω H xs ds Q wf l o
  unfold gMin at o
  split at o
  · obtain ⟨v, w, rfl, l1, l2⟩ := l.two
    rw [l1.int, l2.int]
    exact ⟨_, _, rfl, o H _ (Ext.refl H) (.int _)⟩
  · exact o.elim
theorem nx_max : NoXL gMax := fun ds c a => by unfold gMax; split <;> (intro z; cases z)
theorem nx_min : NoXL gMin := fun ds c a => by unfold gMin; split <;> (intro z; cases z)
def bools : List D → Rs (List Bool)
  | [] => .ok []
  | .bool b :: ds => bools ds >>= fun bs => .ok (b :: bs)
  | _ => .no
def gAll : List D → Rs D
  | [.list xs] => bools xs >>= fun bs => .ok (.bool (bs.all id))
  | _ => .no
theorem bools_inv {K : PySem.W.Frag} {ω : Om} {H : Hp} : ∀ {ds : List D} {vs : List V} {q : List Bool → Prop} {e : Str → D → Prop}, Reps K ω H vs ds → Out (bools ds) q e → ∃ bs : List Bool, vs = bs.map V.bl ∧ q bs
  | [], _, _, _, r, o => by cases r; exact ⟨[], rfl, o⟩
  | d :: ds, _, _, _, r, o => by
    cases d with
    | bool b =>
      cases r with
      | cons r1 r2 =>
        obtain ⟨bs, rfl, h⟩ := bools_inv r2 (Out.bind o)
        cases r1
        exact ⟨b :: bs, rfl, h⟩
    | _ => exact o.elim
theorem bools_nx : ∀ {ds : List D} {c : Str} {a : D}, bools ds ≠ .ex c a
  | [], _, _ => by intro z; cases z
  | d :: ds, c, a => by
    cases d with
    | bool b => exact bind_nx (fun c a => bools_nx) fun _ _ _ => by intro z; cases z
    | _ => intro z; cases z
theorem ld_all {K : PySem.W.Frag} : LiD K (rAll K) gAll := by
  intro ω H xs ds Q wf l o
  unfold gAll at o
  split at o
  · obtain ⟨v, rfl, lk⟩ := l.one
    obtain ⟨a, vs, rfl, h1, r1⟩ := lk.list
    obtain ⟨bs, rfl, h⟩ := bools_inv r1 (Out.bind o)
    exact ⟨a, bs, rfl, h1, h H _ (Ext.refl H) (.bl _)⟩
  · exact o.elim
theorem nx_all : NoXL gAll := fun ds c a => by unfold gAll; split <;> first | exact bind_nx (fun c a => bools_nx) (fun _ _ _ => by intro z; cases z) | (intro z; cases z)
def gTup : List D → Rs D
  | [.list xs] => .ok (.tuple xs)
  | [.tuple xs] => .ok (.tuple xs)
  | _ => .no
abbrev rTup (K : PySem.W.Frag) : List V → Hp → VK → Prop := fun xs H Q => ∃ p ys, xs = [.ref p] ∧ ((SqL K H p ys ∧ ∀ l, H l = none → Q (.ref l) (upd H l (.tup ys))) ∨ (SqT K H p ys ∧ Q (.ref p) H))
theorem ld_tup {K : PySem.W.Frag} : LiD K (rTup K) gTup := by
  intro ω H xs ds Q wf l o
  unfold gTup at o
  split at o
  · obtain ⟨v, rfl, lk⟩ := l.one
    obtain ⟨a, vs, rfl, h1, r1⟩ := lk.list
    exact ⟨a, vs, rfl, .inl ⟨h1, fun p hp => o _ _ (Ext.upd hp) (Rep.newT wf hp r1)⟩⟩
  · obtain ⟨v, rfl, lk⟩ := l.one
    obtain ⟨a, vs, rfl, h1, r1⟩ := lk.tuple
    exact ⟨a, vs, rfl, .inr ⟨h1, o H _ (Ext.refl H) (.tup h1 r1)⟩⟩
  · exact o.elim
theorem nx_tup : NoXL gTup := fun ds c a => by unfold gTup; split <;> (intro z; cases z)
section
variable {X : Cx} {G : Gm} {a b : Expr} {es : List Expr} {pos p : Pos} {ms : Lm}
theorem xLen (hm : X.mg "len" = none) (ha : PA X (a :: es) (tAr G ms)) (hK : X.K = G.K := by rfl) (hg : Gl X "len" := by rfl) (he : starEach (a :: es) X.env = (false, eval a X.env) :: starEach es X.env := by rfl) (hpl : (backTo pos (starEach es X.env)).any (·.1) = false := by rfl) :
    PE X (.Call (.Name "len" p) (a :: es) [] pos) (tI G (mL gLen ms)) := xB (r := rLen G.K) (CallR.or (hK ▸ call_len_seq) call_len_str) ld_len nx_len hm PySem.boot_len ha hg (by decide) (by decide) he hpl
theorem xAbs (hm : X.mg "abs" = none) (ha : PA X (a :: es) (tAr G ms)) (hg : Gl X "abs" := by rfl) (he : starEach (a :: es) X.env = (false, eval a X.env) :: starEach es X.env := by rfl) (hpl : (backTo pos (starEach es X.env)).any (·.1) = false := by rfl) :
    PE X (.Call (.Name "abs" p) (a :: es) [] pos) (tI G (mL gAbs ms)) := xB call_abs ld_abs nx_abs hm PyProof.Rows.boot_abs ha hg (by decide) (by decide) he hpl
theorem xInt (hm : X.mg "int" = none) (ha : PA X (a :: es) (tAr G ms)) (hg : Gl X "int" := by rfl) (he : starEach (a :: es) X.env = (false, eval a X.env) :: starEach es X.env := by rfl) (hpl : (backTo pos (starEach es X.env)).any (·.1) = false := by rfl) :
    PE X (.Call (.Name "int" p) (a :: es) [] pos) (tI G (mL gInt ms)) := xT call_int1 ld_int nx_int hm PyProof.Rows.boot_int ha hg (by decide) (by decide) he hpl
theorem xStr (hm : X.mg "str" = none) (ha : PA X (a :: es) (tAr G ms)) (hg : Gl X "str" := by rfl) (he : starEach (a :: es) X.env = (false, eval a X.env) :: starEach es X.env := by rfl) (hpl : (backTo pos (starEach es X.env)).any (·.1) = false := by rfl) :
    PE X (.Call (.Name "str" p) (a :: es) [] pos) (tI G (mL gStr ms)) := xT call_str_int ld_str nx_str hm PyProof.Rows.boot_str ha hg (by decide) (by decide) he hpl
theorem xGcd (hm : X.mg "gcd" = some (.builtin "math.gcd")) (ha : PA X (a :: es) (tAr G ms)) (hg : Gl X "gcd" := by rfl) (he : starEach (a :: es) X.env = (false, eval a X.env) :: starEach es X.env := by rfl) (hpl : (backTo pos (starEach es X.env)).any (·.1) = false := by rfl) :
    PE X (.Call (.Name "gcd" p) (a :: es) [] pos) (tI G (mL gGcd ms)) := xBf cr_gcd ld_gcd nx_gcd hm ha hg (by decide) he hpl
theorem xMax (hc : X.calm = true) (hm : X.mg "max" = none) (ha : PA X (a :: es) (tAr G ms)) (hg : Gl X "max" := by rfl) (he : starEach (a :: es) X.env = (false, eval a X.env) :: starEach es X.env := by rfl) (hpl : (backTo pos (starEach es X.env)).any (·.1) = false := by rfl) :
    PE X (.Call (.Name "max" p) (a :: es) [] pos) (tI G (mL gMax ms)) := xB (call_max2 hc) ld_max nx_max hm PyProof.Rows.boot_max ha hg (by decide) (by decide) he hpl
theorem xMin (hc : X.calm = true) (hm : X.mg "min" = none) (ha : PA X (a :: es) (tAr G ms)) (hg : Gl X "min" := by rfl) (he : starEach (a :: es) X.env = (false, eval a X.env) :: starEach es X.env := by rfl) (hpl : (backTo pos (starEach es X.env)).any (·.1) = false := by rfl) :
    PE X (.Call (.Name "min" p) (a :: es) [] pos) (tI G (mL gMin ms)) := xB (call_min2 hc) ld_min nx_min hm PyProof.Rows.boot_min ha hg (by decide) (by decide) he hpl
theorem xAll (hc : X.calm = true) (hm : X.mg "all" = none) (ha : PA X (a :: es) (tAr G ms)) (hK : X.K = G.K := by rfl) (hg : Gl X "all" := by rfl) (he : starEach (a :: es) X.env = (false, eval a X.env) :: starEach es X.env := by rfl) (hpl : (backTo pos (starEach es X.env)).any (·.1) = false := by rfl) :
    PE X (.Call (.Name "all" p) (a :: es) [] pos) (tI G (mL gAll ms)) := xB (r := rAll G.K) (hK ▸ cr_all hc) ld_all nx_all hm PyProof.Rows.boot_all ha hg (by decide) (by decide) he hpl
theorem xTup (hm : X.mg "tuple" = none) (ha : PA X (a :: es) (tAr G ms)) (hK : X.K = G.K := by rfl) (hg : Gl X "tuple" := by rfl) (he : starEach (a :: es) X.env = (false, eval a X.env) :: starEach es X.env := by rfl) (hpl : (backTo pos (starEach es X.env)).any (·.1) = false := by rfl) :
    PE X (.Call (.Name "tuple" p) (a :: es) [] pos) (tI G (mL gTup ms)) := xT (r := rTup G.K) (hK ▸ call_tuple_of) ld_tup nx_tup hm PyProof.Rows.boot_tuple ha hg (by decide) (by decide) he hpl
end
end Zd

namespace Zd
open PySem PySem.Spec
open PyProof.Rows L2

/-! ### isinstance -/
def tyN : D → String
  | .none => "NoneType"
  | .bool _ => "bool"
  | .int _ => "int"
  | .str _ => "str"
  | .list _ => "list"
  | .tuple _ => "tuple"
  | .dict _ => "dict"
theorem Lk.ty {K : PySem.W.Frag} {ω : Om} {H : Hp} {x : V} {d : D} (l : Lk K ω H x d) : TyX K H x (.type (tyN d)) := by
  cases d with
  | none => rw [l.none]; exact .base .non
  | bool b => rw [l.bool]; exact .base (.bl b)
  | int i => rw [l.int]; exact .base (.int i)
  | str z => rw [l.str]; exact .base (.str z)
  | list ds =>
    obtain ⟨a, vs, rfl, h, _⟩ := l.rdl
    rcases h with h | ⟨o, h⟩
    · exact .base (.lst h)
    · exact .base (.frz h)
  | tuple ds =>
    obtain ⟨a, vs, rfl, h, _⟩ := l.tuple
    rcases h with (h | ⟨o, h⟩) | ⟨o, its, n, h, hc, _⟩
    · exact .base (.tup h)
    · exact .fTuple h
    · exact .kTuple h hc
  | dict _ =>
    rcases l with h | ⟨a, vs, ds, _, e, _⟩
    · cases h
    · cases e
def gIsi (p : D → Bool) (d : D) : Rs D := .ok (.bool (p d))
def isInt : D → Bool
  | .int _ => true
  | .bool _ => true
  | _ => false
def isBool : D → Bool
  | .bool _ => true
  | _ => false
def isStr : D → Bool
  | .str _ => true
  | _ => false
def isTup : D → Bool
  | .tuple _ => true
  | _ => false
def isList : D → Bool
  | .list _ => true
  | _ => false
def isSeq : D → Bool
  | .list _ => true
  | .tuple _ => true
  | _ => false
theorem kis : (["NoneType", "bool", "int", "str", "list", "tuple", "dict"].all fun t => ["int", "bool", "str", "tuple", "list"].all fun u =>
    decide (kitB t u = some (t == u || (t == "bool" && u == "int")))) = true := by decide +kernel
theorem ki_of {t u : String} (ht : t ∈ ["NoneType", "bool", "int", "str", "list", "tuple", "dict"]) (hu : u ∈ ["int", "bool", "str", "tuple", "list"]) : kitB t u = some (t == u || (t == "bool" && u == "int")) :=
  of_decide_eq_true (List.all_eq_true.mp (List.all_eq_true.mp kis t ht) u hu)
theorem ki_int (d : D) : kitB (tyN d) "int" = some (isInt d) := by
  rw [ki_of (by cases d <;> simp [tyN]) (by simp)]
  cases d <;> simp [tyN, isInt]
theorem ki_bool (d : D) : kitB (tyN d) "bool" = some (isBool d) := by
  rw [ki_of (by cases d <;> simp [tyN]) (by simp)]
  cases d <;> simp [tyN, isBool]
theorem ki_str (d : D) : kitB (tyN d) "str" = some (isStr d) := by
  rw [ki_of (by cases d <;> simp [tyN]) (by simp)]
  cases d <;> simp [tyN, isStr]
theorem ki_tup (d : D) : kitB (tyN d) "tuple" = some (isTup d) := by
  rw [ki_of (by cases d <;> simp [tyN]) (by simp)]
  cases d <;> simp [tyN, isTup]
theorem ki_list (d : D) : kitB (tyN d) "list" = some (isList d) := by
  rw [ki_of (by cases d <;> simp [tyN]) (by simp)]
  cases d <;> simp [tyN, isList]
section
variable {X : Cx} {G : Gm} {a b : Expr} {es : List Expr} {pos p p2 : Pos} {m : Am}
theorem xIsi {T : String} {nm : Str} {pd : D → Bool} (ht : ∀ d, kitB (tyN d) T = some (pd d)) (hm : X.mg "isinstance" = none) (hmT : X.mg nm = none) (hv : bootBuiltins nm = some (.type T)) (ha : PE X a (tA1 G m)) (hK : X.K = G.K := by rfl) (hg : Gl X "isinstance" := by rfl) (hgT : Gl X nm := by rfl)
    (hn : nm ≠ "__name__" := by decide) (hd : (nm == ("__debug__" : Str)) = false := by decide) (h1 : starEach [a, .Name nm p2] X.env = (false, eval a X.env) :: starEach [.Name nm p2] X.env := by rfl) (h2 : starEach [.Name nm p2] X.env = (false, eval (.Name nm p2) X.env) :: starEach [] X.env := by rfl)
    (hpl : (backTo pos (starEach [.Name nm p2] X.env)).any (·.1) = false := by rfl) : PE X (.Call (.Name "isinstance" p) [a, .Name nm p2] [] pos) (tI G (mU (gIsi pd) m)) := by
  refine pe_if (pe_callB call_isi hg hm PyProof.Rows.boot_isinstance (pa_cons ha (pa_cons (pe_bltn hgT hmT hv (v := .ty T) rfl hn hd) pa_nil h2) h1) (by decide) (by decide) h1 hpl) fun σ H Q ⟨ω, δ, φ, s, o⟩ => ⟨ω, δ, φ, s, (Out.bind o).mono (fun r h1 ω1 H1 φ1 x st1 s1 rx => ?_) fun _ _ z => z⟩
  obtain ⟨d, l1, h2⟩ := s1.got rx (Out.bind h1)
  rw [hK]
  exact ⟨x, .ty T, _, _, pd d, rfl, .ty T, l1.ty, kit_ty (ht d), h2 ω1 H1 φ1 (.bl (pd d)) st1 s1 (.bl _)⟩
def isTy2 (p q : D → Bool) (d : D) : Bool := p d || q d
/-- isinstance(x, (S, T)) -/
theorem xIsi2 {S T : String} {nm nm2 : Str} {pd qd : D → Bool} {k1} {pt p3 : Pos} (ht : ∀ d, kitB (tyN d) S = some (pd d)) (ht2 : ∀ d, kitB (tyN d) T = some (qd d)) (hm : X.mg "isinstance" = none) (hmS : X.mg nm = none) (hvS : bootBuiltins nm = some (.type S)) (hmT : X.mg nm2 = none) (hvT : bootBuiltins nm2 = some (.type T))
    (ha : PE X a (tA1 G m)) (hK : X.K = G.K := by rfl) (hg : Gl X "isinstance" := by rfl) (hgS : Gl X nm := by rfl) (hgT : Gl X nm2 := by rfl)
    (hn : nm ≠ "__name__" := by decide) (hd : (nm == ("__debug__" : Str)) = false := by decide) (hn2 : nm2 ≠ "__name__" := by decide) (hd2 : (nm2 == ("__debug__" : Str)) = false := by decide)
    (h1 : starEach [a, .Tuple [.Name nm p2, .Name nm2 p3] k1 pt] X.env = (false, eval a X.env) :: starEach [.Tuple [.Name nm p2, .Name nm2 p3] k1 pt] X.env := by rfl) (h2 : starEach [.Tuple [.Name nm p2, .Name nm2 p3] k1 pt] X.env = (false, eval (.Tuple [.Name nm p2, .Name nm2 p3] k1 pt) X.env) :: starEach [] X.env := by rfl)
    (h3 : starEach [.Name nm p2, .Name nm2 p3] X.env = (false, eval (.Name nm p2) X.env) :: starEach [.Name nm2 p3] X.env := by rfl) (h4 : starEach [.Name nm2 p3] X.env = (false, eval (.Name nm2 p3) X.env) :: starEach [] X.env := by rfl)
    (hpl : (backTo pos (starEach [.Tuple [.Name nm p2, .Name nm2 p3] k1 pt] X.env)).any (·.1) = false := by rfl) : PE X (.Call (.Name "isinstance" p) [a, .Tuple [.Name nm p2, .Name nm2 p3] k1 pt] [] pos) (tI G (mU (gIsi (isTy2 pd qd)) m)) := by
  refine pe_if (pe_callB call_isiT hg hm PyProof.Rows.boot_isinstance (pa_cons ha (pa_cons (pe_tup (pa_cons (pe_bltn hgS hmS hvS (v := .ty S) rfl hn hd) (pa_cons (pe_bltn hgT hmT hvT (v := .ty T) rfl hn2 hd2) pa_nil h4) h3)) pa_nil h2) h1) (by decide) (by decide) h1 hpl) fun σ H Q ⟨ω, δ, φ, s, o⟩ => ⟨ω, δ, φ, s, (Out.bind o).mono (fun r h1 ω1 H1 φ1 x st1 s1 rx => ?_) fun _ _ z => z⟩
  obtain ⟨d, l1, h2⟩ := s1.got rx (Out.bind h1)
  refine ⟨by show 2 ≤ sizeLine; decide, fun q hq => ?_⟩
  have ex := Ext.upd (o := .tup [V.ty S, V.ty T]) hq
  have l2 := l1.ext s1.wf ex
  have hr := h2 ω1 _ φ1 (.bl (isTy2 pd qd d)) (st1.trans (s1.step ex)) (s1.ext ex) (.bl _)
  refine ⟨x, q, [.ty S, .ty T], _, [.type S, .type T], isTy2 pd qd d, rfl, upd_same, .cons (.ty S) (.cons (.ty T) .nil), hK ▸ l2.ty, ?_, hr⟩
  refine kitAny_cons (kit_ty (ht d)) (fun e => ?_) (fun e => by unfold isTy2; rw [e]; rfl)
  refine kitAny_cons (r := isTy2 pd qd d) (kit_ty (ht2 d)) (fun e2 => ?_) (fun e2 => by unfold isTy2; rw [e2, Bool.or_true])
  unfold isTy2
  rw [e, e2]
  rfl
end

/-! ### what is walked -/
def seqOf : D → Rs (List D)
  | .list xs => .ok xs
  | .tuple xs => .ok xs
  | .str z => .ok (z.cps.toList.map fun c => .str ⟨#[c]⟩)
  | _ => .no
def wSeq (m : Em) : Sm := fun δ => m δ >>= fun r => seqOf r.1 >>= fun xs => .ok (xs, r.2)
def iAny (K : PySem.W.Frag) (te : TE) : TI := fun σ H R => te σ H fun x H1 => (∃ a, x = .ref a ∧ (∃ xs, SqL K H1 a xs) ∧ R (Itl K a) H1) ∨ (∃ a, x = .ref a ∧ (∃ xs, SqT K H1 a xs) ∧ R (Itt K a) H1) ∨ ∃ z, x = .str z ∧ R (Its z) H1
section
variable {X : Cx} {tg e : Expr} {te : TE}
theorem pi_any (he : PE X e te) : PI X tg e (iAny X.K te) := by
  constructor
  intro pins s σ H R I h
  refine thn (he.run pins s σ H _ I h) ?_
  rintro v s1 ⟨x, G, J, rx, ⟨a, rfl, ⟨xs, hq⟩, q⟩ | ⟨a, rfl, ⟨xs, hq⟩, q⟩ | ⟨z, rfl, q⟩⟩
  -- a new object at the heap's end, nothing else
  · cases rx
    obtain ⟨its, _, isL, _⟩ := J.list hq
    refine (show wpAny _ _ (pyIter (.ref a)) _ _ _ from ?_)
    refine wpAny_pyIter_list isL.isList
      ⟨s1.heap.objs.size, [s1.heap.objs.size], _, _, G, rfl, J.kept (t' := s1.toks) fun c o e => Heap.get?_push_of_some _ e, turn_list a _,
        ⟨_, Heap.get?_push_size _ rfl, rfl, rfl⟩, fun c hc => ?_, q⟩
    cases List.mem_singleton.mp hc
    exact J.fpOk (Nat.le_refl _) (J.hok.fresh (Nat.le_refl s1.heap.objs.size))
  · cases rx
    obtain ⟨its, _, isT, _⟩ := J.tuple hq
    refine (show wpAny _ _ (pyIter (.ref a)) _ _ _ from ?_)
    refine wpAny_pyIter_tuple (show s1.heap.IsTuple a its.toArray from isT)
      ⟨s1.heap.objs.size, [s1.heap.objs.size], _, _, G, rfl, J.kept (t' := s1.toks) fun c o e => Heap.get?_push_of_some _ e, turn_tuple a _,
        ⟨_, Heap.get?_push_size _ rfl, rfl, rfl⟩, fun c hc => ?_, q⟩
    cases List.mem_singleton.mp hc
    exact J.fpOk (Nat.le_refl _) (J.hok.fresh (Nat.le_refl s1.heap.objs.size))
  · obtain ⟨tk, rfl⟩ := rx
    refine (show wpAny _ _ (pyIter (.str z tk)) _ _ _ from ?_)
    cases wide : z.cps.all (· < 128)
    · exact wpAny_pyIter_wide wide (pi_one (tk := s1.toks) J _ (turn_str _ z tk "str_iterator" (.inr rfl)) ⟨_, Heap.get?_push_size _ rfl, rfl, rfl⟩ q)
    · exact wpAny_pyIter_ascii wide (pi_one (tk := s1.toks) J _ (turn_str _ z tk "str_ascii_iterator" (.inl rfl)) ⟨_, Heap.get?_push_size _ rfl, rfl, rfl⟩ q)
end
section
variable {K : PySem.W.Frag}
theorem wk_list {a : Addr} {xs : List D} : Wk K (Itl K a) xs (fun ω H => ∃ vs, (Rd H a (.lst vs) ∧ ¬ ω a) ∧ Reps K ω H vs xs) where
  goes := fun i ω H hi ⟨vs, h, r⟩ => by
    obtain ⟨v, hv, _⟩ := r.getD (List.getElem?_eq_getElem hi)
    exact ⟨vs, v, .inl h.1, hv⟩
  stops := fun ω H ⟨vs, h, r⟩ => ⟨vs, .inl h.1, by rw [r.length]; exact Nat.le_refl _⟩
  yields := fun i ω H x H' ⟨vs, h, r⟩ wf hi ⟨e, y⟩ => by
    subst e
    obtain ⟨d, hd, rp⟩ := r.get (y vs (.inl h.1))
    exact ⟨Ext.refl _, d, hd, rp⟩
  stay := fun ω P H ω' P' H' st ⟨vs, h, r⟩ => ⟨vs, st.grow.rdl h, r.up st.grow⟩
theorem wk_tup {a : Addr} {xs : List D} : Wk K (Itt K a) xs (fun ω H => ∃ vs, SqT K H a vs ∧ Reps K ω H vs xs) where
  goes := fun i ω H hi ⟨vs, h, r⟩ => by
    obtain ⟨v, hv, _⟩ := r.getD (List.getElem?_eq_getElem hi)
    exact ⟨vs, v, h, hv⟩
  stops := fun ω H ⟨vs, h, r⟩ => ⟨vs, h, by rw [r.length]; exact Nat.le_refl _⟩
  yields := fun i ω H x H' ⟨vs, h, r⟩ wf hi ⟨e, y⟩ => by
    subst e
    obtain ⟨d, hd, rp⟩ := r.get (y vs h)
    exact ⟨Ext.refl _, d, hd, rp⟩
  stay := fun ω P H ω' P' H' st ⟨vs, h, r⟩ => ⟨vs, st.grow.sqT h, r.up st.grow⟩
theorem wk_str {z : Str} : Wk K (Its z) (z.cps.toList.map fun c => PyData.str ⟨#[c]⟩) (fun _ _ => True) where
  goes := fun i ω H hi _ => by simpa [Its] using hi
  stops := fun ω H _ => by simp [Its]
  yields := fun i ω H x H' _ wf hi y => by
    obtain ⟨e, c, hc, rfl⟩ := y
    subst e
    refine ⟨Ext.refl _, .str ⟨#[c]⟩, ?_, .str _⟩
    rw [List.getElem?_map]
    have : z.cps.toList[i]? = some c := by simpa using hc
    rw [this]
    rfl
  stay := fun _ _ _ _ _ _ _ _ => trivial
theorem wk_range {n : Nat} : Wk K (Itr 0 n) ((List.range n).map fun i => PyData.int (i : Nat)) (fun _ _ => True) where
  goes := fun i ω H hi _ => by simpa [Itr] using hi
  stops := fun ω H _ => by simp [Itr]
  yields := fun i ω H x H' _ wf hi y => by
    obtain ⟨e, rfl⟩ := y
    subst e
    have hi : i < n := by simpa using hi
    refine ⟨Ext.refl _, .int (i : Nat), ?_, ?_⟩
    · rw [List.getElem?_map, List.getElem?_range hi]
      rfl
    · rw [Int.zero_add]
      exact .int _
  stay := fun _ _ _ _ _ _ _ _ => trivial
def pairs : List D → List D → List D
  | x :: xs, y :: ys => .tuple [x, y] :: pairs xs ys
  | _, _ => []
theorem pairs_len : ∀ xs ys : List D, (pairs xs ys).length = min xs.length ys.length
  | [], ys => by simp [pairs]
  | x :: xs, [] => by simp [pairs]
  | x :: xs, y :: ys => by simp only [pairs, List.length_cons, pairs_len xs ys]; omega
theorem pairs_get : ∀ {xs ys : List D} {i : Nat} {x y : D}, xs[i]? = some x → ys[i]? = some y → (pairs xs ys)[i]? = some (.tuple [x, y])
  | [], _, _, _, _, h, _ => absurd h (by simp)
  | _ :: _, [], _, _, _, _, h => absurd h (by simp)
  | x :: xs, y :: ys, 0, _, _, h1, h2 => by simp at h1 h2; subst h1; subst h2; simp [pairs]
  | x :: xs, y :: ys, i + 1, _, _, h1, h2 => by
    simp only [pairs, List.getElem?_cons_succ] at h1 h2 ⊢
    exact pairs_get h1 h2
theorem wk_zip {a b : Addr} {xs ys : List D} : Wk K (Itz K a b) (pairs xs ys) (fun ω H => ∃ vs ws, ((Rd H a (.lst vs) ∧ ¬ ω a) ∧ Reps K ω H vs xs) ∧ (Rd H b (.lst ws) ∧ ¬ ω b) ∧ Reps K ω H ws ys) where
  goes := fun i ω H hi ⟨vs, ws, ⟨h1, r1⟩, h2, r2⟩ => by
    rw [pairs_len] at hi
    obtain ⟨v, hv, _⟩ := r1.getD (List.getElem?_eq_getElem (show i < xs.length by omega))
    obtain ⟨w, hw, _⟩ := r2.getD (List.getElem?_eq_getElem (show i < ys.length by omega))
    exact ⟨vs, ws, v, w, .inl h1.1, .inl h2.1, hv, hw⟩
  stops := fun ω H ⟨vs, ws, ⟨h1, r1⟩, h2, r2⟩ => ⟨vs, ws, .inl h1.1, .inl h2.1, by rw [r1.length, r2.length, pairs_len]; omega⟩
  yields := fun i ω H x H' ⟨vs, ws, ⟨h1, r1⟩, h2, r2⟩ wf hi y => by
    obtain ⟨T, x, y, rfl, hT, rfl, f1, f2⟩ := y
    obtain ⟨d, hd, rd⟩ := r1.get (f1 vs (.inl h1.1))
    obtain ⟨e, he, re⟩ := r2.get (f2 ws (.inl h2.1))
    exact ⟨Ext.upd hT, _, pairs_get hd he, Rep.newT wf hT (.cons rd (.cons re .nil))⟩
  stay := fun ω P H ω' P' H' st ⟨vs, ws, ⟨h1, r1⟩, h2, r2⟩ => ⟨vs, ws, ⟨st.grow.rdl h1, r1.up st.grow⟩, st.grow.rdl h2, r2.up st.grow⟩
theorem wk_zipT {a b : Addr} {xs ys : List D} : Wk K (RZ.ItzT K a b) (pairs xs ys) (fun ω H => ∃ vs ws, (SqT K H a vs ∧ Reps K ω H vs xs) ∧ SqT K H b ws ∧ Reps K ω H ws ys) where
  goes := fun i ω H hi ⟨vs, ws, ⟨h1, r1⟩, h2, r2⟩ => by
    rw [pairs_len] at hi
    obtain ⟨v, hv, _⟩ := r1.getD (List.getElem?_eq_getElem (show i < xs.length by omega))
    obtain ⟨w, hw, _⟩ := r2.getD (List.getElem?_eq_getElem (show i < ys.length by omega))
    exact ⟨vs, ws, v, w, h1, h2, hv, hw⟩
  stops := fun ω H ⟨vs, ws, ⟨h1, r1⟩, h2, r2⟩ => ⟨vs, ws, h1, h2, by rw [r1.length, r2.length, pairs_len]; omega⟩
  yields := fun i ω H x H' ⟨vs, ws, ⟨h1, r1⟩, h2, r2⟩ wf hi y => by
    obtain ⟨T, x, y, rfl, hT, rfl, f1, f2⟩ := y
    obtain ⟨d, hd, rd⟩ := r1.get (f1 vs h1)
    obtain ⟨e, he, re⟩ := r2.get (f2 ws h2)
    exact ⟨Ext.upd hT, _, pairs_get hd he, Rep.newT wf hT (.cons rd (.cons re .nil))⟩
  stay := fun ω P H ω' P' H' st ⟨vs, ws, ⟨h1, r1⟩, h2, r2⟩ => ⟨vs, ws, ⟨st.grow.sqT h1, r1.up st.grow⟩, st.grow.sqT h2, r2.up st.grow⟩
end
section
variable {X : Cx} {G : Gm} {tg e a b : Expr} {p pos : Pos}
theorem iq {m : Em} (he : PE X e (tI G m)) (hK : X.K = G.K := by rfl) : PI X tg e (tW G (wSeq m)) := by
  refine pi_if (pi_any he) fun σ H R ⟨ω, δ, φ, s, o⟩ => ⟨ω, δ, φ, s, (Out.bind o).mono (fun r hr ω' H' φ' v st s' rp => ?_) fun _ _ z => z⟩
  obtain ⟨d, δ1⟩ := r
  rw [hK]
  cases d with
  | list xs =>
    cases rp with
    | lst hs ha => exact .inl ⟨_, rfl, ⟨_, .inl hs.1⟩, hr ω' H' φ' _ _ st s' wk_list ⟨_, hs, ha⟩⟩
  | tuple xs =>
    cases rp with
    | tup hs ha => exact .inr (.inl ⟨_, rfl, ⟨_, hs⟩, hr ω' H' φ' _ _ st s' wk_tup ⟨_, hs, ha⟩⟩)
  | str z =>
    cases rp
    exact .inr (.inr ⟨z, rfl, hr ω' H' φ' _ _ st s' wk_str trivial⟩)
  | _ => exact hr.elim
def wRng (m : Sm) : Sm := fun δ => m δ >>= fun r => match r.1 with
  | [.int j] => if -(2 ^ 62) ≤ j ∧ j < 2 ^ 62 then .ok ((List.range j.toNat).map fun i => PyData.int (i : Nat), r.2) else .no
  | _ => .no
theorem ir {m : Sm} (hm : X.mg "range" = none) (ha : PA X [a] (tS G m)) (hg : Gl X "range" := by rfl) (hs : starEach [a] X.env = [(false, eval a X.env)] := by rfl) : PI X tg (.Call (.Name "range" p) [a] [] pos) (tW G (wRng m)) := by
  refine pi_if (pi_range1 hg hm ha hs) fun σ H R ⟨ω, δ, φ, s, o⟩ => ⟨ω, δ, φ, s, (Out.bind o).mono (fun r hr ω' H' φ' vs st s' rp => ?_) fun _ _ z => z⟩
  obtain ⟨ds, δ1⟩ := r
  simp only at hr
  split at hr
  · rename_i j
    obtain ⟨⟨c1, c2⟩, hr⟩ := if_inv hr
    cases rp with
    | cons r1 r2 =>
      cases r2
      cases r1
      exact ⟨j, rfl, c1, c2, hr ω' H' φ' _ _ st s' wk_range trivial⟩
  · exact hr.elim
def wZip (m : Sm) : Sm := fun δ => m δ >>= fun r => match r.1 with
  | [.list xs, .list ys] => .ok (pairs xs ys, r.2)
  | [.tuple xs, .tuple ys] => .ok (pairs xs ys, r.2)
  | _ => .no
theorem iz {m : Sm} {elts : List Expr} {kk : Nat} {tpos : Pos} (hm : X.mg "zip" = none) (ha : PA X [a, b] (tS G m)) (hK : X.K = G.K := by rfl) (hg : Gl X "zip" := by rfl) (hs : starEach [a, b] X.env = (false, eval a X.env) :: starEach [b] X.env := by rfl) (hpl : (backTo pos (starEach [b] X.env)).any (·.1) = false := by rfl) :
    PI X (.Tuple elts kk tpos) (.Call (.Name "zip" p) [a, b] [] pos) (tW G (wZip m)) := by
  refine pi_if (RZ.pi_zipA hg hm ha hs hpl) fun σ H R ⟨ω, δ, φ, s, o⟩ => ⟨ω, δ, φ, s, (Out.bind o).mono (fun r hr ω' H' φ' vs st s' rp => ?_) fun _ _ z => z⟩
  obtain ⟨ds, δ1⟩ := r
  rw [hK]
  simp only at hr
  split at hr
  · rename_i xs ys
    cases rp with
    | cons r1 r2 =>
      cases r2 with
      | cons r2 r3 =>
        cases r3
        cases r1 with
        | lst h1 q1 =>
          cases r2 with
          | lst h2 q2 => exact ⟨_, _, _, _, rfl, .inl ⟨.inl h1.1, .inl h2.1, hr ω' H' φ' _ _ st s' wk_zip ⟨_, _, ⟨h1, q1⟩, h2, q2⟩⟩⟩
  · rename_i xs ys
    cases rp with
    | cons r1 r2 =>
      cases r2 with
      | cons r2 r3 =>
        cases r3
        cases r1 with
        | tup h1 q1 =>
          cases r2 with
          | tup h2 q2 => exact ⟨_, _, _, _, rfl, .inr ⟨h1, h2, hr ω' H' φ' _ _ st s' wk_zipT ⟨_, _, ⟨h1, q1⟩, h2, q2⟩⟩⟩
  · exact hr.elim
end
end Zd

namespace Zd
open PySem PySem.Spec
open PyProof.Rows L2

/-! ### a list of ours is written -/
section
variable {K : PySem.W.Frag} {κ : Kn} {ω : Om} {H : Hp} {σ : L2.St} {δ : Dl} {φ : Fps}
theorem own_grow {a : Addr} {vs : List V} (wf : Wf ω H) (ha : ω a) : Grow ω H ω (upd H a (.lst vs)) := ⟨fun b o h n => by rw [upd_ne (fun e => n (by rw [e]; exact ha))]; exact h, wf, fun b z => .inl z⟩
theorem Slots.write (s : Slots K κ ω H σ δ φ) {i : Nat} {v : V} {a : Addr} {vs : List V} {d : D} (hv : σ[i]? = some (some v)) (hl : i < δ.length) (ha : a ∈ φ i) (ow : Own K ω (upd H a (.lst vs)) (κ i) v d (φ i)) :
    Slots K κ ω (upd H a (.lst vs)) σ (δ.set i (some d)) φ ∧ Step ω (Fp φ) H ω (Fp φ) (upd H a (.lst vs)) := by
  have oa : ω a := s.sub a ⟨i, ha⟩
  refine ⟨⟨by rw [List.length_set]; exact s.len, fun j e h => ?_, s.nod, s.dis, s.sub, fun b hb => ?_⟩, fun b o h n => by rw [upd_ne (fun e => n (by rw [e]; exact ⟨i, ha⟩))]; exact h, fun b z => .inl z, fun b z _ => z, fun b z => .inl z, s.sub, s.wf⟩
  · by_cases q : i = j
    · subst q
      rw [List.getElem?_set_self hl] at h
      cases h
      exact ⟨v, hv, ow⟩
    · rw [List.getElem?_set_ne q] at h
      obtain ⟨w, h1, h2⟩ := s.at_ j e h
      exact ⟨w, h1, Own.mono (own_grow s.wf oa) e _ _ _ (fun b hb => by rw [upd_ne (fun e => s.dis i j a q ha (by rw [← e]; exact hb))]) h2⟩
  · by_cases e : b = a
    · subst e; exact ⟨_, upd_same⟩
    · rw [upd_ne e]; exact s.wf b hb
/-- the flat list in a slot -/
theorem Slots.flat (s : Slots K κ ω H σ δ φ) {i : Nat} {d : D} (hk : κ i = .mu .im) (h : δ[i]? = some (some d)) : ∃ a vs ds, σ[i]? = some (some (.ref a)) ∧ d = .list ds ∧ φ i = [a] ∧ H a = some (.lst vs) ∧ Reps K ω H vs ds := by
  obtain ⟨v, h1, h2⟩ := s.at_ i d h
  rw [hk] at h2
  obtain ⟨a, vs, ds, rfl, rfl, h3, h4, h5⟩ := h2.mui_inv
  exact ⟨a, vs, ds, h1, rfl, h3, h4, h5⟩
theorem Slots.writeFlat (s : Slots K κ ω H σ δ φ) {i : Nat} {a : Addr} {vs : List V} {ds : List D} (hk : κ i = .mu .im) (hv : σ[i]? = some (some (.ref a))) (hl : i < δ.length) (hf : φ i = [a]) (r : Reps K ω H vs ds) :
    Slots K κ ω (upd H a (.lst vs)) σ (δ.set i (some (.list ds))) φ ∧ Step ω (Fp φ) H ω (Fp φ) (upd H a (.lst vs)) := by
  have ha : a ∈ φ i := by rw [hf]; simp
  refine s.write hv hl ha ?_
  rw [hk, hf]
  exact .mui upd_same (r.up (own_grow s.wf (s.sub a ⟨i, ha⟩)))
end
def listAt (δ : Dl) (i : Nat) : Rs (List D) := match δ[i]? with
  | some (some (.list xs)) => .ok xs
  | _ => .no
theorem listAt_inv {δ : Dl} {i : Nat} {q : List D → Prop} {e : Str → D → Prop} (h : Out (listAt δ i) q e) : ∃ xs, δ[i]? = some (some (.list xs)) ∧ q xs := by
  unfold listAt at h
  split at h
  · rename_i xs e1
    exact ⟨xs, e1, h⟩
  · exact h.elim
section
variable {X : Cx} {G : Gm} {e a b : Expr} {es : List Expr} {pos p apos cpos : Pos} {y : Str} {py : Pos}
theorem tBM_list {K : PySem.W.Frag} {a : Addr} {vs : List V} {H : Hp} (h : H a = some (.lst vs)) : tyV K "list" (.ref a) H := .inl ⟨rfl, vs, .inl (.inl h)⟩
/-- x.append(e) -/
def mApp (i : Nat) (m : Em) : Em := fun δ => listAt δ i >>= fun _ => m δ >>= fun r => listAt r.2 i >>= fun xs => if xs.length < sizeLine then .ok (.none, r.2.set i (some (.list (xs ++ [r.1])))) else .no
theorem xApp (i : Nat) {m : Em} (he : PE X e (tI G m)) (hk : G.κ i = .mu .im := by rfl) (hK : X.K = G.K := by rfl) (hN : X.N[i]? = some y := by rfl) (hv : Vis X.env.scope y := by first | exact Or.inl rfl | exact Or.inr (Or.inl rfl) | exact Or.inr (Or.inr rfl)) (hd : (y == ("__debug__" : Str)) = false := by decide) (hcd : (y == ("__classdict__" : Str)) = false := by decide)
    (he1 : starEach [e] X.env = (false, eval e X.env) :: starEach [] X.env := by rfl)
    (hbase : attributeBase (.Name y py) "append" X.env (eval (.Name y py) X.env) = eval (.Name y py) X.env := by rfl)
    (hfew : ((backTo cpos (starEach (e :: []) X.env)).all (fun x => !x.1) && (backToKw cpos (keywordEach [] X.env)).all (fun x => x.1.isSome)
      && decide ((e :: ([] : List Expr)).length + ([] : List Keyword).length + (if ([] : List Keyword).isEmpty then 0 else 1) < 30)) = true := by rfl)
    (hline : (apos.endLine == cpos.line) = true := by rfl) (hplain : (backTo cpos (starEach ([] : List Expr) X.env)).any (·.1) = false := by rfl) :
    PE X (.Call (.Attribute (.Name y py) "append" apos) [e] [] cpos) (tI G (mApp i m)) := by
  refine pe_if (pe_bm PySem.F.plainAttrs_list PySem.F.slot_list_append PySem.F.type_list_append mt_append (pe_var hN hv hd hcd) (pa_cons he pa_nil he1) hbase hfew hline he1 hplain) fun σ H Q ⟨ω, δ, φ, s, o⟩ => ?_
  obtain ⟨xs0, e0, o⟩ := listAt_inv (Out.bind o)
  obtain ⟨a, vs0, _, hσ, _, hf, hH, _⟩ := s.flat hk e0
  refine ⟨_, hσ, tBM_list hH, ω, δ, φ, s, (Out.bind o).mono (fun r hr ω' H' φ' v st s' rp => ?_) fun _ _ z => z⟩
  obtain ⟨xs, e1, hr⟩ := listAt_inv (Out.bind hr)
  obtain ⟨hc, hr⟩ := if_inv hr
  obtain ⟨a', vs, ds, hσ', ed, hf', hH', rs⟩ := s'.flat hk e1
  rw [hσ] at hσ'
  cases hσ'
  cases ed
  obtain ⟨s2, st2⟩ := s'.writeFlat hk hσ (List.getElem?_eq_some_iff.mp e1).1 hf' (rs.snoc rp)
  exact ⟨a, vs, v, rfl, rfl, hH', by rw [rs.length]; exact hc, hr ω' _ φ' .non (st.trans st2) s2 .non⟩
/-- x.pop() -/
def mPop (i : Nat) : Em := fun δ => listAt δ i >>= fun xs => optR xs.getLast? >>= fun d => .ok (d, δ.set i (some (.list xs.dropLast)))
theorem xPop (i : Nat) (hk : G.κ i = .mu .im := by rfl) (hN : X.N[i]? = some y := by rfl) (hv : Vis X.env.scope y := by first | exact Or.inl rfl | exact Or.inr (Or.inl rfl) | exact Or.inr (Or.inr rfl)) (hd : (y == ("__debug__" : Str)) = false := by decide) (hcd : (y == ("__classdict__" : Str)) = false := by decide)
    (hbase : attributeBase (.Name y py) "pop" X.env (eval (.Name y py) X.env) = eval (.Name y py) X.env := by rfl) (hline : (apos.endLine == cpos.line) = true := by rfl) :
    PE X (.Call (.Attribute (.Name y py) "pop" apos) [] [] cpos) (tI G (mPop i)) := by
  refine pe_if (pe_bm0 PySem.F.plainAttrs_list PySem.F.slot_list_pop PySem.F.type_list_pop mt_pop (pe_var hN hv hd hcd) hbase hline) fun σ H Q ⟨ω, δ, φ, s, o⟩ => ?_
  obtain ⟨xs, e1, o⟩ := listAt_inv (Out.bind o)
  obtain ⟨d, hl, o⟩ := opt_inv (Out.bind o)
  obtain ⟨a, vs, ds, hσ, ed, hf, hH, rs⟩ := s.flat hk e1
  cases ed
  rw [List.getLast?_eq_getElem?] at hl
  obtain ⟨v, hv', rv⟩ := rs.getD hl
  obtain ⟨s2, st2⟩ := s.writeFlat hk hσ (List.getElem?_eq_some_iff.mp e1).1 hf rs.dropLast
  have oa : ω a := s.sub a ⟨i, by rw [hf]; simp⟩
  exact ⟨_, hσ, tBM_list hH, a, vs, v, rfl, rfl, hH, by rw [rs.length]; exact hv', o ω _ φ v st2 s2 (Rep.up rv (own_grow s.wf oa))⟩
/-- x.pop(k) -/
def mPopAt (i : Nat) (m : Em) : Em := fun δ => listAt δ i >>= fun _ => m δ >>= fun r => listAt r.2 i >>= fun xs => toI r.1 >>= fun k => if -(2 ^ 63) ≤ k ∧ k < 2 ^ 63 then optR ((seqIndex? k xs.length).bind fun j => xs[j]?.map fun d => (j, d)) >>= fun jd => .ok (jd.2, r.2.set i (some (.list (xs.eraseIdx jd.1)))) else .no
theorem toI_inv {d : D} {q : Int → Prop} {e : Str → D → Prop} (h : Out (toI d) q e) : ∃ i, d = .int i ∧ q i := by
  cases d with
  | int i => exact ⟨i, rfl, h⟩
  | _ => exact h.elim
theorem xPopAt (i : Nat) {m : Em} (he : PE X e (tI G m)) (hk : G.κ i = .mu .im := by rfl) (hN : X.N[i]? = some y := by rfl) (hv : Vis X.env.scope y := by first | exact Or.inl rfl | exact Or.inr (Or.inl rfl) | exact Or.inr (Or.inr rfl)) (hd : (y == ("__debug__" : Str)) = false := by decide) (hcd : (y == ("__classdict__" : Str)) = false := by decide)
    (he1 : starEach [e] X.env = (false, eval e X.env) :: starEach [] X.env := by rfl)
    (hbase : attributeBase (.Name y py) "pop" X.env (eval (.Name y py) X.env) = eval (.Name y py) X.env := by rfl)
    (hfew : ((backTo cpos (starEach (e :: []) X.env)).all (fun x => !x.1) && (backToKw cpos (keywordEach [] X.env)).all (fun x => x.1.isSome)
      && decide ((e :: ([] : List Expr)).length + ([] : List Keyword).length + (if ([] : List Keyword).isEmpty then 0 else 1) < 30)) = true := by rfl)
    (hline : (apos.endLine == cpos.line) = true := by rfl) (hplain : (backTo cpos (starEach ([] : List Expr) X.env)).any (·.1) = false := by rfl) :
    PE X (.Call (.Attribute (.Name y py) "pop" apos) [e] [] cpos) (tI G (mPopAt i m)) := by
  refine pe_if (pe_bm PySem.F.plainAttrs_list PySem.F.slot_list_pop PySem.F.type_list_pop mt_popAt (pe_var hN hv hd hcd) (pa_cons he pa_nil he1) hbase hfew hline he1 hplain) fun σ H Q ⟨ω, δ, φ, s, o⟩ => ?_
  obtain ⟨xs0, e0, o⟩ := listAt_inv (Out.bind o)
  obtain ⟨a, vs0, _, hσ, _, hf, hH, _⟩ := s.flat hk e0
  refine ⟨_, hσ, tBM_list hH, ω, δ, φ, s, (Out.bind o).mono (fun r hr ω' H' φ' v st s' rp => ?_) fun _ _ z => z⟩
  obtain ⟨xs, e1, hr⟩ := listAt_inv (Out.bind hr)
  obtain ⟨k, ek, hr⟩ := toI_inv (Out.bind hr)
  obtain ⟨⟨c1, c2⟩, hr⟩ := if_inv hr
  obtain ⟨⟨j, d⟩, ej, hr⟩ := opt_inv (Out.bind hr)
  obtain ⟨j', hj, ej⟩ := Option.bind_eq_some_iff.mp ej
  obtain ⟨d', hd', ej⟩ := Option.map_eq_some_iff.mp ej
  cases ej
  obtain ⟨a', vs, ds, hσ', ed, hf', hH', rs⟩ := s'.flat hk e1
  rw [hσ] at hσ'
  cases hσ'
  cases ed
  rw [ek] at rp
  cases rp
  obtain ⟨w, hw, rw'⟩ := rs.getD hd'
  obtain ⟨s2, st2⟩ := s'.writeFlat hk hσ (List.getElem?_eq_some_iff.mp e1).1 hf' (rs.eraseIdx j)
  have oa : ω' a := s'.sub a ⟨i, by rw [hf']; simp⟩
  exact ⟨a, vs, k, j, w, rfl, rfl, hH', c1, c2, by rw [rs.length]; exact hj, hw, hr ω' _ φ' w (st.trans st2) s2 (Rep.up rw' (own_grow s'.wf oa))⟩
end
section
variable {X : Cx} {G : Gs} {σ0 : L2.St} {e ei : Expr} {pos p : Pos} {y : Str} {py : Pos}
/-- x[k] = e -/
def pStore (i : Nat) (m k : Em) : Pm := fun δ => m δ >>= fun r => listAt r.2 i >>= fun _ => k r.2 >>= fun q => listAt q.2 i >>= fun xs => toI q.1 >>= fun j => optR (ixN xs.length j) >>= fun n => .ok (.nx, q.2.set i (some (.list (xs.set n r.1))))
theorem pst (i : Nat) {m k : Em} (he : PE X e (tI G.toGm m)) (hi : PE X ei (tI G.toGm k)) (hk : G.κ i = .mu .im := by rfl) (hN : X.N[i]? = some y := by rfl) (hv : Vis X.env.scope y := by first | exact Or.inl rfl | exact Or.inr (Or.inl rfl) | exact Or.inr (Or.inr rfl)) (hd : (y == ("__debug__" : Str)) = false := by decide) (hcd : (y == ("__classdict__" : Str)) = false := by decide)
    (ha : ∀ v, assign (.Subscript (.Name y py) ei p) X.env v = (do
      let ov ← holding [v] (eval (.Name y py) X.env)
      let iv ← holding [v, ov] (eval ei X.env)
      standAt p
      holding [v, ov,
                iv] (setItem ov iv v)
      release [v, ov, iv] []) := by intro _; rfl)
    (hs : swapsWithSole [.Subscript (.Name y py) ei p] e pos.line X.env = pure false := by rfl) (hw : swappedStores [.Subscript (.Name y py) ei p] e X.env = pure none := by rfl)
    (h1 : (assignEach [.Subscript (.Name y py) ei p] X.env).map (·.2) = [assign (.Subscript (.Name y py) ei p) X.env] := by rfl) : PS X (.Assign [.Subscript (.Name y py) ei p] e pos) (tP G σ0 (pStore i m k)) := by
  refine ps_if' (ps_asg he (pg_sub (pe_var hN hv hd hcd) hi set_list ha) hs hw h1) fun D σ H ⟨pn, ω, δ, φ, s, o⟩ => ⟨ω, δ, φ, s, (Out.bind o).mono (fun r hr ω1 H1 φ1 v st1 s1 rp => ?_) fun _ _ z => z⟩
  obtain ⟨xs0, e0, hr⟩ := listAt_inv (Out.bind hr)
  obtain ⟨a, vs0, _, hσ, _, hf, hH, _⟩ := s1.flat hk e0
  refine ⟨_, hσ, ω1, r.2, φ1, s1, (Out.bind hr).mono (fun q hq ω2 H2 φ2 w st2 s2 rw' => ?_) fun _ _ z => z.up st1⟩
  obtain ⟨xs, e1, hq⟩ := listAt_inv (Out.bind hq)
  obtain ⟨j, ej, hq⟩ := toI_inv (Out.bind hq)
  obtain ⟨n, en, hq⟩ := opt_inv (Out.bind hq)
  obtain ⟨a', vs, ds, hσ', ed, hf', hH', rs⟩ := s2.flat hk e1
  rw [hσ] at hσ'
  cases hσ'
  cases ed
  rw [ej] at rw'
  cases rw'
  obtain ⟨s3, st3⟩ := s2.writeFlat hk hσ (List.getElem?_eq_some_iff.mp e1).1 hf' (rs.set (Rep.up rp st2.grow) n)
  exact ⟨a, vs, j, n, rfl, rfl, hH', by rw [rs.length]; exact en, hq ω2 _ σ φ2 ((st1.trans st2).trans st3) s3 pn⟩
end

/-! ### places within a list of unlike things -/
section
variable {K : PySem.W.Frag} {ω : Om} {H : Hp}
theorem Owns.at : ∀ {ss : List Sh} {vs : List V} {ds : List D} {f : List Addr} {k : Nat} {s : Sh} {d : D}, Owns K ω H ss vs ds f → ss[k]? = some s → ds[k]? = some d →
    ∃ v g1 fk g2, vs[k]? = some v ∧ f = g1 ++ fk ++ g2 ∧ Own K ω H s v d fk ∧
      ∀ (ω' : Om) (H' : Hp) (v' : V) (d' : D), Grow ω H ω' H' → (∀ a ∈ g1 ++ g2, H' a = H a) → Own K ω' H' s v' d' fk → Owns K ω' H' ss (vs.set k v') (ds.set k d') f
  | _, _, [], _, _, _, _, _, _, h => by simp at h
  | _, _, d0 :: ds, _, 0, s, d, o, hs, hd => by
    cases o with
    | @cons s0 ss v vs _ _ f g r t =>
      simp at hs hd
      subst hs hd
      refine ⟨v, [], f, g, rfl, by simp, r, fun ω' H' v' d' gr hk ow => .cons ow (Owns.mono gr ds _ _ _ (fun a ha => hk a (by simpa using ha)) t)⟩
  | _, _, d0 :: ds, _, k + 1, s, d, o, hs, hd => by
    cases o with
    | @cons s0 ss v vs _ _ f g r t =>
      obtain ⟨w, g1, fk, g2, h1, h2, h3, h4⟩ := Owns.at t (by simpa using hs) (by simpa using hd)
      refine ⟨w, f ++ g1, fk, g2, by simpa using h1, by rw [h2]; simp, h3, fun ω' H' v' d' gr hk ow => ?_⟩
      exact .cons (Own.mono gr d0 _ _ _ (fun a ha => hk a (by simp [ha])) r) (h4 ω' H' v' d' gr (fun a ha => hk a (by rcases List.mem_append.mp ha with h | h <;> simp [h])) ow)
end
/-- the shape at a place of a slot's list -/
def shAt (s : Sh) (k : Nat) : Option Sh := match s with
  | .rc ss => ss[k]?
  | _ => none
def itemAt (δ : Dl) (i k : Nat) : Rs D := listAt δ i >>= fun xs => optR xs[k]?
def putAt (δ : Dl) (i k : Nat) (d : D) : Rs Dl := listAt δ i >>= fun xs => .ok (δ.set i (some (.list (xs.set k d))))
theorem itemAt_inv {δ : Dl} {i k : Nat} {q : D → Prop} {e : Str → D → Prop} (h : Out (itemAt δ i k) q e) : ∃ xs d, δ[i]? = some (some (.list xs)) ∧ xs[k]? = some d ∧ q d := by
  obtain ⟨xs, e1, h⟩ := listAt_inv (Out.bind h)
  obtain ⟨d, e2, h⟩ := opt_inv h
  exact ⟨xs, d, e1, e2, h⟩
section
variable {K : PySem.W.Frag} {κ : Kn} {ω : Om} {H : Hp} {σ : L2.St} {δ : Dl} {φ : Fps}
/-- what stands at the place; what a change there leaves -/
theorem Slots.place (s : Slots K κ ω H σ δ φ) {i k : Nat} {sh : Sh} {xs : List D} {d : D} (hk : shAt (κ i) k = some sh) (hx : δ[i]? = some (some (.list xs))) (hd : xs[k]? = some d) :
    ∃ a vs v fk, σ[i]? = some (some (.ref a)) ∧ H a = some (.lst vs) ∧ vs[k]? = some v ∧ Own K ω H sh v d fk ∧ (∀ b ∈ fk, b ∈ φ i ∧ b ≠ a) ∧ a ∈ φ i ∧
      (∀ (b : Addr) (ws : List V) (d' : D), b ∈ fk → Own K ω (upd H b (.lst ws)) sh v d' fk → Slots K κ ω (upd H b (.lst ws)) σ (δ.set i (some (.list (xs.set k d')))) φ ∧ Step ω (Fp φ) H ω (Fp φ) (upd H b (.lst ws))) ∧
      (∀ (v' : V) (d' : D), sh = .im → Rep K ω H v' d' → Slots K κ ω (upd H a (.lst (vs.set k v'))) σ (δ.set i (some (.list (xs.set k d')))) φ ∧ Step ω (Fp φ) H ω (Fp φ) (upd H a (.lst (vs.set k v')))) := by
  obtain ⟨v0, h1, h2⟩ := s.at_ i _ hx
  have hl := (List.getElem?_eq_some_iff.mp hx).1
  cases hs : κ i with
  | im => rw [hs] at hk; cases hk
  | mu _ => rw [hs] at hk; cases hk
  | rc ss =>
    have hk : ss[k]? = some sh := by rw [hs] at hk; exact hk
    rw [hs] at h2
    generalize hφ : φ i = f at h2
    cases h2 with
    | rc e t =>
      rename_i a vs f
      obtain ⟨v, g1, fk, g2, p1, p2, p3, p4⟩ := Owns.at t hk hd
      have nd : (a :: f).Nodup := hφ ▸ s.nod i
      have inf : ∀ b ∈ fk, b ∈ f := fun b hb => by rw [p2]; simp [hb]
      have apart : ∀ b ∈ fk, b ∉ g1 ++ g2 := fun b hb hm => by
        have nd2 := (List.nodup_cons.mp nd).2
        rw [p2] at nd2
        rcases List.mem_append.mp hm with h | h
        · exact (List.nodup_append.mp (List.nodup_append.mp nd2).1).2.2 b h b hb rfl
        · exact (List.nodup_append.mp nd2).2.2 b (by simp [hb]) b h rfl
      have nea : ∀ b ∈ f, b ≠ a := fun b hb e => (List.nodup_cons.mp nd).1 (e ▸ hb)
      refine ⟨a, vs, v, fk, h1, e, p1, p3, fun b hb => ⟨List.mem_cons_of_mem _ (inf b hb), nea b (inf b hb)⟩, List.mem_cons_self, fun b ws d' hb ow => ?_, fun v' d' him rp => ?_⟩
      · have hbi : b ∈ φ i := by rw [hφ]; exact List.mem_cons_of_mem _ (inf b hb)
        refine s.write h1 hl hbi ?_
        rw [hs, hφ]
        have gr : Grow ω H ω (upd H b (.lst ws)) := own_grow s.wf (s.sub b ⟨i, hbi⟩)
        have t' := p4 ω _ v d' gr (fun c hc => upd_ne (fun e => apart b hb (by rw [← e]; exact hc))) ow
        have hvs : vs.set k v = vs := List.ext_getElem? fun j => by
          by_cases ej : k = j
          · subst ej
            rw [List.getElem?_set_self (List.getElem?_eq_some_iff.mp p1).1, p1]
          · rw [List.getElem?_set_ne ej]
        rw [hvs] at t'
        exact .rc (by rw [upd_ne (fun e => nea b (inf b hb) e.symm)]; exact e) t'
      · subst him
        obtain ⟨_, efk⟩ := p3.im_inv
        have hai : a ∈ φ i := by rw [hφ]; simp
        refine s.write h1 hl hai ?_
        rw [hs, hφ]
        have gr : Grow ω H ω (upd H a (.lst (vs.set k v'))) := own_grow s.wf (s.sub a ⟨i, hai⟩)
        have t' := p4 ω _ v' d' gr (fun c hc => upd_ne (nea c (by rw [p2]; rcases List.mem_append.mp hc with h | h <;> simp [h]))) (by rw [efk]; exact .im (Rep.up rp gr))
        exact .rc upd_same t'
end
section
variable {X : Cx} {G : Gm} {e a b : Expr} {es : List Expr} {pos p p2 apos cpos : Pos} {y : Str} {py : Pos} {j1 : Nat}
/-- x[k], of a slot's list of unlike things, a value -/
def mAt (i k : Nat) : Em := fun δ => itemAt δ i k >>= fun d => .ok (d, δ)
theorem atI_lit {vs : List V} {k : Nat} {v : V} (h : vs[k]? = some v) : atI vs (k : Int) = some v := atI_nat h
theorem xAt (i k : Nat) (kk : Int) (hkk : (k : Int) = kk := by rfl) (hs : shAt (G.κ i) k = some .im := by rfl) (hK : X.K = G.K := by rfl) (hN : X.N[i]? = some y := by rfl) (hv : Vis X.env.scope y := by first | exact Or.inl rfl | exact Or.inr (Or.inl rfl) | exact Or.inr (Or.inr rfl)) (hd : (y == ("__debug__" : Str)) = false := by decide) (hcd : (y == ("__classdict__" : Str)) = false := by decide) :
    PE X (.Subscript (.Name y py) (.Constant (.int kk) j1 p2) pos) (tI G (mAt i k)) := by
  subst hkk
  refine pe_if (pe_ix ix_list (pe_var hN hv hd hcd) pe_int (fun _ _ => rfl)) fun σ H Q ⟨ω, δ, φ, s, o⟩ => ?_
  obtain ⟨xs, d, e1, e2, o⟩ := itemAt_inv (Out.bind o)
  obtain ⟨a, vs, v, fk, h1, h2, h3, h4, _⟩ := s.place hs e1 e2
  exact ⟨_, h1, a, vs, (k : Int), v, rfl, rfl, .inl (.inl h2), atI_lit h3, o ω H φ v s.refl s h4.im_inv.1⟩
/-- what is read where it stands -/
def tU (G : Gm) (g : Dl → Rs D) : TE := fun σ H Q => ∃ ω δ φ, Slots G.K G.κ ω H σ δ φ ∧ Out (g δ) (fun d => ∀ H' v, Ext H H' → Lk G.K ω H' v d → Q v H') (fun _ _ => False)
abbrev Um := Dl → Rs D
def uAt (i k : Nat) : Um := fun δ => itemAt δ i k
theorem uP (i k : Nat) (kk : Int) (hkk : (k : Int) = kk := by rfl) (hs : shAt (G.κ i) k = some (.mu .im) := by rfl) (hK : X.K = G.K := by rfl) (hN : X.N[i]? = some y := by rfl) (hv : Vis X.env.scope y := by first | exact Or.inl rfl | exact Or.inr (Or.inl rfl) | exact Or.inr (Or.inr rfl)) (hd : (y == ("__debug__" : Str)) = false := by decide) (hcd : (y == ("__classdict__" : Str)) = false := by decide) :
    PE X (.Subscript (.Name y py) (.Constant (.int kk) j1 p2) pos) (tU G (uAt i k)) := by
  subst hkk
  refine pe_if (pe_ix ix_list (pe_var hN hv hd hcd) pe_int (fun _ _ => rfl)) fun σ H Q ⟨ω, δ, φ, s, o⟩ => ?_
  obtain ⟨xs, d, e1, e2, o⟩ := itemAt_inv o
  obtain ⟨a, vs, v, fk, h1, h2, h3, h4, _⟩ := s.place hs e1 e2
  exact ⟨_, h1, a, vs, (k : Int), v, rfl, rfl, .inl (.inl h2), atI_lit h3, o H v (Ext.refl H) (Lk.of h4 trivial)⟩
def uC (d : D) : Um := fun _ => .ok d
theorem uK {v : V} {d : D} (h : PE X e (tC v)) (r : ∀ ω H, Rep G.K ω H v d) : PE X e (tU G (uC d)) := pe_if h fun σ H Q ⟨ω, δ, φ, s, o⟩ => o H v (Ext.refl H) (.inl (r ω H))
theorem ui {i : Int} : PE X (.Constant (.int i) j1 pos) (tU G (uC (.int i))) := uK pe_int fun _ _ => .int i
theorem un1 {i : Int} : PE X (.UnaryOp .USub (.Constant (.int i) j1 p) pos) (tU G (uC (.int (-i)))) := pe_if (pe_un un_neg pe_int) fun σ H Q ⟨ω, δ, φ, s, o⟩ => ⟨i, rfl, o H _ (Ext.refl H) (.inl (.int _))⟩
theorem ue : PE X (.List [] pos) (tU G (uC (.list []))) := pe_if (pe_lst pa_nil) fun σ H Q ⟨ω, δ, φ, s, o⟩ => ⟨Nat.zero_le _, fun p hp => o _ _ (Ext.upd hp) (.inl (Rep.newL s.wf hp .nil))⟩
def mUB (g : D → D → Rs D) (f h : Um) : Em := fun δ => f δ >>= fun d => h δ >>= fun e => g d e >>= fun z => .ok (z, δ)
theorem u_core {r : R2} {g : D → D → Rs D} {f h : Um} (hd : BiD G.K r g) (nx : NoX2 g) (nf : ∀ δ c a, f δ ≠ .ex c a) (nh : ∀ δ c a, h δ ≠ .ex c a) {σ : L2.St} {H : Hp} {Q : VK} (q : tI G (mUB g f h) σ H Q) : tOp r (tU G f) (tU G h) σ H Q := by
  obtain ⟨ω, δ, φ, s, o⟩ := q
  refine ⟨ω, δ, φ, s, (out_no (Out.bind o) (nf δ)).mono (fun d hd1 H1 x e1 l1 => ⟨ω, δ, φ, s.ext e1, (out_no (Out.bind hd1) (nh δ)).mono (fun e he H2 y e2 l2 => ?_) fun _ _ z => z⟩) fun _ _ z => z⟩
  have s2 := (s.ext e1).ext e2
  refine hd ω H2 x y d e Q s2.wf (l1.ext (s.ext e1).wf e2) l2 ((out_no (Out.bind he) (nx d e)).mono (fun z hz H' v ex rp => ?_) fun _ _ z => z)
  exact hz ω H' φ v (s.step ((e1.trans e2).trans ex)) (s2.ext ex) rp
theorem nx_at {i k : Nat} : ∀ δ c a, uAt i k δ ≠ .ex c a := fun δ c a => by
  unfold uAt itemAt listAt
  split
  · exact nx_opt
  · intro z; cases z
theorem nx_uc {d : D} : ∀ δ c a, uC d δ ≠ .ex c a := fun δ c a => by intro z; cases z
theorem uIx {f h : Um} (nf : ∀ δ c a, f δ ≠ .ex c a) (nh : ∀ δ c a, h δ ≠ .ex c a) (ha : PE X a (tU G f)) (hb : PE X b (tU G h)) (hs : PlainIx b := by exact fun _ _ => rfl) (hK : X.K = G.K := by rfl) : PE X (.Subscript a b pos) (tI G (mUB gIx f h)) :=
  pe_if (pe_ix (r := rIx G.K) (hK ▸ ix_seq) ha hb hs) fun σ H Q q => u_core bi_ix nx_ix nf nh q
theorem uNe {k : Nat} {f h : Um} (hr : Room k X.A) (nf : ∀ δ c a, f δ ≠ .ex c a) (nh : ∀ δ c a, h δ ≠ .ex c a) (ha : PE X a (tU G f)) (hb : PE X b (tU G h)) (hK : X.K = G.K := by rfl) : PT X (.Compare a [.NotEq] [b] pos) (tT G (mT (mUB gNe f h))) := by
  refine pt_if (pt_cmpR (r := rNeP G.K) (hK ▸ op_neP hr) ha hb (nomark _)) fun σ H Q q => u_core (Q := fun x H1 => ∃ c, x = .bl c ∧ Q c H1) bi_ne nx_ne nf nh ?_
  obtain ⟨ω, δ, φ, s, o⟩ := q
  refine ⟨ω, δ, φ, s, (Out.bind o).mono (fun r hr ω' H' φ' v st s' rp => ?_) fun _ _ z => z⟩
  obtain ⟨b, e1, h1⟩ := bool_inv (Out.bind hr)
  rw [e1] at rp
  cases rp
  exact ⟨b, rfl, h1 ω' H' φ' st s'⟩
/-- x[k].pop() -/
def mPopIn (i k : Nat) : Em := fun δ => itemAt δ i k >>= fun d => (match d with | .list xs => .ok xs | _ => .no) >>= fun xs => optR xs.getLast? >>= fun z => putAt δ i k (.list xs.dropLast) >>= fun δ' => .ok (z, δ')
theorem list_inv {d : D} {q : List D → Prop} {e : Str → D → Prop} (h : Out (match d with | .list xs => (.ok xs : Rs (List D)) | _ => .no) q e) : ∃ xs, d = .list xs ∧ q xs := by
  cases d with
  | list xs => exact ⟨xs, rfl, h⟩
  | _ => exact h.elim
theorem xPopIn (i k : Nat) (kk : Int) (hkk : (k : Int) = kk := by rfl) (hs : shAt (G.κ i) k = some (.mu .im) := by rfl) (hK : X.K = G.K := by rfl) (hN : X.N[i]? = some y := by rfl) (hv : Vis X.env.scope y := by first | exact Or.inl rfl | exact Or.inr (Or.inl rfl) | exact Or.inr (Or.inr rfl)) (hd : (y == ("__debug__" : Str)) = false := by decide) (hcd : (y == ("__classdict__" : Str)) = false := by decide)
    (hbase : attributeBase (.Subscript (.Name y py) (.Constant (.int kk) j1 p2) p) "pop" X.env (eval (.Subscript (.Name y py) (.Constant (.int kk) j1 p2) p) X.env) = eval (.Subscript (.Name y py) (.Constant (.int kk) j1 p2) p) X.env := by rfl) (hline : (apos.endLine == cpos.line) = true := by rfl) :
    PE X (.Call (.Attribute (.Subscript (.Name y py) (.Constant (.int kk) j1 p2) p) "pop" apos) [] [] cpos) (tI G (mPopIn i k)) := by
  subst hkk
  refine pe_if (pe_bm0 PySem.F.plainAttrs_list PySem.F.slot_list_pop PySem.F.type_list_pop mt_pop (pe_ix ix_list (pe_var hN hv hd hcd) pe_int (fun _ _ => rfl)) hbase hline) fun σ H Q ⟨ω, δ, φ, s, o⟩ => ?_
  obtain ⟨xs, d, e1, e2, o⟩ := itemAt_inv (Out.bind o)
  obtain ⟨ds, rfl, o⟩ := list_inv (Out.bind o)
  obtain ⟨z, hl, o⟩ := opt_inv (Out.bind o)
  obtain ⟨a, vs, v, fk, h1, h2, h3, h4, h5, h6, h7, _⟩ := s.place hs e1 e2
  obtain ⟨b, ws, ds', rfl, ed, rfl, hH, rs⟩ := h4.mui_inv
  cases ed
  rw [List.getLast?_eq_getElem?] at hl
  obtain ⟨w, hw, rw'⟩ := rs.getD hl
  have ob : ω b := s.sub b ⟨i, (h5 b (by simp)).1⟩
  obtain ⟨s2, st2⟩ := h7 b ws.dropLast (.list ds.dropLast) (by simp) (.mui upd_same (rs.dropLast.up (own_grow s.wf ob)))
  obtain ⟨xs', e3, o⟩ := listAt_inv (Out.bind (Out.bind o))
  rw [e1] at e3
  cases e3
  exact ⟨_, h1, a, vs, (k : Int), _, rfl, rfl, hK ▸ .inl (.inl h2), atI_lit h3, tBM_list hH, b, ws, w, rfl, rfl, hH, by rw [rs.length]; exact hw, o ω _ φ w st2 s2 (Rep.up rw' (own_grow s.wf ob))⟩
end
section
variable {X : Cx} {G : Gs} {σ0 : L2.St} {e : Expr} {pos p p2 apos cpos : Pos} {y : Str} {py : Pos} {j1 : Nat}
/-- a value that leaves all as it is -/
def tV (G : Gm) (g : Um) : TE := fun σ H Q => ∃ ω δ φ, Slots G.K G.κ ω H σ δ φ ∧ Out (g δ) (fun d => ∀ H' v, Ext H H' → Rep G.K ω H' v d → Q v H') (fun _ _ => False)
theorem vV (i : Nat) {x : Str} (hN : X.N[i]? = some x := by rfl) (hv : Vis X.env.scope x := by first | exact Or.inl rfl | exact Or.inr (Or.inl rfl) | exact Or.inr (Or.inr rfl)) (hk : G.κ i = .im := by rfl) (hd : (x == ("__debug__" : Str)) = false := by decide)
    (hcd : (x == ("__classdict__" : Str)) = false := by decide) : PE X (.Name x pos) (tV G.toGm (fun δ => get δ (.r i))) := by
  refine pe_if (pe_var hN hv hd hcd) fun σ H Q ⟨ω, δ, φ, s, o⟩ => ?_
  cases e1 : δ[i]? with
  | none => simp only [get, e1] at o; exact o.elim
  | some z =>
    simp only [get, e1] at o
    cases z with
    | none => exact o.elim
    | some d =>
      obtain ⟨w, h3, h4⟩ := s.at_ i d e1
      rw [hk] at h4
      exact ⟨w, h3, o H w (Ext.refl H) h4.im_inv.1⟩
def vB (g : D → D → Rs D) (f h : Um) : Um := fun δ => f δ >>= fun d => h δ >>= fun e => g d e
theorem vDiv {a b : Expr} {f h : Um} (nf : ∀ δ c a, f δ ≠ .ex c a) (nh : ∀ δ c a, h δ ≠ .ex c a) (ha : PE X a (tV G.toGm f)) (hb : PE X b (tV G.toGm h)) : PE X (.BinOp a .FloorDiv b pos) (tV G.toGm (vB gDiv f h)) := by
  refine pe_if (pe_op op_fdivX ha hb) fun σ H Q ⟨ω, δ, φ, s, o⟩ => ⟨ω, δ, φ, s, (out_no (Out.bind o) (nf δ)).mono (fun d hd1 H1 x e1 l1 => ⟨ω, δ, φ, s.ext e1, (out_no (Out.bind hd1) (nh δ)).mono (fun e he H2 y e2 l2 => ?_) fun _ _ z => z⟩) fun _ _ z => z⟩
  have s2 := (s.ext e1).ext e2
  refine bi_div (K := G.K) ω H2 x y d e Q s2.wf (.inl (Rep.up l1 (ext_grow (s.ext e1).wf e2))) (.inl l2) ((out_no he (nx_div d e)).mono (fun z hz H' v ex rp => ?_) fun _ _ z => z)
  exact hz H' v ((e1.trans e2).trans ex) rp
theorem nx_get {i : Nat} : ∀ δ c a, get δ (.r i) ≠ .ex c a := fun δ c a => by
  show (match δ[i]? with | some (some d) => (.ok d : Rs D) | _ => .no) ≠ _
  split <;> (intro z; cases z)
/-- x[k].append(e) -/
def pAppIn (i k : Nat) (g : Um) : Pm := fun δ => itemAt δ i k >>= fun d => (match d with | .list xs => .ok xs | _ => .no) >>= fun xs => g δ >>= fun z => if xs.length < sizeLine then putAt δ i k (.list (xs ++ [z])) >>= fun δ' => .ok (.nx, δ') else .no
theorem pap (i k : Nat) (kk : Int) {g : Um} (ng : ∀ δ c a, g δ ≠ .ex c a) (he : PE X e (tV G.toGm g)) (hkk : (k : Int) = kk := by rfl) (hs : shAt (G.κ i) k = some (.mu .im) := by rfl) (hK : X.K = G.K := by rfl) (hN : X.N[i]? = some y := by rfl) (hv : Vis X.env.scope y := by first | exact Or.inl rfl | exact Or.inr (Or.inl rfl) | exact Or.inr (Or.inr rfl)) (hd : (y == ("__debug__" : Str)) = false := by decide) (hcd : (y == ("__classdict__" : Str)) = false := by decide)
    (he1 : starEach [e] X.env = (false, eval e X.env) :: starEach [] X.env := by rfl)
    (hbase : attributeBase (.Subscript (.Name y py) (.Constant (.int kk) j1 p2) p) "append" X.env (eval (.Subscript (.Name y py) (.Constant (.int kk) j1 p2) p) X.env) = eval (.Subscript (.Name y py) (.Constant (.int kk) j1 p2) p) X.env := by rfl)
    (hfew : ((backTo cpos (starEach (e :: []) X.env)).all (fun x => !x.1) && (backToKw cpos (keywordEach [] X.env)).all (fun x => x.1.isSome)
      && decide ((e :: ([] : List Expr)).length + ([] : List Keyword).length + (if ([] : List Keyword).isEmpty then 0 else 1) < 30)) = true := by rfl)
    (hline : (apos.endLine == cpos.line) = true := by rfl) (hplain : (backTo cpos (starEach ([] : List Expr) X.env)).any (·.1) = false := by rfl)
    (hsw : swapsWith (.Call (.Attribute (.Subscript (.Name y py) (.Constant (.int kk) j1 p2) p) "append" apos) [e] [] cpos) none pos.line X.env = pure false := by rfl) :
    PS X (.Expr (.Call (.Attribute (.Subscript (.Name y py) (.Constant (.int kk) j1 p2) p) "append" apos) [e] [] cpos) pos) (tP G σ0 (pAppIn i k g)) := by
  subst hkk
  refine ps_if' (ps_expr (pe_bm PySem.F.plainAttrs_list PySem.F.slot_list_append PySem.F.type_list_append mt_append (pe_ix ix_list (pe_var hN hv hd hcd) pe_int (fun _ _ => rfl)) (pa_cons he pa_nil he1) hbase hfew hline he1 hplain) hsw) fun D σ H ⟨pn, ω, δ, φ, s, o⟩ => ?_
  obtain ⟨xs, d, e1, e2, o⟩ := itemAt_inv (Out.bind o)
  obtain ⟨ds, ed0, o2⟩ := list_inv (Out.bind o)
  subst ed0
  obtain ⟨a, vs, v, fk, h1, h2, h3, h4, h5, h6, h7, _⟩ := s.place hs e1 e2
  obtain ⟨b, ws, ds', rfl, ed, rfl, hH, rs⟩ := h4.mui_inv
  cases ed
  refine ⟨_, h1, a, vs, (k : Int), _, rfl, rfl, hK ▸ .inl (.inl h2), atI_lit h3, tBM_list hH, ω, δ, φ, s, (out_no (Out.bind o2) (ng δ)).mono (fun z hz H' w ex rp => ?_) fun _ _ z => z⟩
  obtain ⟨hc, o⟩ := ifx_inv hz
  have s1 := s.ext ex
  obtain ⟨a2, vs2, v2, fk2, k1, k2, k3, k4, k5, k6, k7, _⟩ := s1.place hs e1 e2
  rw [h1] at k1
  cases k1
  have hH' := ex b _ hH
  have e3 := ex a _ h2
  rw [k2] at e3
  cases e3
  rw [h3] at k3
  cases k3
  obtain ⟨b2, ws2, ds2, eb, ed, rfl, hH2, rs2⟩ := k4.mui_inv
  cases ed
  cases eb
  rw [hH'] at hH2
  cases hH2
  have ob : ω b := s1.sub b ⟨i, (k5 b (by simp)).1⟩
  obtain ⟨s2, st2⟩ := k7 b (ws ++ [w]) (.list (ds ++ [z])) (by simp) (.mui upd_same ((rs2.snoc rp).up (own_grow s1.wf ob)))
  obtain ⟨xs', e3, o⟩ := listAt_inv (Out.bind (Out.bind o))
  rw [e1] at e3
  cases e3
  exact ⟨b, ws, w, rfl, rfl, hH', by rw [rs.length]; exact hc, o ω _ σ φ ((s.step ex).trans st2) s2 pn⟩
/-- x[k] = e -/
def pPutAt (i k : Nat) (m : Em) : Pm := fun δ => m δ >>= fun r => itemAt r.2 i k >>= fun _ => putAt r.2 i k r.1 >>= fun δ' => .ok (.nx, δ')
theorem ppu (i k : Nat) (kk : Int) {m : Em} (he : PE X e (tI G.toGm m)) (hkk : (k : Int) = kk := by rfl) (hs : shAt (G.κ i) k = some .im := by rfl) (hN : X.N[i]? = some y := by rfl) (hv : Vis X.env.scope y := by first | exact Or.inl rfl | exact Or.inr (Or.inl rfl) | exact Or.inr (Or.inr rfl)) (hd : (y == ("__debug__" : Str)) = false := by decide) (hcd : (y == ("__classdict__" : Str)) = false := by decide)
    (ha : ∀ v, assign (.Subscript (.Name y py) (.Constant (.int kk) j1 p2) p) X.env v = (do
      let ov ← holding [v] (eval (.Name y py) X.env)
      let iv ← holding [v, ov] (eval (.Constant (.int kk) j1 p2) X.env)
      standAt p
      holding [v, ov,
                iv] (setItem ov iv v)
      release [v, ov, iv] []) := by intro _; rfl)
    (hsw : swapsWithSole [.Subscript (.Name y py) (.Constant (.int kk) j1 p2) p] e pos.line X.env = pure false := by rfl) (hw : swappedStores [.Subscript (.Name y py) (.Constant (.int kk) j1 p2) p] e X.env = pure none := by rfl)
    (h1 : (assignEach [.Subscript (.Name y py) (.Constant (.int kk) j1 p2) p] X.env).map (·.2) = [assign (.Subscript (.Name y py) (.Constant (.int kk) j1 p2) p) X.env] := by rfl) : PS X (.Assign [.Subscript (.Name y py) (.Constant (.int kk) j1 p2) p] e pos) (tP G σ0 (pPutAt i k m)) := by
  subst hkk
  refine ps_if' (ps_asg he (pg_sub (pe_var hN hv hd hcd) pe_int set_list ha) hsw hw h1) fun D σ H ⟨pn, ω, δ, φ, s, o⟩ => ⟨ω, δ, φ, s, (Out.bind o).mono (fun r hr ω1 H1 φ1 v st1 s1 rp => ?_) fun _ _ z => z⟩
  obtain ⟨xs, d, e1, e2, hr⟩ := itemAt_inv (Out.bind hr)
  obtain ⟨xs', e3, hr⟩ := listAt_inv (Out.bind (Out.bind hr))
  rw [e1] at e3
  cases e3
  obtain ⟨a, vs, w, fk, k1, k2, k3, k4, k5, k6, _, k8⟩ := s1.place hs e1 e2
  obtain ⟨s2, st2⟩ := k8 v r.1 rfl rp
  have hlt : k < vs.length := (List.getElem?_eq_some_iff.mp k3).1
  refine ⟨_, k1, a, vs, (k : Int), k, rfl, rfl, k2, ?_, hr ω1 _ σ φ1 (st1.trans st2) s2 pn⟩
  unfold ixN
  rw [if_pos (by omega),
            if_pos (by omega)]
  simp
end
end Zd

namespace Zd
open PySem PySem.Spec
open PyProof.Rows L2

/-! ### defs by name -/
structure Hs (P : Program) (w : World) (K : PySem.W.Frag) (mg : Str → Option Value) (base : Heap) (k : Nat) (x : Str) (st : Stmt) (ps : List Str) (sp : Sp) : Prop where
  ex : ∃ f fd, Fun K x x st f fd ∧ mg x = some (.ref f) ∧ Binds K fd ps [] ∧ FnOk P w K mg base (L2.CX P w) k f fd ps sp
/-- what is known of a def before its promise -/
structure Df (K : PySem.W.Frag) (mg : Str → Option Value) (x : Str) (st : Stmt) (ps : List Str) (f : Addr) (fd : FuncData) : Prop where
  fn : Fun K x x st f fd
  at_ : mg x = some (.ref f)
  bd : Binds K fd ps []
theorem Df.hs {P : Program} {w : World} {K : PySem.W.Frag} {mg : Str → Option Value} {base : Heap} {k : Nat} {x : Str} {st : Stmt} {ps : List Str} {f : Addr} {fd : FuncData} {sp : Sp} (d : Df K mg x st ps f fd) (h : FnOk P w K mg base (L2.CX P w) k f fd ps sp) : Hs P w K mg base k x st ps sp := ⟨f, fd, d.fn, d.at_, d.bd, h⟩
theorem fnok_no {P : Program} {w : World} {K : PySem.W.Frag} {mg : Str → Option Value} {base : Heap} {k : Nat} {f : Addr} {fd : FuncData} {ps : List Str} {cls : Cl} {s : Sh} {n : Nat} : FnOk P w K mg base (L2.CX P w) k f fd ps (spP K cls s n fun _ => .no) :=
  ⟨fun _ _ _ _ ⟨_, _, _, _, _, z⟩ => z.elim, fun _ _ _ _ _ _ _ _ _ _ _ _ _ ⟨_, _, _, _, _, z⟩ => z.elim⟩
section
variable {X : Cx} {G : Gm} {k j : Nat} {st : Stmt} {ps : List Str} {x : Str} {p pos : Pos} {e : Expr} {es : List Expr}
theorem hc {n : Nat} {F : List D → Rs D} {s : Sh} {m : Sm} (h : Hs X.prog X.w X.K X.mg X.base k x st ps (spP G.K G.cls s n F)) (hr : Room j X.A) (hkj : k ≤ j) (hx : Passes (L2.CX X.prog X.w) X G.E) (ha : PA X (e :: es) (tS G m)) (hl : Len n m)
    (hn : ps.length = n := by rfl) (hg : Gl X x := by rfl) (hdb : (x == ("__debug__" : Str)) = false := by decide) (he : starEach (e :: es) X.env = (false, eval e X.env) :: starEach es X.env := by rfl) (hpl : (backTo pos (starEach es X.env)).any (·.1) = false := by rfl) :
    PE X (.Call (.Name x p) (e :: es) [] pos) (tO G s (mCall F m)) := by
  obtain ⟨f, fd, F1, hm, hb, hf⟩ := h.ex
  exact xcO hf (hr.mono hkj) hm F1.kp hb hx ha hl hn hg hdb he hpl
theorem hc0 {F : List D → Rs D} {s : Sh} (h : Hs X.prog X.w X.K X.mg X.base k x st ps (spP G.K G.cls s 0 F)) (hr : Room j X.A) (hkj : k ≤ j) (hx : Passes (L2.CX X.prog X.w) X G.E)
    (hn : ps.length = 0 := by rfl) (hg : Gl X x := by rfl) (hdb : (x == ("__debug__" : Str)) = false := by decide) : PE X (.Call (.Name x p) [] [] pos) (tO G s (mCall F sNil)) := by
  obtain ⟨f, fd, F1, hm, hb, hf⟩ := h.ex
  exact xc0 hf (hr.mono hkj) hm F1.kp hb hx hn hg hdb
theorem hcM (i : Nat) {n : Nat} {F : List D → Rs (D × D)} {s0 s : Sh} {m : Sm} {y : Str} {py : Pos} (h : Hs X.prog X.w X.K X.mg X.base k x st ps (spM G.K G.cls s0 s (n + 1) F)) (hr : Room j X.A) (hkj : k ≤ j) (hx : Passes (L2.CX X.prog X.w) X G.E)
    (ha : PA X es (tS G m)) (hl : Len n m) (hs0 : G.κ i = s0 := by rfl) (hN : X.N[i]? = some y := by rfl) (hv : Vis X.env.scope y := by first | exact Or.inl rfl | exact Or.inr (Or.inl rfl) | exact Or.inr (Or.inr rfl)) (hyd : (y == ("__debug__" : Str)) = false := by decide)
    (hcd : (y == ("__classdict__" : Str)) = false := by decide) (hg : Gl X x := by rfl) (hdb : (x == ("__debug__" : Str)) = false := by decide) (he : starEach (.Name y py :: es) X.env = (false, eval (.Name y py) X.env) :: starEach es X.env := by rfl) (hpl : (backTo pos (starEach es X.env)).any (·.1) = false := by rfl) :
    PE X (.Call (.Name x p) (.Name y py :: es) [] pos) (tO G s (mCallM i F m)) := by
  obtain ⟨f, fd, F1, hm, hb, hf⟩ := h.ex
  exact xcM i hf (hr.mono hkj) hm F1.kp hb hx ha hl hs0 hN hv hyd hcd hg hdb he hpl
end

/-! ### keywords -/
def pick {α : Type} (js : List Nat) (l : List α) : List α := js.filterMap (l[·]?)
def gK {α : Type} (n0 n1 : Nat) (js : List Nat) (us ws : List α) : List α := if us.length = n0 ∧ ws.length = n1 then pick js (us ++ ws) else []
theorem vals_app {vs zs : List V} {us ws : List Value} (h : Vals vs us) (h' : Vals zs ws) : Vals (vs ++ zs) (us ++ ws) := h.append h'
theorem vals_pick {vs : List V} {us : List Value} (h : Vals vs us) : ∀ js : List Nat, Vals (pick js vs) (pick js us)
  | [] => .nil
  | j :: js => by
    unfold pick
    have ih := vals_pick h js
    unfold pick at ih
    cases e : vs[j]? with
    | none =>
      have e2 : us[j]? = none := by
        rw [List.getElem?_eq_none_iff] at e ⊢
        rw [← h.length]
        exact e
      rw [List.filterMap_cons_none e, List.filterMap_cons_none e2]
      exact ih
    | some v =>
      obtain ⟨u, e2, r⟩ := h.get e
      rw [List.filterMap_cons_some e, List.filterMap_cons_some e2]
      exact .cons r ih
theorem reps_pick {K : PySem.W.Frag} {ω : Om} {H : Hp} {vs : List V} {ds : List D} (h : Reps K ω H vs ds) : ∀ js : List Nat, Reps K ω H (pick js vs) (pick js ds)
  | [] => .nil
  | j :: js => by
    unfold pick
    have ih := reps_pick h js
    unfold pick at ih
    cases e : vs[j]? with
    | none =>
      have e2 : ds[j]? = none := by
        rw [List.getElem?_eq_none_iff] at e ⊢
        rw [← h.length]
        exact e
      rw [List.filterMap_cons_none e, List.filterMap_cons_none e2]
      exact ih
    | some v =>
      obtain ⟨u, e2, r⟩ := h.get e
      rw [List.filterMap_cons_some e, List.filterMap_cons_some e2]
      exact .cons r ih
theorem kb_of {K : PySem.W.Frag} {x qual : Str} {st : Stmt} {f : Addr} {fd : FuncData} {ps ks : List Str} (F : Fun K x qual st f fd) (n0 n1 : Nat) (js : List Nat) (hp : ps.length ≠ 0)
    (h : ∀ (kV doc pm : Value) (an : Option Addr) (cdv ct : Value) (us ws : List Value), us.length = n0 → ws.length = n1 → bindArgs (PySem.W.fnOf x qual (defArgs st) (defBody st) (defScope st) .none kV doc pm an cdv ct) ⟨us, ks.zip ws⟩ = pure (ps.zip (pick js (us ++ ws)))) : KBinds K fd ps ks (gK n0 n1 js) (gK n0 n1 js) := by
  obtain ⟨oc, od, kV, doc, pm, an,
            cdv, ct, osl, rfl, lk, hcd⟩ := F.ex
  refine ⟨fun s us ws _ hl => ?_, fun {vs us zs ws} r r2 => ?_⟩
  · unfold gK at hl ⊢
    split at hl
    · rename_i hc
      rw [if_pos hc]
      exact .of_eq (h kV doc pm an cdv ct us ws hc.1 hc.2)
    · exact absurd hl.symm hp
  · unfold gK
    rw [r.length, r2.length]
    split
    · exact vals_pick (vals_app r r2) js
    · exact .nil
def mCallK (js : List Nat) (F : List D → Rs D) (m n : Sm) : Em := fun δ => m δ >>= fun r => n r.2 >>= fun q => F (pick js (r.1 ++ q.1)) >>= fun d => .ok (d, q.2)
section
variable {X : Cx} {G : Gm} {k j : Nat} {st : Stmt} {ps ks : List Str} {x : Str} {p pos kpos : Pos} {e : Expr} {es : List Expr} {kws : List Keyword} {nm : Option Str}
theorem pk_if {t t' : TA} (h : PK X kws t) (w : ∀ σ H Q, t' σ H Q → t σ H Q) : PK X kws t' := ⟨fun pos pins s σ H Q I q => h.run pos pins s σ H Q I (w σ H Q q)⟩
theorem kn : PK X [] (tS G sNil) := pk_if pk_nil fun σ H Q ⟨ω, δ, φ, s, o⟩ => o ω H φ [] s.refl s .nil
theorem kc {m : Em} {n : Sm} (h : PE X e (tI G m)) (hr : PK X kws (tS G n)) : PK X (⟨nm, e, kpos⟩ :: kws) (tS G (sCons m n)) := by
  refine pk_if (pk_cons h hr) fun σ H Q ⟨ω, δ, φ, s, o⟩ => ⟨ω, δ, φ, s, (Out.bind o).mono (fun r h1 ω' H' φ' v st s' rp => ⟨ω', r.2, φ', s', (Out.bind h1).mono (fun q hq ω2 H2 φ2 vs st2 s2 r2 => ?_) fun _ _ z => z.up st⟩) fun _ _ z => z⟩
  exact hq ω2 H2 φ2 (v :: vs) (st.trans st2) s2 (.cons (Rep.up rp st2.grow) r2)
theorem pick_len {js : List Nat} {n : Nat} (hj : ∀ j ∈ js, j < n) : ∀ {α : Type} (l : List α), l.length = n → (pick js l).length = js.length := by
  intro α l hl
  unfold pick
  induction js with
  | nil => rfl
  | cons j js ih =>
    have : l[j]? = some (l[j]'(by rw [hl]; exact hj j List.mem_cons_self)) := List.getElem?_eq_getElem _
    rw [List.filterMap_cons_some this, List.length_cons, List.length_cons, ih fun a h => hj a (List.mem_cons_of_mem _ h)]
theorem callK_of {n n0 n1 : Nat} {js : List Nat} {F : List D → Rs D} {s : Sh} {m m2 : Sm} {σ : L2.St} {H : Hp} {Q : VK} (hj : ∀ j ∈ js, j < n0 + n1) (hjn : js.length = n) (h : tO G s (mCallK js F m m2) σ H Q) (hl : Len n0 m) (hl2 : Len n1 m2) : tCallK (spP G.K G.cls s n F) (gK n0 n1 js) G.E (tS G m) (tS G m2) σ H Q := by
  obtain ⟨ω, δ, φ, sl, o⟩ := h
  have o1 := Out.bind o
  refine ⟨ω, δ, φ, sl, ?_⟩
  cases em : m δ with
  | no => rw [em] at o1; exact o1.elim
  | ex c a => rw [em] at o1; exact o1
  | ok r =>
    rw [em] at o1
    intro ω' H' φ' vs st s' rp
    have o1 := Out.bind (show Out (m2 r.2 >>= _) _ _ from o1)
    refine ⟨ω', r.2, φ', s', ?_⟩
    cases em2 : m2 r.2 with
    | no => rw [em2] at o1; exact o1.elim
    | ex c a => rw [em2] at o1; exact Esc.up o1 st
    | ok r' =>
      rw [em2] at o1
      intro ω'' H'' φ'' zs st' s'' rp'
      have o2 : Out (F (pick js (r.1 ++ r'.1)) >>= fun d => .ok (d, r'.2)) _ _ := o1
      have l1 := hl δ r em
      have l2 := hl2 r.2 r' em2
      have rp2 := (rp.up st'.grow).append rp'
      have e : gK n0 n1 js vs zs = pick js (vs ++ zs) := by unfold gK; rw [if_pos ⟨by rw [rp.length, l1], by rw [rp'.length, l2]⟩]
      rw [e]
      have stt := st.trans st'
      refine ⟨by rw [pick_len hj _ (by rw [rp2.length, List.length_append, l1, l2]), hjn], ω'', pick js (r.1 ++ r'.1), s''.wf, reps_pick rp2 js, (Out.bind o2).mono (fun d hd ω2 H2 v f2 st2 wf2 ow nd hf => ?_) fun c a z => ?_⟩
      · have s2 := s''.frame st2 (fun _ _ z => z) wf2
        have fresh : ∀ a ∈ f2, H'' a = none := fun a ha => (st2.fp a ha).resolve_left id
        refine hd ω2 H2 φ'' v f2 (stt.trans ⟨fun a o h _ => st2.keep a o h id, st2.om, fun a h _ => st2.stay a h id, fun a z => z.elim .inl fun z => .inr (fresh a z), s''.sub, s''.wf⟩) s2 ow nd fun a ha => ⟨hf a ha, fun z => ?_⟩
        obtain ⟨xs, q⟩ := s''.wf a (s''.sub a z)
        rw [fresh a ha] at q; cases q
      · exact fun ω2 P2 H2 dx v st2 e2 r2 => z ω2 P2 H2 dx v (stt.trans ⟨fun a o h n => st2.keep a o h (fun z => z), st2.om, fun a h _ => st2.stay a h id, fun a z => (st2.fp a z).elim False.elim .inr, s''.sub, s''.wf⟩) e2 r2
theorem hcK (n0 n1 : Nat) (js : List Nat) {n : Nat} {F : List D → Rs D} {s : Sh} {m m2 : Sm} (h : Hs X.prog X.w X.K X.mg X.base k x st ps (spP G.K G.cls s n F)) (hr : Room j X.A) (hkj : k ≤ j) (hx : Passes (L2.CX X.prog X.w) X G.E) (ha : PA X (e :: es) (tS G m)) (hl : Len n0 m) (hkw : PK X kws (tS G m2)) (hl2 : Len n1 m2)
    (hb : ∀ (kV doc pm : Value) (an : Option Addr) (cdv ct : Value) (us ws : List Value), us.length = n0 → ws.length = n1 → bindArgs (PySem.W.fnOf x x (defArgs st) (defBody st) (defScope st) .none kV doc pm an cdv ct) ⟨us, ks.zip ws⟩ = pure (ps.zip (pick js (us ++ ws))))
    (hj : ∀ j ∈ js, j < n0 + n1 := by decide) (hjn : js.length = n := by rfl) (hp : ps.length ≠ 0 := by decide) (hg : Gl X x := by rfl) (hall : (backToKw pos (keywordEach kws X.env)).all (·.1.isSome) = true := by rfl) (hks : (backToKw pos (keywordEach kws X.env)).filterMap (·.1) = ks := by rfl)
    (hdb : (x == ("__debug__" : Str)) = false := by decide) (he : starEach
              (e :: es) X.env = (false, eval e X.env) :: starEach es X.env := by rfl)
    (hpl : ((backTo pos (starEach (e :: es) X.env)).any (·.1) || (backToKw
              pos (keywordEach kws X.env)).any (·.1.isNone)) = false := by rfl) :
    PE X (.Call (.Name x p) (e :: es) kws pos) (tO G s (mCallK js F m m2)) := by
  obtain ⟨f, fd, F1, hm, _, hf⟩ := h.ex
  exact pe_if (pe_callK hf (hr.mono hkj) hg hm F1.kp (kb_of F1 n0 n1 js hp hb) hx ha hkw hall hks hdb he hpl) fun σ H Q q => callK_of hj hjn q hl hl2
theorem pe_callK0 {CX : CXT} {f : Addr} {fd : FuncData} {sp : Sp} {E : XK} {tk : TA} {g : List Value → List Value → List Value} {gV : List V → List V → List V} (F : FnOk X.prog X.w X.K X.mg X.base CX k f fd ps sp) (hr : Room k X.A) (hg : Gl X x) (hm : X.mg x = some (.ref f)) (hk : PySem.W.keepIn X.K (.ref f) = true) (hb : KBinds X.K fd ps ks g gV) (hx : Passes CX X E)
    (hkw : PK X kws tk) (hall : (backToKw pos (keywordEach kws X.env)).all (·.1.isSome) = true) (hks : (backToKw pos (keywordEach kws X.env)).filterMap (·.1) = ks) (hdb : (x == ("__debug__" : Str)) = false)
    (hpl : ((backTo pos (starEach [] X.env)).any (·.1) || (backToKw pos (keywordEach kws X.env)).any (·.1.isNone)) = false) :
    PE X (.Call (.Name x p) [] kws pos) (tCallK sp gV E tNil tk) := by
  refine ⟨fun pins s
            σ H Q I h => ?_⟩
  refine wpAny_Call_Name_kw (ld_glob
            I hg hm ?_ hdb)
  refine PySem.W.callWith_KW0 (h₀ := X.base) I.ok.mod.kin hk hall (thn (hkw.run pos pins s σ H _ I h) fun ws s2 ⟨zs, H2, I2, rz, q2⟩ => ⟨I2.kIn, ?_⟩) hpl
  rw [hks]
  exact run_fnk F hr hb hx I2 .nil rz q2
theorem hcK0 (n1 : Nat) (js : List Nat) {n : Nat} {F : List D → Rs D} {s : Sh} {m2 : Sm} (h : Hs X.prog X.w X.K X.mg X.base k x st ps (spP G.K G.cls s n F)) (hr : Room j X.A) (hkj : k ≤ j) (hx : Passes (L2.CX X.prog X.w) X G.E) (hkw : PK X kws (tS G m2)) (hl2 : Len n1 m2)
    (hb : ∀ (kV doc pm : Value) (an : Option Addr) (cdv ct : Value) (us ws : List Value), us.length = 0 → ws.length = n1 → bindArgs (PySem.W.fnOf x x (defArgs st) (defBody st) (defScope st) .none kV doc pm an cdv ct) ⟨us, ks.zip ws⟩ = pure (ps.zip (pick js (us ++ ws))))
    (hj : ∀ j ∈ js, j < 0 + n1 := by decide) (hjn : js.length = n := by rfl) (hp : ps.length ≠ 0 := by decide) (hg : Gl X x := by rfl) (hall : (backToKw pos (keywordEach kws X.env)).all (·.1.isSome) = true := by rfl) (hks : (backToKw pos (keywordEach kws X.env)).filterMap (·.1) = ks := by rfl)
    (hdb : (x == ("__debug__" : Str)) = false := by decide)
    (hpl : ((backTo pos (starEach [] X.env)).any (·.1) || (backToKw pos
              (keywordEach kws X.env)).any (·.1.isNone)) = false := by rfl) :
    PE X (.Call (.Name x p) [] kws pos) (tO G s (mCallK js F sNil m2)) := by
  obtain ⟨f, fd, F1, hm, _, hf⟩ := h.ex
  refine pe_if (pe_callK0 hf (hr.mono hkj) hg hm F1.kp (kb_of F1 0 n1 js hp hb) hx hkw hall hks hdb hpl) fun σ H Q q => ?_
  obtain ⟨ω, δ, φ, s1, q1⟩ := callK_of hj hjn q len0 hl2
  exact q1 ω H φ [] s1.refl s1 .nil
end

/-! ### while, whatever it takes -/
open Classical in
noncomputable def loopA (t : Tm) (m : Pm) : Pm := fun δ => if h : ∃ n, loopW t m n δ ≠ .no then loopW t m (choose h) δ else .no
theorem loopW_up {t : Tm} {m : Pm} : ∀ (n : Nat) (δ : Dl), loopW t m n δ ≠ .no → ∀ k, loopW t m (n + k) δ = loopW t m n δ
  | 0, δ, h, _ => absurd rfl h
  | n + 1, δ, h, k => by
    rw [show n + 1 + k = (n + k) + 1 by omega]
    unfold loopW at h ⊢
    cases e1 : t δ with
    | no => rfl
    | ex c a => rfl
    | ok r =>
      rw [e1] at h
      simp only [ok_bind] at h ⊢
      by_cases hr : r.1 = true
      · rw [if_pos hr] at h
        rw [if_pos hr, if_pos hr]
        cases e2 : m r.2 with
        | no => rfl
        | ex c a => rfl
        | ok q =>
          rw [e2] at h
          simp only [ok_bind] at h ⊢
          cases e3 : q.1 with
          | nx => simp only [e3] at h ⊢; exact loopW_up n q.2 h k
          | ct => simp only [e3] at h ⊢; exact loopW_up n q.2 h k
          | bk => rfl
          | rt d => rfl
      · rw [if_neg hr, if_neg hr]
theorem loopA_of {t : Tm} {m : Pm} {n : Nat} {δ : Dl} (h : loopW t m n δ ≠ .no) : loopA t m δ = loopW t m n δ := by
  have ex : ∃ n, loopW t m n δ ≠ .no := ⟨n, h⟩
  unfold loopA
  rw [dif_pos ex]
  have h2 := Classical.choose_spec ex
  rw [← loopW_up n δ h (Classical.choose ex), ← loopW_up _ δ h2 n, Nat.add_comm]
theorem loopA_eq (t : Tm) (m : Pm) (δ : Dl) : loopA t m δ = (t δ >>= fun r => if r.1 = true then m r.2 >>= fun q => match q.1 with
    | .nx => loopA t m q.2
    | .ct => loopA t m q.2
    | .bk => .ok (.nx, q.2)
    | .rt d => .ok (.rt d, q.2)
  else .ok (.nx, r.2)) := by
  have st : ∀ n, loopW t m (n + 1) δ ≠ .no → loopW t m (n + 1) δ = (t δ >>= fun r => if r.1 = true then m r.2 >>= fun q => match q.1 with
    | .nx => loopA t m q.2
    | .ct => loopA t m q.2
    | .bk => .ok (.nx, q.2)
    | .rt d => .ok (.rt d, q.2)
  else .ok (.nx, r.2)) := by
    intro n h
    unfold loopW at h ⊢
    cases e1 : t δ with
    | no => rfl
    | ex c a => rfl
    | ok r =>
      rw [e1] at h
      simp only [ok_bind] at h ⊢
      by_cases hr : r.1 = true
      · rw [if_pos hr] at h
        rw [if_pos hr, if_pos hr]
        cases e2 : m r.2 with
        | no => rfl
        | ex c a => rfl
        | ok q =>
          rw [e2] at h
          simp only [ok_bind] at h ⊢
          cases e3 : q.1 with
          | nx => simp only [e3] at h ⊢; exact (loopA_of h).symm
          | ct => simp only [e3] at h ⊢; exact (loopA_of h).symm
          | bk => rfl
          | rt d => rfl
      · rw [if_neg hr, if_neg hr]
  by_cases h : ∃ n, loopW t m n δ ≠ .no
  · obtain ⟨n, h⟩ := h
    cases n with
    | zero => exact absurd rfl h
    | succ n => rw [loopA_of h]; exact st n h
  · have hn : ∀ n, loopW t m n δ = .no := fun n => Classical.byContradiction fun z => h ⟨n, z⟩
    have e0 : loopA t m δ = .no := by unfold loopA; rw [dif_neg h]
    rw [e0]
    cases e1 : t δ with
    | no => rfl
    | ex c a => exact absurd (hn 1) (by unfold loopW; rw [e1]; intro z; cases z)
    | ok r =>
      simp only [ok_bind]
      by_cases hr : r.1 = true
      · rw [if_pos hr]
        cases e2 : m r.2 with
        | no => rfl
        | ex c a => exact absurd (hn 1) (by unfold loopW; rw [e1]; simp only [ok_bind]; rw [if_pos hr, e2]; intro z; cases z)
        | ok q =>
          simp only [ok_bind]
          have inner : (q.1 = .nx ∨ q.1 = .ct) → loopA t m q.2 = .no := fun hq => by
            unfold loopA
            rw [dif_neg]
            rintro ⟨n, z⟩
            refine z ?_
            have := hn (n + 1)
            unfold loopW at this
            rw [e1] at this
            simp only [ok_bind] at this
            rw [if_pos hr, e2] at this
            simp only [ok_bind] at this
            rcases hq with hq | hq <;> simpa only [hq] using this
          cases e3 : q.1 with
          | nx => simp only []; exact (inner (.inl e3)).symm
          | ct => simp only []; exact (inner (.inr e3)).symm
          | bk => exact absurd (hn 1) (by unfold loopW; rw [e1]; simp only [ok_bind]; rw [if_pos hr, e2]; simp only [ok_bind, e3]; intro z; cases z)
          | rt d => exact absurd (hn 1) (by unfold loopW; rw [e1]; simp only [ok_bind]; rw [if_pos hr, e2]; simp only [ok_bind, e3]; intro z; cases z)
      · exact absurd (hn 1) (by unfold loopW; rw [e1]; simp only [ok_bind]; rw [if_neg hr]; intro z; cases z)
section
variable {X : Cx} {G : Gs} {σ0 : L2.St} {c : Expr} {a : List Stmt} {pos : Pos}
theorem pwA {t : Tm} {m : Pm} (hp : PassesOwn (model X.prog X.w) X.A X.env X.xe) (hc : PT X c (tT G.toGm t)) (hb : PSs X a (tP G σ0 m)) : PS X (.While c a [] pos) (tP G σ0 (loopA t m)) := by
  refine ⟨fun pins s σ H D I q => ?_⟩
  obtain ⟨p, ω, δ, φ, sl, o⟩ := q
  by_cases h : ∃ n, loopW t m n δ ≠ .no
  · obtain ⟨n, h⟩ := h
    rw [loopA_of h] at o
    exact (pw n hp hc hb).run pins s σ H D I ⟨p, ω, δ, φ, sl, o⟩
  · unfold loopA at o
    rw [dif_neg h] at o
    exact o.elim
theorem psu {N : List Str} {P : Program} {w : World} {K : PySem.W.Frag} {mg : Str → Option Value} {base : Heap} {qual : Str} {scope : Scope} {f : Addr} {cd : Value} {A : Around} {outer : List Env} {s : Shared} {H : Hp} {E : XK} : PassesOwn (model P w) (cxOf (L2.CX P w) P w K mg base N qual scope f cd A outer s H E).A (cxOf (L2.CX P w) P w K mg base N qual scope f cd A outer s H E).env (cxOf (L2.CX P w) P w K mg base N qual scope f cd A outer s H E).xe :=
  passes_of (X := cxOf (L2.CX P w) P w K mg base N qual scope f cd A outer s H E) rfl
end

/-! ### a list with a list of ours in it -/
def mRc2 (m n : Em) : Em := fun δ => m δ >>= fun r => n r.2 >>= fun q => .ok (.list [r.1, q.1], q.2)
section
variable {X : Cx} {G : Gm} {a b : Expr} {pos : Pos}
theorem xRc2 {s : Sh} {m n : Em} (ha : PE X a (tO G s m)) (hb : PE X b (tI G n)) (h1 : starEach [a, b] X.env = (false, eval a X.env) :: starEach [b] X.env := by rfl) (h2 : starEach [b] X.env = (false, eval b X.env) :: starEach [] X.env := by rfl) :
    PE X (.List [a, b] pos) (tO G (.rc [s, .im]) (mRc2 m n)) := by
  refine pe_if (pe_lst (pa_cons ha (pa_cons hb pa_nil h2) h1)) fun σ H Q ⟨ω, δ, φ, sl, o⟩ => ⟨ω, δ, φ, sl, (Out.bind o).mono (fun r hr ω1 H1 φ1 v f st1 s1 ow nd hf => ⟨ω1, r.2, φ1, s1, (Out.bind hr).mono (fun q hq ω2 H2 φ2 y st2 s2 ry => ⟨by show 2 ≤ sizeLine; decide, fun p hp => ?_⟩) fun c z q => ?_⟩) fun _ _ z => z⟩
  · have lst : ∀ a ∈ f, ∃ xs, H1 a = some (.lst xs) := fun a ha => s1.wf a (hf a ha).1
    have keepf : ∀ a ∈ f, H2 a = H1 a := fun a ha => by
      obtain ⟨xs, e⟩ := lst a ha
      rw [e, st2.keep a _ e (hf a ha).2]
    have nf2 : ∀ a ∈ f, ¬ Fp φ2 a := fun a ha z => by
      rcases st2.fp a z with z | z
      · exact (hf a ha).2 z
      · obtain ⟨xs, e⟩ := lst a ha
        rw [e] at z; cases z
    have pf : p ∉ f := fun z => by
      obtain ⟨xs, e⟩ := lst p z
      rw [keepf p z, e] at hp; cases hp
    have ow2 : Own G.K ω2 H2 s v r.1 f := Own.mono st2.grow _ _ _ _ keepf ow
    have ex := Ext.upd (o := HO.lst [v, y]) hp
    have wf3 : ∀ a, ω2 a ∨ a = p → ∃ xs, (upd H2 p (.lst [v, y])) a = some (.lst xs) := fun a h => by
      rcases h with h | rfl
      · obtain ⟨xs, q⟩ := s2.wf a h
        exact ⟨xs, ex a _ q⟩
      · exact ⟨[v, y], upd_same⟩
    have np : ¬ Fp φ2 p := fun z => by
      obtain ⟨xs, q⟩ := s2.wf p (s2.sub p z)
      rw [hp] at q; cases q
    have gr : Grow ω2 H2 (fun a => ω2 a ∨ a = p) (upd H2 p (.lst [v, y])) := ⟨fun a o h _ => ex a o h, s2.wf, fun a z => z.elim .inl fun e => .inr (e ▸ hp)⟩
    have ow3 : Own G.K (fun a => ω2 a ∨ a = p) (upd H2 p (.lst [v, y])) s v r.1 f := Own.mono gr _ _ _ _ (fun a ha => by
      obtain ⟨xs, e⟩ := lst a ha
      rw [keepf a ha, e]
      exact ex a _ ((keepf a ha).trans e)) ow2
    have st13 : Step ω (Fp φ) H ω2 (fun a => Fp φ2 a ∨ a ∈ f) H2 := by
      have st2' : Step ω1 (fun a => Fp φ1 a ∨ a ∈ f) H1 ω2 (fun a => Fp φ2 a ∨ a ∈ f) H2 := ⟨fun a o h n => st2.keep a o h fun z => n (.inl z), st2.om, fun a h n => st2.stay a h fun z => n (.inl z), fun a z => z.elim (fun z => (st2.fp a z).imp .inl id) fun z => .inl (.inr z), fun a z => z.elim (st2.sub a) fun z => (hf a z).1, st2.wf⟩
      exact st1.trans st2'
    have of2 : ∀ a ∈ f, ω2 a := fun a ha => st2.stay a (hf a ha).1 (hf a ha).2
    have st3 : Step ω2 (fun a => Fp φ2 a ∨ a ∈ f) H2 (fun a => ω2 a ∨ a = p) (fun a => Fp φ2 a ∨ a ∈ p :: f) (upd H2 p (.lst [v, y])) :=
      ⟨fun a o e _ => ex a o e, fun a z => z.elim .inl fun e => .inr (e ▸ hp), fun a z _ => .inl z, fun a z => z.elim (fun z => .inl (.inl z)) fun z => (List.mem_cons.mp z).elim (fun e => .inr (e ▸ hp)) fun z => .inl (.inr z), fun a z => z.elim (s2.sub a) (of2 a), s2.wf⟩
    refine hq (fun a => ω2 a ∨ a = p) _ φ2 _ (p :: f) (st13.trans st3) (s2.more ex (fun a z => .inl z) (fun a z => z.elim .inl fun e => .inr (e ▸ hp)) wf3) ?_ (List.nodup_cons.mpr ⟨pf, nd⟩) fun a ha => ?_
    · have t : Owns G.K (fun a => ω2 a ∨ a = p) (upd H2 p (.lst [v, y])) [s, .im] [v, y] [r.1, q.1] (f ++ ([] ++ [])) := .cons ow3 (.cons (.im (Rep.up ry gr)) .nil)
      rw [List.append_nil, List.append_nil] at t
      exact .rc upd_same t
    · rcases (List.mem_cons.mp ha) with rfl | ha
      · exact ⟨.inr rfl, np⟩
      · exact ⟨.inl (of2 a ha), nf2 a ha⟩
  · have st1' : Step ω (Fp φ) H ω1 (Fp φ1) H1 := ⟨st1.keep, st1.om, st1.stay, fun a z => st1.fp a (.inl z), st1.sub, st1.wf⟩
    exact q.up st1'
theorem uEq {k : Nat} {f h : Um} (hr : Room k X.A) (nf : ∀ δ c a, f δ ≠ .ex c a) (nh : ∀ δ c a, h δ ≠ .ex c a) (ha : PE X a (tU G f)) (hb : PE X b (tU G h)) (hK : X.K = G.K := by rfl) : PT X (.Compare a [.Eq] [b] pos) (tT G (mT (mUB gEq f h))) := by
  refine pt_if (pt_cmpR (r := rEqP G.K) (hK ▸ op_eqP hr) ha hb (nomark _)) fun σ H Q q => u_core (Q := fun x H1 => ∃ c, x = .bl c ∧ Q c H1) bi_eq nx_eq nf nh ?_
  obtain ⟨ω, δ, φ, s, o⟩ := q
  refine ⟨ω, δ, φ, s, (Out.bind o).mono (fun r hr ω' H' φ' v st s' rp => ?_) fun _ _ z => z⟩
  obtain ⟨b, e1, h1⟩ := bool_inv (Out.bind hr)
  rw [e1] at rp
  cases rp
  exact ⟨b, rfl, h1 ω' H' φ' st s'⟩
end
theorem psx {P : Program} {w : World} {K : PySem.W.Frag} {mg : Str → Option Value} {base : Heap} {N : List Str} {qual : Str} {scope : Scope} {f : Addr} {cd : Value} {A : Around} {outer : List Env} {s : Shared} {H : Hp} {E : XK} : Passes (L2.CX P w) (cxOf (L2.CX P w) P w K mg base N qual scope f cd A outer s H E) E := passes_cx (ps := [])

/-! ### the law's own head -/
def noL (K : PySem.W.Frag) : Bool := K.all fun p => !(p.2.cls == Value.type "list")
theorem mem_lk {o : Obj} {a : Addr} : ∀ {K : PySem.W.Frag}, K.lookup a = some o → (a, o) ∈ K
  | [], h => by cases h
  | (b, p) :: K, h => by
    rw [List.lookup_cons] at h
    by_cases e : (a == b) = true
    · rw [e] at h
      have e2 : a = b := by simpa using e
      subst e2
      cases h
      exact List.mem_cons_self
    · rw [Bool.not_eq_true] at e
      rw [e] at h
      exact List.mem_cons_of_mem _ (mem_lk h)
theorem noL_at {K : PySem.W.Frag} (h : noL K = true) {a : Addr} {o : Obj} (e : K.lookup a = some o) : o.cls ≠ .type "list" := by
  have m := mem_lk e
  have := List.all_eq_true.mp h _ m
  intro z
  rw [z] at this
  simp at this
theorem reps_ints {K : PySem.W.Frag} {ω : Om} {H : Hp} : ∀ ns : List Int, Reps K ω H (ns.map V.int) (ns.map PyData.int)
  | [] => .nil
  | n :: ns => .cons (.int n) (reps_ints ns)
theorem top_ok {K : PySem.W.Frag} {cls : Cl} {r : List D → Rs D} (hK : noL K = true) (hr : ∀ ns : List Int, ns.length ≤ 63 → r [.list (ns.map .int)] = .ok (.bool true)) {H : Hp} {a : Addr} {ns : List Int} (hl : ns.length ≤ 63) (hO : Only H) (hS : SqL K H a (ns.map V.int)) :
    spP K cls .im 1 r [.ref a] H (fun v _ => v = .bl true) (fun _ _ _ => False) := by
  refine ⟨rfl, fun _ => False, [.list (ns.map .int)], fun _ z => z.elim, ?_, ?_⟩
  · rcases hS with hS | ⟨o, its, n, h1, h2, _⟩
    · exact .cons (.lst ⟨hS, fun z => z⟩ (reps_ints ns)) .nil
    · exact absurd h2 (noL_at hK h1)
  · rw [hr ns hl]
    intro ω' H' v f _ _ ow _ _
    have := ow.im_inv.1
    cases this
    rfl
theorem nx_vdiv {f h : Um} (nf : ∀ δ c a, f δ ≠ .ex c a) (nh : ∀ δ c a, h δ ≠ .ex c a) : ∀ δ c a, vB gDiv f h δ ≠ .ex c a := fun δ c a => bind_nx (nf δ) fun d c a => bind_nx (nh δ) fun e c a => nx_div d e c a
end Zd

namespace Zd
open PySem PySem.Spec
open PyProof.Rows L2

/-! ### plain facts of the runs -/
theorem bool_b (b : Bool) : bool (.bool b) = .ok b := rfl
theorem if_pos_t {α : Type} (x y : α) : (if true = true then x else y) = x := rfl
theorem if_false_b {α : Type} (x y : α) : (if false = true then x else y) = y := rfl
theorem ite_tt {α : Type} (x y : α) : (if True then x else y) = x := if_pos trivial
theorem if_true {α : Type} (x y : α) : (if False then x else y) = y := if_neg fun z => z
theorem atI0 {α : Type} (x : α) (xs : List α) : atI (x :: xs) 0 = some x := atI_nat (j := 0) rfl
theorem atI1 {α : Type} (x y : α) (xs : List α) : atI (x :: y :: xs) 1 = some y := atI_nat (j := 1) rfl
theorem atI2 {α : Type} (x y z : α) (xs : List α) : atI (x :: y :: z :: xs) 2 = some z := atI_nat (j := 2) rfl
theorem eqv_i (a b : Int) : PyData.eqv (.int a) (.int b) = (a == b) := by rw [PyData.eqv]
theorem depth_i (a : Int) : (PyData.int a).depth = 0 := by rw [PyData.depth]; all_goals (intros; nofun)
theorem gEq_i (a b : Int) : gEq (.int a) (.int b) = .ok (.bool (a == b)) := by
  unfold gEq
  rw [depth_i a, depth_i b, eqv_i, if_pos (by decide)]
theorem gNe_i (a b : Int) : gNe (.int a) (.int b) = .ok (.bool (!(a == b))) := by
  unfold gNe
  rw [depth_i a, depth_i b, eqv_i, if_pos (by decide)]
theorem depth_nil : (PyData.list []).depth = 1 := by rw [PyData.depth, PyData.depthAll]
theorem gNe_nil (xs : List D) : gNe (.list xs) (.list []) = .ok (.bool (!xs.isEmpty)) := by
  unfold gNe
  rw [depth_nil, if_pos (by omega)]
  cases xs with
  | nil => rw [PyData.eqv, PyData.eqvAll]; rfl
  | cons x xs => rw [PyData.eqv, PyData.eqvAll]; rfl; all_goals nofun
theorem gEq_nil (xs : List D) : gEq (.list xs) (.list []) = .ok (.bool xs.isEmpty) := by
  unfold gEq
  rw [depth_nil, if_pos (by omega)]
  cases xs with
  | nil => rw [PyData.eqv, PyData.eqvAll]; rfl
  | cons x xs => rw [PyData.eqv, PyData.eqvAll]; rfl; all_goals nofun
/-- a run that ends well -/
abbrev Ok {α : Type} (r : Rs α) (q : α → Prop) : Prop := ∃ a, r = .ok a ∧ q a
theorem loopF_ok {t : Tg} {m : Pm} {I : Dl → Prop} : ∀ (ds : List D) (δ : Dl), (∀ d ∈ ds, ∀ δ, I δ → ∃ δ1, t d δ = .ok δ1 ∧ Ok (m δ1) fun r => (r.1 = .nx ∨ r.1 = .ct) ∧ I r.2) → I δ → Ok (loopF t m ds δ) fun r => r.1 = .nx ∧ I r.2
  | [], δ, _, h => ⟨_, rfl, rfl, h⟩
  | d :: ds, δ, h, hi => by
    obtain ⟨δ1, e1, r, e2, e3, e4⟩ := h d List.mem_cons_self δ hi
    obtain ⟨a, e5, e6⟩ := loopF_ok ds r.2 (fun d hd => h d (List.mem_cons_of_mem _ hd)) e4
    refine ⟨a, ?_, e6⟩
    unfold loopF
    rw [e1, ok_bind, e2, ok_bind]
    rcases e3 with e3 | e3 <;> simpa only [e3] using e5
theorem pFor_ok {w : Sm} {t : Tg} {m : Pm} {I : Dl → Prop} {δ : Dl} {ds : List D} {δ0 : Dl} (hw : w δ = .ok (ds, δ0)) (h : ∀ d ∈ ds, ∀ δ, I δ → ∃ δ1, t d δ = .ok δ1 ∧ Ok (m δ1) fun r => (r.1 = .nx ∨ r.1 = .ct) ∧ I r.2) (hi : I δ0) : ∃ δ1, pFor w t m δ = .ok (.nx, δ1) ∧ I δ1 := by
  obtain ⟨⟨f, δ1⟩, e, e1, e2⟩ := loopF_ok ds δ0 h hi
  refine ⟨δ1, ?_, e2⟩
  unfold pFor
  rw [hw, ok_bind, e]
  cases e1
  rfl
theorem loopF_ix {t : Tg} {m : Pm} {I : Nat → Dl → Prop} (n : Nat) : ∀ (ds : List D) (i : Nat) (δ : Dl), i + ds.length ≤ n → (∀ d ∈ ds, ∀ i δ, i < n → I i δ → ∃ δ1, t d δ = .ok δ1 ∧ ∃ δ2, m δ1 = .ok (.nx, δ2) ∧ I (i + 1) δ2) → I i δ → ∃ δ2, loopF t m ds δ = .ok (.nx, δ2) ∧ I (i + ds.length) δ2
  | [], i, δ, _, _, h => ⟨_, rfl, h⟩
  | d :: ds, i, δ, hn, h, hi => by
    obtain ⟨δ1, e1, δ2, e2, e4⟩ := h d List.mem_cons_self i δ (by rw [List.length_cons] at hn; omega) hi
    obtain ⟨δ3, e5, e6⟩ := loopF_ix n ds (i + 1) δ2 (by rw [List.length_cons] at hn; omega) (fun d hd => h d (List.mem_cons_of_mem _ hd)) e4
    refine ⟨δ3, ?_, by rw [List.length_cons, show i + (ds.length + 1) = i + 1 + ds.length by omega]; exact e6⟩
    unfold loopF
    rw [e1, ok_bind, e2, ok_bind]
    exact e5
theorem pFor_ix {w : Sm} {t : Tg} {m : Pm} {I : Nat → Dl → Prop} {δ : Dl} {ds : List D} {δ0 : Dl} (hw : w δ = .ok (ds, δ0)) (h : ∀ d ∈ ds, ∀ i δ, i < ds.length → I i δ → ∃ δ1, t d δ = .ok δ1 ∧ ∃ δ2, m δ1 = .ok (.nx, δ2) ∧ I (i + 1) δ2) (hi : I 0 δ0) : ∃ δ1, pFor w t m δ = .ok (.nx, δ1) ∧ I ds.length δ1 := by
  obtain ⟨δ1, e, e2⟩ := loopF_ix ds.length ds 0 δ0 (by omega) h hi
  rw [Nat.zero_add] at e2
  refine ⟨δ1, ?_, e2⟩
  unfold pFor
  rw [hw, ok_bind, e]
theorem pSeq_nx {m n : Pm} {δ δ1 : Dl} (h : m δ = .ok (.nx, δ1)) : pSeq m n δ = n δ1 := by
  unfold pSeq
  rw [h, ok_bind]
theorem pSeq_rt {m n : Pm} {δ δ1 : Dl} {d : D} (h : m δ = .ok (.rt d, δ1)) : pSeq m n δ = .ok (.rt d, δ1) := by
  unfold pSeq
  rw [h, ok_bind]
theorem pIf_t {t : Tm} {m n : Pm} {δ δ1 : Dl} (h : t δ = .ok (true, δ1)) : pIf t m n δ = m δ1 := by
  unfold pIf
  rw [h, ok_bind]
  rfl
theorem pIf_f {t : Tm} {m n : Pm} {δ δ1 : Dl} (h : t δ = .ok (false, δ1)) : pIf t m n δ = n δ1 := by
  unfold pIf
  rw [h, ok_bind]
  rfl
theorem pRet_of {m : Em} {δ δ1 : Dl} {d : D} (h : m δ = .ok (d, δ1)) : pRet m δ = .ok (.rt d, δ1) := by
  unfold pRet
  rw [h, ok_bind]
theorem pSet_of {i : Nat} {m : Em} {δ δ1 : Dl} {d : D} (h : m δ = .ok (d, δ1)) (hi : i < δ1.length) : pSet i m δ = .ok (.nx, δ1.set i (some d)) := by
  unfold pSet put
  rw [h, ok_bind]
  dsimp only
  rw [if_pos hi, ok_bind]
theorem mB_of {g : D → D → Rs D} {m n : Em} {δ δ1 δ2 : Dl} {d e z : D} (h : m δ = .ok (d, δ1)) (h2 : n δ1 = .ok (e, δ2)) (hg : g d e = .ok z) : mB g (vA m) (vA n) δ = .ok (z, δ2) := by
  simp only [mB, vA, h, h2, hg, get, ok_bind]
theorem fRev_of {m : Em} {δ δ1 : Dl} {xs : List D} (h : m δ = .ok (.list xs, δ1)) : fRev (vA m) δ = .ok (xs.reverse, δ1) := by
  simp only [fRev, vA, h, get, ok_bind]
theorem eF_of {f : Fm} {δ δ1 : Dl} {xs : List D} (h : f δ = .ok (xs, δ1)) : eF f δ = .ok (.list xs, δ1) := by
  simp only [eF, h, ok_bind]
theorem mRc2_of {m n : Em} {δ δ1 δ2 : Dl} {d e : D} (h : m δ = .ok (d, δ1)) (h2 : n δ1 = .ok (e, δ2)) : mRc2 m n δ = .ok (.list [d, e], δ2) := by
  simp only [mRc2, h, h2, ok_bind]
theorem sCons_of {m : Em} {n : Sm} {δ δ1 δ2 : Dl} {d : D} {ds : List D} (h : m δ = .ok (d, δ1)) (h2 : n δ1 = .ok (ds, δ2)) : sCons m n δ = .ok (d :: ds, δ2) := by
  simp only [sCons, h, h2, ok_bind]
theorem mTup_of {m : Sm} {δ δ1 : Dl} {ds : List D} (h : m δ = .ok (ds, δ1)) (hl : ds.length ≤ 1000) : mTup m δ = .ok (.tuple ds, δ1) := by
  simp only [mTup, h, ok_bind, if_pos (Nat.le_of_lt (small1000 hl))]
theorem fLst_of {m : Sm} {δ δ1 : Dl} {ds : List D} (h : m δ = .ok (ds, δ1)) (hl : ds.length ≤ 1000) : fLst m δ = .ok (ds, δ1) := by
  simp only [fLst, h, ok_bind, if_pos (Nat.le_of_lt (small1000 hl))]
theorem mIf_t {t : Tm} {m n : Em} {δ δ1 : Dl} (h : t δ = .ok (true, δ1)) : mIf t m n δ = m δ1 := by
  unfold mIf
  rw [h, ok_bind]
  rfl
theorem mIf_f {t : Tm} {m n : Em} {δ δ1 : Dl} (h : t δ = .ok (false, δ1)) : mIf t m n δ = n δ1 := by
  unfold mIf
  rw [h, ok_bind]
  rfl
theorem pPar_of {i j : Nat} {m : Sm} {δ δ1 : Dl} {d e : D} (h : m δ = .ok ([d, e], δ1)) (hi : i < δ1.length) (hj : j < δ1.length) : pPar i j m δ = .ok (.nx, (δ1.set i (some d)).set j (some e)) := by
  have hj : j < (δ1.set i (some d)).length := by rw [List.length_set]; exact hj
  unfold pPar put
  rw [h, ok_bind]
  dsimp only
  rw [if_pos hi, ok_bind, if_pos hj, ok_bind]
theorem mCall_of {F : List D → Rs D} {m : Sm} {δ δ1 : Dl} {ds : List D} {d : D} (h : m δ = .ok (ds, δ1)) (hf : F ds = .ok d) : mCall F m δ = .ok (d, δ1) := by
  simp only [mCall, h, hf, ok_bind]
theorem mTr_of {m : Em} {δ δ1 : Dl} {b : Bool} (h : m δ = .ok (.bool b, δ1)) : mTr (vA m) δ = .ok (b, δ1) := by
  simp only [mTr, vA, h, get, tru, ok_bind]
theorem mNot_of {t : Tm} {δ δ1 : Dl} {b : Bool} (h : t δ = .ok (b, δ1)) : mNot t δ = .ok (!b, δ1) := by
  simp only [mNot, h, ok_bind]
theorem mOr_ff {t u : Tm} {δ δ1 δ2 : Dl} {b : Bool} (h : t δ = .ok (false, δ1)) (h2 : u δ1 = .ok (b, δ2)) : mOr t u δ = .ok (b, δ2) := by
  unfold mOr
  rw [h, ok_bind]
  exact h2
/-- not same: no -/
theorem same_no {e f : Em} {δ δ1 δ2 : Dl} {d : D} (h : e δ = .ok (d, δ1)) (h2 : f δ1 = .ok (d, δ2)) {R : List D → Rs D} (hs : R [d, d] = .ok (.bool true)) : mNot (mTr (vA (mCall R (sCons e (sCons f sNil))))) δ = .ok (false, δ2) :=
  mNot_of (b := true) (mTr_of (mCall_of (sCons_of h (sCons_of h2 rfl)) hs))
theorem fComp_of {vs : List Nat} {w : Sm} {t : Tg} {c : Tm} {e : Em} {δ δ1 δ2 : Dl} {xs ys : List D} (hw : w δ = .ok (xs, δ1)) (hl : xs.length ≤ sizeLine) (h : compF vs t c e xs δ1 = .ok (ys, δ2)) : eF (fComp vs w t c e) δ = .ok (.list ys, δ2) := by
  simp only [eF, fComp, hw, h, if_pos hl, nox, ok_bind]
/-- a comprehension that keeps all it makes, with f what it makes -/
theorem compF_map {vs : List Nat} {t : Tg} {c : Tm} {e : Em} {I : Dl → Prop} (f : D → D) (p : D → Bool) : ∀ (ds : List D) (δ : Dl),
    (∀ d ∈ ds, ∀ δ, I δ → ∃ δ1 δ2, t d (wipeD δ vs) = .ok δ1 ∧ c δ1 = .ok (p d, δ2) ∧ (p d = false → I (back δ δ2 vs)) ∧ (p d = true → ∃ δ3, e δ2 = .ok (f d, δ3) ∧ I (back δ δ3 vs))) → I δ →
    ∃ δ', compF vs t c e ds δ = .ok ((ds.filter p).map f, δ') ∧ I δ'
  | [], δ, _, h => ⟨δ, rfl, h⟩
  | d :: ds, δ, h, hi => by
    obtain ⟨δ1, δ2, e1, e2, e3, e4⟩ := h d List.mem_cons_self δ hi
    unfold compF
    rw [e1, ok_bind, e2, ok_bind]
    cases hp : p d with
    | false =>
      obtain ⟨δ', e5, e6⟩ := compF_map f p ds _ (fun d hd => h d (List.mem_cons_of_mem _ hd)) (e3 hp)
      exact ⟨δ', by rw [if_neg (by simp), e5, List.filter_cons_of_neg (by simp [hp])], e6⟩
    | true =>
      obtain ⟨δ3, e5, e6⟩ := e4 hp
      obtain ⟨δ', e7, e8⟩ := compF_map f p ds _ (fun d hd => h d (List.mem_cons_of_mem _ hd)) e6
      refine ⟨δ', ?_, e8⟩
      rw [if_pos rfl, e5, ok_bind, e7, List.filter_cons_of_pos (by simp [hp])]
      rfl
theorem wRng_of {m : Sm} {δ δ1 : Dl} {j : Int} (h : m δ = .ok ([.int j], δ1)) (h0 : 0 ≤ j) (h1 : j ≤ 1000000) : wRng m δ = .ok ((List.range j.toNat).map fun i => .int (i : Nat), δ1) := by
  have c : -(2 ^ 62) ≤ j ∧ j < 2 ^ 62 := ⟨by omega, by omega⟩
  unfold wRng
  rw [h]
  exact if_pos c
theorem range63 (n : Nat) : ((List.range n).map fun i => PyData.int (i : Nat)).length = n := by simp

/-! ### what the laws draw from -/
def dealD (xs : List Int) (b : Int) : D := .list [.list (xs.map .int), .int b]
def Deal (d : D) : Prop := ∃ (xs : List Int) (b : Int), d = dealD xs b ∧ (∀ x ∈ xs, 0 ≤ x) ∧ xs.length ≤ 63 ∧ 0 ≤ b ∧ b < 2147483647
noncomputable def b_law_any : Pm := (pSeq (loopA (mAnd (mT (mUB gNe (uAt 0 0) (uC (.list [])))) (mT (mB gEq (vA (mUB gIx (uAt 0 0) (uC (.int (-1))))) (vA (mC (.int 0)))))) (pEx (mPopIn 0 0)))
    (pSeq (pIf (mT (mUB gNe (uAt 0 0) (uC (.list [])))) (pSeq (pSet 2 (mL gInt (lCons (vA (mPopIn 0 0)) lNil)))
    (pSeq (pAppIn 0 0 (vB gDiv (fun δ => get δ (.r 2)) (fun δ => get δ (.r 1))))
    (pRet (mB gMod (vA (mV 2)) (vA (mV 1)))))) pNil)
    (pSeq (pPutAt 0 1 (mB gMod (vA (mL gInt (lCons (vA (mB gAdd (vA (mB gMul (vA (mAt 0 1)) (vA (mC (.int 40693))))) (vA (mC (.int 71))))) lNil))) (vA (mC (.int 2147483647)))))
    (pRet (mB gMod (vA (mL gInt (lCons (vA (mB gDiv (vA (mAt 0 1)) (vA (mC (.int 64))))) lNil))) (vA (mV 1)))))))
noncomputable def r_law_any : List D → Rs (D × D) := runM (.im) 3 b_law_any
noncomputable def b_law_of : Pm := (pRet (mB gIx (vA (mV 1)) (vA (mCallM 0 r_law_any (sCons (mL gLen (lCons (vA (mV 1)) lNil)) sNil)))))
noncomputable def r_law_of : List D → Rs (D × D) := runM (.im) 2 b_law_of
def zeros_t : Tm := (mAnd (mT (mUB gNe (uAt 0 0) (uC (.list [])))) (mT (mB gEq (vA (mUB gIx (uAt 0 0) (uC (.int (-1))))) (vA (mC (.int 0))))))
theorem zeros (m : Int) (b : Int) : ∀ (n : Nat) (xs : List Int), xs.length ≤ n → (∀ x ∈ xs, 0 ≤ x) → ∃ ys : List Int, loopA zeros_t (pEx (mPopIn 0 0)) [some (dealD xs b), some (.int m), none] = .ok (.nx, [some (dealD ys b), some (.int m), none]) ∧ (∀ x ∈ ys, 0 ≤ x) ∧ ys.length ≤ n
  | n, xs, hl, h0 => by
    rcases List.eq_nil_or_concat xs with rfl | ⟨zs, z, rfl⟩
    · refine ⟨[], ?_, fun _ h => absurd h (by simp), Nat.zero_le _⟩
      rw [loopA_eq]
      simp only [zeros_t, dealD, gNe_nil, List.isEmpty_nil, mV, mC, vA, rA, get, gets, mU, mB, mL, lNil, lCons, eF, bool_b, mT, mTr, mNot, mAnd, mOr, eNot, eAnd, eOr, mIf, sNil, sCons, mTup, fLst, mM, pNil, pSeq, pBk, pCt, pIf, pRet, put, pSet, pEx, gN, gE, gC, gT, pAs, pPar, pFor, fComp, tmY, flo, gAdd, gSub, gMul, gDiv, gMod, gPow, gNeg, gLt, gLe, gGt, gGe, gIs, gIsN, isNo, isBo, gIx, optR, oN, oS, toI, wSeq, seqOf, wZip, listAt, mApp, mPop, mPopAt, mAt, uAt, uC, mUB, mPopIn, vB, pAppIn, pPutAt, itemAt, putAt, mCall, mCallM, mCallK, mRc2, gIsi, isInt, isBool, isStr, isTup, isList, gLen, gAbs, gInt, gGcd, gMax, gMin, gTup, tru, ok_bind, no_bind, ex_bind, List.getElem?_cons_succ, List.getElem?_cons_zero, List.set_cons_succ, List.set_cons_zero, List.length_cons, List.length_nil, Nat.reduceAdd, Nat.reduceLT, Nat.reduceLeDiff, Nat.zero_add, if_true, if_pos_t, if_false_b, ite_tt, atI0, atI1, atI2, Bool.not_true, Bool.not_false, gEq_i, gNe_i, List.map_cons, List.map_nil, List.append_nil, List.nil_append, List.cons_append, List.replicate]
    · rw [List.concat_eq_append] at *
      by_cases hz : z = 0
      · cases n with
        | zero => simp at hl
        | succ n =>
          obtain ⟨ys, e, h1, h2⟩ := zeros m b n zs (by simp at hl; omega) fun x hx => h0 x (by simp [hx])
          refine ⟨ys, ?_, h1, by omega⟩
          rw [loopA_eq]
          have e1 : ((zs ++ [z]).map PyData.int).isEmpty = false := by simp
          have e2 : atI ((zs ++ [z]).map PyData.int) (-1) = some (.int z) := by rw [List.map_append]; exact atI_last _ _
          have e3 : ((zs ++ [z]).map PyData.int).getLast? = some (.int z) := by simp
          have e4 : ((zs ++ [z]).map PyData.int).dropLast = zs.map PyData.int := by simp
          have e5 : (z == 0) = true := by simp [hz]
          simp only [zeros_t, dealD, gNe_nil, e1, e2, e3, e4, e5, mV, mC, vA, rA, get, gets, mU, mB, mL, lNil, lCons, eF, bool_b, mT, mTr, mNot, mAnd, mOr, eNot, eAnd, eOr, mIf, sNil, sCons, mTup, fLst, mM, pNil, pSeq, pBk, pCt, pIf, pRet, put, pSet, pEx, gN, gE, gC, gT, pAs, pPar, pFor, fComp, tmY, flo, gAdd, gSub, gMul, gDiv, gMod, gPow, gNeg, gLt, gLe, gGt, gGe, gIs, gIsN, isNo, isBo, gIx, optR, oN, oS, toI, wSeq, seqOf, wZip, listAt, mApp, mPop, mPopAt, mAt, uAt, uC, mUB, mPopIn, vB, pAppIn, pPutAt, itemAt, putAt, mCall, mCallM, mCallK, mRc2, gIsi, isInt, isBool, isStr, isTup, isList, gLen, gAbs, gInt, gGcd, gMax, gMin, gTup, tru, ok_bind, no_bind, ex_bind, List.getElem?_cons_succ, List.getElem?_cons_zero, List.set_cons_succ, List.set_cons_zero, List.length_cons, List.length_nil, Nat.reduceAdd, Nat.reduceLT, Nat.reduceLeDiff, Nat.zero_add, if_true, if_pos_t, if_false_b, ite_tt, atI0, atI1, atI2, Bool.not_true, Bool.not_false, gEq_i, gNe_i, List.map_cons, List.map_nil, List.append_nil, List.nil_append, List.cons_append, List.replicate] at e ⊢
          exact e
      · refine ⟨zs ++ [z], ?_, h0, hl⟩
        rw [loopA_eq]
        have e1 : ((zs ++ [z]).map PyData.int).isEmpty = false := by simp
        have e2 : atI ((zs ++ [z]).map PyData.int) (-1) = some (.int z) := by rw [List.map_append]; exact atI_last _ _
        have e5 : (z == 0) = false := by simp [hz]
        simp only [zeros_t, dealD, gNe_nil, e1, e2, e5, mV, mC, vA, rA, get, gets, mU, mB, mL, lNil, lCons, eF, bool_b, mT, mTr, mNot, mAnd, mOr, eNot, eAnd, eOr, mIf, sNil, sCons, mTup, fLst, mM, pNil, pSeq, pBk, pCt, pIf, pRet, put, pSet, pEx, gN, gE, gC, gT, pAs, pPar, pFor, fComp, tmY, flo, gAdd, gSub, gMul, gDiv, gMod, gPow, gNeg, gLt, gLe, gGt, gGe, gIs, gIsN, isNo, isBo, gIx, optR, oN, oS, toI, wSeq, seqOf, wZip, listAt, mApp, mPop, mPopAt, mAt, uAt, uC, mUB, mPopIn, vB, pAppIn, pPutAt, itemAt, putAt, mCall, mCallM, mCallK, mRc2, gIsi, isInt, isBool, isStr, isTup, isList, gLen, gAbs, gInt, gGcd, gMax, gMin, gTup, tru, ok_bind, no_bind, ex_bind, List.getElem?_cons_succ, List.getElem?_cons_zero, List.set_cons_succ, List.set_cons_zero, List.length_cons, List.length_nil, Nat.reduceAdd, Nat.reduceLT, Nat.reduceLeDiff, Nat.zero_add, if_true, if_pos_t, if_false_b, ite_tt, atI0, atI1, atI2, Bool.not_true, Bool.not_false, gEq_i, gNe_i, List.map_cons, List.map_nil, List.append_nil, List.nil_append, List.cons_append, List.replicate]
theorem log2_small {m : Int} (h0 : 0 ≤ m) (h : m < 9223372036854775808) : m.natAbs.log2 < 9000 := by
  by_cases e : m.natAbs = 0
  · rw [e]; decide
  · refine Nat.lt_of_lt_of_le ((Nat.log2_lt e (k := 63)).mpr ?_) (by decide)
    omega
theorem any_ok {d : D} {m : Int} (h : Deal d) (hm : 0 < m) (hm2 : m < 9223372036854775808) : ∃ v d', r_law_any [d, .int m] = .ok (.int v, d') ∧ Deal d' ∧ 0 ≤ v ∧ v < m := by
  obtain ⟨xs, b, rfl, h0, hl, hb, hb2⟩ := h
  obtain ⟨ys, e, hy, hyl⟩ := zeros m b 63 xs hl h0
  unfold zeros_t at e
  unfold r_law_any runM b_law_any
  have st : ([dealD xs b, PyData.int m] : List D).map some ++ List.replicate (3 - ([dealD xs b, PyData.int m] : List D).length) none = [some (dealD xs b), some (.int m), none] := rfl
  rw [st, pSeq_nx e]
  have lg := log2_small (Int.le_of_lt hm) hm2
  have cd : m ≠ 0 ∧ m.natAbs.log2 < 9000 := ⟨by omega, lg⟩
  rcases List.eq_nil_or_concat ys with rfl | ⟨zs, z, rfl⟩
  · have c1 : b.natAbs.log2 + (40693 : Int).natAbs.log2 < 1000000 := by
      have : b.natAbs.log2 < 32 := by
        by_cases e : b.natAbs = 0
        · rw [e]; decide
        · exact (Nat.log2_lt e).mpr (by omega)
      have e2 : (40693 : Int).natAbs.log2 < 20 := by decide
      omega
    have c2 : (64 : Int) ≠ 0 ∧ (64 : Int).natAbs.log2 < 9000 := by decide
    have c3 : (2147483647 : Int) ≠ 0 := by decide
    have c4 : m ≠ 0 := by omega
    refine ⟨((b * 40693 + 71).fmod 2147483647).fdiv 64 |>.fmod m, dealD [] ((b * 40693 + 71).fmod 2147483647), ?_, ⟨[], _, rfl, fun _ h => absurd h (by simp), Nat.zero_le _, ?_, ?_⟩, ?_, ?_⟩
    · simp only [dealD, gNe_nil, List.isEmpty_nil, if_pos c1, if_pos c2, if_pos c3, if_pos c4, mV, mC, vA, rA, get, gets, mU, mB, mL, lNil, lCons, eF, bool_b, mT, mTr, mNot, mAnd, mOr, eNot, eAnd, eOr, mIf, sNil, sCons, mTup, fLst, mM, pNil, pSeq, pBk, pCt, pIf, pRet, put, pSet, pEx, gN, gE, gC, gT, pAs, pPar, pFor, fComp, tmY, flo, gAdd, gSub, gMul, gDiv, gMod, gPow, gNeg, gLt, gLe, gGt, gGe, gIs, gIsN, isNo, isBo, gIx, optR, oN, oS, toI, wSeq, seqOf, wZip, listAt, mApp, mPop, mPopAt, mAt, uAt, uC, mUB, mPopIn, vB, pAppIn, pPutAt, itemAt, putAt, mCall, mCallM, mCallK, mRc2, gIsi, isInt, isBool, isStr, isTup, isList, gLen, gAbs, gInt, gGcd, gMax, gMin, gTup, tru, ok_bind, no_bind, ex_bind, List.getElem?_cons_succ, List.getElem?_cons_zero, List.set_cons_succ, List.set_cons_zero, List.length_cons, List.length_nil, Nat.reduceAdd, Nat.reduceLT, Nat.reduceLeDiff, Nat.zero_add, if_true, if_pos_t, if_false_b, ite_tt, atI0, atI1, atI2, Bool.not_true, Bool.not_false, gEq_i, gNe_i, List.map_cons, List.map_nil, List.append_nil, List.nil_append, List.cons_append, List.replicate]
    · exact Int.fmod_nonneg_of_pos _ (by decide)
    · exact Int.fmod_lt_of_pos _ (by decide)
    · exact Int.fmod_nonneg_of_pos _ hm
    · exact Int.fmod_lt_of_pos _ hm
  · rw [List.concat_eq_append] at *
    have e1 : ((zs ++ [z]).map PyData.int).isEmpty = false := by simp
    have e3 : ((zs ++ [z]).map PyData.int).getLast? = some (.int z) := by simp
    have e4 : ((zs ++ [z]).map PyData.int).dropLast = zs.map PyData.int := by simp
    have c4 : m ≠ 0 := by omega
    have hzl : zs.length + 1 ≤ 63 := by simpa using hyl
    have c5 : (zs.map PyData.int).length < sizeLine := by rw [List.length_map]; exact small1000 (by omega)
    have hz0 : 0 ≤ z := hy z (by simp)
    refine ⟨z.fmod m, dealD (zs ++ [z.fdiv m]) b, ?_, ⟨_, _, rfl, ?_, by simpa using hzl, hb, hb2⟩, ?_, ?_⟩
    · simp only [dealD, gNe_nil, e1, e3, e4, if_pos cd, if_pos c4, if_pos c5, mV, mC, vA, rA, get, gets, mU, mB, mL, lNil, lCons, eF, bool_b, mT, mTr, mNot, mAnd, mOr, eNot, eAnd, eOr, mIf, sNil, sCons, mTup, fLst, mM, pNil, pSeq, pBk, pCt, pIf, pRet, put, pSet, pEx, gN, gE, gC, gT, pAs, pPar, pFor, fComp, tmY, flo, gAdd, gSub, gMul, gDiv, gMod, gPow, gNeg, gLt, gLe, gGt, gGe, gIs, gIsN, isNo, isBo, gIx, optR, oN, oS, toI, wSeq, seqOf, wZip, listAt, mApp, mPop, mPopAt, mAt, uAt, uC, mUB, mPopIn, vB, pAppIn, pPutAt, itemAt, putAt, mCall, mCallM, mCallK, mRc2, gIsi, isInt, isBool, isStr, isTup, isList, gLen, gAbs, gInt, gGcd, gMax, gMin, gTup, tru, ok_bind, no_bind, ex_bind, List.getElem?_cons_succ, List.getElem?_cons_zero, List.set_cons_succ, List.set_cons_zero, List.length_cons, List.length_nil, Nat.reduceAdd, Nat.reduceLT, Nat.reduceLeDiff, Nat.zero_add, if_true, if_pos_t, if_false_b, ite_tt, atI0, atI1, atI2, Bool.not_true, Bool.not_false, gEq_i, gNe_i, List.map_cons, List.map_nil, List.append_nil, List.nil_append, List.cons_append, List.replicate]
      simp only [List.map_append, List.map_cons, List.map_nil]
    · intro x hx
      rcases (List.mem_append.mp hx) with hx | hx
      · exact hy x (by simp [hx])
      · rw [List.mem_singleton.mp hx]
        exact Int.fdiv_nonneg hz0 (by omega)
    · exact Int.fmod_nonneg_of_pos _ hm
    · exact Int.fmod_lt_of_pos _ hm
theorem of_ok {d : D} {xs : List D} (h : Deal d) (hx : xs ≠ []) (hl : xs.length < 1000) : ∃ v d', r_law_of [d, .list xs] = .ok (v, d') ∧ Deal d' ∧ v ∈ xs := by
  have h0 : 0 < xs.length := List.length_pos_iff.mpr hx
  obtain ⟨v, d', e, hd, v0, v1⟩ := any_ok (m := (xs.length : Int)) h (by omega) (by omega)
  obtain ⟨k, rfl⟩ : ∃ k : Nat, v = k := ⟨v.toNat, by omega⟩
  have hk : k < xs.length := by omega
  refine ⟨xs[k], d', ?_, hd, List.getElem_mem _⟩
  have e2 : atI xs (k : Int) = some xs[k] := atI_nat (List.getElem?_eq_getElem hk)
  unfold r_law_of runM b_law_of
  have st : ([d, PyData.list xs] : List D).map some ++ List.replicate (2 - ([d, PyData.list xs] : List D).length) none = [some d, some (.list xs)] := rfl
  rw [st]
  simp only [e, e2, mV, mC, vA, rA, get, gets, mU, mB, mL, lNil, lCons, eF, bool_b, mT, mTr, mNot, mAnd, mOr, eNot, eAnd, eOr, mIf, sNil, sCons, mTup, fLst, mM, pNil, pSeq, pBk, pCt, pIf, pRet, put, pSet, pEx, gN, gE, gC, gT, pAs, pPar, pFor, fComp, tmY, flo, gAdd, gSub, gMul, gDiv, gMod, gPow, gNeg, gLt, gLe, gGt, gGe, gIs, gIsN, isNo, isBo, gIx, optR, oN, oS, toI, wSeq, seqOf, wZip, listAt, mApp, mPop, mPopAt, mAt, uAt, uC, mUB, mPopIn, vB, pAppIn, pPutAt, itemAt, putAt, mCall, mCallM, mCallK, mRc2, gIsi, isInt, isBool, isStr, isTup, isList, gLen, gAbs, gInt, gGcd, gMax, gMin, gTup, tru, ok_bind, no_bind, ex_bind, List.getElem?_cons_succ, List.getElem?_cons_zero, List.set_cons_succ, List.set_cons_zero, List.length_cons, List.length_nil, Nat.reduceAdd, Nat.reduceLT, Nat.reduceLeDiff, Nat.zero_add, if_true, if_pos_t, if_false_b, ite_tt, atI0, atI1, atI2, Bool.not_true, Bool.not_false, gEq_i, gNe_i, List.map_cons, List.map_nil, List.append_nil, List.nil_append, List.cons_append, List.replicate]
end Zd

namespace Zd
open PySem PySem.Spec
open PyProof.Rows L2

/-! ### the draw -/
noncomputable def b_law_draw : Pm := (pSeq (pSet 2 (eF (fComp [4] (wSeq (mSl (vA (mV 0)) oN (oS (mC (.int 48))))) (gN 4) tmY (mL gAbs (lCons (vA (mL gInt (lCons (vA (mV 4)) lNil))) lNil)))))
    (pSeq (pSet 3 (mB gAdd (vA (mC (.int 7919))) (vA (mB gMul (vA (mC (.int 104729))) (vA (mV 1))))))
    (pSeq (pFor (wSeq (mV 2)) (gN 4) (pSet 3 (mB gMod (vA (mL gInt (lCons (vA (mB gAdd (vA (mB gAdd (vA (mB gMul (vA (mV 3)) (vA (mC (.int 48271))))) (vA (mB gMod (vA (mV 4)) (vA (mC (.int 2147483549))))))) (vA (mC (.int 11))))) lNil))) (vA (mC (.int 2147483647))))))
    (pRet (mRc2 (eF (fRev (vA (eF (fComp [4] (wSeq (mV 2)) (gN 4) (mT (mB gGe (vA (mV 4)) (vA (mB gPow (vA (mC (.int 10))) (vA (mC (.int 18))))))) (mV 4)))))) (mV 3))))))
noncomputable def r_law_draw : List D → Rs D := runP (.rc [.mu .im, .im]) 5 b_law_draw
def absD : D → D
  | .int i => .int (if i < 0 then -i else i)
  | d => d
def bigD : D → Bool
  | .int i => decide ((10 : Int) ^ 18 ≤ i)
  | _ => false
theorem cut_ints (ns : List Int) (h : Option Int) : cut (ns.map PyData.int) none h = (cut ns none h).map PyData.int := by
  unfold cut
  rw [List.map_take, List.map_drop, List.length_map]
theorem log2_of {m : Int} {k : Nat} (h : m.natAbs < 2 ^ k) : m.natAbs.log2 < k + 1 := by
  by_cases e : m.natAbs = 0
  · rw [e]; simp
  · exact Nat.lt_succ_of_lt ((Nat.log2_lt e).mpr h)
theorem draw_ok (ns : List Int) (salt : Int) (h0 : 0 ≤ salt) (h1 : salt ≤ 1000) (hl : ns.length ≤ 63) : ∃ d, r_law_draw [.list (ns.map .int), .int salt] = .ok d ∧ Deal d := by
  have hw : cut (ns.map PyData.int) none (some 48) = (cut ns none (some 48)).map PyData.int := cut_ints ns _
  have hcl : (cut ns none (some 48)).length ≤ 48 := by
    unfold cut
    rw [List.length_take]
    have : HT.sIx ns.length ns.length (some (48 : Int)) = min 48 ns.length := HT.sIx_nat ns.length ns.length 48
    omega
  obtain ⟨cs, hcs⟩ : ∃ cs, cs = cut ns none (some 48) := ⟨_, rfl⟩
  rw [← hcs] at hw hcl
  let δ0 : Dl := [some (.list (ns.map .int)), some (.int salt), none, none, none]
  -- the cells
  obtain ⟨δ', e1, rfl⟩ := compF_map (vs := [4]) (t := gN 4) (c := tmY) (e := mL gAbs (lCons (vA (mL gInt (lCons (vA (mV 4)) lNil))) lNil)) (I := fun δ => δ = δ0) absD (fun _ => true) (cs.map PyData.int) δ0 (fun d hd δ hδ => by
    subst hδ
    obtain ⟨i, _, rfl⟩ := List.mem_map.mp hd
    refine ⟨_, _, rfl, rfl, (fun z => absurd z (by simp)), fun _ => ⟨[some (.list (ns.map .int)), some (.int salt), none, none, some (.int i)], ?_, rfl⟩⟩
    simp only [δ0, wipeD, absD, mV, mC, vA, rA, get, gets, mU, mB, mL, lNil, lCons, eF, bool_b, mT, mTr, mNot, mAnd, mOr, eNot, eAnd, eOr, mIf, sNil, sCons, mTup, fLst, mM, pNil, pSeq, pBk, pCt, pIf, pRet, put, pSet, pEx, gN, gE, gC, gT, pAs, pPar, pFor, fComp, tmY, flo, gAdd, gSub, gMul, gDiv, gMod, gPow, gNeg, gLt, gLe, gGt, gGe, gIs, gIsN, isNo, isBo, gIx, optR, oN, oS, toI, wSeq, seqOf, wZip, listAt, mApp, mPop, mPopAt, mAt, uAt, uC, mUB, mPopIn, vB, pAppIn, pPutAt, itemAt, putAt, mCall, mCallM, mCallK, mRc2, gIsi, isInt, isBool, isStr, isTup, isList, gLen, gAbs, gInt, gGcd, gMax, gMin, gTup, tru, ok_bind, no_bind, ex_bind, List.getElem?_cons_succ, List.getElem?_cons_zero, List.set_cons_succ, List.set_cons_zero, List.length_cons, List.length_nil, Nat.reduceAdd, Nat.reduceLT, Nat.reduceLeDiff, Nat.zero_add, if_true, if_pos_t, if_false_b, ite_tt, atI0, atI1, atI2, Bool.not_true, Bool.not_false, gEq_i, gNe_i, List.map_cons, List.map_nil, List.append_nil, List.nil_append, List.cons_append, List.replicate]) rfl
  have e2 : (((cs.map PyData.int).filter fun _ => true).map absD) = (cs.map fun i => if i < 0 then -i else i).map PyData.int := by
    rw [List.filter_eq_self.mpr (fun _ _ => rfl), List.map_map, List.map_map]
    rfl
  rw [e2] at e1
  obtain ⟨bs, hbs⟩ : ∃ bs, bs = cs.map fun i : Int => if i < 0 then -i else i := ⟨_, rfl⟩
  have hbl : bs.length ≤ 48 := by rw [hbs, List.length_map]; exact hcl
  have hb0 : ∀ x ∈ bs, 0 ≤ x := fun x hx => by
    rw [hbs] at hx
    obtain ⟨i, _, rfl⟩ := List.mem_map.mp hx
    by_cases hi : i < 0
    · rw [if_pos hi]; omega
    · rw [if_neg hi]; omega
  rw [← hbs] at e1
  have sz : ((cs.map PyData.int).length ≤ sizeLine) := by rw [List.length_map]; exact Nat.le_of_lt (small1000 (by omega))
  have s1 : pSet 2 (eF (fComp [4] (wSeq (mSl (vA (mV 0)) oN (oS (mC (.int 48))))) (gN 4) tmY (mL gAbs (lCons (vA (mL gInt (lCons (vA (mV 4)) lNil))) lNil)))) δ0 = .ok (.nx, [some (.list (ns.map .int)), some (.int salt), some (.list (bs.map .int)), none, none]) := by
    have w0 : (wSeq (mSl (vA (mV 0)) oN (oS (mC (.int 48))))) δ0 = .ok (cs.map .int, δ0) := by
      simp only [δ0, mSl, toI, gCut, hw, mV, mC, vA, rA, get, gets, mU, mB, mL, lNil, lCons, eF, bool_b, mT, mTr, mNot, mAnd, mOr, eNot, eAnd, eOr, mIf, sNil, sCons, mTup, fLst, mM, pNil, pSeq, pBk, pCt, pIf, pRet, put, pSet, pEx, gN, gE, gC, gT, pAs, pPar, pFor, fComp, tmY, flo, gAdd, gSub, gMul, gDiv, gMod, gPow, gNeg, gLt, gLe, gGt, gGe, gIs, gIsN, isNo, isBo, gIx, optR, oN, oS, toI, wSeq, seqOf, wZip, listAt, mApp, mPop, mPopAt, mAt, uAt, uC, mUB, mPopIn, vB, pAppIn, pPutAt, itemAt, putAt, mCall, mCallM, mCallK, mRc2, gIsi, isInt, isBool, isStr, isTup, isList, gLen, gAbs, gInt, gGcd, gMax, gMin, gTup, tru, ok_bind, no_bind, ex_bind, List.getElem?_cons_succ, List.getElem?_cons_zero, List.set_cons_succ, List.set_cons_zero, List.length_cons, List.length_nil, Nat.reduceAdd, Nat.reduceLT, Nat.reduceLeDiff, Nat.zero_add, if_true, if_pos_t, if_false_b, ite_tt, atI0, atI1, atI2, Bool.not_true, Bool.not_false, gEq_i, gNe_i, List.map_cons, List.map_nil, List.append_nil, List.nil_append, List.cons_append, List.replicate]
    rw [pSet_of (fComp_of w0 sz e1) (show 2 < 5 by decide)]
    rfl
  -- blend
  have s2 : ∀ x : Option D, pSet 3 (mB gAdd (vA (mC (.int 7919))) (vA (mB gMul (vA (mC (.int 104729))) (vA (mV 1))))) [some (.list (ns.map .int)), some (.int salt), x, none, none] = .ok (.nx, [some (.list (ns.map .int)), some (.int salt), x, some (.int (7919 + 104729 * salt)), none]) := fun x => by
    have c1 : (104729 : Int).natAbs.log2 + salt.natAbs.log2 < 1000000 := by
      have := log2_of (m := salt) (k := 10) (by omega)
      have e2 : (104729 : Int).natAbs.log2 < 20 := by decide
      omega
    simp only [if_pos c1, mV, mC, vA, rA, get, gets, mU, mB, mL, lNil, lCons, eF, bool_b, mT, mTr, mNot, mAnd, mOr, eNot, eAnd, eOr, mIf, sNil, sCons, mTup, fLst, mM, pNil, pSeq, pBk, pCt, pIf, pRet, put, pSet, pEx, gN, gE, gC, gT, pAs, pPar, pFor, fComp, tmY, flo, gAdd, gSub, gMul, gDiv, gMod, gPow, gNeg, gLt, gLe, gGt, gGe, gIs, gIsN, isNo, isBo, gIx, optR, oN, oS, toI, wSeq, seqOf, wZip, listAt, mApp, mPop, mPopAt, mAt, uAt, uC, mUB, mPopIn, vB, pAppIn, pPutAt, itemAt, putAt, mCall, mCallM, mCallK, mRc2, gIsi, isInt, isBool, isStr, isTup, isList, gLen, gAbs, gInt, gGcd, gMax, gMin, gTup, tru, ok_bind, no_bind, ex_bind, List.getElem?_cons_succ, List.getElem?_cons_zero, List.set_cons_succ, List.set_cons_zero, List.length_cons, List.length_nil, Nat.reduceAdd, Nat.reduceLT, Nat.reduceLeDiff, Nat.zero_add, if_true, if_pos_t, if_false_b, ite_tt, atI0, atI1, atI2, Bool.not_true, Bool.not_false, gEq_i, gNe_i, List.map_cons, List.map_nil, List.append_nil, List.nil_append, List.cons_append, List.replicate]
  -- the loop
  have s3 : ∃ δ1, pFor (wSeq (mV 2)) (gN 4) (pSet 3 (mB gMod (vA (mL gInt (lCons (vA (mB gAdd (vA (mB gAdd (vA (mB gMul (vA (mV 3)) (vA (mC (.int 48271))))) (vA (mB gMod (vA (mV 4)) (vA (mC (.int 2147483549))))))) (vA (mC (.int 11))))) lNil))) (vA (mC (.int 2147483647))))) [some (.list (ns.map .int)), some (.int salt), some (.list (bs.map .int)), some (.int (7919 + 104729 * salt)), none] = .ok (.nx, δ1) ∧
      ∃ b x, δ1 = [some (.list (ns.map .int)), some (.int salt), some (.list (bs.map .int)), some (.int b), x] ∧ 0 ≤ b ∧ b < 2147483647 := by
    refine pFor_ok (I := fun δ1 => ∃ b x, δ1 = [some (.list (ns.map .int)), some (.int salt), some (.list (bs.map .int)), some (.int b), x] ∧ 0 ≤ b ∧ b < 2147483647) rfl (fun d hd δ hI => ?_) ⟨_, _, rfl, by omega, by omega⟩
    obtain ⟨b, x, rfl, hb, hb2⟩ := hI
    obtain ⟨i, _, rfl⟩ := List.mem_map.mp hd
    have c1 : b.natAbs.log2 + (48271 : Int).natAbs.log2 < 1000000 := by
      have := log2_of (m := b) (k := 32) (by omega)
      have e2 : (48271 : Int).natAbs.log2 < 20 := by decide
      omega
    have c2 : (2147483549 : Int) ≠ 0 := by decide
    have c3 : (2147483647 : Int) ≠ 0 := by decide
    refine ⟨_, rfl, ⟨.nx, [some (.list (ns.map .int)), some (.int salt), some (.list (bs.map .int)), some (.int ((b * 48271 + i.fmod 2147483549 + 11).fmod 2147483647)), some (.int i)]⟩, ?_, .inl rfl, _, _, rfl, Int.fmod_nonneg_of_pos _ (by decide), Int.fmod_lt_of_pos _ (by decide)⟩
    simp only [if_pos c1, if_pos c2, if_pos c3, mV, mC, vA, rA, get, gets, mU, mB, mL, lNil, lCons, eF, bool_b, mT, mTr, mNot, mAnd, mOr, eNot, eAnd, eOr, mIf, sNil, sCons, mTup, fLst, mM, pNil, pSeq, pBk, pCt, pIf, pRet, put, pSet, pEx, gN, gE, gC, gT, pAs, pPar, pFor, fComp, tmY, flo, gAdd, gSub, gMul, gDiv, gMod, gPow, gNeg, gLt, gLe, gGt, gGe, gIs, gIsN, isNo, isBo, gIx, optR, oN, oS, toI, wSeq, seqOf, wZip, listAt, mApp, mPop, mPopAt, mAt, uAt, uC, mUB, mPopIn, vB, pAppIn, pPutAt, itemAt, putAt, mCall, mCallM, mCallK, mRc2, gIsi, isInt, isBool, isStr, isTup, isList, gLen, gAbs, gInt, gGcd, gMax, gMin, gTup, tru, ok_bind, no_bind, ex_bind, List.getElem?_cons_succ, List.getElem?_cons_zero, List.set_cons_succ, List.set_cons_zero, List.length_cons, List.length_nil, Nat.reduceAdd, Nat.reduceLT, Nat.reduceLeDiff, Nat.zero_add, if_true, if_pos_t, if_false_b, ite_tt, atI0, atI1, atI2, Bool.not_true, Bool.not_false, gEq_i, gNe_i, List.map_cons, List.map_nil, List.append_nil, List.nil_append, List.cons_append, List.replicate]
  obtain ⟨δ1, e3, b, x, rfl, hb, hb2⟩ := s3
  -- what is handed back
  let δ2 : Dl := [some (.list (ns.map .int)), some (.int salt), some (.list (bs.map .int)), some (.int b), x]
  have c1 : 0 ≤ (18 : Int) ∧ (18 : Int) ≤ 1000000 ∧ (10 : Int).natAbs < 2 ^ 64 := by decide
  obtain ⟨δ', e4, rfl⟩ := compF_map (vs := [4]) (t := gN 4) (c := mT (mB gGe (vA (mV 4)) (vA (mB gPow (vA (mC (.int 10))) (vA (mC (.int 18))))))) (e := mV 4) (I := fun δ => δ = δ2) id bigD (bs.map PyData.int) δ2 (fun d hd δ hδ => by
    subst hδ
    obtain ⟨i, _, rfl⟩ := List.mem_map.mp hd
    refine ⟨_, [some (.list (ns.map .int)), some (.int salt), some (.list (bs.map .int)), some (.int b), some (.int i)], rfl, ?_, fun _ => rfl, fun _ => ⟨[some (.list (ns.map .int)), some (.int salt), some (.list (bs.map .int)), some (.int b), some (.int i)], rfl, rfl⟩⟩
    simp only [δ2, wipeD, bigD, if_pos c1, mV, mC, vA, rA, get, gets, mU, mB, mL, lNil, lCons, eF, bool_b, mT, mTr, mNot, mAnd, mOr, eNot, eAnd, eOr, mIf, sNil, sCons, mTup, fLst, mM, pNil, pSeq, pBk, pCt, pIf, pRet, put, pSet, pEx, gN, gE, gC, gT, pAs, pPar, pFor, fComp, tmY, flo, gAdd, gSub, gMul, gDiv, gMod, gPow, gNeg, gLt, gLe, gGt, gGe, gIs, gIsN, isNo, isBo, gIx, optR, oN, oS, toI, wSeq, seqOf, wZip, listAt, mApp, mPop, mPopAt, mAt, uAt, uC, mUB, mPopIn, vB, pAppIn, pPutAt, itemAt, putAt, mCall, mCallM, mCallK, mRc2, gIsi, isInt, isBool, isStr, isTup, isList, gLen, gAbs, gInt, gGcd, gMax, gMin, gTup, tru, ok_bind, no_bind, ex_bind, List.getElem?_cons_succ, List.getElem?_cons_zero, List.set_cons_succ, List.set_cons_zero, List.length_cons, List.length_nil, Nat.reduceAdd, Nat.reduceLT, Nat.reduceLeDiff, Nat.zero_add, if_true, if_pos_t, if_false_b, ite_tt, atI0, atI1, atI2, Bool.not_true, Bool.not_false, gEq_i, gNe_i, List.map_cons, List.map_nil, List.append_nil, List.nil_append, List.cons_append, List.replicate]
    rfl) rfl
  have e5 : ((bs.map PyData.int).filter bigD).map id = (bs.filter fun i => decide ((10 : Int) ^ 18 ≤ i)).map PyData.int := by
    rw [List.map_id, List.filter_map]
    rfl
  rw [e5] at e4
  have sz2 : ((bs.map PyData.int).length ≤ sizeLine) := by rw [List.length_map]; exact Nat.le_of_lt (small1000 (by omega))
  refine ⟨dealD (bs.filter fun i => decide ((10 : Int) ^ 18 ≤ i)).reverse b, ?_, _, _, rfl, fun y hy => hb0 y ((List.mem_filter.mp (List.mem_reverse.mp hy)).1), ?_, hb, hb2⟩
  · unfold r_law_draw runP b_law_draw
    have st : ([PyData.list (ns.map .int), .int salt] : List D).map some ++ List.replicate (5 - ([PyData.list (ns.map .int), .int salt] : List D).length) none = δ0 := rfl
    rw [st, pSeq_nx s1, pSeq_nx (s2 _), pSeq_nx e3]
    have cmp : eF (fComp [4] (wSeq (mV 2)) (gN 4) (mT (mB gGe (vA (mV 4)) (vA (mB gPow (vA (mC (.int 10))) (vA (mC (.int 18))))))) (mV 4)) δ2 = .ok (.list ((bs.filter fun i => decide ((10 : Int) ^ 18 ≤ i)).map .int), δ2) := by
      have w0 : wSeq (mV 2) δ2 = .ok (bs.map .int, δ2) := rfl
      exact fComp_of w0 sz2 e4
    show (pRet (mRc2 (eF (fRev (vA (eF (fComp [4] (wSeq (mV 2)) (gN 4) (mT (mB gGe (vA (mV 4)) (vA (mB gPow (vA (mC (.int 10))) (vA (mC (.int 18))))))) (mV 4)))))) (mV 3)) δ2 >>= fun r => flo (.rc [.mu .im, .im]) r.1) = _
    have fr : fRev (vA (eF (fComp [4] (wSeq (mV 2)) (gN 4) (mT (mB gGe (vA (mV 4)) (vA (mB gPow (vA (mC (.int 10))) (vA (mC (.int 18))))))) (mV 4)))) δ2 = .ok (((bs.filter fun i => decide ((10 : Int) ^ 18 ≤ i)).map .int).reverse, δ2) := by
      exact fRev_of cmp
    have v3 : mV 3 δ2 = .ok (.int b, δ2) := rfl
    rw [pRet_of (mRc2_of (eF_of fr) v3)]
    simp only [dealD, List.map_reverse, mV, mC, vA, rA, get, gets, mU, mB, mL, lNil, lCons, eF, bool_b, mT, mTr, mNot, mAnd, mOr, eNot, eAnd, eOr, mIf, sNil, sCons, mTup, fLst, mM, pNil, pSeq, pBk, pCt, pIf, pRet, put, pSet, pEx, gN, gE, gC, gT, pAs, pPar, pFor, fComp, tmY, flo, gAdd, gSub, gMul, gDiv, gMod, gPow, gNeg, gLt, gLe, gGt, gGe, gIs, gIsN, isNo, isBo, gIx, optR, oN, oS, toI, wSeq, seqOf, wZip, listAt, mApp, mPop, mPopAt, mAt, uAt, uC, mUB, mPopIn, vB, pAppIn, pPutAt, itemAt, putAt, mCall, mCallM, mCallK, mRc2, gIsi, isInt, isBool, isStr, isTup, isList, gLen, gAbs, gInt, gGcd, gMax, gMin, gTup, tru, ok_bind, no_bind, ex_bind, List.getElem?_cons_succ, List.getElem?_cons_zero, List.set_cons_succ, List.set_cons_zero, List.length_cons, List.length_nil, Nat.reduceAdd, Nat.reduceLT, Nat.reduceLeDiff, Nat.zero_add, if_true, if_pos_t, if_false_b, ite_tt, atI0, atI1, atI2, Bool.not_true, Bool.not_false, gEq_i, gNe_i, List.map_cons, List.map_nil, List.append_nil, List.nil_append, List.cons_append, List.replicate]
  · rw [List.length_reverse]
    exact Nat.le_trans (List.length_filter_le ..) (by omega)

/-! ### the law's own equality -/
noncomputable def b_law_same (rec : List D → Rs D) : Pm := (pSeq (pIf (mTr (vA (mU (gIsi isTup) (vA (mV 1))))) (pSeq (pIf (mOr (mNot (mTr (vA (mU (gIsi isTup) (vA (mV 0)))))) (mT (mB gNe (vA (mL gLen (lCons (vA (mV 0)) lNil))) (vA (mL gLen (lCons (vA (mV 1)) lNil)))))) (pRet (mC (.bool false))) pNil)
    (pRet (mB gEq (vA (eF (fComp [2, 3] (wZip (sCons (mV 0) (sCons (mV 1) sNil))) (gT 2 (gC (gN 2) (gC (gN 3) gE))) (mNot (mTr (vA (mCall rec (sCons (mV 2) (sCons (mV 3) sNil)))))) (mC (.int 0))))) (vA (eF (fLst sNil)))))) pNil)
    (pSeq (pIf (mT (mB gIs (vA (mV 1)) (vA (mC .none)))) (pRet (mB gIs (vA (mV 0)) (vA (mC .none)))) pNil)
    (pSeq (pIf (mT (mB gIs (vA (mV 1)) (vA (mC (.bool true))))) (pRet (mB gIs (vA (mV 0)) (vA (mC (.bool true))))) pNil)
    (pSeq (pIf (mT (mB gIs (vA (mV 1)) (vA (mC (.bool false))))) (pRet (mB gIs (vA (mV 0)) (vA (mC (.bool false))))) pNil)
    (pSeq (pIf (mTr (vA (mU (gIsi isInt) (vA (mV 1))))) (pRet (eAnd (mU (gIsi isInt) (vA (mV 0))) (eAnd (eNot (mU (gIsi isBool) (vA (mV 0)))) (mB gEq (vA (mV 0)) (vA (mV 1)))))) pNil)
    (pRet (eAnd (mU (gIsi isStr) (vA (mV 0))) (mB gEq (vA (mV 0)) (vA (mV 1))))))))))
noncomputable def r_law_same : Nat → List D → Rs D
  | 0 => fun _ => .no
  | n + 1 => runP (.im) 4 (b_law_same (r_law_same n))
def good : Nat → D → Bool
  | _, .none => true
  | _, .bool _ => true
  | _, .int _ => true
  | _, .str _ => true
  | n + 1, .tuple xs => decide (xs.length ≤ 1000) && xs.all (good n)
  | _, _ => false
theorem depth_s (x : Str) : (PyData.str x).depth = 0 := by rw [PyData.depth]; all_goals (intros; nofun)
theorem gEq_s (a b : Str) : gEq (.str a) (.str b) = .ok (.bool (a == b)) := by
  unfold gEq
  rw [depth_s a, depth_s b, PyData.eqv, if_pos (by decide)]
theorem run4 (m : Pm) (v due : D) : runP .im 4 m [v, due] = (m [some v, some due, none, none] >>= fun r => flo .im r.1) := rfl
/-- which pairs are not the same -/
def notSame (q : D → D → Bool) : D → Bool
  | .tuple [x, y] => !q x y
  | _ => false
theorem pairs_same {q : D → D → Bool} : ∀ {xs ys : List D}, xs.length = ys.length → (∀ y ∈ ys, ∀ x, (q x y = true ↔ x = y)) → ((((pairs xs ys).filter (notSame q)).map fun _ => (PyData.int 0)).isEmpty = true ↔ xs = ys)
  | [], [], _, _ => by simp [pairs]
  | [], _ :: _, h, _ => absurd h (by simp)
  | _ :: _, [], h, _ => absurd h (by simp)
  | x :: xs, y :: ys, h, hq => by
    have ih := pairs_same (xs := xs) (ys := ys) (by simpa using h) fun y hy => hq y (List.mem_cons_of_mem _ hy)
    have hy := hq y List.mem_cons_self x
    by_cases e : q x y = true
    · rw [pairs, List.filter_cons_of_neg (by simp [notSame, e])]
      rw [ih, hy.mp e]
      simp
    · rw [pairs, List.filter_cons_of_pos (by simp [notSame, e])]
      constructor
      · intro z; simp at z
      · intro z
        cases z
        exact absurd (hy.mpr rfl) e
theorem pairs_mem : ∀ {xs ys : List D} {d : D}, d ∈ pairs xs ys → ∃ x y, d = .tuple [x, y] ∧ x ∈ xs ∧ y ∈ ys
  | [], _, _, h => by simp [pairs] at h
  | _ :: _, [], _, h => by simp [pairs] at h
  | x :: xs, y :: ys, d, h => by
    rw [pairs] at h
    rcases (List.mem_cons.mp h) with rfl | h
    · exact ⟨x, y, rfl, List.mem_cons_self, List.mem_cons_self⟩
    · obtain ⟨a, b, e, h1, h2⟩ := pairs_mem h
      exact ⟨a, b, e, List.mem_cons_of_mem _ h1, List.mem_cons_of_mem _ h2⟩
theorem same_ok : ∀ (n : Nat) (v due : D), good n due = true → ∃ b, r_law_same (n + 1) [v, due] = .ok (.bool b) ∧ (b = true ↔ v = due)
  | n, v, .none, _ => by
    refine ⟨isNo v, ?_, by cases v <;> simp [isNo]⟩
    rw [r_law_same, run4, b_law_same]
    simp only [mV, mC, vA, rA, get, gets, mU, mB, mL, lNil, lCons, eF, bool_b, mT, mTr, mNot, mAnd, mOr, eNot, eAnd, eOr, mIf, sNil, sCons, mTup, fLst, mM, pNil, pSeq, pBk, pCt, pIf, pRet, put, pSet, pEx, gN, gE, gC, gT, pAs, pPar, pFor, fComp, tmY, flo, gAdd, gSub, gMul, gDiv, gMod, gPow, gNeg, gLt, gLe, gGt, gGe, gIs, gIsN, isNo, isBo, gIx, optR, oN, oS, toI, wSeq, seqOf, wZip, listAt, mApp, mPop, mPopAt, mAt, uAt, uC, mUB, mPopIn, vB, pAppIn, pPutAt, itemAt, putAt, mCall, mCallM, mCallK, mRc2, gIsi, isInt, isBool, isStr, isTup, isList, gLen, gAbs, gInt, gGcd, gMax, gMin, gTup, tru, ok_bind, no_bind, ex_bind, List.getElem?_cons_succ, List.getElem?_cons_zero, List.set_cons_succ, List.set_cons_zero, List.length_cons, List.length_nil, Nat.reduceAdd, Nat.reduceLT, Nat.reduceLeDiff, Nat.zero_add, if_true, if_pos_t, if_false_b, ite_tt, atI0, atI1, atI2, Bool.not_true, Bool.not_false, gEq_i, gNe_i, List.map_cons, List.map_nil, List.append_nil, List.nil_append, List.cons_append, List.replicate]
  | n, v, .bool true, _ => by
    refine ⟨isBo true v, ?_, by cases v <;> simp [isBo]⟩
    rw [r_law_same, run4, b_law_same]
    simp only [decide_true, decide_false, Bool.false_eq_true, Bool.true_eq_false, decide_eq_true_eq, mV, mC, vA, rA, get, gets, mU, mB, mL, lNil, lCons, eF, bool_b, mT, mTr, mNot, mAnd, mOr, eNot, eAnd, eOr, mIf, sNil, sCons, mTup, fLst, mM, pNil, pSeq, pBk, pCt, pIf, pRet, put, pSet, pEx, gN, gE, gC, gT, pAs, pPar, pFor, fComp, tmY, flo, gAdd, gSub, gMul, gDiv, gMod, gPow, gNeg, gLt, gLe, gGt, gGe, gIs, gIsN, isNo, isBo, gIx, optR, oN, oS, toI, wSeq, seqOf, wZip, listAt, mApp, mPop, mPopAt, mAt, uAt, uC, mUB, mPopIn, vB, pAppIn, pPutAt, itemAt, putAt, mCall, mCallM, mCallK, mRc2, gIsi, isInt, isBool, isStr, isTup, isList, gLen, gAbs, gInt, gGcd, gMax, gMin, gTup, tru, ok_bind, no_bind, ex_bind, List.getElem?_cons_succ, List.getElem?_cons_zero, List.set_cons_succ, List.set_cons_zero, List.length_cons, List.length_nil, Nat.reduceAdd, Nat.reduceLT, Nat.reduceLeDiff, Nat.zero_add, if_true, if_pos_t, if_false_b, ite_tt, atI0, atI1, atI2, Bool.not_true, Bool.not_false, gEq_i, gNe_i, List.map_cons, List.map_nil, List.append_nil, List.nil_append, List.cons_append, List.replicate]
  | n, v, .bool false, _ => by
    refine ⟨isBo false v, ?_, by cases v <;> simp [isBo]⟩
    rw [r_law_same, run4, b_law_same]
    simp only [decide_true, decide_false, Bool.false_eq_true, Bool.true_eq_false, decide_eq_true_eq, mV, mC, vA, rA, get, gets, mU, mB, mL, lNil, lCons, eF, bool_b, mT, mTr, mNot, mAnd, mOr, eNot, eAnd, eOr, mIf, sNil, sCons, mTup, fLst, mM, pNil, pSeq, pBk, pCt, pIf, pRet, put, pSet, pEx, gN, gE, gC, gT, pAs, pPar, pFor, fComp, tmY, flo, gAdd, gSub, gMul, gDiv, gMod, gPow, gNeg, gLt, gLe, gGt, gGe, gIs, gIsN, isNo, isBo, gIx, optR, oN, oS, toI, wSeq, seqOf, wZip, listAt, mApp, mPop, mPopAt, mAt, uAt, uC, mUB, mPopIn, vB, pAppIn, pPutAt, itemAt, putAt, mCall, mCallM, mCallK, mRc2, gIsi, isInt, isBool, isStr, isTup, isList, gLen, gAbs, gInt, gGcd, gMax, gMin, gTup, tru, ok_bind, no_bind, ex_bind, List.getElem?_cons_succ, List.getElem?_cons_zero, List.set_cons_succ, List.set_cons_zero, List.length_cons, List.length_nil, Nat.reduceAdd, Nat.reduceLT, Nat.reduceLeDiff, Nat.zero_add, if_true, if_pos_t, if_false_b, ite_tt, atI0, atI1, atI2, Bool.not_true, Bool.not_false, gEq_i, gNe_i, List.map_cons, List.map_nil, List.append_nil, List.nil_append, List.cons_append, List.replicate]
  | n, v, .int i, _ => by
    rw [r_law_same, run4, b_law_same]
    cases v with
    | int j => exact ⟨j == i, by simp only [mV, mC, vA, rA, get, gets, mU, mB, mL, lNil, lCons, eF, bool_b, mT, mTr, mNot, mAnd, mOr, eNot, eAnd, eOr, mIf, sNil, sCons, mTup, fLst, mM, pNil, pSeq, pBk, pCt, pIf, pRet, put, pSet, pEx, gN, gE, gC, gT, pAs, pPar, pFor, fComp, tmY, flo, gAdd, gSub, gMul, gDiv, gMod, gPow, gNeg, gLt, gLe, gGt, gGe, gIs, gIsN, isNo, isBo, gIx, optR, oN, oS, toI, wSeq, seqOf, wZip, listAt, mApp, mPop, mPopAt, mAt, uAt, uC, mUB, mPopIn, vB, pAppIn, pPutAt, itemAt, putAt, mCall, mCallM, mCallK, mRc2, gIsi, isInt, isBool, isStr, isTup, isList, gLen, gAbs, gInt, gGcd, gMax, gMin, gTup, tru, ok_bind, no_bind, ex_bind, List.getElem?_cons_succ, List.getElem?_cons_zero, List.set_cons_succ, List.set_cons_zero, List.length_cons, List.length_nil, Nat.reduceAdd, Nat.reduceLT, Nat.reduceLeDiff, Nat.zero_add, if_true, if_pos_t, if_false_b, ite_tt, atI0, atI1, atI2, Bool.not_true, Bool.not_false, gEq_i, gNe_i, List.map_cons, List.map_nil, List.append_nil, List.nil_append, List.cons_append, List.replicate], by simp⟩
    | _ => exact ⟨false, by simp only [mV, mC, vA, rA, get, gets, mU, mB, mL, lNil, lCons, eF, bool_b, mT, mTr, mNot, mAnd, mOr, eNot, eAnd, eOr, mIf, sNil, sCons, mTup, fLst, mM, pNil, pSeq, pBk, pCt, pIf, pRet, put, pSet, pEx, gN, gE, gC, gT, pAs, pPar, pFor, fComp, tmY, flo, gAdd, gSub, gMul, gDiv, gMod, gPow, gNeg, gLt, gLe, gGt, gGe, gIs, gIsN, isNo, isBo, gIx, optR, oN, oS, toI, wSeq, seqOf, wZip, listAt, mApp, mPop, mPopAt, mAt, uAt, uC, mUB, mPopIn, vB, pAppIn, pPutAt, itemAt, putAt, mCall, mCallM, mCallK, mRc2, gIsi, isInt, isBool, isStr, isTup, isList, gLen, gAbs, gInt, gGcd, gMax, gMin, gTup, tru, ok_bind, no_bind, ex_bind, List.getElem?_cons_succ, List.getElem?_cons_zero, List.set_cons_succ, List.set_cons_zero, List.length_cons, List.length_nil, Nat.reduceAdd, Nat.reduceLT, Nat.reduceLeDiff, Nat.zero_add, if_true, if_pos_t, if_false_b, ite_tt, atI0, atI1, atI2, Bool.not_true, Bool.not_false, gEq_i, gNe_i, List.map_cons, List.map_nil, List.append_nil, List.nil_append, List.cons_append, List.replicate], by simp⟩
  | n, v, .str i, _ => by
    rw [r_law_same, run4, b_law_same]
    cases v with
    | str j => exact ⟨j == i, by simp only [gEq_s, mV, mC, vA, rA, get, gets, mU, mB, mL, lNil, lCons, eF, bool_b, mT, mTr, mNot, mAnd, mOr, eNot, eAnd, eOr, mIf, sNil, sCons, mTup, fLst, mM, pNil, pSeq, pBk, pCt, pIf, pRet, put, pSet, pEx, gN, gE, gC, gT, pAs, pPar, pFor, fComp, tmY, flo, gAdd, gSub, gMul, gDiv, gMod, gPow, gNeg, gLt, gLe, gGt, gGe, gIs, gIsN, isNo, isBo, gIx, optR, oN, oS, toI, wSeq, seqOf, wZip, listAt, mApp, mPop, mPopAt, mAt, uAt, uC, mUB, mPopIn, vB, pAppIn, pPutAt, itemAt, putAt, mCall, mCallM, mCallK, mRc2, gIsi, isInt, isBool, isStr, isTup, isList, gLen, gAbs, gInt, gGcd, gMax, gMin, gTup, tru, ok_bind, no_bind, ex_bind, List.getElem?_cons_succ, List.getElem?_cons_zero, List.set_cons_succ, List.set_cons_zero, List.length_cons, List.length_nil, Nat.reduceAdd, Nat.reduceLT, Nat.reduceLeDiff, Nat.zero_add, if_true, if_pos_t, if_false_b, ite_tt, atI0, atI1, atI2, Bool.not_true, Bool.not_false, gEq_i, gNe_i, List.map_cons, List.map_nil, List.append_nil, List.nil_append, List.cons_append, List.replicate], by simp⟩
    | _ => exact ⟨false, by simp only [mV, mC, vA, rA, get, gets, mU, mB, mL, lNil, lCons, eF, bool_b, mT, mTr, mNot, mAnd, mOr, eNot, eAnd, eOr, mIf, sNil, sCons, mTup, fLst, mM, pNil, pSeq, pBk, pCt, pIf, pRet, put, pSet, pEx, gN, gE, gC, gT, pAs, pPar, pFor, fComp, tmY, flo, gAdd, gSub, gMul, gDiv, gMod, gPow, gNeg, gLt, gLe, gGt, gGe, gIs, gIsN, isNo, isBo, gIx, optR, oN, oS, toI, wSeq, seqOf, wZip, listAt, mApp, mPop, mPopAt, mAt, uAt, uC, mUB, mPopIn, vB, pAppIn, pPutAt, itemAt, putAt, mCall, mCallM, mCallK, mRc2, gIsi, isInt, isBool, isStr, isTup, isList, gLen, gAbs, gInt, gGcd, gMax, gMin, gTup, tru, ok_bind, no_bind, ex_bind, List.getElem?_cons_succ, List.getElem?_cons_zero, List.set_cons_succ, List.set_cons_zero, List.length_cons, List.length_nil, Nat.reduceAdd, Nat.reduceLT, Nat.reduceLeDiff, Nat.zero_add, if_true, if_pos_t, if_false_b, ite_tt, atI0, atI1, atI2, Bool.not_true, Bool.not_false, gEq_i, gNe_i, List.map_cons, List.map_nil, List.append_nil, List.nil_append, List.cons_append, List.replicate], by simp⟩
  | n, v, .list xs, h => by cases n <;> simp [good] at h
  | n, v, .dict xs, h => by cases n <;> simp [good] at h
  | 0, v, .tuple ys, h => by simp [good] at h
  | n + 1, v, .tuple ys, h => by
    rw [r_law_same, run4, b_law_same]
    rw [good] at h
    obtain ⟨h1, h2⟩ := Bool.and_eq_true_iff.mp h
    have h1 := of_decide_eq_true h1
    have h2 := List.all_eq_true.mp h2
    cases v with
    | tuple xs =>
      by_cases hl : xs.length = ys.length
      · have el : ((xs.length : Int) == (ys.length : Int)) = true := by rw [hl]; simp
        let q : D → D → Bool := fun x y => match r_law_same (n + 1) [x, y] with
          | .ok (.bool b) => b
          | _ => false
        have hq : ∀ y ∈ ys, ∀ x, r_law_same (n + 1) [x, y] = .ok (.bool (q x y)) ∧ (q x y = true ↔ x = y) := fun y hy x => by
          obtain ⟨b, e, hb⟩ := same_ok n x y (h2 y hy)
          have : q x y = b := by simp only [q, e]
          rw [this]
          exact ⟨e, hb⟩
        let δ0 : Dl := [some (.tuple xs), some (.tuple ys), none, none]
        obtain ⟨δ', e1, rfl⟩ := compF_map (vs := [2, 3]) (t := gT 2 (gC (gN 2) (gC (gN 3) gE))) (c := mNot (mTr (vA (mCall (r_law_same (n + 1)) (sCons (mV 2) (sCons (mV 3) sNil)))))) (e := mC (.int 0)) (I := fun δ => δ = δ0) (fun _ => .int 0) (notSame q) (pairs xs ys) δ0 (fun d hd δ hδ => by
          subst hδ
          obtain ⟨x, y, rfl, hx, hy⟩ := pairs_mem hd
          refine ⟨[some (.tuple xs), some (.tuple ys), some x, some y], [some (.tuple xs), some (.tuple ys), some x, some y], ?_, ?_, fun _ => rfl, fun _ => ⟨_, rfl, rfl⟩⟩
          · simp only [δ0, wipeD, mV, mC, vA, rA, get, gets, mU, mB, mL, lNil, lCons, eF, bool_b, mT, mTr, mNot, mAnd, mOr, eNot, eAnd, eOr, mIf, sNil, sCons, mTup, fLst, mM, pNil, pSeq, pBk, pCt, pIf, pRet, put, pSet, pEx, gN, gE, gC, gT, pAs, pPar, pFor, fComp, tmY, flo, gAdd, gSub, gMul, gDiv, gMod, gPow, gNeg, gLt, gLe, gGt, gGe, gIs, gIsN, isNo, isBo, gIx, optR, oN, oS, toI, wSeq, seqOf, wZip, listAt, mApp, mPop, mPopAt, mAt, uAt, uC, mUB, mPopIn, vB, pAppIn, pPutAt, itemAt, putAt, mCall, mCallM, mCallK, mRc2, gIsi, isInt, isBool, isStr, isTup, isList, gLen, gAbs, gInt, gGcd, gMax, gMin, gTup, tru, ok_bind, no_bind, ex_bind, List.getElem?_cons_succ, List.getElem?_cons_zero, List.set_cons_succ, List.set_cons_zero, List.length_cons, List.length_nil, Nat.reduceAdd, Nat.reduceLT, Nat.reduceLeDiff, Nat.zero_add, if_true, if_pos_t, if_false_b, ite_tt, atI0, atI1, atI2, Bool.not_true, Bool.not_false, gEq_i, gNe_i, List.map_cons, List.map_nil, List.append_nil, List.nil_append, List.cons_append, List.replicate]
          · simp only [(hq y hy x).1, notSame, mV, mC, vA, rA, get, gets, mU, mB, mL, lNil, lCons, eF, bool_b, mT, mTr, mNot, mAnd, mOr, eNot, eAnd, eOr, mIf, sNil, sCons, mTup, fLst, mM, pNil, pSeq, pBk, pCt, pIf, pRet, put, pSet, pEx, gN, gE, gC, gT, pAs, pPar, pFor, fComp, tmY, flo, gAdd, gSub, gMul, gDiv, gMod, gPow, gNeg, gLt, gLe, gGt, gGe, gIs, gIsN, isNo, isBo, gIx, optR, oN, oS, toI, wSeq, seqOf, wZip, listAt, mApp, mPop, mPopAt, mAt, uAt, uC, mUB, mPopIn, vB, pAppIn, pPutAt, itemAt, putAt, mCall, mCallM, mCallK, mRc2, gIsi, isInt, isBool, isStr, isTup, isList, gLen, gAbs, gInt, gGcd, gMax, gMin, gTup, tru, ok_bind, no_bind, ex_bind, List.getElem?_cons_succ, List.getElem?_cons_zero, List.set_cons_succ, List.set_cons_zero, List.length_cons, List.length_nil, Nat.reduceAdd, Nat.reduceLT, Nat.reduceLeDiff, Nat.zero_add, if_true, if_pos_t, if_false_b, ite_tt, atI0, atI1, atI2, Bool.not_true, Bool.not_false, gEq_i, gNe_i, List.map_cons, List.map_nil, List.append_nil, List.nil_append, List.cons_append, List.replicate]) rfl
        have sz : (pairs xs ys).length ≤ sizeLine := by
          rw [pairs_len]
          exact Nat.le_trans (Nat.min_le_right _ _) (Nat.le_of_lt (small1000 h1))
        have z0 : (0 : Nat) ≤ sizeLine := Nat.zero_le _
        have w0 : wZip (sCons (mV 0) (sCons (mV 1) sNil)) δ0 = .ok (pairs xs ys, δ0) := rfl
        have fc := fComp_of w0 sz e1
        refine ⟨(((pairs xs ys).filter (notSame q)).map fun _ => (PyData.int 0)).isEmpty, ?_, ?_⟩
        · have g0 := mB_of (g := gEq) (n := eF (fLst sNil)) fc (show _ = Rs.ok (PyData.list [], δ0) by simp only [if_pos z0, mV, mC, vA, rA, get, gets, mU, mB, mL, lNil, lCons, eF, bool_b, mT, mTr, mNot, mAnd, mOr, eNot, eAnd, eOr, mIf, sNil, sCons, mTup, fLst, mM, pNil, pSeq, pBk, pCt, pIf, pRet, put, pSet, pEx, gN, gE, gC, gT, pAs, pPar, pFor, fComp, tmY, flo, gAdd, gSub, gMul, gDiv, gMod, gPow, gNeg, gLt, gLe, gGt, gGe, gIs, gIsN, isNo, isBo, gIx, optR, oN, oS, toI, wSeq, seqOf, wZip, listAt, mApp, mPop, mPopAt, mAt, uAt, uC, mUB, mPopIn, vB, pAppIn, pPutAt, itemAt, putAt, mCall, mCallM, mCallK, mRc2, gIsi, isInt, isBool, isStr, isTup, isList, gLen, gAbs, gInt, gGcd, gMax, gMin, gTup, tru, ok_bind, no_bind, ex_bind, List.getElem?_cons_succ, List.getElem?_cons_zero, List.set_cons_succ, List.set_cons_zero, List.length_cons, List.length_nil, Nat.reduceAdd, Nat.reduceLT, Nat.reduceLeDiff, Nat.zero_add, if_true, if_pos_t, if_false_b, ite_tt, atI0, atI1, atI2, Bool.not_true, Bool.not_false, gEq_i, gNe_i, List.map_cons, List.map_nil, List.append_nil, List.nil_append, List.cons_append, List.replicate]) (gEq_nil _)
          show (pSeq _ _ δ0 >>= fun r => flo .im r.1) = _
          rw [pSeq_rt (δ1 := δ0) (d := .bool (((pairs xs ys).filter (notSame q)).map fun _ => (PyData.int 0)).isEmpty)]
          · rfl
          rw [pIf_t (δ1 := δ0) (by simp only [δ0, mV, mC, vA, rA, get, gets, mU, mB, mL, lNil, lCons, eF, bool_b, mT, mTr, mNot, mAnd, mOr, eNot, eAnd, eOr, mIf, sNil, sCons, mTup, fLst, mM, pNil, pSeq, pBk, pCt, pIf, pRet, put, pSet, pEx, gN, gE, gC, gT, pAs, pPar, pFor, fComp, tmY, flo, gAdd, gSub, gMul, gDiv, gMod, gPow, gNeg, gLt, gLe, gGt, gGe, gIs, gIsN, isNo, isBo, gIx, optR, oN, oS, toI, wSeq, seqOf, wZip, listAt, mApp, mPop, mPopAt, mAt, uAt, uC, mUB, mPopIn, vB, pAppIn, pPutAt, itemAt, putAt, mCall, mCallM, mCallK, mRc2, gIsi, isInt, isBool, isStr, isTup, isList, gLen, gAbs, gInt, gGcd, gMax, gMin, gTup, tru, ok_bind, no_bind, ex_bind, List.getElem?_cons_succ, List.getElem?_cons_zero, List.set_cons_succ, List.set_cons_zero, List.length_cons, List.length_nil, Nat.reduceAdd, Nat.reduceLT, Nat.reduceLeDiff, Nat.zero_add, if_true, if_pos_t, if_false_b, ite_tt, atI0, atI1, atI2, Bool.not_true, Bool.not_false, gEq_i, gNe_i, List.map_cons, List.map_nil, List.append_nil, List.nil_append, List.cons_append, List.replicate]), pSeq_nx (δ1 := δ0)]
          · exact pRet_of g0
          rw [pIf_f (δ1 := δ0)]
          · rfl
          simp only [δ0, el, mV, mC, vA, rA, get, gets, mU, mB, mL, lNil, lCons, eF, bool_b, mT, mTr, mNot, mAnd, mOr, eNot, eAnd, eOr, mIf, sNil, sCons, mTup, fLst, mM, pNil, pSeq, pBk, pCt, pIf, pRet, put, pSet, pEx, gN, gE, gC, gT, pAs, pPar, pFor, fComp, tmY, flo, gAdd, gSub, gMul, gDiv, gMod, gPow, gNeg, gLt, gLe, gGt, gGe, gIs, gIsN, isNo, isBo, gIx, optR, oN, oS, toI, wSeq, seqOf, wZip, listAt, mApp, mPop, mPopAt, mAt, uAt, uC, mUB, mPopIn, vB, pAppIn, pPutAt, itemAt, putAt, mCall, mCallM, mCallK, mRc2, gIsi, isInt, isBool, isStr, isTup, isList, gLen, gAbs, gInt, gGcd, gMax, gMin, gTup, tru, ok_bind, no_bind, ex_bind, List.getElem?_cons_succ, List.getElem?_cons_zero, List.set_cons_succ, List.set_cons_zero, List.length_cons, List.length_nil, Nat.reduceAdd, Nat.reduceLT, Nat.reduceLeDiff, Nat.zero_add, if_true, if_pos_t, if_false_b, ite_tt, atI0, atI1, atI2, Bool.not_true, Bool.not_false, gEq_i, gNe_i, List.map_cons, List.map_nil, List.append_nil, List.nil_append, List.cons_append, List.replicate]
        · rw [pairs_same hl fun y hy x => (hq y hy x).2]
          simp
      · have el : ((xs.length : Int) == (ys.length : Int)) = false := by simp; omega
        refine ⟨false, by simp only [el, mV, mC, vA, rA, get, gets, mU, mB, mL, lNil, lCons, eF, bool_b, mT, mTr, mNot, mAnd, mOr, eNot, eAnd, eOr, mIf, sNil, sCons, mTup, fLst, mM, pNil, pSeq, pBk, pCt, pIf, pRet, put, pSet, pEx, gN, gE, gC, gT, pAs, pPar, pFor, fComp, tmY, flo, gAdd, gSub, gMul, gDiv, gMod, gPow, gNeg, gLt, gLe, gGt, gGe, gIs, gIsN, isNo, isBo, gIx, optR, oN, oS, toI, wSeq, seqOf, wZip, listAt, mApp, mPop, mPopAt, mAt, uAt, uC, mUB, mPopIn, vB, pAppIn, pPutAt, itemAt, putAt, mCall, mCallM, mCallK, mRc2, gIsi, isInt, isBool, isStr, isTup, isList, gLen, gAbs, gInt, gGcd, gMax, gMin, gTup, tru, ok_bind, no_bind, ex_bind, List.getElem?_cons_succ, List.getElem?_cons_zero, List.set_cons_succ, List.set_cons_zero, List.length_cons, List.length_nil, Nat.reduceAdd, Nat.reduceLT, Nat.reduceLeDiff, Nat.zero_add, if_true, if_pos_t, if_false_b, ite_tt, atI0, atI1, atI2, Bool.not_true, Bool.not_false, gEq_i, gNe_i, List.map_cons, List.map_nil, List.append_nil, List.nil_append, List.cons_append, List.replicate], ?_⟩
        constructor
        · intro z; cases z
        · intro z; cases z; exact absurd rfl hl
    | _ => exact ⟨false, by simp only [mV, mC, vA, rA, get, gets, mU, mB, mL, lNil, lCons, eF, bool_b, mT, mTr, mNot, mAnd, mOr, eNot, eAnd, eOr, mIf, sNil, sCons, mTup, fLst, mM, pNil, pSeq, pBk, pCt, pIf, pRet, put, pSet, pEx, gN, gE, gC, gT, pAs, pPar, pFor, fComp, tmY, flo, gAdd, gSub, gMul, gDiv, gMod, gPow, gNeg, gLt, gLe, gGt, gGe, gIs, gIsN, isNo, isBo, gIx, optR, oN, oS, toI, wSeq, seqOf, wZip, listAt, mApp, mPop, mPopAt, mAt, uAt, uC, mUB, mPopIn, vB, pAppIn, pPutAt, itemAt, putAt, mCall, mCallM, mCallK, mRc2, gIsi, isInt, isBool, isStr, isTup, isList, gLen, gAbs, gInt, gGcd, gMax, gMin, gTup, tru, ok_bind, no_bind, ex_bind, List.getElem?_cons_succ, List.getElem?_cons_zero, List.set_cons_succ, List.set_cons_zero, List.length_cons, List.length_nil, Nat.reduceAdd, Nat.reduceLT, Nat.reduceLeDiff, Nat.zero_add, if_true, if_pos_t, if_false_b, ite_tt, atI0, atI1, atI2, Bool.not_true, Bool.not_false, gEq_i, gNe_i, List.map_cons, List.map_nil, List.append_nil, List.nil_append, List.cons_append, List.replicate], by simp⟩
theorem same_refl {n : Nat} {d : D} (h : good n d = true) : r_law_same (n + 1) [d, d] = .ok (.bool true) := by
  obtain ⟨b, e, hb⟩ := same_ok n d d h
  rw [e, hb.mpr rfl]
end Zd

namespace Zd
open PySem PySem.Spec
open PyProof.Rows L2

/-! ### fractions -/
noncomputable def b_law_fraction : Pm := (pSeq (pPar 2 3 (sCons (mL gAbs (lCons (vA (mV 0)) lNil)) (sCons (mL gAbs (lCons (vA (mV 1)) lNil)) sNil)))
    (pSeq (loopA (mT (mB gNe (vA (mV 3)) (vA (mC (.int 0))))) (pPar 2 3 (sCons (mV 3) (sCons (mB gMod (vA (mL gInt (lCons (vA (mV 2)) lNil))) (vA (mV 3))) sNil))))
    (pRet (mIf (mT (mB gGt (vA (mV 1)) (vA (mC (.int 0))))) (mTup (sCons (mB gDiv (vA (mV 0)) (vA (mV 2))) (sCons (mB gDiv (vA (mV 1)) (vA (mV 2))) sNil))) (mTup (sCons (mB gDiv (vA (mB gSub (vA (mC (.int 0))) (vA (mV 0)))) (vA (mV 2))) (sCons (mB gDiv (vA (mB gSub (vA (mC (.int 0))) (vA (mV 1)))) (vA (mV 2))) sNil)))))))
noncomputable def r_law_fraction : List D → Rs D := runP (.im) 4 b_law_fraction
noncomputable def b_fraction : Pm := (pSeq (pSet 2 (mIf (mT (mB gGt (vA (mV 1)) (vA (mC (.int 0))))) (mL gGcd (lCons (vA (mV 0)) (lCons (vA (mV 1)) lNil))) (mU gNeg (vA (mL gGcd (lCons (vA (mV 0)) (lCons (vA (mV 1)) lNil)))))))
    (pRet (mTup (sCons (mB gDiv (vA (mV 0)) (vA (mV 2))) (sCons (mB gDiv (vA (mV 1)) (vA (mV 2))) sNil)))))
noncomputable def r_fraction : List D → Rs D := runP (.im) 3 b_fraction
noncomputable def b_added : Pm := (pRet (mCall r_fraction (sCons (mB gAdd (vA (mB gMul (vA (mB gIx (vA (mV 0)) (vA (mC (.int 0))))) (vA (mB gIx (vA (mV 1)) (vA (mC (.int 1))))))) (vA (mB gMul (vA (mB gIx (vA (mV 1)) (vA (mC (.int 0))))) (vA (mB gIx (vA (mV 0)) (vA (mC (.int 1)))))))) (sCons (mB gMul (vA (mB gIx (vA (mV 0)) (vA (mC (.int 1))))) (vA (mB gIx (vA (mV 1)) (vA (mC (.int 1)))))) sNil))))
noncomputable def r_added : List D → Rs D := runP (.im) 2 b_added
noncomputable def b_times : Pm := (pRet (mCall r_fraction (sCons (mB gMul (vA (mB gIx (vA (mV 0)) (vA (mC (.int 0))))) (vA (mB gIx (vA (mV 1)) (vA (mC (.int 0)))))) (sCons (mB gMul (vA (mB gIx (vA (mV 0)) (vA (mC (.int 1))))) (vA (mB gIx (vA (mV 1)) (vA (mC (.int 1)))))) sNil))))
noncomputable def r_times : List D → Rs D := runP (.im) 2 b_times
noncomputable def b_minus : Pm := (pRet (mTup (sCons (mU gNeg (vA (mB gIx (vA (mV 0)) (vA (mC (.int 0)))))) (sCons (mB gIx (vA (mV 0)) (vA (mC (.int 1)))) sNil))))
noncomputable def r_minus : List D → Rs D := runP (.im) 1 b_minus
noncomputable def b_over : Pm := (pRet (mCall r_fraction (sCons (mB gMul (vA (mB gIx (vA (mV 0)) (vA (mC (.int 0))))) (vA (mB gIx (vA (mV 1)) (vA (mC (.int 1)))))) (sCons (mB gMul (vA (mB gIx (vA (mV 0)) (vA (mC (.int 1))))) (vA (mB gIx (vA (mV 1)) (vA (mC (.int 0)))))) sNil))))
noncomputable def r_over : List D → Rs D := runP (.im) 2 b_over
def gz (a d : Int) : Int := ((Nat.gcd a.natAbs d.natAbs : Nat) : Int)
def fn (a d : Int) : Int := if 0 < d then a.fdiv (gz a d) else (0 - a).fdiv (gz a d)
def fd (a d : Int) : Int := if 0 < d then d.fdiv (gz a d) else (0 - d).fdiv (gz a d)
def pr2 (a d : Int) : D := .tuple [.int a, .int d]
def fr (a d : Int) : D := pr2 (fn a d) (fd a d)
/-- not too great -/
def Sz (k : Nat) (a : Int) : Prop := a.natAbs < 2 ^ k
theorem Sz.up {k j : Nat} {a : Int} (h : Sz k a) (hj : k ≤ j) : Sz j a := Nat.lt_of_lt_of_le h (Nat.pow_le_pow_right (by decide) hj)
theorem Sz.mul {k j : Nat} {a b : Int} (h : Sz k a) (h' : Sz j b) : Sz (k + j) (a * b) := by
  unfold Sz at *
  rw [Int.natAbs_mul,
            Nat.pow_add]
  exact Nat.mul_lt_mul'' h h'
theorem Sz.add {k : Nat} {a b : Int} (h : Sz k a) (h' : Sz k b) : Sz (k + 1) (a + b) := by
  unfold Sz at *
  rw [Nat.pow_succ]
  omega
theorem Sz.neg {k : Nat} {a : Int} (h : Sz k a) : Sz k (0 - a) := by
  unfold Sz at *
  omega
theorem Sz.neg' {k : Nat} {a : Int} (h : Sz k a) : Sz k (-a) := by
  unfold Sz at *
  omega
theorem Sz.log {k : Nat} {a : Int} (h : Sz k a) : a.natAbs.log2 < k + 1 := log2_of h
theorem cMul {k j : Nat} {a b : Int} (h : Sz k a) (h' : Sz j b) (hk : k + j + 2 ≤ 1000000) : a.natAbs.log2 + b.natAbs.log2 < 1000000 := by
  have := h.log
  have := h'.log
  omega
theorem gz_pos {a d : Int} (h : d ≠ 0) : 0 < gz a d := by
  unfold gz
  have : 0 < Nat.gcd a.natAbs d.natAbs := Nat.gcd_pos_of_pos_right _ (by omega)
  omega
theorem gz_le {a d : Int} (h : d ≠ 0) : (gz a d).natAbs ≤ d.natAbs := by
  unfold gz
  rw [Int.natAbs_natCast]
  exact Nat.le_of_dvd (by omega) (Nat.gcd_dvd_right ..)
theorem euclid (A B : Option D) : ∀ (n x y : Nat), y ≤ n → loopA (mT (mB gNe (vA (mV 3)) (vA (mC (.int 0))))) (pPar 2 3 (sCons (mV 3) (sCons (mB gMod (vA (mL gInt (lCons (vA (mV 2)) lNil))) (vA (mV 3))) sNil))) [A, B, some (.int x), some (.int y)] = .ok (.nx, [A, B, some (.int (Nat.gcd x y : Nat)), some (.int 0)])
  | n, x, 0, _ => by
    rw [loopA_eq]
    have e : (((0 : Nat) : Int) == 0) = true := by decide
    simp only [e, Nat.gcd_zero_right, mV, mC, vA, rA, get, gets, mU, mB, mL, lNil, lCons, eF, bool_b, mT, mTr, mNot, mAnd, mOr, eNot, eAnd, eOr, mIf, sNil, sCons, mTup, fLst, mM, pNil, pSeq, pBk, pCt, pIf, pRet, put, pSet, pEx, gN, gE, gC, gT, pAs, pPar, pFor, fComp, tmY, flo, gAdd, gSub, gMul, gDiv, gMod, gPow, gNeg, gLt, gLe, gGt, gGe, gIs, gIsN, isNo, isBo, gIx, optR, oN, oS, toI, wSeq, seqOf, wZip, listAt, mApp, mPop, mPopAt, mAt, uAt, uC, mUB, mPopIn, vB, pAppIn, pPutAt, itemAt, putAt, mCall, mCallM, mCallK, mRc2, gIsi, isInt, isBool, isStr, isTup, isList, gLen, gAbs, gInt, gGcd, gMax, gMin, gTup, tru, ok_bind, no_bind, ex_bind, List.getElem?_cons_succ, List.getElem?_cons_zero, List.set_cons_succ, List.set_cons_zero, List.length_cons, List.length_nil, Nat.reduceAdd, Nat.reduceLT, Nat.reduceLeDiff, Nat.zero_add, if_true, if_pos_t, if_false_b, ite_tt, atI0, atI1, atI2, Bool.not_true, Bool.not_false, gEq_i, gNe_i, List.map_cons, List.map_nil, List.append_nil, List.nil_append, List.cons_append, List.replicate]
    rfl
  | 0, x, y + 1, h => by omega
  | n + 1, x, y + 1, h => by
    rw [loopA_eq]
    have hlt : x % (y + 1) < y + 1 := Nat.mod_lt _ (Nat.succ_pos y)
    have ih := euclid A B n (y + 1) (x % (y + 1)) (by omega)
    have e : ((((y + 1 : Nat) : Int)) == 0) = false := by simp; omega
    have e2 : (x : Int).fmod ((y + 1 : Nat) : Int) = ((x % (y + 1) : Nat) : Int) := by
      rw [Int.fmod_eq_emod_of_nonneg
                _ (by omega)]
      omega
    have e3 : ((y + 1 : Nat) : Int) ≠ 0 := by omega
    have e4 : Nat.gcd x (y + 1) = Nat.gcd (y + 1) (x % (y + 1)) := by rw [Nat.gcd_comm x, Nat.gcd_rec (y + 1) x, Nat.gcd_comm]
    rw [e4]
    simp only [e, e2, if_pos e3, mV, mC, vA, rA, get, gets, mU, mB, mL, lNil, lCons, eF, bool_b, mT, mTr, mNot, mAnd, mOr, eNot, eAnd, eOr, mIf, sNil, sCons, mTup, fLst, mM, pNil, pSeq, pBk, pCt, pIf, pRet, put, pSet, pEx, gN, gE, gC, gT, pAs, pPar, pFor, fComp, tmY, flo, gAdd, gSub, gMul, gDiv, gMod, gPow, gNeg, gLt, gLe, gGt, gGe, gIs, gIsN, isNo, isBo, gIx, optR, oN, oS, toI, wSeq, seqOf, wZip, listAt, mApp, mPop, mPopAt, mAt, uAt, uC, mUB, mPopIn, vB, pAppIn, pPutAt, itemAt, putAt, mCall, mCallM, mCallK, mRc2, gIsi, isInt, isBool, isStr, isTup, isList, gLen, gAbs, gInt, gGcd, gMax, gMin, gTup, tru, ok_bind, no_bind, ex_bind, List.getElem?_cons_succ, List.getElem?_cons_zero, List.set_cons_succ, List.set_cons_zero, List.length_cons, List.length_nil, Nat.reduceAdd, Nat.reduceLT, Nat.reduceLeDiff, Nat.zero_add, if_true, if_pos_t, if_false_b, ite_tt, atI0, atI1, atI2, Bool.not_true, Bool.not_false, gEq_i, gNe_i, List.map_cons, List.map_nil, List.append_nil, List.nil_append, List.cons_append, List.replicate]
    exact ih
theorem fn_neg {a d : Int} (h : ¬ 0 < d) : (0 - a).fdiv (gz a d) = a.fdiv (-(gz a d)) := by
  rw [← Int.neg_fdiv_neg a, Int.neg_neg, Int.zero_sub]
theorem law_fraction_ok {a d : Int} {k : Nat} (hd : d ≠ 0) (hk : Sz k d) (hk2 : k ≤ 8000) : r_law_fraction [.int a, .int d] = .ok (fr a d) := by
  have gp := gz_pos (a := a) hd
  have gl : gz a d ≠ 0 ∧ (gz a d).natAbs.log2 < 9000 := ⟨by omega, by
    have : Sz k (gz a d) := Nat.lt_of_le_of_lt (gz_le hd) hk
    have := this.log
    omega⟩
  have ab : ∀ i : Int, (if i < 0 then -i else i) = ((i.natAbs : Nat) : Int) := fun i => by split <;> omega
  have st : ([PyData.int a, .int d] : List D).map some ++ List.replicate (4 - ([PyData.int a, .int d] : List D).length) none = [some (.int a), some (.int d), none, none] := rfl
  have s1 : pPar 2 3 (sCons (mL gAbs (lCons (vA (mV 0)) lNil)) (sCons (mL gAbs (lCons (vA (mV 1)) lNil)) sNil)) [some (.int a), some (.int d), none, none] = .ok (.nx, [some (.int a), some (.int d), some (.int (a.natAbs : Nat)), some (.int (d.natAbs : Nat))]) := by
    simp only [ab, mV, mC, vA, rA, get, gets, mU, mB, mL, lNil, lCons, eF, bool_b, mT, mTr, mNot, mAnd, mOr, eNot, eAnd, eOr, mIf, sNil, sCons, mTup, fLst, mM, pNil, pSeq, pBk, pCt, pIf, pRet, put, pSet, pEx, gN, gE, gC, gT, pAs, pPar, pFor, fComp, tmY, flo, gAdd, gSub, gMul, gDiv, gMod, gPow, gNeg, gLt, gLe, gGt, gGe, gIs, gIsN, isNo, isBo, gIx, optR, oN, oS, toI, wSeq, seqOf, wZip, listAt, mApp, mPop, mPopAt, mAt, uAt, uC, mUB, mPopIn, vB, pAppIn, pPutAt, itemAt, putAt, mCall, mCallM, mCallK, mRc2, gIsi, isInt, isBool, isStr, isTup, isList, gLen, gAbs, gInt, gGcd, gMax, gMin, gTup, tru, ok_bind, no_bind, ex_bind, List.getElem?_cons_succ, List.getElem?_cons_zero, List.set_cons_succ, List.set_cons_zero, List.length_cons, List.length_nil, Nat.reduceAdd, Nat.reduceLT, Nat.reduceLeDiff, Nat.zero_add, if_true, if_pos_t, if_false_b, ite_tt, atI0, atI1, atI2, Bool.not_true, Bool.not_false, gEq_i, gNe_i, List.map_cons, List.map_nil, List.append_nil, List.nil_append, List.cons_append, List.replicate]
  have s2 := euclid (some (.int a)) (some (.int d)) d.natAbs a.natAbs d.natAbs (Nat.le_refl _)
  unfold r_law_fraction runP b_law_fraction
  rw [st, pSeq_nx s1, pSeq_nx s2]
  have z2 : 2 ≤ sizeLine := by decide
  by_cases hp : 0 < d
  · have t1 : decide (0 < d) = true := decide_eq_true hp
    unfold gz at gl
    simp only [t1, if_pos gl, if_pos z2, fr, pr2, fn, fd, gz, if_pos hp, mV, mC, vA, rA, get, gets, mU, mB, mL, lNil, lCons, eF, bool_b, mT, mTr, mNot, mAnd, mOr, eNot, eAnd, eOr, mIf, sNil, sCons, mTup, fLst, mM, pNil, pSeq, pBk, pCt, pIf, pRet, put, pSet, pEx, gN, gE, gC, gT, pAs, pPar, pFor, fComp, tmY, flo, gAdd, gSub, gMul, gDiv, gMod, gPow, gNeg, gLt, gLe, gGt, gGe, gIs, gIsN, isNo, isBo, gIx, optR, oN, oS, toI, wSeq, seqOf, wZip, listAt, mApp, mPop, mPopAt, mAt, uAt, uC, mUB, mPopIn, vB, pAppIn, pPutAt, itemAt, putAt, mCall, mCallM, mCallK, mRc2, gIsi, isInt, isBool, isStr, isTup, isList, gLen, gAbs, gInt, gGcd, gMax, gMin, gTup, tru, ok_bind, no_bind, ex_bind, List.getElem?_cons_succ, List.getElem?_cons_zero, List.set_cons_succ, List.set_cons_zero, List.length_cons, List.length_nil, Nat.reduceAdd, Nat.reduceLT, Nat.reduceLeDiff, Nat.zero_add, if_true, if_pos_t, if_false_b, ite_tt, atI0, atI1, atI2, Bool.not_true, Bool.not_false, gEq_i, gNe_i, List.map_cons, List.map_nil, List.append_nil, List.nil_append, List.cons_append, List.replicate]
  · have t1 : decide (0 < d) = false := decide_eq_false hp
    unfold gz at gl
    simp only [t1, if_pos gl, if_pos z2, fr, pr2, fn, fd, gz, if_neg hp, mV, mC, vA, rA, get, gets, mU, mB, mL, lNil, lCons, eF, bool_b, mT, mTr, mNot, mAnd, mOr, eNot, eAnd, eOr, mIf, sNil, sCons, mTup, fLst, mM, pNil, pSeq, pBk, pCt, pIf, pRet, put, pSet, pEx, gN, gE, gC, gT, pAs, pPar, pFor, fComp, tmY, flo, gAdd, gSub, gMul, gDiv, gMod, gPow, gNeg, gLt, gLe, gGt, gGe, gIs, gIsN, isNo, isBo, gIx, optR, oN, oS, toI, wSeq, seqOf, wZip, listAt, mApp, mPop, mPopAt, mAt, uAt, uC, mUB, mPopIn, vB, pAppIn, pPutAt, itemAt, putAt, mCall, mCallM, mCallK, mRc2, gIsi, isInt, isBool, isStr, isTup, isList, gLen, gAbs, gInt, gGcd, gMax, gMin, gTup, tru, ok_bind, no_bind, ex_bind, List.getElem?_cons_succ, List.getElem?_cons_zero, List.set_cons_succ, List.set_cons_zero, List.length_cons, List.length_nil, Nat.reduceAdd, Nat.reduceLT, Nat.reduceLeDiff, Nat.zero_add, if_true, if_pos_t, if_false_b, ite_tt, atI0, atI1, atI2, Bool.not_true, Bool.not_false, gEq_i, gNe_i, List.map_cons, List.map_nil, List.append_nil, List.nil_append, List.cons_append, List.replicate]
theorem fraction_ok {a d : Int} {k : Nat} (hd : d ≠ 0) (hk : Sz k d) (hk2 : k ≤ 8000) : r_fraction [.int a, .int d] = .ok (fr a d) := by
  have gp := gz_pos (a := a) hd
  have gs : Sz k (gz a d) := Nat.lt_of_le_of_lt (gz_le hd) hk
  have gl : gz a d ≠ 0 ∧ (gz a d).natAbs.log2 < 9000 := ⟨by omega, by have := gs.log; omega⟩
  have gl2 : -(gz a d) ≠ 0 ∧ (-(gz a d)).natAbs.log2 < 9000 := ⟨by omega, by rw [Int.natAbs_neg]; exact gl.2⟩
  have st : ([PyData.int a, .int d] : List D).map some ++ List.replicate (3 - ([PyData.int a, .int d] : List D).length) none = [some (.int a), some (.int d), none] := rfl
  unfold r_fraction runP b_fraction
  rw [st]
  have z2 : 2 ≤ sizeLine := by decide
  by_cases hp : 0 < d
  · have t1 : decide (0 < d) = true := decide_eq_true hp
    unfold gz at gl
    simp only [t1, if_pos gl, if_pos z2, fr, pr2, fn, fd, gz, if_pos hp, mV, mC, vA, rA, get, gets, mU, mB, mL, lNil, lCons, eF, bool_b, mT, mTr, mNot, mAnd, mOr, eNot, eAnd, eOr, mIf, sNil, sCons, mTup, fLst, mM, pNil, pSeq, pBk, pCt, pIf, pRet, put, pSet, pEx, gN, gE, gC, gT, pAs, pPar, pFor, fComp, tmY, flo, gAdd, gSub, gMul, gDiv, gMod, gPow, gNeg, gLt, gLe, gGt, gGe, gIs, gIsN, isNo, isBo, gIx, optR, oN, oS, toI, wSeq, seqOf, wZip, listAt, mApp, mPop, mPopAt, mAt, uAt, uC, mUB, mPopIn, vB, pAppIn, pPutAt, itemAt, putAt, mCall, mCallM, mCallK, mRc2, gIsi, isInt, isBool, isStr, isTup, isList, gLen, gAbs, gInt, gGcd, gMax, gMin, gTup, tru, ok_bind, no_bind, ex_bind, List.getElem?_cons_succ, List.getElem?_cons_zero, List.set_cons_succ, List.set_cons_zero, List.length_cons, List.length_nil, Nat.reduceAdd, Nat.reduceLT, Nat.reduceLeDiff, Nat.zero_add, if_true, if_pos_t, if_false_b, ite_tt, atI0, atI1, atI2, Bool.not_true, Bool.not_false, gEq_i, gNe_i, List.map_cons, List.map_nil, List.append_nil, List.nil_append, List.cons_append, List.replicate]
  · have t1 : decide (0 < d) = false := decide_eq_false hp
    have e1 := fn_neg (a := a) hp
    have e2 : (0 - d).fdiv (gz a d) = d.fdiv (-(gz a d)) := by rw [← Int.neg_fdiv_neg d, Int.neg_neg, Int.zero_sub]
    unfold gz at gl2 e1 e2
    simp only [t1, if_pos gl2, if_pos z2, fr, pr2, fn, fd, gz, if_neg hp, e1, e2, mV, mC, vA, rA, get, gets, mU, mB, mL, lNil, lCons, eF, bool_b, mT, mTr, mNot, mAnd, mOr, eNot, eAnd, eOr, mIf, sNil, sCons, mTup, fLst, mM, pNil, pSeq, pBk, pCt, pIf, pRet, put, pSet, pEx, gN, gE, gC, gT, pAs, pPar, pFor, fComp, tmY, flo, gAdd, gSub, gMul, gDiv, gMod, gPow, gNeg, gLt, gLe, gGt, gGe, gIs, gIsN, isNo, isBo, gIx, optR, oN, oS, toI, wSeq, seqOf, wZip, listAt, mApp, mPop, mPopAt, mAt, uAt, uC, mUB, mPopIn, vB, pAppIn, pPutAt, itemAt, putAt, mCall, mCallM, mCallK, mRc2, gIsi, isInt, isBool, isStr, isTup, isList, gLen, gAbs, gInt, gGcd, gMax, gMin, gTup, tru, ok_bind, no_bind, ex_bind, List.getElem?_cons_succ, List.getElem?_cons_zero, List.set_cons_succ, List.set_cons_zero, List.length_cons, List.length_nil, Nat.reduceAdd, Nat.reduceLT, Nat.reduceLeDiff, Nat.zero_add, if_true, if_pos_t, if_false_b, ite_tt, atI0, atI1, atI2, Bool.not_true, Bool.not_false, gEq_i, gNe_i, List.map_cons, List.map_nil, List.append_nil, List.nil_append, List.cons_append, List.replicate]
theorem gz_dvd_l (a d : Int) : gz a d ∣ a := by
  unfold gz
  exact Int.ofNat_dvd_left.mpr (Nat.gcd_dvd_left ..)
theorem gz_dvd_r (a d : Int) : gz a d ∣ d := by
  unfold gz
  exact Int.ofNat_dvd_left.mpr (Nat.gcd_dvd_right ..)
theorem natAbs_fdiv {a g : Int} (hg : 0 < g) (h : g ∣ a) : (a.fdiv g).natAbs = a.natAbs / g.natAbs := by
  obtain ⟨c, rfl⟩ := h
  rw [Int.mul_fdiv_cancel_left _ (by omega), Int.natAbs_mul, Nat.mul_div_cancel_left _ (by omega)]
theorem fn_abs {a d : Int} (hd : d ≠ 0) : (fn a d).natAbs = a.natAbs / Nat.gcd a.natAbs d.natAbs := by
  have gp := gz_pos (a := a) hd
  have e : (gz a d).natAbs = Nat.gcd a.natAbs d.natAbs := by unfold gz; rw [Int.natAbs_natCast]
  unfold fn
  split
  · rw [natAbs_fdiv gp (gz_dvd_l a d), e]
  · rw [natAbs_fdiv gp (by rw [Int.zero_sub]; exact Int.dvd_neg.mpr (gz_dvd_l a d)), e, Int.zero_sub, Int.natAbs_neg]
theorem fd_abs {a d : Int} (hd : d ≠ 0) : (fd a d).natAbs = d.natAbs / Nat.gcd a.natAbs d.natAbs := by
  have gp := gz_pos (a := a) hd
  have e : (gz a d).natAbs = Nat.gcd a.natAbs d.natAbs := by unfold gz; rw [Int.natAbs_natCast]
  unfold fd
  split
  · rw [natAbs_fdiv gp (gz_dvd_r a d), e]
  · rw [natAbs_fdiv gp (by rw [Int.zero_sub]; exact Int.dvd_neg.mpr (gz_dvd_r a d)), e, Int.zero_sub, Int.natAbs_neg]
theorem fd_nonneg {a d : Int} (hd : d ≠ 0) : 0 ≤ fd a d := by
  have gp := gz_pos (a := a) hd
  unfold fd
  split
  · exact Int.fdiv_nonneg (by omega) (by omega)
  · exact Int.fdiv_nonneg (by omega) (by omega)
theorem fr_cop {a d : Int} (hd : d ≠ 0) : Nat.gcd (fn a d).natAbs (fd a d).natAbs = 1 := by
  rw [fn_abs hd, fd_abs hd]
  exact Nat.coprime_div_gcd_div_gcd (Nat.gcd_pos_of_pos_right _ (by omega))
theorem fd_pos {a d : Int} (hd : d ≠ 0) : 0 < fd a d := by
  have h0 := fd_nonneg (a := a) hd
  have h1 := fd_abs (a := a) hd
  have : 0 < d.natAbs / Nat.gcd a.natAbs d.natAbs := Nat.div_pos (Nat.le_of_dvd (by omega) (Nat.gcd_dvd_right ..)) (Nat.gcd_pos_of_pos_right _ (by omega))
  omega
theorem fn_sm {a d : Int} {k : Nat} (hd : d ≠ 0) (h : Sz k a) : Sz k (fn a d) := by
  unfold Sz at *
  rw [fn_abs hd]
  exact Nat.lt_of_le_of_lt (Nat.div_le_self ..) h
theorem fd_sm {a d : Int} {k : Nat} (hd : d ≠ 0) (h : Sz k d) : Sz k (fd a d) := by
  unfold Sz at *
  rw [fd_abs hd]
  exact Nat.lt_of_le_of_lt (Nat.div_le_self ..) h
theorem fr_self {a d : Int} (hd : 0 < d) (h : Nat.gcd a.natAbs d.natAbs = 1) : fn a d = a ∧ fd a d = d := by
  have e : gz a d = 1 := by unfold gz; rw [h]; rfl
  unfold fn fd
  rw [if_pos hd, if_pos hd, e, Int.fdiv_one, Int.fdiv_one]
  exact ⟨rfl, rfl⟩
/-- a fraction in its lowest terms, not too great -/
structure Fq (k : Nat) (a d : Int) : Prop where
  pos : 0 < d
  cop : Nat.gcd a.natAbs d.natAbs = 1
  sa : Sz k a
  sd : Sz k d
theorem fq_of {a d : Int} {k : Nat} (hd : d ≠ 0) (ha : Sz k a) (hk : Sz k d) : Fq k (fn a d) (fd a d) := ⟨fd_pos hd, fr_cop hd, fn_sm hd ha, fd_sm hd hk⟩
theorem Fq.up {k j : Nat} {a d : Int} (h : Fq k a d) (hj : k ≤ j) : Fq j a d := ⟨h.pos, h.cop, h.sa.up hj, h.sd.up hj⟩
theorem added_ok {a d b e : Int} {k : Nat} (h : Fq k a d) (h' : Fq k b e) (hk : k ≤ 4000) : r_added [pr2 a d, pr2 b e] = .ok (fr (a * e + b * d) (d * e)) := by
  have hp : d * e ≠ 0 := Int.mul_ne_zero (by have := h.pos; omega) (by have := h'.pos; omega)
  have f := fraction_ok (a := a * e + b * d) hp (h.sd.mul h'.sd) (by omega)
  have c1 := cMul h.sa h'.sd (by omega)
  have c2 := cMul h'.sa h.sd (by omega)
  have c3 := cMul h.sd h'.sd (by omega)
  have st : ([pr2 a d, pr2 b e] : List D).map some ++ List.replicate (2 - ([pr2 a d, pr2 b e] : List D).length) none = [some (pr2 a d), some (pr2 b e)] := rfl
  unfold r_added runP b_added
  rw [st]
  simp only [pr2, f, if_pos c1, if_pos c2, if_pos c3, mV, mC, vA, rA, get, gets, mU, mB, mL, lNil, lCons, eF, bool_b, mT, mTr, mNot, mAnd, mOr, eNot, eAnd, eOr, mIf, sNil, sCons, mTup, fLst, mM, pNil, pSeq, pBk, pCt, pIf, pRet, put, pSet, pEx, gN, gE, gC, gT, pAs, pPar, pFor, fComp, tmY, flo, gAdd, gSub, gMul, gDiv, gMod, gPow, gNeg, gLt, gLe, gGt, gGe, gIs, gIsN, isNo, isBo, gIx, optR, oN, oS, toI, wSeq, seqOf, wZip, listAt, mApp, mPop, mPopAt, mAt, uAt, uC, mUB, mPopIn, vB, pAppIn, pPutAt, itemAt, putAt, mCall, mCallM, mCallK, mRc2, gIsi, isInt, isBool, isStr, isTup, isList, gLen, gAbs, gInt, gGcd, gMax, gMin, gTup, tru, ok_bind, no_bind, ex_bind, List.getElem?_cons_succ, List.getElem?_cons_zero, List.set_cons_succ, List.set_cons_zero, List.length_cons, List.length_nil, Nat.reduceAdd, Nat.reduceLT, Nat.reduceLeDiff, Nat.zero_add, if_true, if_pos_t, if_false_b, ite_tt, atI0, atI1, atI2, Bool.not_true, Bool.not_false, gEq_i, gNe_i, List.map_cons, List.map_nil, List.append_nil, List.nil_append, List.cons_append, List.replicate]
theorem times_ok {a d b e : Int} {k : Nat} (h : Fq k a d) (h' : Fq k b e) (hk : k ≤ 4000) : r_times [pr2 a d, pr2 b e] = .ok (fr (a * b) (d * e)) := by
  have hp : d * e ≠ 0 := Int.mul_ne_zero (by have := h.pos; omega) (by have := h'.pos; omega)
  have f := fraction_ok (a := a * b) hp (h.sd.mul h'.sd) (by omega)
  have c1 := cMul h.sa h'.sa (by omega)
  have c3 := cMul h.sd h'.sd (by omega)
  have st : ([pr2 a d, pr2 b e] : List D).map some ++ List.replicate (2 - ([pr2 a d, pr2 b e] : List D).length) none = [some (pr2 a d), some (pr2 b e)] := rfl
  unfold r_times runP b_times
  rw [st]
  simp only [pr2, f, if_pos c1, if_pos c3, mV, mC, vA, rA, get, gets, mU, mB, mL, lNil, lCons, eF, bool_b, mT, mTr, mNot, mAnd, mOr, eNot, eAnd, eOr, mIf, sNil, sCons, mTup, fLst, mM, pNil, pSeq, pBk, pCt, pIf, pRet, put, pSet, pEx, gN, gE, gC, gT, pAs, pPar, pFor, fComp, tmY, flo, gAdd, gSub, gMul, gDiv, gMod, gPow, gNeg, gLt, gLe, gGt, gGe, gIs, gIsN, isNo, isBo, gIx, optR, oN, oS, toI, wSeq, seqOf, wZip, listAt, mApp, mPop, mPopAt, mAt, uAt, uC, mUB, mPopIn, vB, pAppIn, pPutAt, itemAt, putAt, mCall, mCallM, mCallK, mRc2, gIsi, isInt, isBool, isStr, isTup, isList, gLen, gAbs, gInt, gGcd, gMax, gMin, gTup, tru, ok_bind, no_bind, ex_bind, List.getElem?_cons_succ, List.getElem?_cons_zero, List.set_cons_succ, List.set_cons_zero, List.length_cons, List.length_nil, Nat.reduceAdd, Nat.reduceLT, Nat.reduceLeDiff, Nat.zero_add, if_true, if_pos_t, if_false_b, ite_tt, atI0, atI1, atI2, Bool.not_true, Bool.not_false, gEq_i, gNe_i, List.map_cons, List.map_nil, List.append_nil, List.nil_append, List.cons_append, List.replicate]
theorem minus_ok {a d : Int} : r_minus [pr2 a d] = .ok (pr2 (-a) d) := by
  have st : ([pr2 a d] : List D).map some ++ List.replicate (1 - ([pr2 a d] : List D).length) none = [some (pr2 a d)] := rfl
  have z2 : 2 ≤ sizeLine := by decide
  unfold r_minus runP b_minus
  rw [st]
  simp only [pr2, if_pos z2, mV, mC, vA, rA, get, gets, mU, mB, mL, lNil, lCons, eF, bool_b, mT, mTr, mNot, mAnd, mOr, eNot, eAnd, eOr, mIf, sNil, sCons, mTup, fLst, mM, pNil, pSeq, pBk, pCt, pIf, pRet, put, pSet, pEx, gN, gE, gC, gT, pAs, pPar, pFor, fComp, tmY, flo, gAdd, gSub, gMul, gDiv, gMod, gPow, gNeg, gLt, gLe, gGt, gGe, gIs, gIsN, isNo, isBo, gIx, optR, oN, oS, toI, wSeq, seqOf, wZip, listAt, mApp, mPop, mPopAt, mAt, uAt, uC, mUB, mPopIn, vB, pAppIn, pPutAt, itemAt, putAt, mCall, mCallM, mCallK, mRc2, gIsi, isInt, isBool, isStr, isTup, isList, gLen, gAbs, gInt, gGcd, gMax, gMin, gTup, tru, ok_bind, no_bind, ex_bind, List.getElem?_cons_succ, List.getElem?_cons_zero, List.set_cons_succ, List.set_cons_zero, List.length_cons, List.length_nil, Nat.reduceAdd, Nat.reduceLT, Nat.reduceLeDiff, Nat.zero_add, if_true, if_pos_t, if_false_b, ite_tt, atI0, atI1, atI2, Bool.not_true, Bool.not_false, gEq_i, gNe_i, List.map_cons, List.map_nil, List.append_nil, List.nil_append, List.cons_append, List.replicate]
theorem over_ok {a d b e : Int} {k : Nat} (h : Fq k a d) (h' : Fq k b e) (hb : b ≠ 0) (hk : k ≤ 4000) : r_over [pr2 a d, pr2 b e] = .ok (fr (a * e) (d * b)) := by
  have hp : d * b ≠ 0 := Int.mul_ne_zero (by have := h.pos; omega) hb
  have f := fraction_ok (a := a * e) hp (h.sd.mul h'.sa) (by omega)
  have c1 := cMul h.sa h'.sd (by omega)
  have c3 := cMul h.sd h'.sa (by omega)
  have st : ([pr2 a d, pr2 b e] : List D).map some ++ List.replicate (2 - ([pr2 a d, pr2 b e] : List D).length) none = [some (pr2 a d), some (pr2 b e)] := rfl
  unfold r_over runP b_over
  rw [st]
  simp only [pr2, f, if_pos c1, if_pos c3, mV, mC, vA, rA, get, gets, mU, mB, mL, lNil, lCons, eF, bool_b, mT, mTr, mNot, mAnd, mOr, eNot, eAnd, eOr, mIf, sNil, sCons, mTup, fLst, mM, pNil, pSeq, pBk, pCt, pIf, pRet, put, pSet, pEx, gN, gE, gC, gT, pAs, pPar, pFor, fComp, tmY, flo, gAdd, gSub, gMul, gDiv, gMod, gPow, gNeg, gLt, gLe, gGt, gGe, gIs, gIsN, isNo, isBo, gIx, optR, oN, oS, toI, wSeq, seqOf, wZip, listAt, mApp, mPop, mPopAt, mAt, uAt, uC, mUB, mPopIn, vB, pAppIn, pPutAt, itemAt, putAt, mCall, mCallM, mCallK, mRc2, gIsi, isInt, isBool, isStr, isTup, isList, gLen, gAbs, gInt, gGcd, gMax, gMin, gTup, tru, ok_bind, no_bind, ex_bind, List.getElem?_cons_succ, List.getElem?_cons_zero, List.set_cons_succ, List.set_cons_zero, List.length_cons, List.length_nil, Nat.reduceAdd, Nat.reduceLT, Nat.reduceLeDiff, Nat.zero_add, if_true, if_pos_t, if_false_b, ite_tt, atI0, atI1, atI2, Bool.not_true, Bool.not_false, gEq_i, gNe_i, List.map_cons, List.map_nil, List.append_nil, List.nil_append, List.cons_append, List.replicate]
end Zd

namespace Zd
open PySem PySem.Spec
open PyProof.Rows L2

/-! ### more words: *xs in a display, list(x), a, b, c = .., x += e, a name of the module -/
def sStar (m : Em) (n : Sm) : Sm := fun δ => m δ >>= fun r => (match r.1 with | .list xs => .ok xs | .tuple xs => .ok xs | _ => .no) >>= fun xs => n r.2 >>= fun q => .ok (xs ++ q.1, q.2)
theorem seq_inv {d : D} {q : List D → Prop} {e : Str → D → Prop} (h : Out (match d with | .list xs => (.ok xs : Rs (List D)) | .tuple xs => .ok xs | _ => .no) q e) : ∃ xs, (d = .list xs ∨ d = .tuple xs) ∧ q xs := by
  cases d with
  | list xs => exact ⟨xs, .inl rfl, h⟩
  | tuple xs => exact ⟨xs, .inr rfl, h⟩
  | _ => exact h.elim
section
variable {X : Cx} {G : Gm} {e : Expr} {es : List Expr} {pos p : Pos}
theorem ss {m : Em} {n : Sm} (h : PE X e (tI G m)) (hr : PA X es (tS G n)) (hK : X.K = G.K := by rfl) (hs : starEach (.Starred e p :: es) X.env = (true, eval e X.env) :: starEach es X.env := by rfl) : PA X (.Starred e p :: es) (tS G (sStar m n)) := by
  refine pa_if (StX.pa_star h hr hs) fun σ H Q ⟨ω, δ, φ, s, o⟩ => ⟨ω, δ, φ, s, (Out.bind o).mono (fun r h1 ω' H' φ' v st s' rp => ?_) fun _ _ z => z⟩
  obtain ⟨xs, hd, h1⟩ := seq_inv (Out.bind h1)
  have key : ∃ a vs, v = .ref a ∧ (SqT G.K H' a vs ∨ SqL G.K H' a vs) ∧ Reps G.K ω' H' vs xs := by
    rcases hd with hd | hd
    · rw [hd] at rp
      obtain ⟨a, vs, e1, e2, e3⟩ := Lk.list (.inl rp)
      exact ⟨a, vs, e1, .inr e2, e3⟩
    · rw [hd] at rp
      obtain ⟨a, vs, e1, e2, e3⟩ := Lk.tuple (.inl rp)
      exact ⟨a, vs, e1, .inl e2, e3⟩
  obtain ⟨a, vs, e1, e2, e3⟩ := key
  refine ⟨a, vs, e1, hK ▸ e2, ω', r.2, φ', s', (Out.bind h1).mono (fun q hq ω2 H2 φ2 ws st2 s2 r2 => ?_) fun _ _ z => z.up st⟩
  exact hq ω2 H2 φ2 (vs ++ ws) (st.trans st2) s2 ((e3.up st2.grow).append r2)
/-- list(x), a new list -/
def fList (m : Lm) : Fm := fun δ => m δ >>= fun r => gets r.2 r.1 >>= fun ds => (match ds with | [.list xs] => .ok xs | [.tuple xs] => .ok xs | _ => .no) >>= fun xs => .ok (xs, r.2)
theorem xLstF {a : Expr} {ms : Lm} (hm : X.mg "list" = none) (ha : PA X (a :: es) (tAr G ms)) (hK : X.K = G.K := by rfl) (hg : Gl X "list" := by rfl) (he : starEach (a :: es) X.env = (false, eval a X.env) :: starEach es X.env := by rfl) (hpl : (backTo pos (starEach es X.env)).any (·.1) = false := by rfl) :
    PE X (.Call (.Name "list" p) (a :: es) [] pos) (tF G (fList ms)) := by
  refine pe_if (pe_callTy call_list_of hg hm PyProof.Rows.boot_list ha (by decide) (by decide) he hpl) fun σ H Q ⟨ω, δ, φ, s, o⟩ => ⟨ω, δ, φ, s, (Out.bind o).mono (fun r1 h1 ω1 H1 φ1 vs st1 s1 rx => ?_) fun _ _ z => z⟩
  obtain ⟨ds, l1, h2⟩ := s1.gots rx (Out.bind h1)
  rw [hK]
  match ds, l1, h2 with
  | [.list xs], l1, h2 =>
    obtain ⟨v, rfl, lk⟩ := l1.one
    obtain ⟨a, vs, rfl, q1, q2⟩ := lk.list
    exact ⟨a, vs, rfl, .inl q1, fun q hq => h2 ω1 H1 φ1 q vs st1 s1 hq q2⟩
  | [.tuple xs], l1, h2 =>
    obtain ⟨v, rfl, lk⟩ := l1.one
    obtain ⟨a, vs, rfl, q1, q2⟩ := lk.tuple
    exact ⟨a, vs, rfl, .inr q1, fun q hq => h2 ω1 H1 φ1 q vs st1 s1 hq q2⟩
  | [], _, h2 => exact h2.elim
  | [.none], _, h2 => exact h2.elim
  | [.bool _], _, h2 => exact h2.elim
  | [.int _], _, h2 => exact h2.elim
  | [.str _], _, h2 => exact h2.elim
  | [.dict _], _, h2 => exact h2.elim
  | _ :: _ :: _, _, h2 => exact (by revert h2; intro h2; split at h2 <;> first | exact h2.elim | (rename_i e; cases e))
/-- a value of the module's, under its name -/
structure Kc (K : PySem.W.Frag) (mg : Str → Option Value) (x : Str) (d : D) : Prop where
  ex : ∃ v u, mg x = some u ∧ RelV v u ∧ ∀ ω H, Rep K ω H v d
theorem xK {x : Str} {d : D} (h : Kc G.K X.mg x d) (hg : Gl X x := by rfl) (hdb : (x == ("__debug__" : Str)) = false := by decide) : PE X (.Name x pos) (tI G (mC d)) := by
  obtain ⟨v, u, h1, h2, h3⟩ := h.ex
  exact xC (pe_glob hg h1 h2 hdb) h3
theorem kc_int {K : PySem.W.Frag} {mg : Str → Option Value} {x : Str} {i : Int} {t : Tok} (h : mg x = some (.int i t)) : Kc K mg x (.int i) := ⟨.int i, _, h, ⟨t, rfl⟩, fun _ _ => .int i⟩
theorem kc_tup {K : PySem.W.Frag} {mg : Str → Option Value} {x : Str} {a : Addr} {o : Obj} {its : Array Value} {n : Nat} {vs : List V} {ds : List D} (h : mg x = some (.ref a)) (l : K.lookup a = some o) (hc : o.cls = .type "tuple") (hd : o.data = .seq its n) (hl : its.size ≤ sizeLine) (hv : Vals vs its.toList) (r : ∀ ω H, Reps K ω H vs ds) : Kc K mg x (.tuple ds) :=
  ⟨.ref a, _, h, rfl, fun ω H => .tup (.inr ⟨o, its, n, l, hc, hd, hl, hv⟩) (r ω H)⟩
end
section
variable {X : Cx} {G : Gs} {σ0 : L2.St} {pos : Pos}
/-- a, b, c = x, y, z with plain names -/
def pPar3 (i j l : Nat) (m : Sm) : Pm := fun δ => m δ >>= fun r => match r.1 with
  | [d, e, f] => put r.2 i d >>= fun δ1 => put δ1 j e >>= fun δ2 => put δ2 l f >>= fun δ3 => .ok (.nx, δ3)
  | _ => .no
theorem ppar3 {i j l : Nat} {x y z : Str} {ea eb ec : Expr} {m : Sm} {px py pz pt : Pos} {kt k2 pt2} (hc : X.calm = true) (hN : X.N.Nodup) (ha : PA X [ea, eb, ec] (tS G.toGm m)) (hi : X.N[i]? = some x := by rfl) (hj : X.N[j]? = some y := by rfl) (hl : X.N[l]? = some z := by rfl) (hij : i ≠ j := by decide) (hil : i ≠ l := by decide) (hjl : j ≠ l := by decide)
    (hki : G.κ i = .im := by rfl) (hkj : G.κ j = .im := by rfl) (hkl : G.κ l = .im := by rfl) (hpi : G.pin i = false := by rfl) (hpj : G.pin j = false := by rfl) (hpl : G.pin l = false := by rfl) (hx : X.env.scope.names.lookup x = some .local := by rfl) (hy : X.env.scope.names.lookup y = some .local := by rfl) (hz : X.env.scope.names.lookup z = some .local := by rfl)
    (hw : swappedStores [.Tuple [.Name x px, .Name y py, .Name z pz] kt pt] (.Tuple [ea, eb, ec] k2 pt2) X.env = pure (some [x, y, z]) := by rfl)
    (hs : swapsWithSole [.Tuple [.Name x px, .Name y py, .Name z pz] kt pt] (.Tuple [ea, eb, ec] k2 pt2) pos.line X.env = pure false := by rfl) :
    PS X (.Assign [.Tuple [.Name x px, .Name y py, .Name z pz] kt pt] (.Tuple [ea, eb, ec] k2 pt2) pos) (tP G σ0 (pPar3 i j l m)) := by
  refine ps_if' (ps_par3 hc hN hi hj hl hij hil hjl hx hy hz ha hw hs) fun D σ H ⟨p, ω, δ, φ, s, o⟩ => ⟨ω, δ, φ, s, (Out.bind o).mono (fun r hr ω' H' φ' vs st s' rp => ?_) fun _ _ z => z⟩
  obtain ⟨ds, δ1⟩ := r
  match ds, rp, hr with
  | [], _, hr => exact hr.elim
  | [d], _, hr => exact hr.elim
  | [d, e], _, hr => exact hr.elim
  | d :: e :: f :: g :: h, _, hr => exact hr.elim
  | [d, e, f], rp, hr =>
    cases rp with
    | cons r1 r2 =>
      cases r2 with
      | cons r2 r3 =>
        cases r3 with
        | cons r3 r4 =>
          cases r4
          obtain ⟨h1, h2⟩ := put_inv (Out.bind hr)
          obtain ⟨h3, h4⟩ := put_inv (Out.bind h2)
          obtain ⟨h5, h6⟩ := put_inv (Out.bind h4)
          obtain ⟨s2, st2⟩ := s'.puti i h1 hki r1
          obtain ⟨s3, st3⟩ := s2.puti j h3 hkj r2
          obtain ⟨s4, st4⟩ := s3.puti l h5 hkl r3
          exact ⟨_, _, _, rfl, h6 ω' H' _ _ (((st.trans st2).trans st3).trans st4) s4 (pin_set (pin_set (pin_set p hpi) hpj) hpl)⟩
/-- x += e, of ints -/
def pInc (i : Nat) (m : Em) : Pm := fun δ => get δ (.r i) >>= fun d => m δ >>= fun r => toI d >>= fun a => toI r.1 >>= fun b => put r.2 i (.int (a + b)) >>= fun δ' => .ok (.nx, δ')
theorem pin_ {i : Nat} {x : Str} {e : Expr} {m : Em} {pos' : Pos} (hN : X.N.Nodup) (he : PE X e (tI G.toGm m)) (hk : G.κ i = .im := by rfl) (hi : X.N[i]? = some x := by rfl) (hx : Loc X.env.scope x := by first | exact Or.inl rfl | exact Or.inr rfl) (hp : G.pin i = false := by rfl)
    (hf : X.fn x = true ∨ X.env.scope.names.lookup x = some .local := by first | exact .inl rfl | exact .inr rfl | assumption) : PS X (.AugAssign (.Name x pos') .Add e pos) (tP G σ0 (pInc i m)) := by
  refine ps_if' (ps_aug hN hi hx he ip_add hf) fun D σ H ⟨p, ω, δ, φ, s, o⟩ => ?_
  cases e1 : δ[i]? with
  | none => simp only [pInc, get, e1] at o; exact o.elim
  | some z =>
    cases z with
    | none => simp only [pInc, get, e1] at o; exact o.elim
    | some d =>
      simp only [pInc, get, e1, ok_bind] at o
      obtain ⟨w, h3, h4⟩ := s.at_ i d e1
      rw [hk] at h4
      refine ⟨w, h3, ω, δ, φ, s, (Out.bind o).mono (fun r hr ω' H' φ' v st s' rp => ?_) fun _ _ z => z⟩
      have q1 := toI_inv (Out.bind hr)
      obtain ⟨a, ea, q1⟩ := q1
      have q2 := toI_inv (Out.bind q1)
      obtain ⟨b, eb, q2⟩ := q2
      obtain ⟨hi', fin⟩ := put_inv (Out.bind q2)
      subst ea
      rw [eb] at rp
      cases rp
      have h5 := h4.im_inv.1
      cases h5
      obtain ⟨s2, st2⟩ := s'.puti (d := .int (a + b)) i hi' hk (.int _)
      exact ⟨a, b, rfl, rfl, fin ω' H' _ _ (st.trans st2) s2 (pin_set p hp)⟩
end
/-! ### a < b < c -/
def mCh (g g' : D → D → Rs D) (ma mb mc : Em) : Em := fun δ => ma δ >>= fun r => mb r.2 >>= fun q => g r.1 q.1 >>= fun z => bool z >>= fun k => if k = true then mc q.2 >>= fun w => g' q.1 w.1 >>= fun y => .ok (y, w.2) else .ok (.bool false, q.2)
section
variable {X : Cx} {G : Gm} {a b c : Expr} {pos : Pos}
theorem ch_core {r r' : R2} {g g' : D → D → Rs D} {ma mb mc : Em} (hd : BiD G.K r g) (nx : NoX2 g) (hd' : BiD G.K r' g') (nx' : NoX2 g') {σ : L2.St} {H : Hp} {Q : VK} (h : tI G (mCh g g' ma mb mc) σ H Q) : tChain r r' (tI G ma) (tI G mb) (tI G mc) σ H Q := by
  obtain ⟨ω, δ, φ, s, o⟩ := h
  refine ⟨ω, δ, φ, s, (Out.bind o).mono (fun r1 h1 ω1 H1 φ1 x st1 s1 rx => ⟨ω1, r1.2, φ1, s1, (Out.bind h1).mono (fun r2 h2 ω2 H2 φ2 y st2 s2 ry => ?_) fun _ _ z => z.up st1⟩) fun _ _ z => z⟩
  refine hd ω2 H2 x y r1.1 r2.1 _ s2.wf (.inl (Rep.up rx st2.grow)) (.inl ry) ((out_no (Out.bind h2) (nx _ _)).mono (fun z hz H3 v ex rz => ?_) fun _ _ z => z)
  obtain ⟨k, ek, hz⟩ := bool_inv (Out.bind hz)
  rw [ek] at rz
  cases rz
  have st12 := st1.trans st2
  have st3 := s2.step ex
  have s3 := s2.ext ex
  refine ⟨k, rfl, ?_⟩
  cases k with
  | false =>
    rw [if_neg Bool.false_ne_true] at hz ⊢
    exact hz ω2 H3 φ2 _ (st12.trans st3) s3 (.bl _)
  | true =>
    rw [if_pos rfl] at hz ⊢
    refine ⟨ω2, r2.2, φ2, s3, (Out.bind hz).mono (fun r3 h3 ω4 H4 φ4 w st4 s4 rw' => ?_) fun _ _ z => z.up (st12.trans st3)⟩
    refine hd' ω4 H4 y w r2.1 r3.1 _ s4.wf (.inl (Rep.up ry (st3.trans st4).grow)) (.inl rw') ((out_no (Out.bind h3) (nx' _ _)).mono (fun u hu H5 v5 ex5 r5 => ?_) fun _ _ z => z)
    exact hu ω4 H5 φ4 v5 (((st12.trans st3).trans st4).trans (s4.step ex5)) (s4.ext ex5) r5
theorem xCh {op op' : CmpOp} {r r' : R2} {g g' : D → D → Rs D} {ma mb mc : Em} (ho : OpR X (compareOp op) r) (ho' : OpR X (compareOp op') r') (hd : BiD G.K r g) (nx : NoX2 g) (hd' : BiD G.K r' g') (nx' : NoX2 g') (ha : PE X a (tI G ma)) (hb : PE X b (tI G mb)) (hc : PE X c (tI G mc))
    (hm : lastMarks [op, op'] [b, c] = false := by with_unfolding_all rfl) : PE X (.Compare a [op, op'] [b, c] pos) (tI G (mCh g g' ma mb mc)) :=
  pe_if (pe_chain ho ho' ha hb hc hm) fun σ H Q h => ch_core hd nx hd' nx' h
theorem tCh {op op' : CmpOp} {r r' : R2} {g g' : D → D → Rs D} {ma mb mc : Em} (ho : OpR X (compareOp op) r) (ho' : OpR X (compareOp op') r') (hd : BiD G.K r g) (nx : NoX2 g) (hd' : BiD G.K r' g') (nx' : NoX2 g') (ha : PE X a (tI G ma)) (hb : PE X b (tI G mb)) (hc : PE X c (tI G mc))
    (hm : lastMarks [op, op'] [b, c] = false := by with_unfolding_all rfl) : PT X (.Compare a [op, op'] [b, c] pos) (tT G (mT (mCh g g' ma mb mc))) := by
  refine pt_if (pt_chain ho ho' ha hb hc hm) fun σ H Q ⟨ω, δ, φ, s, o⟩ => ?_
  refine ch_core (Q := fun x H1 => ∃ k, x = .bl k ∧ Q k H1) hd nx hd' nx' ⟨ω, δ, φ, s, (Out.bind o).mono (fun r hr ω' H' φ' v st s' rp => ?_) fun _ _ z => z⟩
  obtain ⟨b, e1, h1⟩ := bool_inv (Out.bind hr)
  rw [e1] at rp
  cases rp
  exact ⟨b, rfl, h1 ω' H' φ' st s'⟩
end
end Zd

set_option maxHeartbeats 4100000
namespace Zd
open PySem PySem.Spec
open PyProof.Rows L2
theorem tup_same (l : Addr) (items : Array Value) (n : Nat) (dd : Option Addr) (sl : Array (Option Value)) (x : Int) (u : Tok) (c0 : (decide (x < -(2 ^ 63)) || decide (x ≥ 2 ^ 63)) = false) (c1 : (items.isEmpty || x == 1) = true) :
    Meets (Builtin.«tuple.__mul__» ⟨[.ref l, .int x u], []⟩) (fun _ R s => s.heap.get? l = some { cls := .type "tuple", dict := dd, data := .seq items n, slots := sl } ∧ R (.ok (.ret (Value.ref l))) s) :=
  .of_wp fun prog w A R s h => by
    obtain ⟨hp, g,
              d, tk, os⟩ := s
    obtain ⟨hl, h⟩ := h
    have f1 := AutoSeq1.idx_int
    wp_walk using wpAny_loadPart' hl
    repeat (first
      | (refine wpAny_ite_false (decide_eq_false (by rw [c0]; decide)) ?_; wp_walk using wpAny_loadPart' hl)
      | (refine wpAny_ite_true c1 ?_; wp_walk using wpAny_loadPart' hl))
    exact ⟨_, rfl, h⟩
theorem tup_none (l : Addr) (items : Array Value) (n : Nat) (dd : Option Addr) (sl : Array (Option Value)) (x : Int) (u : Tok) (c0 : (decide (x < -(2 ^ 63)) || decide (x ≥ 2 ^ 63)) = false) (c1 : (items.isEmpty || x == 1) = false) (c2 : (decide (x ≤ 0) || items.isEmpty) = true) :
    Meets (Builtin.«tuple.__mul__» ⟨[.ref l, .int x u], []⟩) (fun _ R s => s.heap.get?
              l = some { cls := .type "tuple", dict := dd, data := .seq items n, slots := sl } ∧
      R (.ok (.ret (Value.ref s.heap.objs.size))) { s with heap := s.heap.push { cls := Value.type "tuple", data := Data.seq #[] }, toks := s.toks }) :=
  .of_wp fun prog w A R s h => by
    obtain ⟨hp, g,
              d, tk, os⟩ := s
    obtain ⟨hl, h⟩ := h
    have f1 := AutoSeq1.idx_int
    wp_walk using wpAny_loadPart' hl
    repeat (first
      | (refine wpAny_ite_false (decide_eq_false (by rw [c0]; decide)) ?_; wp_walk using wpAny_loadPart' hl)
      | (refine wpAny_ite_false (decide_eq_false (by rw [c1]; decide)) ?_; wp_walk using wpAny_loadPart' hl)
      | (refine wpAny_ite_true (by simp [c2]) ?_; wp_walk using wpAny_loadPart' hl))
    exact ⟨_, rfl, h⟩
def rTupOne (K : PySem.W.Frag) : R2 := fun x y H Q => ∃ l k xs, x = .ref l ∧ y = .int k ∧ SqT K H l xs ∧ (xs = [] ∨ k = 1) ∧ -1000000 ≤ k ∧ k ≤ 1000000 ∧ Q (.ref l) H
def rTupNo (K : PySem.W.Frag) : R2 := fun x y H Q => ∃ l k xs, x = .ref l ∧ y = .int k ∧ SqT K H l xs ∧ xs ≠ [] ∧ k ≤ 0 ∧ -1000000 ≤ k ∧ ∀ p, H p = none → Q (.ref p) (upd H p (.tup []))
section
variable {X : Cx}
theorem lim {k : Int} (h : -1000000 ≤ k) (h' : k ≤ 1000000) : (decide (k < -(2 ^ 63)) || decide (k ≥ 2 ^ 63)) = false := by
  rw [decide_eq_false (by omega), decide_eq_false (by omega)]
  rfl
theorem op_tupOne : OpR X (binaryOp .Mult) (rTupOne X.K) := by
  rintro pins s σ H x y v u Q I rx ry ⟨a, k, us, rfl, rfl, hU, one, lo, hi, q⟩
  cases rx
  obtain ⟨tk, rfl⟩ := ry
  obtain ⟨is, vs, ⟨⟨cls, dd, data, sl⟩, g, hc, m, hd⟩, _⟩ := I.tuple hU
  simp only at hc hd
  subst hc hd
  have c1 : (is.toArray.isEmpty || k == 1) = true := by
    rcases one with rfl | rfl
    · have : is = [] := List.eq_nil_of_length_eq_zero (by rw [← vs.length]; rfl)
      subst this
      rfl
    · simp
  refine wpAny_binaryOp_repeat_ref (T := "tuple") (U := "int") (by decide) ⟨_, g, rfl⟩ (fun z => typeIs_int z k tk) noFill_tuple_mul
    F.fills_int_mul F.slot_int_rmul repeat_tuple F.slot_int_index.lookup ?_
  refine call_meets F.slot_int_rmul (typeIs_int s k tk) F.entry_int_rmul (F.args_int_rmul_2 _ _)
    (int_rmul_tuple k tk a is.toArray m dd sl) ⟨g, rfl, ⟨_, g, rfl⟩, ?_⟩
  exact call_meets F.slot_tuple_mul ⟨_, g, rfl⟩ F.entry_tuple_mul (F.args_tuple_mul_2 _ _)
    (tup_same a is.toArray m dd sl k tk (lim lo hi) c1) ⟨g, .ref a, H, I, rfl, q⟩
theorem op_tupNo : OpR X (binaryOp .Mult) (rTupNo X.K) := by
  rintro pins s σ H x y v u Q I rx ry ⟨a, k, us, rfl, rfl, hU, ne, hk, lo, q⟩
  cases rx
  obtain ⟨tk, rfl⟩ := ry
  obtain ⟨is, vs, ⟨⟨cls, dd, data, sl⟩, g, hc, m, hd⟩, _⟩ := I.tuple hU
  simp only at hc hd
  subst hc hd
  have hi : is.toArray.isEmpty = false := by
    cases is with
    | nil => exact absurd (List.eq_nil_of_length_eq_zero vs.length) ne
    | cons b r => rfl
  have c1 : (is.toArray.isEmpty || k == 1) = false := by
    rw [hi, Bool.false_or]
    exact beq_eq_false_iff_ne.mpr
        (by omega)
  have c2 : (decide (k ≤ 0) || is.toArray.isEmpty) = true := by rw [decide_eq_true hk]; rfl
  refine wpAny_binaryOp_repeat_ref (T := "tuple") (U := "int") (by decide) ⟨_, g, rfl⟩ (fun z => typeIs_int z k tk) noFill_tuple_mul
    F.fills_int_mul F.slot_int_rmul repeat_tuple F.slot_int_index.lookup ?_
  refine call_meets F.slot_int_rmul (typeIs_int s k tk) F.entry_int_rmul (F.args_int_rmul_2 _ _)
    (int_rmul_tuple k tk a is.toArray m dd sl) ⟨g, rfl, ⟨_, g, rfl⟩, ?_⟩
  refine call_meets F.slot_tuple_mul ⟨_, g, rfl⟩ F.entry_tuple_mul (F.args_tuple_mul_2 _ _)
    (tup_none a is.toArray m dd sl k tk (lim lo (by omega)) c1 c2) ⟨g, ?_⟩
  refine ⟨.ref s.heap.objs.size, _, I.laid (t' := s.toks) (o := .tup []) (fun b ob q => Heap.get?_push_of_some _ q) (Nat.le_refl _) ?_, rfl, q _ (I.hok.fresh (Nat.le_refl _))⟩
  exact ⟨Nat.zero_le _, [], .nil, IsTup.new _ _⟩
end
def gRepT (d e : D) : Rs D := match d, e with
  | .tuple xs, .int k => if -1000000 ≤ k ∧ k ≤ 1000 ∧ xs.length ≤ 1000 then .ok (.tuple (rep k xs)) else .no
  | _, _ => .no
abbrev rTupA (K : PySem.W.Frag) : R2 := fun x y H Q => (rTupOne K x y H Q ∨ rTupNo K x y H Q) ∨ rRepT K x y H Q
theorem bi_repT {K : PySem.W.Frag} : BiD K (rTupA K) gRepT := by
  intro ω H x y d e Q wf l1 l2 o
  cases d with
  | tuple xs => cases e with
    | int k =>
      obtain ⟨⟨c1, c2, c3⟩, o⟩ := if_inv o
      obtain ⟨a, vs, rfl, h1, r1⟩ := l1.tuple
      rw [l2.int]
      have hl := r1.length
      by_cases hx : xs = []
      · subst hx
        cases r1
        have e0 : rep k ([] : List D) = [] := by unfold rep; simp
        rw [e0] at o
        exact .inl (.inl ⟨a, k, [], rfl, rfl, h1, .inl rfl, c1, by omega, o H _ (Ext.refl H) (.tup h1 .nil)⟩)
      · have hv : vs ≠ [] := fun z => hx (List.eq_nil_of_length_eq_zero (by rw [← hl, z]; rfl))
        by_cases hk : k ≤ 0
        · have e0 : rep k xs = [] := by unfold rep; rw [show k.toNat = 0 by omega]; rfl
          rw [e0] at o
          exact .inl (.inr ⟨a, k, vs, rfl, rfl, h1, hv, hk, c1, fun p hp => o _ _ (Ext.upd hp) (Rep.newT wf hp .nil)⟩)
        · by_cases h1k : k = 1
          · subst h1k
            have e0 : rep 1 xs = xs := by unfold rep; simp
            rw [e0] at o
            exact .inl (.inl ⟨a, 1, vs, rfl, rfl, h1, .inr rfl, c1, by omega, o H _ (Ext.refl H) (.tup h1 r1)⟩)
          · exact .inr ⟨a, k, vs, rfl, rfl, h1, hv, by omega, c2, by omega, fun p hp => o _ _ (Ext.upd hp) (Rep.newT wf hp (r1.rep k.toNat))⟩
    | _ => exact o.elim
  | _ => cases e <;> exact o.elim
theorem nx_repT : NoX2 gRepT := fun x y c a => by unfold gRepT; split <;> first | exact nx_if | (intro z; cases z)
def gMulA (d e : D) : Rs D := match d with
  | .tuple _ => gRepT d e
  | _ => gMul d e
theorem bi_mulA {K : PySem.W.Frag} : BiD K (fun x y H Q => (rI CMulW (fun i j => .int (i * j)) x y H Q ∨ rRepR x y H Q) ∨ rTupA K x y H Q) gMulA := by
  intro ω H x y d e Q wf l1 l2 o
  cases d with
  | tuple xs => exact .inr (bi_repT ω H x y _ e Q wf l1 l2 o)
  | _ => exact .inl (bi_mul (K := K) ω H x y _ e Q wf l1 l2 o)
theorem nx_mulA : NoX2 gMulA := fun x y c a => by
  unfold gMulA
  split
  · exact nx_repT _ _ c a
  · exact nx_mul _ _ c a
section
variable {X : Cx} {G : Gm} {a b : Expr} {pos : Pos} {ta tb : Am}
theorem xMulA (ha : PE X a (tA1 G ta)) (hb : PE X b (tA1 G tb)) (hK : X.K = G.K := by rfl) : PE X (.BinOp a .Mult b pos) (tI G (mB gMulA ta tb)) := bi (OpR.or op_mulA (hK ▸ OpR.or (OpR.or op_tupOne op_tupNo) op_repT)) bi_mulA nx_mulA ha hb
end
end Zd

namespace Zd
open PySem PySem.Spec
open PyProof.Rows L2
noncomputable def b_is_integer : Pm := (pRet (eAnd (mU (gIsi isInt) (vA (mV 0))) (eNot (mU (gIsi isBool) (vA (mV 0))))))
noncomputable def r_is_integer : List D → Rs D := runP (.im) 1 b_is_integer
noncomputable def b_is_row_of : Pm := (pRet (eAnd (mU (gIsi isTup) (vA (mV 0))) (mB gIn (vA (mL gLen (lCons (vA (mV 0)) lNil))) (vA (mV 1)))))
noncomputable def r_is_row_of : List D → Rs D := runP (.im) 2 b_is_row_of
noncomputable def b_is_fraction : Pm := (pSeq (pIf (mOr (mNot (mTr (vA (mCall r_is_row_of (sCons (mV 0) (sCons (mTup (sCons (mC (.int 2)) sNil)) sNil)))))) (mOr (mNot (mTr (vA (mCall r_is_integer (sCons (mB gIx (vA (mV 0)) (vA (mC (.int 0)))) sNil))))) (mNot (mTr (vA (mCall r_is_integer (sCons (mB gIx (vA (mV 0)) (vA (mC (.int 1)))) sNil))))))) (pRet (mC (.bool false))) pNil)
    (pRet (eAnd (mB gGt (vA (mB gIx (vA (mV 0)) (vA (mC (.int 1))))) (vA (mC (.int 0)))) (mB gEq (vA (mL gGcd (lCons (vA (mB gIx (vA (mV 0)) (vA (mC (.int 0))))) (lCons (vA (mB gIx (vA (mV 0)) (vA (mC (.int 1))))) lNil)))) (vA (mC (.int 1)))))))
noncomputable def r_is_fraction : List D → Rs D := runP (.im) 1 b_is_fraction
noncomputable def b_law_is_int : Pm := (pRet (eAnd (mU (gIsi isInt) (vA (mV 0))) (eNot (mU (gIsi isBool) (vA (mV 0))))))
noncomputable def r_law_is_int : List D → Rs D := runP (.im) 1 b_law_is_int
noncomputable def b_law_is_fraction : Pm := (pSeq (pIf (mOr (mNot (mTr (vA (mU (gIsi isTup) (vA (mV 0)))))) (mOr (mT (mB gNe (vA (mL gLen (lCons (vA (mV 0)) lNil))) (vA (mC (.int 2))))) (mOr (mNot (mTr (vA (mCall r_law_is_int (sCons (mB gIx (vA (mV 0)) (vA (mC (.int 0)))) sNil))))) (mNot (mTr (vA (mCall r_law_is_int (sCons (mB gIx (vA (mV 0)) (vA (mC (.int 1)))) sNil)))))))) (pRet (mC (.bool false))) pNil)
    (pRet (eAnd (mB gGt (vA (mB gIx (vA (mV 0)) (vA (mC (.int 1))))) (vA (mC (.int 0)))) (mB gEq (vA (mCall r_law_fraction (sCons (mB gIx (vA (mV 0)) (vA (mC (.int 0)))) (sCons (mB gIx (vA (mV 0)) (vA (mC (.int 1)))) sNil)))) (vA (mV 0))))))
noncomputable def r_law_is_fraction : List D → Rs D := runP (.im) 1 b_law_is_fraction
/-! ### which values are fractions -/
theorem is_int_ok (v : D) : r_is_integer [v] = .ok (.bool (isInt v && !isBool v)) := by
  unfold r_is_integer runP b_is_integer
  cases v <;> simp only [mV, mC, vA, rA, get, gets, mU, mB, mL, lNil, lCons, eF, bool_b, mT, mTr, mNot, mAnd, mOr, eNot, eAnd, eOr, mIf, sNil, sCons, mTup, fLst, mM, pNil, pSeq, pBk, pCt, pIf, pRet, put, pSet, pEx, gN, gE, gC, gT, pAs, pPar, pFor, fComp, tmY, flo, gAdd, gSub, gMul, gDiv, gMod, gPow, gNeg, gLt, gLe, gGt, gGe, gIs, gIsN, isNo, isBo, gIx, optR, oN, oS, toI, wSeq, seqOf, wZip, listAt, mApp, mPop, mPopAt, mAt, uAt, uC, mUB, mPopIn, vB, pAppIn, pPutAt, itemAt, putAt, mCall, mCallM, mCallK, mRc2, gIsi, isInt, isBool, isStr, isTup, isList, gLen, gAbs, gInt, gGcd, gMax, gMin, gTup, tru, ok_bind, no_bind, ex_bind, List.getElem?_cons_succ, List.getElem?_cons_zero, List.set_cons_succ, List.set_cons_zero, List.length_cons, List.length_nil, Nat.reduceAdd, Nat.reduceLT, Nat.reduceLeDiff, Nat.zero_add, if_true, if_pos_t, if_false_b, ite_tt, atI0, atI1, atI2, Bool.not_true, Bool.not_false, gEq_i, gNe_i, List.map_cons, List.map_nil, List.append_nil, List.nil_append, List.cons_append, List.replicate] <;> rfl
theorem law_int_ok (v : D) : r_law_is_int [v] = .ok (.bool (isInt v && !isBool v)) := by
  unfold r_law_is_int runP b_law_is_int
  cases v <;> simp only [mV, mC, vA, rA, get, gets, mU, mB, mL, lNil, lCons, eF, bool_b, mT, mTr, mNot, mAnd, mOr, eNot, eAnd, eOr, mIf, sNil, sCons, mTup, fLst, mM, pNil, pSeq, pBk, pCt, pIf, pRet, put, pSet, pEx, gN, gE, gC, gT, pAs, pPar, pFor, fComp, tmY, flo, gAdd, gSub, gMul, gDiv, gMod, gPow, gNeg, gLt, gLe, gGt, gGe, gIs, gIsN, isNo, isBo, gIx, optR, oN, oS, toI, wSeq, seqOf, wZip, listAt, mApp, mPop, mPopAt, mAt, uAt, uC, mUB, mPopIn, vB, pAppIn, pPutAt, itemAt, putAt, mCall, mCallM, mCallK, mRc2, gIsi, isInt, isBool, isStr, isTup, isList, gLen, gAbs, gInt, gGcd, gMax, gMin, gTup, tru, ok_bind, no_bind, ex_bind, List.getElem?_cons_succ, List.getElem?_cons_zero, List.set_cons_succ, List.set_cons_zero, List.length_cons, List.length_nil, Nat.reduceAdd, Nat.reduceLT, Nat.reduceLeDiff, Nat.zero_add, if_true, if_pos_t, if_false_b, ite_tt, atI0, atI1, atI2, Bool.not_true, Bool.not_false, gEq_i, gNe_i, List.map_cons, List.map_nil, List.append_nil, List.nil_append, List.cons_append, List.replicate] <;> rfl
theorem in_two (n : Int) : gIn (.int n) (.tuple [.int 2]) = .ok (.bool (2 == n)) := by
  have c : min (PyData.depthAll [PyData.int 2]) (PyData.int n).depth ≤ 60 := by rw [depth_i]; omega
  unfold gIn
  have e : isIn (.int n) (.tuple [.int 2]) = .ok ([PyData.int 2].any fun y => PyData.eqv y (.int n)) := by
    unfold isIn
    exact if_pos c
  rw [e]
  simp only [List.any_cons, List.any_nil, eqv_i, Bool.or_false, ok_bind]
theorem row_ok (v : D) : r_is_row_of [v, .tuple [.int 2]] = .ok (.bool (match v with | .tuple xs => (2 == (xs.length : Int)) | _ => false)) := by
  have st : ([v, .tuple [.int 2]] : List D).map some ++ List.replicate (2 - ([v, .tuple [.int 2]] : List D).length) none = [some v, some (.tuple [.int 2])] := rfl
  unfold r_is_row_of runP b_is_row_of
  rw [st]
  cases v <;> simp only [in_two, mV, mC, vA, rA, get, gets, mU, mB, mL, lNil, lCons, eF, bool_b, mT, mTr, mNot, mAnd, mOr, eNot, eAnd, eOr, mIf, sNil, sCons, mTup, fLst, mM, pNil, pSeq, pBk, pCt, pIf, pRet, put, pSet, pEx, gN, gE, gC, gT, pAs, pPar, pFor, fComp, tmY, flo, gAdd, gSub, gMul, gDiv, gMod, gPow, gNeg, gLt, gLe, gGt, gGe, gIs, gIsN, isNo, isBo, gIx, optR, oN, oS, toI, wSeq, seqOf, wZip, listAt, mApp, mPop, mPopAt, mAt, uAt, uC, mUB, mPopIn, vB, pAppIn, pPutAt, itemAt, putAt, mCall, mCallM, mCallK, mRc2, gIsi, isInt, isBool, isStr, isTup, isList, gLen, gAbs, gInt, gGcd, gMax, gMin, gTup, tru, ok_bind, no_bind, ex_bind, List.getElem?_cons_succ, List.getElem?_cons_zero, List.set_cons_succ, List.set_cons_zero, List.length_cons, List.length_nil, Nat.reduceAdd, Nat.reduceLT, Nat.reduceLeDiff, Nat.zero_add, if_true, if_pos_t, if_false_b, ite_tt, atI0, atI1, atI2, Bool.not_true, Bool.not_false, gEq_i, gNe_i, List.map_cons, List.map_nil, List.append_nil, List.nil_append, List.cons_append, List.replicate]
def isf : D → Bool
  | .tuple [.int x, .int y] => decide (0 < y) && ((Nat.gcd x.natAbs y.natAbs : Int) == 1)
  | _ => false
theorem isf_ok (v : D) : r_is_fraction [v] = .ok (.bool (isf v)) := by
  have st : ([v] : List D).map some ++ List.replicate (1 - ([v] : List D).length) none = [some v] := rfl
  have z1 : 1 ≤ sizeLine := by decide
  have ro := row_ok v
  unfold r_is_fraction runP b_is_fraction
  rw [st]
  cases v with
  | tuple xs =>
    match xs with
    | [] => simp only [ro, if_pos z1, isf, mV, mC, vA, rA, get, gets, mU, mB, mL, lNil, lCons, eF, bool_b, mT, mTr, mNot, mAnd, mOr, eNot, eAnd, eOr, mIf, sNil, sCons, mTup, fLst, mM, pNil, pSeq, pBk, pCt, pIf, pRet, put, pSet, pEx, gN, gE, gC, gT, pAs, pPar, pFor, fComp, tmY, flo, gAdd, gSub, gMul, gDiv, gMod, gPow, gNeg, gLt, gLe, gGt, gGe, gIs, gIsN, isNo, isBo, gIx, optR, oN, oS, toI, wSeq, seqOf, wZip, listAt, mApp, mPop, mPopAt, mAt, uAt, uC, mUB, mPopIn, vB, pAppIn, pPutAt, itemAt, putAt, mCall, mCallM, mCallK, mRc2, gIsi, isInt, isBool, isStr, isTup, isList, gLen, gAbs, gInt, gGcd, gMax, gMin, gTup, tru, ok_bind, no_bind, ex_bind, List.getElem?_cons_succ, List.getElem?_cons_zero, List.set_cons_succ, List.set_cons_zero, List.length_cons, List.length_nil, Nat.reduceAdd, Nat.reduceLT, Nat.reduceLeDiff, Nat.zero_add, if_true, if_pos_t, if_false_b, ite_tt, atI0, atI1, atI2, Bool.not_true, Bool.not_false, gEq_i, gNe_i, List.map_cons, List.map_nil, List.append_nil, List.nil_append, List.cons_append, List.replicate]; rfl
    | [x] => simp only [ro, if_pos z1, isf, mV, mC, vA, rA, get, gets, mU, mB, mL, lNil, lCons, eF, bool_b, mT, mTr, mNot, mAnd, mOr, eNot, eAnd, eOr, mIf, sNil, sCons, mTup, fLst, mM, pNil, pSeq, pBk, pCt, pIf, pRet, put, pSet, pEx, gN, gE, gC, gT, pAs, pPar, pFor, fComp, tmY, flo, gAdd, gSub, gMul, gDiv, gMod, gPow, gNeg, gLt, gLe, gGt, gGe, gIs, gIsN, isNo, isBo, gIx, optR, oN, oS, toI, wSeq, seqOf, wZip, listAt, mApp, mPop, mPopAt, mAt, uAt, uC, mUB, mPopIn, vB, pAppIn, pPutAt, itemAt, putAt, mCall, mCallM, mCallK, mRc2, gIsi, isInt, isBool, isStr, isTup, isList, gLen, gAbs, gInt, gGcd, gMax, gMin, gTup, tru, ok_bind, no_bind, ex_bind, List.getElem?_cons_succ, List.getElem?_cons_zero, List.set_cons_succ, List.set_cons_zero, List.length_cons, List.length_nil, Nat.reduceAdd, Nat.reduceLT, Nat.reduceLeDiff, Nat.zero_add, if_true, if_pos_t, if_false_b, ite_tt, atI0, atI1, atI2, Bool.not_true, Bool.not_false, gEq_i, gNe_i, List.map_cons, List.map_nil, List.append_nil, List.nil_append, List.cons_append, List.replicate]; rfl
    | x :: y :: z :: r =>
      have e : ((2 : Int) == ((r.length + 1 + 1 + 1 : Nat) : Int)) = false := by simp; omega
      simp only [List.length_cons, e] at ro
      simp only [ro, if_pos z1, isf, mV, mC, vA, rA, get, gets, mU, mB, mL, lNil, lCons, eF, bool_b, mT, mTr, mNot, mAnd, mOr, eNot, eAnd, eOr, mIf, sNil, sCons, mTup, fLst, mM, pNil, pSeq, pBk, pCt, pIf, pRet, put, pSet, pEx, gN, gE, gC, gT, pAs, pPar, pFor, fComp, tmY, flo, gAdd, gSub, gMul, gDiv, gMod, gPow, gNeg, gLt, gLe, gGt, gGe, gIs, gIsN, isNo, isBo, gIx, optR, oN, oS, toI, wSeq, seqOf, wZip, listAt, mApp, mPop, mPopAt, mAt, uAt, uC, mUB, mPopIn, vB, pAppIn, pPutAt, itemAt, putAt, mCall, mCallM, mCallK, mRc2, gIsi, isInt, isBool, isStr, isTup, isList, gLen, gAbs, gInt, gGcd, gMax, gMin, gTup, tru, ok_bind, no_bind, ex_bind, List.getElem?_cons_succ, List.getElem?_cons_zero, List.set_cons_succ, List.set_cons_zero, List.length_cons, List.length_nil, Nat.reduceAdd, Nat.reduceLT, Nat.reduceLeDiff, Nat.zero_add, if_true, if_pos_t, if_false_b, ite_tt, atI0, atI1, atI2, Bool.not_true, Bool.not_false, gEq_i, gNe_i, List.map_cons, List.map_nil, List.append_nil, List.nil_append, List.cons_append, List.replicate]
    | [x, y] =>
      have e : ((2 : Int) == ((0 + 1 + 1 : Nat) : Int)) = true := by decide
      simp only [List.length_cons, List.length_nil, e] at ro
      have ix := is_int_ok x
      have iy := is_int_ok y
      cases x with
      | int i =>
        cases y with
        | int j =>
          by_cases hj : 0 < j
          · simp only [ro, ix, iy, if_pos z1, isf, decide_eq_true hj, Bool.and_true, Bool.true_and, Bool.not_false, mV, mC, vA, rA, get, gets, mU, mB, mL, lNil, lCons, eF, bool_b, mT, mTr, mNot, mAnd, mOr, eNot, eAnd, eOr, mIf, sNil, sCons, mTup, fLst, mM, pNil, pSeq, pBk, pCt, pIf, pRet, put, pSet, pEx, gN, gE, gC, gT, pAs, pPar, pFor, fComp, tmY, flo, gAdd, gSub, gMul, gDiv, gMod, gPow, gNeg, gLt, gLe, gGt, gGe, gIs, gIsN, isNo, isBo, gIx, optR, oN, oS, toI, wSeq, seqOf, wZip, listAt, mApp, mPop, mPopAt, mAt, uAt, uC, mUB, mPopIn, vB, pAppIn, pPutAt, itemAt, putAt, mCall, mCallM, mCallK, mRc2, gIsi, isInt, isBool, isStr, isTup, isList, gLen, gAbs, gInt, gGcd, gMax, gMin, gTup, tru, ok_bind, no_bind, ex_bind, List.getElem?_cons_succ, List.getElem?_cons_zero, List.set_cons_succ, List.set_cons_zero, List.length_cons, List.length_nil, Nat.reduceAdd, Nat.reduceLT, Nat.reduceLeDiff, Nat.zero_add, if_true, if_pos_t, if_false_b, ite_tt, atI0, atI1, atI2, Bool.not_true, Bool.not_false, gEq_i, gNe_i, List.map_cons, List.map_nil, List.append_nil, List.nil_append, List.cons_append, List.replicate]
          · simp only [ro, ix, iy, if_pos z1, isf, decide_eq_false hj, Bool.and_true, Bool.true_and, Bool.false_and, Bool.not_false, mV, mC, vA, rA, get, gets, mU, mB, mL, lNil, lCons, eF, bool_b, mT, mTr, mNot, mAnd, mOr, eNot, eAnd, eOr, mIf, sNil, sCons, mTup, fLst, mM, pNil, pSeq, pBk, pCt, pIf, pRet, put, pSet, pEx, gN, gE, gC, gT, pAs, pPar, pFor, fComp, tmY, flo, gAdd, gSub, gMul, gDiv, gMod, gPow, gNeg, gLt, gLe, gGt, gGe, gIs, gIsN, isNo, isBo, gIx, optR, oN, oS, toI, wSeq, seqOf, wZip, listAt, mApp, mPop, mPopAt, mAt, uAt, uC, mUB, mPopIn, vB, pAppIn, pPutAt, itemAt, putAt, mCall, mCallM, mCallK, mRc2, gIsi, isInt, isBool, isStr, isTup, isList, gLen, gAbs, gInt, gGcd, gMax, gMin, gTup, tru, ok_bind, no_bind, ex_bind, List.getElem?_cons_succ, List.getElem?_cons_zero, List.set_cons_succ, List.set_cons_zero, List.length_cons, List.length_nil, Nat.reduceAdd, Nat.reduceLT, Nat.reduceLeDiff, Nat.zero_add, if_true, if_pos_t, if_false_b, ite_tt, atI0, atI1, atI2, Bool.not_true, Bool.not_false, gEq_i, gNe_i, List.map_cons, List.map_nil, List.append_nil, List.nil_append, List.cons_append, List.replicate]
        | _ => simp only [ro, ix, iy, if_pos z1, isf, Bool.and_true, Bool.true_and, Bool.false_and, Bool.and_false, Bool.not_false, Bool.not_true, mV, mC, vA, rA, get, gets, mU, mB, mL, lNil, lCons, eF, bool_b, mT, mTr, mNot, mAnd, mOr, eNot, eAnd, eOr, mIf, sNil, sCons, mTup, fLst, mM, pNil, pSeq, pBk, pCt, pIf, pRet, put, pSet, pEx, gN, gE, gC, gT, pAs, pPar, pFor, fComp, tmY, flo, gAdd, gSub, gMul, gDiv, gMod, gPow, gNeg, gLt, gLe, gGt, gGe, gIs, gIsN, isNo, isBo, gIx, optR, oN, oS, toI, wSeq, seqOf, wZip, listAt, mApp, mPop, mPopAt, mAt, uAt, uC, mUB, mPopIn, vB, pAppIn, pPutAt, itemAt, putAt, mCall, mCallM, mCallK, mRc2, gIsi, isInt, isBool, isStr, isTup, isList, gLen, gAbs, gInt, gGcd, gMax, gMin, gTup, tru, ok_bind, no_bind, ex_bind, List.getElem?_cons_succ, List.getElem?_cons_zero, List.set_cons_succ, List.set_cons_zero, List.length_cons, List.length_nil, Nat.reduceAdd, Nat.reduceLT, Nat.reduceLeDiff, Nat.zero_add, if_true, if_pos_t, if_false_b, ite_tt, atI0, atI1, atI2, Bool.not_true, Bool.not_false, gEq_i, gNe_i, List.map_cons, List.map_nil, List.append_nil, List.nil_append, List.cons_append, List.replicate]
      | _ => simp only [ro, ix, iy, if_pos z1, isf, Bool.and_true, Bool.true_and, Bool.false_and, Bool.and_false, Bool.not_false, Bool.not_true, mV, mC, vA, rA, get, gets, mU, mB, mL, lNil, lCons, eF, bool_b, mT, mTr, mNot, mAnd, mOr, eNot, eAnd, eOr, mIf, sNil, sCons, mTup, fLst, mM, pNil, pSeq, pBk, pCt, pIf, pRet, put, pSet, pEx, gN, gE, gC, gT, pAs, pPar, pFor, fComp, tmY, flo, gAdd, gSub, gMul, gDiv, gMod, gPow, gNeg, gLt, gLe, gGt, gGe, gIs, gIsN, isNo, isBo, gIx, optR, oN, oS, toI, wSeq, seqOf, wZip, listAt, mApp, mPop, mPopAt, mAt, uAt, uC, mUB, mPopIn, vB, pAppIn, pPutAt, itemAt, putAt, mCall, mCallM, mCallK, mRc2, gIsi, isInt, isBool, isStr, isTup, isList, gLen, gAbs, gInt, gGcd, gMax, gMin, gTup, tru, ok_bind, no_bind, ex_bind, List.getElem?_cons_succ, List.getElem?_cons_zero, List.set_cons_succ, List.set_cons_zero, List.length_cons, List.length_nil, Nat.reduceAdd, Nat.reduceLT, Nat.reduceLeDiff, Nat.zero_add, if_true, if_pos_t, if_false_b, ite_tt, atI0, atI1, atI2, Bool.not_true, Bool.not_false, gEq_i, gNe_i, List.map_cons, List.map_nil, List.append_nil, List.nil_append, List.cons_append, List.replicate]
  | _ => simp only [ro, if_pos z1, isf, mV, mC, vA, rA, get, gets, mU, mB, mL, lNil, lCons, eF, bool_b, mT, mTr, mNot, mAnd, mOr, eNot, eAnd, eOr, mIf, sNil, sCons, mTup, fLst, mM, pNil, pSeq, pBk, pCt, pIf, pRet, put, pSet, pEx, gN, gE, gC, gT, pAs, pPar, pFor, fComp, tmY, flo, gAdd, gSub, gMul, gDiv, gMod, gPow, gNeg, gLt, gLe, gGt, gGe, gIs, gIsN, isNo, isBo, gIx, optR, oN, oS, toI, wSeq, seqOf, wZip, listAt, mApp, mPop, mPopAt, mAt, uAt, uC, mUB, mPopIn, vB, pAppIn, pPutAt, itemAt, putAt, mCall, mCallM, mCallK, mRc2, gIsi, isInt, isBool, isStr, isTup, isList, gLen, gAbs, gInt, gGcd, gMax, gMin, gTup, tru, ok_bind, no_bind, ex_bind, List.getElem?_cons_succ, List.getElem?_cons_zero, List.set_cons_succ, List.set_cons_zero, List.length_cons, List.length_nil, Nat.reduceAdd, Nat.reduceLT, Nat.reduceLeDiff, Nat.zero_add, if_true, if_pos_t, if_false_b, ite_tt, atI0, atI1, atI2, Bool.not_true, Bool.not_false, gEq_i, gNe_i, List.map_cons, List.map_nil, List.append_nil, List.nil_append, List.cons_append, List.replicate]
theorem pr2_eq (a d b e : Int) : gEq (pr2 a d) (pr2 b e) = .ok (.bool (a == b && d == e)) := by
  have h : ∀ x y : Int, (pr2 x y).depth = 1 := fun x y => by
    unfold pr2
    rw [PyData.depth, PyData.depthAll, PyData.depthAll, PyData.depthAll, depth_i, depth_i]
    rfl
  unfold gEq
  rw [h, h, if_pos (by decide)]
  unfold pr2
  rw [PyData.eqv, PySem.W.eqv_all_cons, PySem.W.eqv_all_cons, eqv_i, eqv_i, PyData.eqvAll, Bool.and_true]
theorem fr_eq {a d : Int} (hd : 0 < d) : (fn a d == a && fd a d == d) = ((Nat.gcd a.natAbs d.natAbs : Int) == 1) := by
  by_cases h : Nat.gcd a.natAbs d.natAbs = 1
  · obtain ⟨e1, e2⟩ := fr_self hd h
    rw [e1, e2, h]
    simp
  · have e : ((Nat.gcd a.natAbs d.natAbs : Int) == 1) = false := by simp; omega
    rw [e]
    have c := fr_cop (a := a) (d := d) (by omega)
    by_cases e1 : fn a d = a
    · by_cases e2 : fd a d = d
      · rw [e1, e2] at c; exact absurd c h
      · simp [e2]
    · simp [e1]
theorem law_isf_ok (v : D) (k : Nat) (hk : k ≤ 8000) (h : ∀ x y, v = .tuple [.int x, .int y] → Sz k y) : r_law_is_fraction [v] = .ok (.bool (isf v)) := by
  have st : ([v] : List D).map some ++ List.replicate (1 - ([v] : List D).length) none = [some v] := rfl
  have ro := row_ok v
  unfold r_law_is_fraction runP b_law_is_fraction
  rw [st]
  cases v with
  | tuple xs =>
    match xs with
    | [] => simp only [isf, mV, mC, vA, rA, get, gets, mU, mB, mL, lNil, lCons, eF, bool_b, mT, mTr, mNot, mAnd, mOr, eNot, eAnd, eOr, mIf, sNil, sCons, mTup, fLst, mM, pNil, pSeq, pBk, pCt, pIf, pRet, put, pSet, pEx, gN, gE, gC, gT, pAs, pPar, pFor, fComp, tmY, flo, gAdd, gSub, gMul, gDiv, gMod, gPow, gNeg, gLt, gLe, gGt, gGe, gIs, gIsN, isNo, isBo, gIx, optR, oN, oS, toI, wSeq, seqOf, wZip, listAt, mApp, mPop, mPopAt, mAt, uAt, uC, mUB, mPopIn, vB, pAppIn, pPutAt, itemAt, putAt, mCall, mCallM, mCallK, mRc2, gIsi, isInt, isBool, isStr, isTup, isList, gLen, gAbs, gInt, gGcd, gMax, gMin, gTup, tru, ok_bind, no_bind, ex_bind, List.getElem?_cons_succ, List.getElem?_cons_zero, List.set_cons_succ, List.set_cons_zero, List.length_cons, List.length_nil, Nat.reduceAdd, Nat.reduceLT, Nat.reduceLeDiff, Nat.zero_add, if_true, if_pos_t, if_false_b, ite_tt, atI0, atI1, atI2, Bool.not_true, Bool.not_false, gEq_i, gNe_i, List.map_cons, List.map_nil, List.append_nil, List.nil_append, List.cons_append, List.replicate]; rfl
    | [x] => simp only [isf, mV, mC, vA, rA, get, gets, mU, mB, mL, lNil, lCons, eF, bool_b, mT, mTr, mNot, mAnd, mOr, eNot, eAnd, eOr, mIf, sNil, sCons, mTup, fLst, mM, pNil, pSeq, pBk, pCt, pIf, pRet, put, pSet, pEx, gN, gE, gC, gT, pAs, pPar, pFor, fComp, tmY, flo, gAdd, gSub, gMul, gDiv, gMod, gPow, gNeg, gLt, gLe, gGt, gGe, gIs, gIsN, isNo, isBo, gIx, optR, oN, oS, toI, wSeq, seqOf, wZip, listAt, mApp, mPop, mPopAt, mAt, uAt, uC, mUB, mPopIn, vB, pAppIn, pPutAt, itemAt, putAt, mCall, mCallM, mCallK, mRc2, gIsi, isInt, isBool, isStr, isTup, isList, gLen, gAbs, gInt, gGcd, gMax, gMin, gTup, tru, ok_bind, no_bind, ex_bind, List.getElem?_cons_succ, List.getElem?_cons_zero, List.set_cons_succ, List.set_cons_zero, List.length_cons, List.length_nil, Nat.reduceAdd, Nat.reduceLT, Nat.reduceLeDiff, Nat.zero_add, if_true, if_pos_t, if_false_b, ite_tt, atI0, atI1, atI2, Bool.not_true, Bool.not_false, gEq_i, gNe_i, List.map_cons, List.map_nil, List.append_nil, List.nil_append, List.cons_append, List.replicate]; rfl
    | x :: y :: z :: r =>
      have e : (((r.length + 1 + 1 + 1 : Nat) : Int) == (2 : Int)) = false := by simp; omega
      simp only [e, isf, mV, mC, vA, rA, get, gets, mU, mB, mL, lNil, lCons, eF, bool_b, mT, mTr, mNot, mAnd, mOr, eNot, eAnd, eOr, mIf, sNil, sCons, mTup, fLst, mM, pNil, pSeq, pBk, pCt, pIf, pRet, put, pSet, pEx, gN, gE, gC, gT, pAs, pPar, pFor, fComp, tmY, flo, gAdd, gSub, gMul, gDiv, gMod, gPow, gNeg, gLt, gLe, gGt, gGe, gIs, gIsN, isNo, isBo, gIx, optR, oN, oS, toI, wSeq, seqOf, wZip, listAt, mApp, mPop, mPopAt, mAt, uAt, uC, mUB, mPopIn, vB, pAppIn, pPutAt, itemAt, putAt, mCall, mCallM, mCallK, mRc2, gIsi, isInt, isBool, isStr, isTup, isList, gLen, gAbs, gInt, gGcd, gMax, gMin, gTup, tru, ok_bind, no_bind, ex_bind, List.getElem?_cons_succ, List.getElem?_cons_zero, List.set_cons_succ, List.set_cons_zero, List.length_cons, List.length_nil, Nat.reduceAdd, Nat.reduceLT, Nat.reduceLeDiff, Nat.zero_add, if_true, if_pos_t, if_false_b, ite_tt, atI0, atI1, atI2, Bool.not_true, Bool.not_false, gEq_i, gNe_i, List.map_cons, List.map_nil, List.append_nil, List.nil_append, List.cons_append, List.replicate]
    | [x, y] =>
      have e : (((2 : Nat) : Int) == (2 : Int)) = true := by decide
      have ix := law_int_ok x
      have iy := law_int_ok y
      cases x with
      | int i =>
        cases y with
        | int j =>
          by_cases hj : 0 < j
          · have f := law_fraction_ok (a := i) (d := j) (by omega) (h i j rfl) hk
            have q := pr2_eq (fn i j) (fd i j) i j
            rw [fr_eq hj] at q
            unfold pr2 at q
            unfold fr pr2 at f
            simp only [e, f, q, ix, iy, isf, decide_eq_true hj, Bool.and_true, Bool.true_and, Bool.not_false, mV, mC, vA, rA, get, gets, mU, mB, mL, lNil, lCons, eF, bool_b, mT, mTr, mNot, mAnd, mOr, eNot, eAnd, eOr, mIf, sNil, sCons, mTup, fLst, mM, pNil, pSeq, pBk, pCt, pIf, pRet, put, pSet, pEx, gN, gE, gC, gT, pAs, pPar, pFor, fComp, tmY, flo, gAdd, gSub, gMul, gDiv, gMod, gPow, gNeg, gLt, gLe, gGt, gGe, gIs, gIsN, isNo, isBo, gIx, optR, oN, oS, toI, wSeq, seqOf, wZip, listAt, mApp, mPop, mPopAt, mAt, uAt, uC, mUB, mPopIn, vB, pAppIn, pPutAt, itemAt, putAt, mCall, mCallM, mCallK, mRc2, gIsi, isInt, isBool, isStr, isTup, isList, gLen, gAbs, gInt, gGcd, gMax, gMin, gTup, tru, ok_bind, no_bind, ex_bind, List.getElem?_cons_succ, List.getElem?_cons_zero, List.set_cons_succ, List.set_cons_zero, List.length_cons, List.length_nil, Nat.reduceAdd, Nat.reduceLT, Nat.reduceLeDiff, Nat.zero_add, if_true, if_pos_t, if_false_b, ite_tt, atI0, atI1, atI2, Bool.not_true, Bool.not_false, gEq_i, gNe_i, List.map_cons, List.map_nil, List.append_nil, List.nil_append, List.cons_append, List.replicate]
          · simp only [e, ix, iy, isf, decide_eq_false hj, Bool.and_true, Bool.true_and, Bool.false_and, Bool.not_false, mV, mC, vA, rA, get, gets, mU, mB, mL, lNil, lCons, eF, bool_b, mT, mTr, mNot, mAnd, mOr, eNot, eAnd, eOr, mIf, sNil, sCons, mTup, fLst, mM, pNil, pSeq, pBk, pCt, pIf, pRet, put, pSet, pEx, gN, gE, gC, gT, pAs, pPar, pFor, fComp, tmY, flo, gAdd, gSub, gMul, gDiv, gMod, gPow, gNeg, gLt, gLe, gGt, gGe, gIs, gIsN, isNo, isBo, gIx, optR, oN, oS, toI, wSeq, seqOf, wZip, listAt, mApp, mPop, mPopAt, mAt, uAt, uC, mUB, mPopIn, vB, pAppIn, pPutAt, itemAt, putAt, mCall, mCallM, mCallK, mRc2, gIsi, isInt, isBool, isStr, isTup, isList, gLen, gAbs, gInt, gGcd, gMax, gMin, gTup, tru, ok_bind, no_bind, ex_bind, List.getElem?_cons_succ, List.getElem?_cons_zero, List.set_cons_succ, List.set_cons_zero, List.length_cons, List.length_nil, Nat.reduceAdd, Nat.reduceLT, Nat.reduceLeDiff, Nat.zero_add, if_true, if_pos_t, if_false_b, ite_tt, atI0, atI1, atI2, Bool.not_true, Bool.not_false, gEq_i, gNe_i, List.map_cons, List.map_nil, List.append_nil, List.nil_append, List.cons_append, List.replicate]
        | _ => simp only [e, ix, iy, isf, Bool.and_true, Bool.true_and, Bool.false_and, Bool.and_false, Bool.not_false, Bool.not_true, mV, mC, vA, rA, get, gets, mU, mB, mL, lNil, lCons, eF, bool_b, mT, mTr, mNot, mAnd, mOr, eNot, eAnd, eOr, mIf, sNil, sCons, mTup, fLst, mM, pNil, pSeq, pBk, pCt, pIf, pRet, put, pSet, pEx, gN, gE, gC, gT, pAs, pPar, pFor, fComp, tmY, flo, gAdd, gSub, gMul, gDiv, gMod, gPow, gNeg, gLt, gLe, gGt, gGe, gIs, gIsN, isNo, isBo, gIx, optR, oN, oS, toI, wSeq, seqOf, wZip, listAt, mApp, mPop, mPopAt, mAt, uAt, uC, mUB, mPopIn, vB, pAppIn, pPutAt, itemAt, putAt, mCall, mCallM, mCallK, mRc2, gIsi, isInt, isBool, isStr, isTup, isList, gLen, gAbs, gInt, gGcd, gMax, gMin, gTup, tru, ok_bind, no_bind, ex_bind, List.getElem?_cons_succ, List.getElem?_cons_zero, List.set_cons_succ, List.set_cons_zero, List.length_cons, List.length_nil, Nat.reduceAdd, Nat.reduceLT, Nat.reduceLeDiff, Nat.zero_add, if_true, if_pos_t, if_false_b, ite_tt, atI0, atI1, atI2, Bool.not_true, Bool.not_false, gEq_i, gNe_i, List.map_cons, List.map_nil, List.append_nil, List.nil_append, List.cons_append, List.replicate]
      | _ => simp only [e, ix, iy, isf, Bool.and_true, Bool.true_and, Bool.false_and, Bool.and_false, Bool.not_false, Bool.not_true, mV, mC, vA, rA, get, gets, mU, mB, mL, lNil, lCons, eF, bool_b, mT, mTr, mNot, mAnd, mOr, eNot, eAnd, eOr, mIf, sNil, sCons, mTup, fLst, mM, pNil, pSeq, pBk, pCt, pIf, pRet, put, pSet, pEx, gN, gE, gC, gT, pAs, pPar, pFor, fComp, tmY, flo, gAdd, gSub, gMul, gDiv, gMod, gPow, gNeg, gLt, gLe, gGt, gGe, gIs, gIsN, isNo, isBo, gIx, optR, oN, oS, toI, wSeq, seqOf, wZip, listAt, mApp, mPop, mPopAt, mAt, uAt, uC, mUB, mPopIn, vB, pAppIn, pPutAt, itemAt, putAt, mCall, mCallM, mCallK, mRc2, gIsi, isInt, isBool, isStr, isTup, isList, gLen, gAbs, gInt, gGcd, gMax, gMin, gTup, tru, ok_bind, no_bind, ex_bind, List.getElem?_cons_succ, List.getElem?_cons_zero, List.set_cons_succ, List.set_cons_zero, List.length_cons, List.length_nil, Nat.reduceAdd, Nat.reduceLT, Nat.reduceLeDiff, Nat.zero_add, if_true, if_pos_t, if_false_b, ite_tt, atI0, atI1, atI2, Bool.not_true, Bool.not_false, gEq_i, gNe_i, List.map_cons, List.map_nil, List.append_nil, List.nil_append, List.cons_append, List.replicate]
  | _ => simp only [isf, mV, mC, vA, rA, get, gets, mU, mB, mL, lNil, lCons, eF, bool_b, mT, mTr, mNot, mAnd, mOr, eNot, eAnd, eOr, mIf, sNil, sCons, mTup, fLst, mM, pNil, pSeq, pBk, pCt, pIf, pRet, put, pSet, pEx, gN, gE, gC, gT, pAs, pPar, pFor, fComp, tmY, flo, gAdd, gSub, gMul, gDiv, gMod, gPow, gNeg, gLt, gLe, gGt, gGe, gIs, gIsN, isNo, isBo, gIx, optR, oN, oS, toI, wSeq, seqOf, wZip, listAt, mApp, mPop, mPopAt, mAt, uAt, uC, mUB, mPopIn, vB, pAppIn, pPutAt, itemAt, putAt, mCall, mCallM, mCallK, mRc2, gIsi, isInt, isBool, isStr, isTup, isList, gLen, gAbs, gInt, gGcd, gMax, gMin, gTup, tru, ok_bind, no_bind, ex_bind, List.getElem?_cons_succ, List.getElem?_cons_zero, List.set_cons_succ, List.set_cons_zero, List.length_cons, List.length_nil, Nat.reduceAdd, Nat.reduceLT, Nat.reduceLeDiff, Nat.zero_add, if_true, if_pos_t, if_false_b, ite_tt, atI0, atI1, atI2, Bool.not_true, Bool.not_false, gEq_i, gNe_i, List.map_cons, List.map_nil, List.append_nil, List.nil_append, List.cons_append, List.replicate]

/-! ### comprehensions that change nothing else -/
theorem set_back {δ : Dl} {i : Nat} (hi : i < δ.length) (d : Option D) : (δ.set i d).set i (δ.getD i none) = δ := by
  rw [List.set_set]
  apply List.ext_getElem?
  intro j
  by_cases e : i = j
  · subst e
    rw [List.getElem?_set_self hi, List.getD_eq_getElem?_getD, List.getElem?_eq_getElem hi]
    rfl
  · rw [List.getElem?_set_ne e]
theorem comp_pure {i : Nat} (f : D → D) (p : D → Bool) {c : Tm} {e : Em} {xs : List D} {δ : Dl} (hi : i < δ.length) (hc : ∀ d ∈ xs, c (δ.set i (some d)) = .ok (p d, δ.set i (some d))) (he : ∀ d ∈ xs, p d = true → e (δ.set i (some d)) = .ok (f d, δ.set i (some d))) :
    compF [i] (gN i) c e xs δ = .ok ((xs.filter p).map f, δ) := by
  obtain ⟨δ', e1, rfl⟩ := compF_map (vs := [i]) (t := gN i) (c := c) (e := e) (I := fun δ' => δ' = δ) f p xs δ (fun d hd δ' h => by
    subst h
    refine ⟨δ'.set i (some d), δ'.set i (some d), ?_, hc d hd, fun _ => set_back hi _, fun hp => ⟨_, he d hd hp, set_back hi _⟩⟩
    show put (δ'.set i none) i d = _
    unfold put
    rw [if_pos (by rw [List.length_set]; exact hi), List.set_set]) rfl
  exact e1
theorem comp_all {i : Nat} (f : D → D) {e : Em} {xs : List D} {δ : Dl} (hi : i < δ.length) (he : ∀ d ∈ xs, e (δ.set i (some d)) = .ok (f d, δ.set i (some d))) : compF [i] (gN i) tmY e xs δ = .ok (xs.map f, δ) := by
  rw [comp_pure f (fun _ => true) (c := tmY) hi (fun _ _ => rfl) fun d hd _ => he d hd, List.filter_eq_self.mpr (fun _ _ => rfl)]
/-! ### rows -/
def isrow (v : D) (n : Int) : Bool := match v with
  | .tuple xs => (n == (xs.length : Int)) && xs.all isf
  | _ => false
end Zd

namespace Zd
open PySem PySem.Spec PyProof.Rows L2 HT
/-! ### t[::-1], t a tuple -/
section
variable {prog : Program} {w : World} {A :
          Around} {E : Value → Shared → Prop} {s : Shared}
theorem applied_rev {sl : Addr} {vl vu vs : Value} {n : Nat} {Q : Int × Int × Nat → Shared → Prop} (hs : s.heap.IsSliceOf sl vl vu vs) (pl : IsPart vl none) (pu : IsPart vu none) (ps : IsPart vs (some (-1)))
    (h : Q ((n : Int) - 1, -1, n) s) : wpAny (model prog w) A (Builtin.Slice.sliceApplied (.ref sl) (pure (n : Int))) Q E s := by
  obtain ⟨o, g, hc, hd⟩ := id hs
  unfold Builtin.Slice.sliceApplied
  unfold Builtin.Slice.sliceFields
  refine wpAny_bind (wpAny_bind (wpAny_field g hd (x := vl) rfl ?_))
  refine wpAny_bind (wpAny_field g hd (x := vu) rfl (wpAny_bind (wpAny_field g hd (x := vs) rfl (wpAny_pure ?_))))
  refine wpAny_bind (HT.slicePart_ ps ?_)
  show wpAny _ _ (if ((-1 : Int) == 0) = true then _ else _) _ _ s
  rw [if_neg (by decide)]
  refine wpAny_bind (HT.slicePart_ pl (wpAny_bind (HT.slicePart_ pu (wpAny_bind (wpAny_pure ?_)))))
  have adj : Builtin.Slice.sliceAdjust none none (-1) (n : Int) = ((n : Int) - 1, -1) := by
    unfold Builtin.Slice.sliceAdjust
    first
      | rfl
      | simp
  have pla : Builtin.Slice.slicePlaces ((n : Int) - 1) (-1) (-1) = n := by
    unfold Builtin.Slice.slicePlaces
    have h1 : ¬ ((-1 :
              Int) > 0) := by decide
    simp only [h1, if_false]
    split
    · rw [show (-(-1) : Int) = 1 by decide, Int.ediv_one]; omega
    · omega
  show wpAny _ _ (match Builtin.Slice.sliceAdjust none none (-1) (n : Int) with | (lo, hi) => pure (lo, (-1 : Int), Builtin.Slice.slicePlaces lo hi (-1))) _ _ s
  rw [adj]
  show wpAny _ _ (pure ((n : Int) - 1, (-1 : Int), Builtin.Slice.slicePlaces ((n : Int) - 1) (-1) (-1))) _ _ s
  rw [pla]
  exact wpAny_pure h
theorem pick_rev (xs : Array Value) : ((List.range xs.size).filterMap fun (k : Nat) => xs[(((xs.size : Nat) : Int) - 1 + (k : Int) * -1).toNat]?).toArray = xs.toList.reverse.toArray := by
  have e : (fun (k : Nat) => xs[(((xs.size : Nat) : Int) - 1 + (k : Int) * -1).toNat]?) = (fun m => xs[m]?) ∘ fun k => xs.size - 1 - k := by
    funext k
    have : (((xs.size : Nat) : Int) - 1 + (k : Int) * -1).toNat = xs.size - 1 - k := by omega
    show xs[_]? = xs[_]?
    rw [this]
  rw [e, ← List.filterMap_map, PySem.W.krv_range, List.filterMap_reverse, PySem.W.krv_all]
theorem getItem_tuple_rev {t sl : Addr} {items : Array Value} {vl vu vs : Value} {Q : Value → Shared → Prop} (ht : IsTup s.heap t items) (hs : s.heap.IsSliceOf sl vl vu vs) (pl : IsPart vl none) (pu : IsPart vu none) (ps : IsPart vs (some (-1)))
    (h : Q (.ref s.heap.objs.size) { s with heap := s.heap.push { cls := .type "tuple", data := .seq items.toList.reverse.toArray } }) (hsz : items.size ≤ sizeLine) : wpAny (model prog w) A (getItem (.ref t) (.ref sl)) Q E s := by
  have hsk : sizeOk (.seq items.toList.reverse.toArray) := by
    show items.toList.reverse.toArray.size ≤ sizeLine
    rw [List.size_toArray, List.length_reverse, Array.length_toList]
    exact hsz
  obtain ⟨o, g, hc, hd⟩ := id hs
  have hT : s.TypeIs (.ref sl) "slice" := ⟨o, g, hc⟩
  unfold getItem
  try with_reducible refine wpAny_holding ?_
  first | refine wpAny_bind (wpAny_pure
            ?_) | skip
  refine wpAny_bind (wpAny_sequenceKey
            ht.typeIs (by decide) ?_)
  refine wpAny_bind (wpAny_callSpecial?_slot (name := Str.ofString
            "__getitem__") ht.typeIs PyProof.Rows.slot_tuple_getitem
    (wpAny_call_entry PyProof.Rows.slot_tuple_getitem ht.typeIs
              entry_tuple_getitem ?_ (args_tuple_getitem _ _)))
  show wpAny _ _ (Builtin.Tuple.tupleItemsOf
            (.ref t) >>= _) _ _ s
  refine wpAny_bind (tupleItemsOf_ ht (wpAny_bind (wpAny_typeOf hT ?_)))
  rw [if_pos (by decide)]
  refine wpAny_bind (applied_rev hs pl pu ps ?_)
  show wpAny _ _ (if ((((items.size : Nat) : Int) - 1) == 0 && (-1 : Int) == 1 && items.size == items.size) = true then _ else _) _ _ s
  rw [if_neg (by simp), pick_rev]
  first
    | exact wpAny_bind (m := Builtin.Tuple.tupleExact _) (wpAny_newObj_type (wpAny_pure ⟨_, rfl, wpAny_pure h⟩) hsk)
    | exact wpAny_bind (m := Builtin.Tuple.tupleExact _) (wpAny_newObj_type (wpAny_bind (wpAny_pure (wpAny_pure ⟨_, rfl, wpAny_pure h⟩))) hsk)
    | exact wpAny_bind (wpAny_bind (m := Builtin.Tuple.tupleExact _) (wpAny_newObj_type (wpAny_pure (wpAny_pure ⟨_, rfl, wpAny_pure h⟩)) hsk))
    | exact wpAny_bind (wpAny_bind (m := Builtin.Tuple.tupleExact _) (wpAny_newObj_type (wpAny_pure ⟨_, rfl, wpAny_pure h⟩) hsk))
end
def tRevT (K : PySem.W.Frag) (te : TE) : TE := fun σ H Q => te σ H fun x H1 => ∃ a xs, x = .ref a ∧ SqT K H1 a xs ∧ ∀ p, H1 p = none → Q (.ref p) (upd H1 p (.tup xs.reverse))
section
variable {X : Cx} {G : Gm}
theorem pe_revT {e : Expr} {te : TE} {k : Nat} {p1 p2 p3 pos : Pos} (he : PE X e te) : PE X (.Subscript e (.Slice none none (some (.UnaryOp .USub (.Constant (.int 1) k p1) p2)) p3) pos) (tRevT X.K te) := by
  constructor
  intro pins s σ H Q I h
  refine Subscript_ (thn (he.run pins s σ H _ I h) ?_)
  rintro v s1 ⟨x, H1, I1, r1, a, xs, rfl, hx, q⟩
  cases r1
  have third : PO X (some (.UnaryOp .USub (.Constant (.int 1) k p1) p2)) (tPart (tUn (rU fun i => .int (-i)) (tC (.int 1)))) := po_some (pe_un un_neg pe_int)
  refine wpAny_Slice (thn (po_none.run pins s1 σ H1 (fun o H2 => o = none ∧ H2 = H1) I1 ⟨rfl, rfl⟩) ?_)
  rintro vl s2 ⟨l, H2, I2, pl, rfl, rfl⟩
  refine thn (po_none.run pins s2 σ H2 (fun o H3 => o = none ∧ H3 = H2) I2 ⟨rfl, rfl⟩) ?_
  rintro vu s3 ⟨u, H3, I3, pu, rfl, rfl⟩
  refine thn (third.run pins s3 σ H3 (fun o H4 => o = some (-1) ∧ H4 = H3) I3 ⟨1, rfl, -1, rfl, rfl, rfl⟩) ?_
  rintro vs s4 ⟨o, H4, I4, ps, rfl, rfl⟩
  have I5 : Inv X pins σ H4 { s4 with heap := s4.heap.push { cls := .type "slice", data := .fields #[vl, vu, vs] } } :=
    I4.kept (t' := s4.toks) fun b ob w => Heap.get?_push_of_some _ w
  obtain ⟨its, r, ht, hz⟩ := I5.tuple hx
  have hl := r.length
  show wpAny (model X.prog X.w) X.A (subscriptTail e (.Slice none none (some (.UnaryOp .USub (.Constant (.int 1) k p1) p2)) p3) (.ref a) (.ref s4.heap.objs.size)) (EP X pins σ Q) X.xe
    { s4 with heap := s4.heap.push { cls := .type "slice", data := .fields #[vl, vu, vs] } }
  refine tail_any (ops := [.ref a, .ref s4.heap.objs.size]) ht.typeIs PyProof.Rows.slot_tuple_getitem.lookup ?_ (by with_unfolding_all rfl)
  refine getItem_tuple_rev ht (Heap.IsSliceOf.new _ vl vu vs) pl pu ps ?_ (by rw [List.size_toArray]; omega)
  refine ⟨.ref _, _, I5.laid (t' := s4.toks) (o := .tup xs.reverse) (fun b ob w => Heap.get?_push_of_some _ w) (Nat.le_refl _) ?_, rfl, q _ (I5.hok.fresh (Nat.le_refl _))⟩
  exact ⟨by rw [List.length_reverse]; exact hz, _, r.reverse, IsTup.new _ _⟩
def mRevT (m : Am) : Em := fun δ => m δ >>= fun r => get r.2 r.1 >>= fun d => match d with
  | .tuple xs => .ok (.tuple xs.reverse, r.2)
  | _ => .no
theorem xRevT {e : Expr} {m : Am} {k : Nat} {p1 p2 p3 pos : Pos} (he : PE X e (tA1 G m)) (hK : X.K = G.K := by rfl) : PE X (.Subscript e (.Slice none none (some (.UnaryOp .USub (.Constant (.int 1) k p1) p2)) p3) pos) (tI G (mRevT m)) := by
  refine pe_if (pe_revT he) fun σ H Q ⟨ω, δ, φ, s, o⟩ => ⟨ω, δ, φ, s, (Out.bind o).mono (fun r hr ω' H' φ' v st s' rx => ?_) fun _ _ z => z⟩
  obtain ⟨d, l, h⟩ := s'.got rx (Out.bind hr)
  cases d with
  | tuple xs =>
    obtain ⟨a, vs, rfl, h1, r1⟩ := l.tuple
    exact ⟨a, vs, rfl, hK ▸ h1, fun p hp => h ω' _ φ' _ (st.trans (s'.step (Ext.upd hp))) (s'.ext (Ext.upd hp)) (Rep.newT s'.wf hp r1.reverse)⟩
  | _ => exact h.elim
end
end Zd

namespace Zd
open PySem PySem.Spec
open PyProof.Rows L2

/-! ### the runs by names: a form's run with what follows, without slots in the end -/
theorem hid {α : Sort _} {a b : α} (h : a = b) : a = b := h
theorem bind_as {α β γ : Type} (x : Rs α) (f : α → Rs β) (g : β → Rs γ) : ((x >>= f) >>= g) = (x >>= fun a => f a >>= g) := by
  cases x <;> rfl
theorem bind_ret {α : Type} (x : Rs α) : (x >>= fun a => Rs.ok a) = x := by cases x <;> rfl
theorem bind_ite {α β : Type} {c : Prop} [Decidable c] (x y : Rs α) (f : α → Rs β) : ((if c then x else y) >>= f) = if c then x >>= f else y >>= f := by
  by_cases h : c
  · rw [if_pos h, if_pos h]
  · rw [if_neg h, if_neg h]
theorem bind_fx {α β : Type} {x : Rs α} {f g : α → Rs β} (h : ∀ a, f a = g a) : (x >>= f) = (x >>= g) := by rw [show f = g from funext h]
theorem okb {α β : Type} (a : α) (f : α → Rs β) : ((Rs.ok a) >>= f) = f a := hid rfl
theorem nob {α β : Type} (f : α → Rs β) : ((Rs.no : Rs α) >>= f) = .no := hid rfl
def rdO : Option D → Rs D
  | some d => .ok d
  | none => .no
theorem rdO_s {β : Type} (d : D) (f : D → Rs β) : (rdO (some d) >>= f) = f d := hid rfl
theorem rdO_z {β : Type} (f : D → Rs β) : (rdO none >>= f) = .no := hid rfl
def liD : D → Rs (List D)
  | .list xs => .ok xs
  | _ => .no
def tuD : D → Rs (List D)
  | .tuple xs => .ok xs
  | _ => .no
def ltD : D → Rs (List D)
  | .list xs => .ok xs
  | .tuple xs => .ok xs
  | _ => .no
def appR (l x : D) : Rs D := liD l >>= fun xs => if xs.length < sizeLine then .ok (.list (xs ++ [x])) else .no
def popR (l : D) : Rs (D × D) := liD l >>= fun xs => optR xs.getLast? >>= fun d => .ok (d, .list xs.dropLast)
def popAtR (l i : D) : Rs (D × D) := liD l >>= fun xs => toI i >>= fun k => if -(2 ^ 63) ≤ k ∧ k < 2 ^ 63 then optR ((seqIndex? k xs.length).bind fun j => xs[j]?.map fun d => (j, d)) >>= fun jd => .ok (jd.2, .list (xs.eraseIdx jd.1)) else .no
def stoR (l i x : D) : Rs D := liD l >>= fun xs => toI i >>= fun j => optR (ixN xs.length j) >>= fun n => .ok (.list (xs.set n x))
def incR (d e : D) : Rs D := toI d >>= fun a => toI e >>= fun b => .ok (.int (a + b))
def mkT (xs : List D) : Rs D := if xs.length ≤ sizeLine then .ok (.tuple xs) else .no
def mkL (xs : List D) : Rs D := if xs.length ≤ sizeLine then .ok (.list xs) else .no
def rngR : D → Rs (List D)
  | .int j => if -(2 ^ 62) ≤ j ∧ j < 2 ^ 62 then .ok ((List.range j.toNat).map fun i => PyData.int (i : Nat)) else .no
  | _ => .no
def zipR : D → D → Rs (List D)
  | .list xs, .list ys => .ok (pairs xs ys)
  | .tuple xs, .tuple ys => .ok (pairs xs ys)
  | _, _ => .no
def un2 : D → Rs (D × D)
  | .tuple [a, b] => .ok (a, b)
  | _ => .no
def un3 : D → Rs (D × D × D)
  | .tuple [a, b, c] => .ok (a, b, c)
  | _ => .no
theorem mkT_ok {xs : List D} (h : xs.length ≤ 1000) : mkT xs = .ok (.tuple xs) := by
  unfold mkT
  exact if_pos (Nat.le_of_lt (small1000 h))
theorem mkL_ok {xs : List D} (h : xs.length ≤ 1000) : mkL xs = .ok (.list xs) := by
  unfold mkL
  exact if_pos (Nat.le_of_lt (small1000 h))
theorem mkT_b {β : Type} {xs : List D} (f : D → Rs β) (h : xs.length ≤ 1000) : (mkT xs >>= f) = f (.tuple xs) := by rw [mkT_ok h]; rfl
theorem mkL_b {β : Type} {xs : List D} (f : D → Rs β) (h : xs.length ≤ 1000) : (mkL xs >>= f) = f (.list xs) := by rw [mkL_ok h]; rfl
theorem un2_b {β : Type} (a b : D) (f : D × D → Rs β) : (un2 (.tuple [a, b]) >>= f) = f (a, b) := hid rfl
theorem un3_b {β : Type} (a b c : D) (f : D × D × D → Rs β) : (un3 (.tuple [a, b, c]) >>= f) = f (a, b, c) := hid rfl
def ev {α β : Type} (m : Dl → Rs (α × Dl)) (δ : Dl) (k : α → Dl → Rs β) : Rs β := m δ >>= fun r => k r.1 r.2
def pt {β : Type} (δ : Dl) (i : Nat) (d : D) (k : Dl → Rs β) : Rs β := put δ i d >>= k
def rmv {β : Type} (δ : Dl) (i : Nat) (k : Dl → Rs β) : Rs β := k (δ.set i none)
theorem rmv0 {β : Type} (o : Option D) (δ : Dl) (k : Dl → Rs β) : rmv (o :: δ) 0 k = k (none :: δ) := hid rfl
theorem rmvS {β : Type} (o : Option D) (δ : Dl) (i : Nat) (k : Dl → Rs β) : rmv (o :: δ) (i + 1) k = rmv δ i fun δ' => k (o :: δ') := hid rfl
theorem pt0 {β : Type} (o : Option D) (δ : Dl) (d : D) (k : Dl → Rs β) : pt (o :: δ) 0 d k = k (some d :: δ) := by
  unfold pt put
  rw [if_pos (by simp)]
  rfl
theorem ptS {β : Type} (o : Option D) (δ : Dl) (i : Nat) (d : D) (k : Dl → Rs β) : pt (o :: δ) (i + 1) d k = pt δ i d fun δ' => k (o :: δ') := by
  unfold pt put
  by_cases h : i < δ.length
  · rw [if_pos (by simpa using h), if_pos h]; rfl
  · rw [if_neg (by simpa using h), if_neg h]; rfl
section
variable {β : Type} (δ : Dl)
theorem evV0 (o : Option D) (k : D → Dl → Rs β) : ev (mV 0) (o :: δ) k = rdO o >>= fun d => k d (o :: δ) := by cases o <;> rfl
theorem evVS (i : Nat) (o : Option D) (k : D → Dl → Rs β) : ev (mV (i + 1)) (o :: δ) k = ev (mV i) δ fun d δ' => k d (o :: δ') := by
  unfold ev mV
  rw [List.getElem?_cons_succ]
  cases δ[i]? with
  | none => rfl
  | some x => cases x <;> rfl
theorem ev_mV (i : Nat) (k : D → Dl → Rs β) : ev (mV i) δ k = match δ[i]? with
  | some (some d) => k d δ
  | _ => .no := by
  unfold ev mV
  cases δ[i]? with
  | none => rfl
  | some x => cases x <;> rfl
theorem evM (i : Nat) (k : D → Dl → Rs β) : ev (mM i) δ k = ev (mV i) δ fun d δ1 => rmv δ1 i fun δ2 => k d δ2 := by
  rw [ev_mV]
  unfold ev mM rmv
  cases δ[i]? with
  | none => rfl
  | some x => cases x <;> rfl
theorem evC (d : D) (k : D → Dl → Rs β) : ev (mC d) δ k = k d δ := hid rfl
/-- reading a slot twice -/
theorem rd_ok {i : Nat} {δ : Dl} (h : ∀ d, δ[i]? ≠ some (some d)) : (match δ[i]? with | some (some d) => (Rs.ok d : Rs D) | _ => .no) = .no := by
  cases e : δ[i]? with
  | none => rfl
  | some x => cases x with
    | none => rfl
    | some d => exact absurd e (h d)
theorem get_r (i : Nat) : get δ (.r i) = ev (mV i) δ fun d _ => .ok d := by
  rw [ev_mV]
  show (match δ[i]? with | some (some d) => Rs.ok d | _ => .no) = _
  cases δ[i]? with
  | none => rfl
  | some x => cases x <;> rfl
theorem get_rb (i : Nat) (k : D → Rs β) : (get δ (.r i) >>= k) = ev (mV i) δ fun d _ => k d := by
  rw [get_r, ev_mV, ev_mV]
  cases δ[i]? with
  | none => rfl
  | some x => cases x <;> rfl
theorem ev_k {i : Nat} {k k' : D → Dl → Rs β} (h : ∀ d, k d δ = k' d δ) : ev (mV i) δ k = ev (mV i) δ k' := by
  rw [ev_mV, ev_mV]
  cases δ[i]? with
  | none => rfl
  | some x => cases x with
    | none => rfl
    | some d => exact h d
theorem ev_c {α : Type} {m : Dl → Rs (α × Dl)} {k k' : α → Dl → Rs β} (h : ∀ a δ1, k a δ1 = k' a δ1) : ev m δ k = ev m δ k' := bind_fx fun r => h r.1 r.2
theorem ev_two {i : Nat} {k : D → D → Dl → Rs β} : (ev (mV i) δ fun d δ1 => ev (mV i) δ1 fun e δ2 => k d e δ2) = ev (mV i) δ fun d δ1 => k d d δ1 := by
  rw [ev_mV, ev_mV]
  cases e : δ[i]? with
  | none => rfl
  | some x => cases x with
    | none => rfl
    | some d =>
      show ev (mV i) δ _ = _
      rw [ev_mV, e]
theorem ev_st {i : Nat} {k : D → Dl → Rs β} : ev (mV i) δ k = ev (mV i) δ fun d _ => k d δ := ev_k δ fun _ => rfl
theorem ev_sw {i j : Nat} {k : D → D → Rs β} : (ev (mV i) δ fun d _ => ev (mV j) δ fun e _ => k d e) = ev (mV j) δ fun e _ => ev (mV i) δ fun d _ => k d e := by
  simp only [ev_mV]
  cases δ[i]? with
  | none => cases δ[j]? with
    | none => rfl
    | some x => cases x <;> rfl
  | some x => cases x with
    | none => cases δ[j]? with
      | none => rfl
      | some x => cases x <;> rfl
    | some d => cases δ[j]? with
      | none => rfl
      | some x => cases x <;> rfl
theorem ev_rA (i : Nat) (k : AV → Dl → Rs β) : ev (rA i) δ k = ev (mV i) δ fun _ δ1 => k (.r i) δ1 := by
  rw [ev_mV]
  unfold ev rA
  cases δ[i]? with
  | none => rfl
  | some x => cases x <;> rfl
theorem ev_vA (m : Em) (k : AV → Dl → Rs β) : ev (vA m) δ k = ev m δ fun d δ1 => k (.v d) δ1 := by
  unfold ev vA
  rw [bind_as]
  rfl
def gt1 (k : D → Rs β) (δ : Dl) : AV → Rs β := fun a => get δ a >>= k
theorem ev_mB (g : D → D → Rs D) (m n : Am) (k : D → Dl → Rs β) : ev (mB g m n) δ k = ev m δ fun a δ1 => ev n δ1 fun b δ2 => get δ2 a >>= fun x => get δ2 b >>= fun y => g x y >>= fun z => k z δ2 := by
  unfold ev mB
  simp only [bind_as, ok_bind]
theorem ev_fB (g : D → D → Rs (List D)) (m n : Am) (k : List D → Dl → Rs β) : ev (fB g m n) δ k = ev m δ fun a δ1 => ev n δ1 fun b δ2 => get δ2 a >>= fun x => get δ2 b >>= fun y => g x y >>= fun z => k z δ2 := by
  unfold ev fB
  simp only [bind_as, ok_bind]
theorem get_v (d : D) (k : D → Rs β) : (get δ (.v d) >>= k) = k d := hid rfl
theorem evBvv (g : D → D → Rs D) (m n : Em) (k : D → Dl → Rs β) : ev (mB g (vA m) (vA n)) δ k = ev m δ fun x δ1 => ev n δ1 fun y δ2 => g x y >>= fun z => k z δ2 := by
  simp only [ev_mB, ev_vA, get_v]
theorem evBrv (g : D → D → Rs D) (i : Nat) (n : Em) (k : D → Dl → Rs β) : ev (mB g (rA i) (vA n)) δ k = ev (mV i) δ fun _ δ1 => ev n δ1 fun y δ2 => ev (mV i) δ2 fun x δ3 => g x y >>= fun z => k z δ3 := by
  simp only [ev_mB, ev_vA, ev_rA, get_v, get_rb]
  refine ev_k δ fun _ => ?_
  refine ev_c δ fun y δ1 => ?_
  exact ev_k δ1 (i := i) fun d => rfl
theorem evBvr (g : D → D → Rs D) (m : Em) (j : Nat) (k : D → Dl → Rs β) : ev (mB g (vA m) (rA j)) δ k = ev m δ fun x δ1 => ev (mV j) δ1 fun y δ2 => g x y >>= fun z => k z δ2 := by
  simp only [ev_mB, ev_vA, ev_rA, get_v, get_rb]
  refine ev_c δ fun x δ1 => ?_
  simp only [ev_mV]
  cases e : δ1[j]? with
  | none => rfl
  | some x => cases x with
    | none => rfl
    | some d => simp only [e]
theorem evBrr (g : D → D → Rs D) (i j : Nat) (k : D → Dl → Rs β) : ev (mB g (rA i) (rA j)) δ k = ev (mV i) δ fun x δ1 => ev (mV j) δ1 fun y δ2 => g x y >>= fun z => k z δ2 := by
  simp only [ev_mB, ev_rA, get_rb, ev_mV]
  cases e : δ[i]? with
  | none => rfl
  | some x => cases x with
    | none => rfl
    | some d => cases e2 : δ[j]? with
      | none => simp only [e2]
      | some x => cases x with
        | none => simp only [e2]
        | some d2 => simp only [e, e2]
theorem evFvv (g : D → D → Rs (List D)) (m n : Em) (k : List D → Dl → Rs β) : ev (fB g (vA m) (vA n)) δ k = ev m δ fun x δ1 => ev n δ1 fun y δ2 => g x y >>= fun z => k z δ2 := by
  simp only [ev_fB, ev_vA, get_v]
theorem evFrv (g : D → D → Rs (List D)) (i : Nat) (n : Em) (k : List D → Dl → Rs β) : ev (fB g (rA i) (vA n)) δ k = ev (mV i) δ fun _ δ1 => ev n δ1 fun y δ2 => ev (mV i) δ2 fun x δ3 => g x y >>= fun z => k z δ3 := by
  simp only [ev_fB, ev_vA, ev_rA, get_v, get_rb]
  refine ev_k δ fun _ => ?_
  refine ev_c δ fun y δ1 => ?_
  exact ev_k δ1 (i := i) fun d => rfl
theorem evFvr (g : D → D → Rs (List D)) (m : Em) (j : Nat) (k : List D → Dl → Rs β) : ev (fB g (vA m) (rA j)) δ k = ev m δ fun x δ1 => ev (mV j) δ1 fun y δ2 => g x y >>= fun z => k z δ2 := by
  simp only [ev_fB, ev_vA, ev_rA, get_v, get_rb]
  refine ev_c δ fun x δ1 => ?_
  simp only [ev_mV]
  cases e : δ1[j]? with
  | none => rfl
  | some x => cases x with
    | none => rfl
    | some d => simp only [e]
theorem evFrr (g : D → D → Rs (List D)) (i j : Nat) (k : List D → Dl → Rs β) : ev (fB g (rA i) (rA j)) δ k = ev (mV i) δ fun x δ1 => ev (mV j) δ1 fun y δ2 => g x y >>= fun z => k z δ2 := by
  simp only [ev_fB, ev_rA, get_rb, ev_mV]
  cases e : δ[i]? with
  | none => rfl
  | some x => cases x with
    | none => rfl
    | some d => cases e2 : δ[j]? with
      | none => simp only [e2]
      | some x => cases x with
        | none => simp only [e2]
        | some d2 => simp only [e, e2]
/-- an operand -/
def evA (m : Am) (δ : Dl) (k : D → Dl → Rs β) : Rs β := ev m δ fun a δ1 => get δ1 a >>= fun x => k x δ1
theorem evAv (m : Em) (k : D → Dl → Rs β) : evA (vA m) δ k = ev m δ k := by
  unfold evA
  rw [ev_vA]
  rfl
theorem evAr (i : Nat) (k : D → Dl → Rs β) : evA (rA i) δ k = ev (mV i) δ k := by
  unfold evA
  simp only [ev_rA, get_rb, ev_mV]
  cases e : δ[i]? with
  | none => rfl
  | some x => cases x with
    | none => rfl
    | some d => simp only [e]
theorem evU (g : D → Rs D) (m : Am) (k : D → Dl → Rs β) : ev (mU g m) δ k = evA m δ fun x δ1 => g x >>= fun z => k z δ1 := by
  unfold evA ev mU
  simp only [bind_as, ok_bind]
theorem evFU (g : D → Rs (List D)) (m : Am) (k : List D → Dl → Rs β) : ev (fU g m) δ k = evA m δ fun x δ1 => g x >>= fun z => k z δ1 := by
  unfold evA ev fU
  simp only [bind_as, ok_bind]
theorem evTr (m : Am) (k : Bool → Dl → Rs β) : ev (mTr m) δ k = evA m δ fun x δ1 => tru x >>= fun b => k b δ1 := by
  unfold evA ev mTr
  simp only [bind_as, ok_bind]
theorem evRev (m : Am) (k : List D → Dl → Rs β) : ev (fRev m) δ k = evA m δ fun x δ1 => liD x >>= fun xs => k xs.reverse δ1 := by
  unfold evA ev fRev
  simp only [bind_as]
  refine bind_fx fun r => bind_fx fun d => ?_
  cases d <;> rfl
theorem evRevT (m : Am) (k : D → Dl → Rs β) : ev (mRevT m) δ k = evA m δ fun x δ1 => tuD x >>= fun xs => k (.tuple xs.reverse) δ1 := by
  unfold evA ev mRevT
  simp only [bind_as]
  refine bind_fx fun r => bind_fx fun d => ?_
  cases d <;> rfl
theorem ev_Sl (m : Am) (lo hi : Om') (k : D → Dl → Rs β) : ev (mSl m lo hi) δ k = ev m δ fun a δ1 => ev lo δ1 fun l δ2 => ev hi δ2 fun h δ3 => get δ3 a >>= fun x => gCut l h x >>= fun z => k z δ3 := by
  unfold ev mSl
  simp only [bind_as, ok_bind]
theorem ev_fSl (m : Am) (lo hi : Om') (k : List D → Dl → Rs β) : ev (fSl m lo hi) δ k = ev m δ fun a δ1 => ev lo δ1 fun l δ2 => ev hi δ2 fun h δ3 => get δ3 a >>= fun x => fCut l h x >>= fun z => k z δ3 := by
  unfold ev fSl
  simp only [bind_as, ok_bind]
theorem evSlv (m : Em) (lo hi : Om') (k : D → Dl → Rs β) : ev (mSl (vA m) lo hi) δ k = ev m δ fun x δ1 => ev lo δ1 fun l δ2 => ev hi δ2 fun h δ3 => gCut l h x >>= fun z => k z δ3 := by
  simp only [ev_Sl, ev_vA, get_v]
theorem evfSlv (m : Em) (lo hi : Om') (k : List D → Dl → Rs β) : ev (fSl (vA m) lo hi) δ k = ev m δ fun x δ1 => ev lo δ1 fun l δ2 => ev hi δ2 fun h δ3 => fCut l h x >>= fun z => k z δ3 := by
  simp only [ev_fSl, ev_vA, get_v]
theorem evSlr (i : Nat) (lo hi : Om') (k : D → Dl → Rs β) : ev (mSl (rA i) lo hi) δ k = ev (mV i) δ fun _ δ1 => ev lo δ1 fun l δ2 => ev hi δ2 fun h δ3 => ev (mV i) δ3 fun x δ4 => gCut l h x >>= fun z => k z δ4 := by
  simp only [ev_Sl, ev_rA, get_rb]
  refine ev_k δ fun _ => ?_
  refine ev_c δ fun l δ1 => ev_c δ1 fun h δ2 => ?_
  exact ev_k δ2 (i := i) fun d => rfl
theorem evfSlr (i : Nat) (lo hi : Om') (k : List D → Dl → Rs β) : ev (fSl (rA i) lo hi) δ k = ev (mV i) δ fun _ δ1 => ev lo δ1 fun l δ2 => ev hi δ2 fun h δ3 => ev (mV i) δ3 fun x δ4 => fCut l h x >>= fun z => k z δ4 := by
  simp only [ev_fSl, ev_rA, get_rb]
  refine ev_k δ fun _ => ?_
  refine ev_c δ fun l δ1 => ev_c δ1 fun h δ2 => ?_
  exact ev_k δ2 (i := i) fun d => rfl
theorem evoN (k : Option Int → Dl → Rs β) : ev oN δ k = k none δ := hid rfl
theorem evoS (m : Em) (k : Option Int → Dl → Rs β) : ev (oS m) δ k = ev m δ fun x δ1 => toI x >>= fun i => k (some i) δ1 := by
  unfold ev oS
  simp only [bind_as, ok_bind]
/-- operands' values -/
def evs (m : Lm) (δ : Dl) (k : List D → Dl → Rs β) : Rs β := ev m δ fun as δ1 => gets δ1 as >>= fun ds => k ds δ1
theorem evL (g : List D → Rs D) (m : Lm) (k : D → Dl → Rs β) : ev (mL g m) δ k = evs m δ fun ds δ1 => g ds >>= fun z => k z δ1 := by
  unfold evs ev mL
  simp only [bind_as, ok_bind]
theorem evs0 (k : List D → Dl → Rs β) : evs lNil δ k = k [] δ := hid rfl
theorem gets_c (a : AV) (as : List AV) (k : List D → Rs β) : (gets δ (a :: as) >>= k) = get δ a >>= fun d => gets δ as >>= fun ds => k (d :: ds) := by
  rw [gets]
  simp only [bind_as, ok_bind]
theorem evsv (m : Em) (n : Lm) (k : List D → Dl → Rs β) : evs (lCons (vA m) n) δ k = ev m δ fun x δ1 => evs n δ1 fun xs δ2 => k (x :: xs) δ2 := by
  unfold evs ev lCons vA
  simp only [bind_as, ok_bind, gets_c, get_v]
theorem get_gets (i : Nat) (as : List AV) (k : D → List D → Rs β) : (get δ (.r i) >>= fun d => gets δ as >>= fun ds => k d ds) = gets δ as >>= fun ds => ev (mV i) δ fun d _ => k d ds := by
  rw [get_rb, ev_mV]
  have g : ∀ as : List AV, ∀ c a, gets δ as ≠ .ex c a := by
    intro as c a
    induction as with
    | nil => exact nofun
    | cons b bs ih =>
      rw [gets]
      have hb : ∀ c a, get δ b ≠ .ex c a := by
        intro c a
        cases b with
        | v d => exact nofun
        | r j =>
          show (match δ[j]? with | some (some d) => Rs.ok d | _ => .no) ≠ _
          cases δ[j]? with
          | none => exact nofun
          | some x => cases x <;> exact nofun
      cases e : get δ b with
      | no => exact nofun
      | ex c a => exact absurd e (hb c a)
      | ok d =>
        rw [ok_bind]
        cases e2 : gets δ bs with
        | no => exact nofun
        | ok ds => exact nofun
        | ex c2 a2 =>
          rw [e2] at ih
          intro z
          exact ih (by cases z; rfl)
  have ev2 : ∀ ds, (ev (mV i) δ fun d _ => k d ds) = match δ[i]? with
    | some (some d) => k d ds
    | _ => .no := fun ds => ev_mV δ i _
  simp only [ev2]
  cases δ[i]? with
  | none =>
    show Rs.no = _
    cases e : gets δ as with
    | no => rfl
    | ok ds => rfl
    | ex c a => exact absurd e (g as c a)
  | some x => cases x with
    | none =>
      show Rs.no = _
      cases e : gets δ as with
      | no => rfl
      | ok ds => rfl
      | ex c a => exact absurd e (g as c a)
    | some d => rfl
theorem evsr (i : Nat) (n : Lm) (k : List D → Dl → Rs β) : evs (lCons (rA i) n) δ k = ev (mV i) δ fun _ δ1 => evs n δ1 fun xs δ2 => ev (mV i) δ2 fun x δ3 => k (x :: xs) δ3 := by
  have h : ∀ (as : List AV) (δ2 : Dl), (gets δ2 (.r i :: as) >>= fun ds => k ds δ2) = gets δ2 as >>= fun ds => ev (mV i) δ2 fun d δ3 => k (d :: ds) δ3 := fun as δ2 => by
    rw [gets_c, get_gets]
    refine bind_fx fun ds => ?_
    exact ev_k δ2 (i := i) fun d => rfl
  unfold evs
  have e : ev (lCons (rA i) n) δ (fun as δ1 => gets δ1 as >>= fun ds => k ds δ1) = ev (rA i) δ fun a δ1 => ev n δ1 fun as δ2 => gets δ2 (a :: as) >>= fun ds => k ds δ2 := by
    unfold ev lCons
    simp only [bind_as, ok_bind]
  rw [e, ev_rA]
  refine ev_k δ fun _ => ?_
  unfold ev
  refine bind_fx fun r => ?_
  exact h _ _
theorem evFl (m : Sm) (k : List D → Dl → Rs β) : ev (fLst m) δ k = ev m δ fun xs δ1 => mkL xs >>= fun d => liD d >>= fun ys => k ys δ1 := by
  unfold ev fLst mkL
  simp only [bind_as]
  refine bind_fx fun r => ?_
  by_cases h : r.1.length ≤ sizeLine
  · rw [if_pos h, if_pos h]; rfl
  · rw [if_neg h, if_neg h]; rfl
theorem liD_b (xs : List D) (k : List D → Rs β) : (liD (.list xs) >>= k) = k xs := hid rfl
theorem tuD_b (xs : List D) (k : List D → Rs β) : (tuD (.tuple xs) >>= k) = k xs := hid rfl
theorem eveF (m : Fm) (k : D → Dl → Rs β) : ev (eF m) δ k = ev m δ fun xs δ1 => k (.list xs) δ1 := by
  unfold ev eF
  simp only [bind_as, ok_bind]
def ltOne : List D → Rs (List D)
  | [d] => ltD d
  | _ => .no
theorem ltOne_b (d : D) (k : List D → Rs β) : (ltOne [d] >>= k) = ltD d >>= k := hid rfl
theorem evLst (m : Lm) (k : List D → Dl → Rs β) : ev (fList m) δ k = evs m δ fun ds δ1 => ltOne ds >>= fun xs => k xs δ1 := by
  unfold evs ev fList
  simp only [bind_as, ok_bind]
  refine bind_fx fun r => bind_fx fun ds => ?_
  match ds with
  | [] => rfl
  | [d] => cases d <;> rfl
  | a :: b :: c => cases a <;> rfl
theorem evT (m : Em) (k : Bool → Dl → Rs β) : ev (mT m) δ k = ev m δ fun d δ1 => bool d >>= fun b => k b δ1 := by
  unfold ev mT
  simp only [bind_as, ok_bind]
theorem evNot (m : Tm) (k : Bool → Dl → Rs β) : ev (mNot m) δ k = ev m δ fun b δ1 => k (!b) δ1 := by
  unfold ev mNot
  simp only [bind_as, ok_bind]
theorem evAnd (m n : Tm) (k : Bool → Dl → Rs β) : ev (mAnd m n) δ k = ev m δ fun b δ1 => if b = true then ev n δ1 k else k false δ1 := by
  unfold ev mAnd
  simp only [bind_as]
  refine bind_fx fun r => ?_
  rw [bind_ite]
  rfl
theorem evOr (m n : Tm) (k : Bool → Dl → Rs β) : ev (mOr m n) δ k = ev m δ fun b δ1 => if b = true then k true δ1 else ev n δ1 k := by
  unfold ev mOr
  simp only [bind_as]
  refine bind_fx fun r => ?_
  rw [bind_ite]
  rfl
theorem eveNot (m : Em) (k : D → Dl → Rs β) : ev (eNot m) δ k = ev m δ fun d δ1 => bool d >>= fun b => k (.bool (!b)) δ1 := by
  unfold ev eNot
  simp only [bind_as, ok_bind]
theorem eveAnd (m n : Em) (k : D → Dl → Rs β) : ev (eAnd m n) δ k = ev m δ fun d δ1 => bool d >>= fun b => if b = true then ev n δ1 k else k (.bool false) δ1 := by
  unfold ev eAnd
  simp only [bind_as]
  refine bind_fx fun r => bind_fx fun b => ?_
  rw [bind_ite]
  rfl
theorem eveOr (m n : Em) (k : D → Dl → Rs β) : ev (eOr m n) δ k = ev m δ fun d δ1 => bool d >>= fun b => if b = true then k (.bool true) δ1 else ev n δ1 k := by
  unfold ev eOr
  simp only [bind_as]
  refine bind_fx fun r => bind_fx fun b => ?_
  rw [bind_ite]
  rfl
theorem evmIf (t : Tm) (m n : Em) (k : D → Dl → Rs β) : ev (mIf t m n) δ k = ev t δ fun b δ1 => if b = true then ev m δ1 k else ev n δ1 k := by
  unfold ev mIf
  simp only [bind_as]
  refine bind_fx fun r => ?_
  rw [bind_ite]
theorem evCh (g g' : D → D → Rs D) (ma mb mc : Em) (k : D → Dl → Rs β) : ev (mCh g g' ma mb mc) δ k = ev ma δ fun x δ1 => ev mb δ1 fun y δ2 => g x y >>= fun z => bool z >>= fun b => if b = true then ev mc δ2 fun w δ3 => g' y w >>= fun v => k v δ3 else k (.bool false) δ2 := by
  unfold ev mCh
  simp only [bind_as]
  refine bind_fx fun r => bind_fx fun q => bind_fx fun z => bind_fx fun b => ?_
  rw [bind_ite]
  simp only [bind_as, ok_bind]
theorem evS0 (k : List D → Dl → Rs β) : ev sNil δ k = k [] δ := hid rfl
theorem evSC (m : Em) (n : Sm) (k : List D → Dl → Rs β) : ev (sCons m n) δ k = ev m δ fun x δ1 => ev n δ1 fun xs δ2 => k (x :: xs) δ2 := by
  unfold ev sCons
  simp only [bind_as, ok_bind]
theorem evSS (m : Em) (n : Sm) (k : List D → Dl → Rs β) : ev (sStar m n) δ k = ev m δ fun x δ1 => ltD x >>= fun ys => ev n δ1 fun xs δ2 => k (ys ++ xs) δ2 := by
  unfold ev sStar
  simp only [bind_as, ok_bind]
  refine bind_fx fun r => ?_
  cases r.1 <;> rfl
theorem evTup (m : Sm) (k : D → Dl → Rs β) : ev (mTup m) δ k = ev m δ fun xs δ1 => mkT xs >>= fun d => k d δ1 := by
  unfold ev mTup mkT
  simp only [bind_as]
  refine bind_fx fun r => ?_
  by_cases h : r.1.length ≤ sizeLine
  · rw [if_pos h, if_pos h]; rfl
  · rw [if_neg h, if_neg h]; rfl
theorem evCall (F : List D → Rs D) (m : Sm) (k : D → Dl → Rs β) : ev (mCall F m) δ k = ev m δ fun xs δ1 => F xs >>= fun d => k d δ1 := by
  unfold ev mCall
  simp only [bind_as, ok_bind]
theorem evCallK (js : List Nat) (F : List D → Rs D) (m n : Sm) (k : D → Dl → Rs β) : ev (mCallK js F m n) δ k = ev m δ fun xs δ1 => ev n δ1 fun ys δ2 => F (pick js (xs ++ ys)) >>= fun d => k d δ2 := by
  unfold ev mCallK
  simp only [bind_as, ok_bind]
theorem put_at {δ : Dl} {i : Nat} {o : Option D} (h : δ[i]? = some o) (d : D) (k : Dl → Rs β) : pt δ i d k = k (δ.set i (some d)) := by
  unfold pt put
  rw [if_pos (List.getElem?_eq_some_iff.mp h).1]
  rfl
theorem evCallM (i : Nat) (F : List D → Rs (D × D)) (m : Sm) (k : D → Dl → Rs β) : ev (mCallM i F m) δ k = ev (mV i) δ fun _ δ1 => ev m δ1 fun xs δ2 => ev (mV i) δ2 fun d0 δ3 => F (d0 :: xs) >>= fun q => pt δ3 i q.2 fun δ4 => k q.1 δ4 := by
  rw [ev_mV]
  unfold mCallM
  rw [show ∀ f : Dl → Rs (D × Dl), ev f δ k = f δ >>= fun r => k r.1 r.2 from fun _ => rfl]
  cases e : δ[i]? with
  | none => rfl
  | some x => cases x with
    | none => rfl
    | some d =>
      show ((m δ >>= _) >>= _) = (m δ >>= _)
      rw [bind_as]
      refine bind_fx fun r => ?_
      show _ = ev (mV i) r.2 _
      rw [ev_mV]
      cases e2 : r.2[i]? with
      | none => rfl
      | some x => cases x with
        | none => rfl
        | some d0 =>
          show ((F (d0 :: r.1) >>= _) >>= _) = (F (d0 :: r.1) >>= _)
          rw [bind_as]
          refine bind_fx fun q => ?_
          rw [put_at e2]
          rfl
theorem listAt_n (δ : Dl) (i : Nat) (k : List D → Rs β) : (listAt δ i >>= k) = ev (mV i) δ fun d _ => liD d >>= k := by
  rw [ev_mV]
  unfold listAt
  cases δ[i]? with
  | none => rfl
  | some o => cases o with
    | none => rfl
    | some d => cases d <;> rfl
theorem evApp (i : Nat) (m : Em) (k : D → Dl → Rs β) : ev (mApp i m) δ k = ev (mV i) δ fun l δ1 => liD l >>= fun _ => ev m δ1 fun x δ2 => ev (mV i) δ2 fun l2 δ3 => appR l2 x >>= fun l3 => pt δ3 i l3 fun δ4 => k .none δ4 := by
  rw [show ∀ f : Dl → Rs (D × Dl), ev f δ k = f δ >>= fun r => k r.1 r.2 from fun _ => rfl]
  unfold mApp
  rw [listAt_n, ev_mV, ev_mV]
  cases e : δ[i]? with
  | none => rfl
  | some x => cases x with
    | none => rfl
    | some l =>
      show ((liD l >>= _) >>= _) = (liD l >>= _)
      rw [bind_as]
      refine bind_fx fun _ => ?_
      rw [bind_as]
      refine bind_fx (x := m δ) fun r => ?_
      rw [listAt_n]
      show _ = ev (mV i) r.2 _
      rw [ev_mV, ev_mV]
      cases e2 : r.2[i]? with
      | none => rfl
      | some x => cases x with
        | none => rfl
        | some l2 =>
          show ((liD l2 >>= _) >>= _) = (appR l2 r.1 >>= _)
          unfold appR
          rw [bind_as, bind_as]
          refine bind_fx fun xs => ?_
          rw [bind_ite, bind_ite]
          congr 1
          rw [okb, okb, put_at e2]
theorem evPop (i : Nat) (k : D → Dl → Rs β) : ev (mPop i) δ k = ev (mV i) δ fun l δ1 => popR l >>= fun z => pt δ1 i z.2 fun δ2 => k z.1 δ2 := by
  rw [show ∀ f : Dl → Rs (D × Dl), ev f δ k = f δ >>= fun r => k r.1 r.2 from fun _ => rfl]
  unfold mPop
  rw [listAt_n, ev_mV, ev_mV]
  cases e : δ[i]? with
  | none => rfl
  | some x => cases x with
    | none => rfl
    | some l =>
      show ((liD l >>= _) >>= _) = (popR l >>= _)
      unfold popR
      rw [bind_as, bind_as]
      refine bind_fx fun xs => ?_
      rw [bind_as, bind_as]
      refine bind_fx fun z => ?_
      rw [okb, okb, put_at e]
theorem evPopAt (i : Nat) (m : Em) (k : D → Dl → Rs β) : ev (mPopAt i m) δ k = ev (mV i) δ fun l δ1 => liD l >>= fun _ => ev m δ1 fun x δ2 => ev (mV i) δ2 fun l2 δ3 => popAtR l2 x >>= fun z => pt δ3 i z.2 fun δ4 => k z.1 δ4 := by
  rw [show ∀ f : Dl → Rs (D × Dl), ev f δ k = f δ >>= fun r => k r.1 r.2 from fun _ => rfl]
  unfold mPopAt
  rw [listAt_n, ev_mV, ev_mV]
  cases e : δ[i]? with
  | none => rfl
  | some x => cases x with
    | none => rfl
    | some l =>
      show ((liD l >>= _) >>= _) = (liD l >>= _)
      rw [bind_as]
      refine bind_fx fun _ => ?_
      rw [bind_as]
      refine bind_fx (x := m δ) fun r => ?_
      rw [listAt_n]
      show _ = ev (mV i) r.2 _
      rw [ev_mV, ev_mV]
      cases e2 : r.2[i]? with
      | none => rfl
      | some x => cases x with
        | none => rfl
        | some l2 =>
          show ((liD l2 >>= _) >>= _) = (popAtR l2 r.1 >>= _)
          unfold popAtR
          rw [bind_as, bind_as]
          refine bind_fx fun xs => ?_
          rw [bind_as, bind_as]
          refine bind_fx fun j => ?_
          rw [bind_ite, bind_ite]
          congr 1
          rw [bind_as, bind_as]
          refine bind_fx fun z => ?_
          rw [okb, okb, put_at e2]
theorem evSeq (m : Em) (k : List D → Dl → Rs β) : ev (wSeq m) δ k = ev m δ fun x δ1 => seqOf x >>= fun xs => k xs δ1 := by
  unfold ev wSeq
  simp only [bind_as, ok_bind]
theorem evRng (m : Em) (k : List D → Dl → Rs β) : ev (wRng (sCons m sNil)) δ k = ev m δ fun x δ1 => rngR x >>= fun xs => k xs δ1 := by
  unfold ev wRng sCons sNil
  simp only [bind_as, ok_bind]
  refine bind_fx fun r => ?_
  cases r.1 with
  | int j =>
    show ((if _ then _ else _) >>= _) = ((if _ then _ else _) >>= _)
    rw [bind_ite, bind_ite]
    rfl
  | _ => rfl
theorem evZip (m n : Em) (k : List D → Dl → Rs β) : ev (wZip (sCons m (sCons n sNil))) δ k = ev m δ fun x δ1 => ev n δ1 fun y δ2 => zipR x y >>= fun xs => k xs δ2 := by
  unfold ev wZip sCons sNil
  simp only [bind_as, ok_bind]
  refine bind_fx fun r => bind_fx fun q => ?_
  cases r.1 <;> (try rfl) <;> cases q.1 <;> rfl
/-! targets -/
def tg (t : Tg) (d : D) (δ : Dl) (k : Dl → Rs β) : Rs β := t d δ >>= k
theorem tgN (i : Nat) (d : D) (k : Dl → Rs β) : tg (gN i) d δ k = pt δ i d k := hid rfl
theorem gT_no {n : Nat} {t : Tgs} {ds : List D} (h : ds.length ≠ n) : gT n t (.tuple ds) δ = .no := if_neg h
theorem tgT2 (t u : Tg) (d : D) (k : Dl → Rs β) : tg (gT 2 (gC t (gC u gE))) d δ k = un2 d >>= fun z => tg t z.1 δ fun δ1 => tg u z.2 δ1 k := by
  cases d with
  | tuple ds =>
    match ds with
    | [] => rfl
    | [a] => rfl
    | [a, b] =>
      show ((t a δ >>= fun δ1 => (u b δ1 >>= fun δ2 => gE [] δ2)) >>= k) = (t a δ >>= fun δ1 => u b δ1 >>= k)
      rw [bind_as]
      refine bind_fx fun δ1 => ?_
      rw [bind_as]
      rfl
    | a :: b :: c :: ds =>
      unfold tg
      rw [gT_no δ (show (a :: b :: c :: ds).length ≠ 2 by simp)]
      rfl
  | _ => rfl
theorem tgT3 (t u v : Tg) (d : D) (k : Dl → Rs β) : tg (gT 3 (gC t (gC u (gC v gE)))) d δ k = un3 d >>= fun z => tg t z.1 δ fun δ1 => tg u z.2.1 δ1 fun δ2 => tg v z.2.2 δ2 k := by
  cases d with
  | tuple ds =>
    match ds with
    | [] => rfl
    | [a] => rfl
    | [a, b] => rfl
    | [a, b, c] =>
      show ((t a δ >>= fun δ1 => (u b δ1 >>= fun δ2 => (v c δ2 >>= fun δ3 => gE [] δ3))) >>= k) = (t a δ >>= fun δ1 => u b δ1 >>= fun δ2 => v c δ2 >>= k)
      rw [bind_as]
      refine bind_fx fun δ1 => ?_
      rw [bind_as]
      refine bind_fx fun δ2 => ?_
      rw [bind_as]
      rfl
    | a :: b :: c :: e :: ds =>
      unfold tg
      rw [gT_no δ (show (a :: b :: c :: e :: ds).length ≠ 3 by simp)]
      rfl
  | _ => rfl
/-! statements -/
def kS (n : Pm) (k : Fl → Dl → Rs β) : Fl → Dl → Rs β
  | .nx, δ => ev n δ k
  | .rt d, δ => k (.rt d) δ
  | .bk, δ => k .bk δ
  | .ct, δ => k .ct δ
variable (k : Fl → Dl → Rs β)
theorem kS_nx (n : Pm) : kS n k .nx δ = ev n δ k := hid rfl
theorem kS_rt (n : Pm) (d : D) : kS n k (.rt d) δ = k (.rt d) δ := hid rfl
theorem kS_bk (n : Pm) : kS n k .bk δ = k .bk δ := hid rfl
theorem kS_ct (n : Pm) : kS n k .ct δ = k .ct δ := hid rfl
theorem evPS (m n : Pm) : ev (pSeq m n) δ k = ev m δ (kS n k) := by
  unfold ev pSeq
  rw [bind_as]
  refine bind_fx fun r => ?_
  cases r.1 <;> rfl
theorem evPn : ev pNil δ k = k .nx δ := hid rfl
theorem evPb : ev pBk δ k = k .bk δ := hid rfl
theorem evPc : ev pCt δ k = k .ct δ := hid rfl
theorem evPif (t : Tm) (m n : Pm) : ev (pIf t m n) δ k = ev t δ fun b δ1 => if b = true then ev m δ1 k else ev n δ1 k := by
  unfold ev pIf
  rw [bind_as]
  refine bind_fx fun r => ?_
  rw [bind_ite]
theorem evPr (m : Em) : ev (pRet m) δ k = ev m δ fun d δ1 => k (.rt d) δ1 := by
  unfold ev pRet
  simp only [bind_as, ok_bind]
theorem evPset (i : Nat) (m : Em) : ev (pSet i m) δ k = ev m δ fun d δ1 => pt δ1 i d fun δ2 => k .nx δ2 := by
  unfold ev pSet pt
  simp only [bind_as, ok_bind]
theorem evPas (t : Tg) (m : Em) : ev (pAs t m) δ k = ev m δ fun d δ1 => tg t d δ1 fun δ2 => k .nx δ2 := by
  unfold ev pAs tg
  simp only [bind_as, ok_bind]
theorem evPex (m : Em) : ev (pEx m) δ k = ev m δ fun _ δ1 => k .nx δ1 := by
  unfold ev pEx
  simp only [bind_as, ok_bind]
def hd2 : List D → Rs (D × D)
  | [a, b] => .ok (a, b)
  | _ => .no
def hd3 : List D → Rs (D × D × D)
  | [a, b, c] => .ok (a, b, c)
  | _ => .no
theorem hd2_b {γ : Type} (a b : D) (f : D × D → Rs γ) : (hd2 [a, b] >>= f) = f (a, b) := hid rfl
theorem hd3_b {γ : Type} (a b c : D) (f : D × D × D → Rs γ) : (hd3 [a, b, c] >>= f) = f (a, b, c) := hid rfl
theorem evPpar (i j : Nat) (m : Sm) : ev (pPar i j m) δ k = ev m δ fun xs δ1 => hd2 xs >>= fun z => pt δ1 i z.1 fun δ2 => pt δ2 j z.2 fun δ3 => k .nx δ3 := by
  unfold ev pPar pt
  rw [bind_as]
  refine bind_fx fun r => ?_
  match h : r.1 with
  | [] => rfl
  | [a] => rfl
  | [a, b] => simp only [hd2, bind_as, ok_bind]
  | a :: b :: c :: ds => rfl
theorem evPpar3 (i j l : Nat) (m : Sm) : ev (pPar3 i j l m) δ k = ev m δ fun xs δ1 => hd3 xs >>= fun z => pt δ1 i z.1 fun δ2 => pt δ2 j z.2.1 fun δ3 => pt δ3 l z.2.2 fun δ4 => k .nx δ4 := by
  unfold ev pPar3 pt
  rw [bind_as]
  refine bind_fx fun r => ?_
  match h : r.1 with
  | [] => rfl
  | [a] => rfl
  | [a, b] => rfl
  | [a, b, c] => simp only [hd3, bind_as, ok_bind]
  | a :: b :: c :: e :: ds => rfl
theorem evPinc (i : Nat) (m : Em) : ev (pInc i m) δ k = ev (mV i) δ fun d δ0 => ev m δ0 fun x δ1 => incR d x >>= fun z => pt δ1 i z fun δ2 => k .nx δ2 := by
  rw [show ∀ f : Dl → Rs (Fl × Dl), ev f δ k = f δ >>= fun r => k r.1 r.2 from fun _ => rfl]
  unfold pInc
  rw [get_rb, ev_mV, ev_mV]
  cases δ[i]? with
  | none => rfl
  | some x => cases x with
    | none => rfl
    | some d =>
      show ((m δ >>= _) >>= _) = (m δ >>= _)
      unfold incR pt
      simp only [bind_as, ok_bind]
theorem evPsto (i : Nat) (m l : Em) : ev (pStore i m l) δ k = ev m δ fun x δ1 => ev (mV i) δ1 fun l0 δ2 => liD l0 >>= fun _ => ev l δ2 fun j δ3 => ev (mV i) δ3 fun l1 δ4 => stoR l1 j x >>= fun z => pt δ4 i z fun δ5 => k .nx δ5 := by
  rw [show ∀ f : Dl → Rs (Fl × Dl), ev f δ k = f δ >>= fun r => k r.1 r.2 from fun _ => rfl]
  unfold pStore
  rw [bind_as]
  show _ = (m δ >>= _)
  refine bind_fx fun r => ?_
  show _ = ev (mV i) r.2 _
  rw [listAt_n, ev_mV, ev_mV]
  cases e : r.2[i]? with
  | none => rfl
  | some x => cases x with
    | none => rfl
    | some l0 =>
      show ((liD l0 >>= _) >>= _) = (liD l0 >>= _)
      rw [bind_as]
      refine bind_fx fun _ => ?_
      rw [bind_as]
      show _ = (l r.2 >>= _)
      refine bind_fx fun q => ?_
      show _ = ev (mV i) q.2 _
      rw [listAt_n, ev_mV, ev_mV]
      cases e2 : q.2[i]? with
      | none => rfl
      | some x => cases x with
        | none => rfl
        | some l1 =>
          show ((liD l1 >>= _) >>= _) = (stoR l1 q.1 r.1 >>= _)
          unfold stoR
          rw [bind_as, bind_as]
          refine bind_fx fun xs => ?_
          rw [bind_as, bind_as]
          refine bind_fx fun j => ?_
          rw [bind_as, bind_as]
          refine bind_fx fun n => ?_
          rw [okb, okb, put_at e2]
def lpF (t : Tg) (m : Pm) (xs : List D) (δ : Dl) (k : Fl → Dl → Rs β) : Rs β := ev (loopF t m xs) δ k
theorem evFor (w : Sm) (t : Tg) (m : Pm) : ev (pFor w t m) δ k = ev w δ fun xs δ1 => lpF t m xs δ1 k := by
  unfold lpF ev pFor
  rw [bind_as]
def cpF (vs : List Nat) (t : Tg) (c : Tm) (e : Em) (xs : List D) (δ : Dl) (k : List D → Dl → Rs β) : Rs β := (if xs.length ≤ sizeLine then nox (compF vs t c e xs δ) else .no) >>= fun r => k r.1 r.2
theorem evComp (vs : List Nat) (w : Sm) (t : Tg) (c : Tm) (e : Em) (k : List D → Dl → Rs β) : ev (fComp vs w t c e) δ k = ev w δ fun xs δ1 => cpF vs t c e xs δ1 k := by
  unfold cpF ev fComp
  rw [bind_as]
theorem evY (k : Bool → Dl → Rs β) : ev tmY δ k = k true δ := hid rfl
end
def kP (s : Sh) : Fl → Dl → Rs D := fun f _ => flo s f
def kM (s : Sh) : Fl → Dl → Rs (D × D) := fun f δ => flo s f >>= fun d => ev (mV 0) δ fun d0 _ => .ok (d, d0)
theorem kP_rt (s : Sh) (d : D) (δ : Dl) : kP s (.rt d) δ = .ok d := hid rfl
theorem kP_nx (δ : Dl) : kP .im .nx δ = .ok .none := hid rfl
theorem kM_rt (s : Sh) (d : D) (δ : Dl) : kM s (.rt d) δ = ev (mV 0) δ fun d0 _ => .ok (d, d0) := hid rfl
theorem kM_nx (δ : Dl) : kM .im .nx δ = ev (mV 0) δ fun d0 _ => .ok (.none, d0) := hid rfl
theorem runP_ev {s : Sh} {N : Nat} {m : Pm} {ds : List D} {δ : Dl} (h : ds.map some ++ List.replicate (N - ds.length) none = δ) : runP s N m ds = ev m δ (kP s) := by subst h; rfl
theorem runM_ev {s : Sh} {N : Nat} {m : Pm} {ds : List D} {δ : Dl} (h : ds.map some ++ List.replicate (N - ds.length) none = δ) : runM s N m ds = ev m δ (kM s) := by
  subst h
  unfold runM ev kM
  refine bind_fx fun r => bind_fx fun d => ?_
  show _ = ev (mV 0) r.2 _
  rw [ev_mV]
  cases r.2[0]? with
  | none => rfl
  | some x => cases x <;> rfl
/-! ### loops -/
inductive Lp (σ : Type) where
  | nx (s : σ)
  | bk (s : σ)
  | rt (d : D) (s : σ)
def lpK {σ β : Type} (r : Lp σ) (f : σ → Rs β) (g : D → σ → Rs β) : Rs β := match r with
  | .nx s => f s
  | .bk s => f s
  | .rt d s => g d s
theorem lpK_nx {σ β : Type} (s : σ) (f : σ → Rs β) (g : D → σ → Rs β) : lpK (.nx s) f g = f s := hid rfl
theorem lpK_bk {σ β : Type} (s : σ) (f : σ → Rs β) (g : D → σ → Rs β) : lpK (.bk s) f g = f s := hid rfl
theorem lpK_rt {σ β : Type} (d : D) (s : σ) (f : σ → Rs β) (g : D → σ → Rs β) : lpK (.rt d s) f g = g d s := hid rfl
def forS {σ : Type} (b : D → σ → Rs σ) : List D → σ → Rs σ
  | [], s => .ok s
  | d :: ds, s => b d s >>= fun s' => forS b ds s'
def forL {σ : Type} (b : D → σ → Rs (Lp σ)) : List D → σ → Rs (Lp σ)
  | [], s => .ok (.nx s)
  | d :: ds, s => b d s >>= fun r => match r with
    | .nx s' => forL b ds s'
    | .bk s' => .ok (.nx s')
    | .rt v s' => .ok (.rt v s')
def outL {σ : Type} (enc : σ → Dl) : Lp σ → Rs (Fl × Dl)
  | .nx s => .ok (.nx, enc s)
  | .bk s => .ok (.bk, enc s)
  | .rt d s => .ok (.rt d, enc s)
theorem outL_nx {σ : Type} (enc : σ → Dl) (s : σ) : outL enc (.nx s) = .ok (.nx, enc s) := hid rfl
theorem outL_bk {σ : Type} (enc : σ → Dl) (s : σ) : outL enc (.bk s) = .ok (.bk, enc s) := hid rfl
theorem outL_rt {σ : Type} (enc : σ → Dl) (d : D) (s : σ) : outL enc (.rt d s) = .ok (.rt d, enc s) := hid rfl
/-- `continue` goes on -/
def kC (f : Fl) (δ : Dl) : Rs (Fl × Dl) := match f with
  | .ct => .ok (.nx, δ)
  | f => .ok (f, δ)
theorem kC_nx (δ : Dl) : kC .nx δ = .ok (.nx, δ) := hid rfl
theorem kC_ct (δ : Dl) : kC .ct δ = .ok (.nx, δ) := hid rfl
theorem kC_bk (δ : Dl) : kC .bk δ = .ok (.bk, δ) := hid rfl
theorem kC_rt (d : D) (δ : Dl) : kC (.rt d) δ = .ok (.rt d, δ) := hid rfl
theorem loop_e (t : Tg) (m : Pm) (d : D) (xs : List D) (δ : Dl) : loopF t m (d :: xs) δ = (tg t d δ fun δ1 => ev m δ1 kC) >>= fun q => match q.1 with
      | .nx => loopF t m xs q.2
      | .ct => loopF t m xs q.2
      | .bk => .ok (.nx, q.2)
      | .rt d => .ok (.rt d, q.2) := by
  unfold tg ev
  rw [bind_as]
  show (t d δ >>= _) = _
  refine bind_fx fun δ1 => ?_
  rw [bind_as]
  refine bind_fx fun q => ?_
  obtain ⟨f, δ2⟩ := q
  cases f <;> rfl
theorem loopS' {σ : Type} {t : Tg} {m : Pm} {b : D → σ → Rs σ} (enc : σ → Dl) (h : ∀ d s, (tg t d (enc s) fun δ => ev m δ kC) = b d s >>= fun s' => .ok (.nx, enc s')) : ∀ xs s, loopF t m xs (enc s) = forS b xs s >>= fun s' => .ok (.nx, enc s')
  | [], s => rfl
  | d :: xs, s => by
    have ih := loopS' enc h xs
    rw [loop_e, h, forS, bind_as, bind_as]
    refine bind_fx fun s' => ?_
    exact ih s'
theorem loopS {β σ : Type} {t : Tg} {m : Pm} {b : D → σ → Rs σ} (enc : σ → Dl) (h : ∀ d s, (tg t d (enc s) fun δ => ev m δ kC) = b d s >>= fun s' => .ok (.nx, enc s')) (xs : List D) (s : σ) (k : Fl → Dl → Rs β) : lpF t m xs (enc s) k = forS b xs s >>= fun s' => k .nx (enc s') := by
  unfold lpF ev
  rw [loopS' enc h, bind_as]
  rfl
theorem loopL' {σ : Type} {t : Tg} {m : Pm} {b : D → σ → Rs (Lp σ)} (enc : σ → Dl) (h : ∀ d s, (tg t d (enc s) fun δ => ev m δ kC) = b d s >>= outL enc) : ∀ xs s, loopF t m xs (enc s) = forL b xs s >>= fun r => lpK r (fun s => .ok (.nx, enc s)) (fun d s => .ok (.rt d, enc s))
  | [], s => rfl
  | d :: xs, s => by
    have ih := loopL' enc h xs
    rw [loop_e, h, forL, bind_as, bind_as]
    refine bind_fx fun r => ?_
    cases r with
    | nx s' => exact ih s'
    | bk s' => rfl
    | rt v s' => rfl
theorem loopL {β σ : Type} {t : Tg} {m : Pm} {b : D → σ → Rs (Lp σ)} (enc : σ → Dl) (h : ∀ d s, (tg t d (enc s) fun δ => ev m δ kC) = b d s >>= outL enc) (xs : List D) (s : σ) (k : Fl → Dl → Rs β) : lpF t m xs (enc s) k = forL b xs s >>= fun r => lpK r (fun s => k .nx (enc s)) (fun d s => k (.rt d) (enc s)) := by
  unfold lpF ev
  rw [loopL' enc h, bind_as]
  refine bind_fx fun r => ?_
  cases r <;> rfl
/-! ### while -/
def whW {σ : Type} (t : σ → Rs Bool) (b : σ → Rs (Lp σ)) : Nat → σ → Rs (Lp σ)
  | 0, _ => .no
  | n + 1, s => t s >>= fun c => if c = true then b s >>= fun r => match r with
    | .nx s' => whW t b n s'
    | .bk s' => .ok (.nx s')
    | .rt v s' => .ok (.rt v s')
  else .ok (.nx s)
theorem whW_up {σ : Type} {t : σ → Rs Bool} {b : σ → Rs (Lp σ)} : ∀ (n : Nat) (s : σ), whW t b n s ≠ .no → ∀ k, whW t b (n + k) s = whW t b n s
  | 0, _, h, _ => absurd rfl h
  | n + 1, s, h, k => by
    rw [show n + 1 + k = (n + k) + 1 by omega]
    unfold whW at h ⊢
    cases e : t s with
    | no => rfl
    | ex c a => rfl
    | ok c =>
      rw [e] at h
      cases c with
      | false => rfl
      | true =>
        simp only [ok_bind, if_pos_t] at h ⊢
        cases e2 : b s with
        | no => rfl
        | ex c a => rfl
        | ok r =>
          rw [e2] at h
          cases r with
          | nx s' => exact whW_up n s' h k
          | bk s' => rfl
          | rt v s' => rfl
open Classical in
noncomputable def whA {σ : Type} (t : σ → Rs Bool) (b : σ → Rs (Lp σ)) (s : σ) : Rs (Lp σ) := if h : ∃ n, whW t b n s ≠ .no then whW t b (choose h) s else .no
theorem whA_of {σ : Type} {t : σ → Rs Bool} {b : σ → Rs (Lp σ)} {n : Nat} {s : σ} (h : whW t b n s ≠ .no) : whA t b s = whW t b n s := by
  have hx : ∃ n, whW t b n s ≠ .no := ⟨n, h⟩
  unfold whA
  rw [dif_pos hx]
  have h2 := Classical.choose_spec hx
  have a1 := whW_up _ s h2 n
  have a2 := whW_up _ s h (Classical.choose hx)
  rw [← a1, ← a2, Nat.add_comm]
def outE {σ : Type} (enc : σ → Dl) (r : Lp σ) : Rs (Fl × Dl) := lpK r (fun s => .ok (.nx, enc s)) fun d s => .ok (.rt d, enc s)
theorem outE_no {σ : Type} {enc : σ → Dl} {x : Rs (Lp σ)} (h : (x >>= outE enc) = .no) : x = .no := by
  cases x with
  | no => rfl
  | ex c a => exact nomatch h
  | ok r => cases r <;> exact nomatch h
theorem loopWh {β σ : Type} {t : Tm} {m : Pm} {T : σ → Rs Bool} {b : σ → Rs (Lp σ)} (enc : σ → Dl) (ht : ∀ s, ev t (enc s) (fun b δ => Rs.ok (b, δ)) = T s >>= fun c => .ok (c, enc s)) (hb : ∀ s, ev m (enc s) kC = b s >>= outL enc) (s : σ) (k : Fl → Dl → Rs β) :
    ev (loopA t m) (enc s) k = whA T b s >>= fun r => lpK r (fun s => k .nx (enc s)) (fun d s => k (.rt d) (enc s)) := by
  have ht' : ∀ s, t (enc s) = T s >>= fun c => .ok (c, enc s) := fun s => (bind_ret (t (enc s))).symm.trans (ht s)
  have e : ∀ n s, loopW t m n (enc s) = whW T b n s >>= outE enc := by
    intro n
    induction n with
    | zero => intro s; rfl
    | succ n ih =>
      intro s
      have e1 : loopW t m (n + 1) (enc s) = t (enc s) >>= fun r => if r.1 = true then ev m r.2 kC >>= fun q => (match q.1 with
        | .nx => loopW t m n q.2
        | .ct => loopW t m n q.2
        | .bk => .ok (.nx, q.2)
        | .rt d => .ok (.rt d, q.2)) else .ok (.nx, r.2) := by
        show (t (enc s) >>= _) = _
        refine bind_fx fun r => ?_
        congr 1
        unfold ev
        rw [bind_as]
        refine bind_fx fun q => ?_
        obtain ⟨f, δ2⟩ := q
        cases f <;> rfl
      rw [e1, ht', bind_as, whW, bind_as]
      refine bind_fx fun c => ?_
      rw [ok_bind, bind_ite]
      congr 1
      show (ev m (enc s) kC >>= _) = _
      rw [hb, bind_as, bind_as]
      refine bind_fx fun r => ?_
      cases r with
      | nx s' => exact ih s'
      | bk s' => rfl
      | rt v s' => rfl
  have w : loopA t m (enc s) = whA T b s >>= outE enc := by
    by_cases h : ∃ n, whW T b n s ≠ .no
    · obtain ⟨n, h⟩ := h
      rw [whA_of h, ← e, loopA_of]
      rw [e]
      exact fun q => h (outE_no q)
    · have h' : ¬ ∃ n, loopW t m n (enc s) ≠ .no := fun ⟨n, q⟩ => h ⟨n, fun z => q (by rw [e, z]; rfl)⟩
      unfold loopA whA
      rw [dif_neg h, dif_neg h']
      rfl
  rw [show ∀ f : Dl → Rs (Fl × Dl), ev f (enc s) k = f (enc s) >>= fun r => k r.1 r.2 from fun _ => rfl, w, bind_as]
  refine bind_fx fun r => ?_
  cases r <;> rfl
/-! ### comprehensions -/
def compT {τ : Type} (t : D → Rs τ) (c : τ → Rs Bool) (e : τ → Rs D) : List D → Rs (List D)
  | [] => .ok []
  | d :: ds => t d >>= fun z => c z >>= fun b => if b = true then e z >>= fun x => compT t c e ds >>= fun xs => .ok (x :: xs) else compT t c e ds
/-- .. that changes something -/
def compU {τ σ : Type} (t : D → Rs τ) (c : τ → σ → Rs (Bool × σ)) (e : τ → σ → Rs (D × σ)) : List D → σ → Rs (List D × σ)
  | [], s => .ok ([], s)
  | d :: ds, s => t d >>= fun z => c z s >>= fun b => if b.1 = true then e z b.2 >>= fun x => compU t c e ds x.2 >>= fun xs => .ok (x.1 :: xs.1, xs.2) else compU t c e ds b.2
def lenR {α : Type} (xs : List D) (r : Rs α) : Rs α := if xs.length ≤ sizeLine then nox r else .no
theorem nox_bind {α β : Type} (x : Rs α) (f : α → β) : nox (x >>= fun a => Rs.ok (f a)) = nox x >>= fun a => .ok (f a) := by cases x <;> rfl
theorem comp_e (vs : List Nat) (t : Tg) (c : Tm) (e : Em) (d : D) (xs : List D) (δ : Dl) : compF vs t c e (d :: xs) δ = tg t d (wipeD δ vs) fun δ1 => ev c δ1 fun b δ2 => if b = true then ev e δ2 fun x δ3 => compF vs t c e xs (back δ δ3 vs) >>= fun z => .ok (x :: z.1, z.2)
    else compF vs t c e xs (back δ δ2 vs) := rfl
theorem compF_T {τ : Type} {vs : List Nat} {t : Tg} {c : Tm} {e : Em} {T : D → Rs τ} {C : τ → Rs Bool} {E : τ → Rs D} {δ : Dl} {ε : τ → Dl} (ht : ∀ d, (tg t d (wipeD δ vs) fun δ1 => Rs.ok δ1) = T d >>= fun z => .ok (ε z))
    (hc : ∀ z, (ev c (ε z) fun b δ1 => Rs.ok (b, δ1)) = C z >>= fun b => .ok (b, ε z)) (he : ∀ z, (ev e (ε z) fun x δ1 => Rs.ok (x, δ1)) = E z >>= fun x => .ok (x, ε z)) (hb : ∀ z, back δ (ε z) vs = δ) : ∀ xs, compF vs t c e xs δ = compT T C E xs >>= fun ys => .ok (ys, δ)
  | [] => rfl
  | d :: xs => by
    have ih := compF_T ht hc he hb xs
    have ht' : t d (wipeD δ vs) = T d >>= fun z => .ok (ε z) := (bind_ret _).symm.trans (ht d)
    have hc' : ∀ z, c (ε z) = C z >>= fun b => .ok (b, ε z) := fun z => (bind_ret (c (ε z))).symm.trans (hc z)
    have he' : ∀ z, e (ε z) = E z >>= fun x => .ok (x, ε z) := fun z => (bind_ret (e (ε z))).symm.trans (he z)
    rw [comp_e, compT]
    unfold tg ev
    rw [ht', bind_as, bind_as]
    refine bind_fx fun z => ?_
    rw [ok_bind, hc', bind_as, bind_as]
    refine bind_fx fun b => ?_
    rw [ok_bind, bind_ite]
    cases b with
    | false => simp only [if_false_b]; rw [hb]; exact ih
    | true =>
      simp only [if_pos_t]
      rw [he']
      simp only [bind_as, ok_bind, hb, ih]
theorem compF_U {τ σ : Type} {vs : List Nat} {t : Tg} {c : Tm} {e : Em} {T : D → Rs τ} {C : τ → σ → Rs (Bool × σ)} {E : τ → σ → Rs (D × σ)} {δ : σ → Dl} {ε : τ → σ → Dl} (ht : ∀ d s, (tg t d (wipeD (δ s) vs) fun δ1 => Rs.ok δ1) = T d >>= fun z => .ok (ε z s))
    (hc : ∀ z s, (ev c (ε z s) fun b δ1 => Rs.ok (b, δ1)) = C z s >>= fun b => .ok (b.1, ε z b.2)) (he : ∀ z s, (ev e (ε z s) fun x δ1 => Rs.ok (x, δ1)) = E z s >>= fun x => .ok (x.1, ε z x.2)) (hb : ∀ z s s', back (δ s) (ε z s') vs = δ s') : ∀ xs s, compF vs t c e xs (δ s) = compU T C E xs s >>= fun ys => .ok (ys.1, δ ys.2)
  | [], s => rfl
  | d :: xs, s => by
    have ih := compF_U ht hc he hb xs
    have ht' : t d (wipeD (δ s) vs) = T d >>= fun z => .ok (ε z s) := (bind_ret _).symm.trans (ht d s)
    have hc' : ∀ z s, c (ε z s) = C z s >>= fun b => .ok (b.1, ε z b.2) := fun z s => (bind_ret (c (ε z s))).symm.trans (hc z s)
    have he' : ∀ z s, e (ε z s) = E z s >>= fun x => .ok (x.1, ε z x.2) := fun z s => (bind_ret (e (ε z s))).symm.trans (he z s)
    rw [comp_e, compU]
    unfold tg ev
    rw [ht', bind_as, bind_as]
    refine bind_fx fun z => ?_
    rw [ok_bind, hc', bind_as, bind_as]
    refine bind_fx fun b => ?_
    obtain ⟨b, s1⟩ := b
    rw [ok_bind, bind_ite]
    cases b with
    | false => simp only [if_false_b]; rw [hb]; exact ih s1
    | true =>
      simp only [if_pos_t]
      rw [he']
      simp only [bind_as, ok_bind, hb, ih]
theorem cpF_T {β τ : Type} {vs : List Nat} {t : Tg} {c : Tm} {e : Em} {T : D → Rs τ} {C : τ → Rs Bool} {E : τ → Rs D} {δ : Dl} {ε : τ → Dl} (ht : ∀ d, (tg t d (wipeD δ vs) fun δ1 => Rs.ok δ1) = T d >>= fun z => .ok (ε z))
    (hc : ∀ z, (ev c (ε z) fun b δ1 => Rs.ok (b, δ1)) = C z >>= fun b => .ok (b, ε z)) (he : ∀ z, (ev e (ε z) fun x δ1 => Rs.ok (x, δ1)) = E z >>= fun x => .ok (x, ε z)) (hb : ∀ z, back δ (ε z) vs = δ) (xs : List D) (k : List D → Dl → Rs β) : cpF vs t c e xs δ k = lenR xs (compT T C E xs) >>= fun ys => k ys δ := by
  unfold cpF lenR
  rw [compF_T ht hc he hb, nox_bind, bind_ite, bind_ite]
  congr 1
  rw [bind_as]
  rfl
theorem cpF_U {β τ σ : Type} {vs : List Nat} {t : Tg} {c : Tm} {e : Em} {T : D → Rs τ} {C : τ → σ → Rs (Bool × σ)} {E : τ → σ → Rs (D × σ)} {δ : σ → Dl} {ε : τ → σ → Dl} (ht : ∀ d s, (tg t d (wipeD (δ s) vs) fun δ1 => Rs.ok δ1) = T d >>= fun z => .ok (ε z s))
    (hc : ∀ z s, (ev c (ε z s) fun b δ1 => Rs.ok (b, δ1)) = C z s >>= fun b => .ok (b.1, ε z b.2)) (he : ∀ z s, (ev e (ε z s) fun x δ1 => Rs.ok (x, δ1)) = E z s >>= fun x => .ok (x.1, ε z x.2)) (hb : ∀ z s s', back (δ s) (ε z s') vs = δ s') (xs : List D) (s : σ) (k : List D → Dl → Rs β) : cpF vs t c e xs (δ s) k = lenR xs (compU T C E xs s) >>= fun ys => k ys.1 (δ ys.2) := by
  unfold cpF lenR
  rw [compF_U ht hc he hb, nox_bind, bind_ite, bind_ite]
  congr 1
  rw [bind_as]
  rfl
theorem wipe0 (δ : Dl) : wipeD δ [] = δ := hid rfl
theorem wipeS (δ : Dl) (v : Nat) (vs : List Nat) : wipeD δ (v :: vs) = (wipeD δ vs).set v none := hid rfl
theorem pick0 {α : Type} (l : List α) : pick [] l = [] := hid rfl
theorem pick1 {α : Type} (j : Nat) (js : List Nat) (l : List α) : pick (j :: js) l = l[j]?.toList ++ pick js l := by
  unfold pick
  rw [List.filterMap_cons]
  cases l[j]? <;> rfl
end Zd

namespace Zd
open PySem PySem.Spec
open PyProof.Rows L2

/-! ### texts' own functions -/
def txs : List D → Rs (List Str)
  | [] => .ok []
  | .str b :: ds => txs ds >>= fun bs => .ok (b :: bs)
  | _ => .no
theorem txs_inv {K : PySem.W.Frag} {ω : Om} {H : Hp} : ∀ {ds : List D} {vs : List V} {q : List Str → Prop} {e : Str → D → Prop}, Reps K ω H vs ds → Out (txs ds) q e → ∃ bs : List Str, vs = bs.map V.str ∧ q bs
  | [], _, _, _, r, o => by cases r; exact ⟨[], rfl, o⟩
  | d :: ds, _, _, _, r, o => by
    cases d with
    | str b =>
      cases r with
      | cons r1 r2 =>
        obtain ⟨bs, rfl, h⟩ := txs_inv r2 (Out.bind o)
        cases r1
        exact ⟨b :: bs, rfl, h⟩
    | _ => exact o.elim
theorem txs_nx : ∀ {ds : List D} {c : Str} {a : D}, txs ds ≠ .ex c a
  | [], _, _ => by intro z; cases z
  | d :: ds, c, a => by
    cases d with
    | str b => exact bind_nx (fun c a => txs_nx) fun _ _ _ => by intro z; cases z
    | _ => intro z; cases z
def strD : D → Rs Str
  | .str a => .ok a
  | _ => .no
theorem strD_inv {d : D} {q : Str → Prop} {e : Str → D → Prop} (h : Out (strD d) q e) : ∃ a, d = .str a ∧ q a := by
  cases d with
  | str a => exact ⟨a, rfl, h⟩
  | _ => exact h.elim
def gJoin (a : Str) (d : D) : Rs D := ltD d >>= fun xs => txs xs >>= fun ys => if (ys.map (·.length)).sum + ys.length * a.length ≤ 16777216 then .ok (.str (Txt.join a ys)) else .no
theorem nx_join (a : Str) (d : D) : ∀ c x, gJoin a d ≠ .ex c x := fun c x => by
  unfold gJoin
  refine bind_nx (fun c a => by cases d <;> (intro z; cases z)) fun xs c a => bind_nx (fun c a => txs_nx) fun ys c a => nx_if
theorem Lk.lt {K : PySem.W.Frag} {ω : Om} {H : Hp} {v : V} {d : D} (l : Lk K ω H v d) {q : List D → Prop} {e : Str → D → Prop} (o : Out (ltD d) q e) : ∃ p vs xs, v = .ref p ∧ (SqL K H p vs ∨ SqT K H p vs) ∧ Reps K ω H vs xs ∧ q xs := by
  cases d with
  | list xs =>
    obtain ⟨p, vs, ey, q1, q2⟩ := l.list
    exact ⟨p, vs, xs, ey, .inl q1, q2, o⟩
  | tuple xs =>
    obtain ⟨p, vs, ey, q1, q2⟩ := l.tuple
    exact ⟨p, vs, xs, ey, .inr q1, q2, o⟩
  | _ => exact o.elim
def mM1 (g : Str → D → Rs D) (m : Em) (n : Am) : Em := fun δ => m δ >>= fun r => strD r.1 >>= fun a => n r.2 >>= fun q => get q.2 q.1 >>= fun e => g a e >>= fun z => .ok (z, q.2)
section
variable {X : Cx} {G : Gm} {o e : Expr} {apos pos : Pos}
theorem xJoin {m : Em} {n : Am} (ho : PE X o (tI G m)) (he : PE X e (tA1 G n)) (hK : X.K = G.K := by rfl) (hs : starEach [e] X.env = [(false, eval e X.env)] := by rfl) (hbase : attributeBase o "join" X.env (eval o X.env) = eval o X.env := by rfl) (hline : (apos.endLine == pos.line) = true := by rfl) :
    PE X (.Call (.Attribute o "join" apos) [e] [] pos) (tI G (mM1 gJoin m n)) := by
  refine pe_if (pe_join ho he hs hbase hline) fun σ H Q ⟨ω, δ, φ, s, o⟩ => ⟨ω, δ, φ, s, (Out.bind o).mono (fun r1 h1 ω1 H1 φ1 x st1 s1 rx => ?_) fun _ _ z => z⟩
  obtain ⟨a, ea, h2⟩ := strD_inv (Out.bind h1)
  rw [ea] at rx
  cases rx
  refine ⟨⟨a, rfl⟩, ω1, r1.2, φ1, s1, (Out.bind h2).mono (fun r2 h3 ω2 H2 φ2 y st2 s2 ry => ?_) fun _ _ z => z.up st1⟩
  obtain ⟨d, l1, h4⟩ := s2.got ry (Out.bind h3)
  have h5 := out_no (Out.bind h4) (nx_join a d)
  unfold gJoin at h5
  obtain ⟨p, vs, xs, rfl, hq, rp, h6⟩ := l1.lt (Out.bind h5)
  obtain ⟨ys, rfl, h7⟩ := txs_inv rp (Out.bind h6)
  obtain ⟨hc, h8⟩ := if_inv h7
  rw [hK]
  exact ⟨a, p, ys, rfl, rfl, hq, hc, h8 ω2 H2 φ2 _ (st1.trans st2) s2 (.str _)⟩
end
/-! ### text * int -/
def rpS (k : Int) (x : Str) : Str := ⟨((List.replicate k.toNat x.cps.toList).flatten).toArray⟩
theorem foldl_app (a : Array Nat) : ∀ (n : Nat) (b : Array Nat), (List.replicate n a).foldl (· ++ ·) b = b ++ ((List.replicate n a.toList).flatten).toArray
  | 0, b => by simp
  | n + 1, b => by
    rw [List.replicate_succ, List.foldl_cons, foldl_app a n, List.replicate_succ, List.flatten_cons, Array.append_assoc]
    congr 1
    apply Array.toList_inj.mp
    simp
def rMulS : R2 := fun x y H Q => ∃ a k, x = .str a ∧ y = .int k ∧ -(2 ^ 63) ≤ k ∧ k < 2 ^ 63 ∧ a.length * k.toNat ≤ sizeLine ∧ Q (.str (rpS k a)) H
theorem op_mulS {X : Cx} : OpR X (binaryOp .Mult) rMulS := by
  intro pins s σ H x y v u
  intro Q I rx ry h
  obtain ⟨a, k, rfl, rfl, lo, hi, small, q⟩ := h
  obtain ⟨t, rfl⟩ := rx
  obtain ⟨t', rfl⟩ := ry
  have hz : (rpS k a).length ≤ sizeLine := by
    have e : (rpS k a).length = k.toNat * a.length := by
      show (((List.replicate k.toNat a.cps.toList).flatten).toArray).size = _
      rw [List.size_toArray]
      have : ∀ n : Nat, ((List.replicate n a.cps.toList).flatten).length = n * a.cps.toList.length := fun n => by
        induction n with
        | zero => simp
        | succ n ih => rw [List.replicate_succ, List.flatten_cons, List.length_append, ih, Nat.succ_mul, Nat.add_comm]
      rw [this]
      rfl
    rw [e, Nat.mul_comm]
    exact small
  have sl : sizeLine < 2 ^ 60 := by decide
  have h63 : (2 : Int) ^ 63 = 9223372036854775808 := rfl
  refine PySem.P.mul_str (by rw [decide_eq_false (by omega), decide_eq_false (by omega)]; rfl) (fun h1 _ h2 => ?_) (fun _ _ => ?_) ?_
  · have e : ((k.toNat : Nat) : Int) = k := Int.toNat_of_nonneg (by omega)
    have small' : ((a.length * k.toNat : Nat) : Int) ≤ ((sizeLine : Nat) : Int) := Int.ofNat_le.mpr small
    have sl' : ((sizeLine : Nat) : Int) < 1152921504606846976 := by
      have := Int.ofNat_lt.mpr sl
      simpa using this
    rw [Int.natCast_mul, e] at small'
    have : (2 ^ 63 - 1) < (a.length : Int) * k := (Int.ediv_lt_iff_lt_mul (by omega)).mp h2
    omega
  · show decide (a.length * k.toNat > sizeLine) = false
    rw [decide_eq_false
              (by omega)]
  · have fin : ∀ tk z, z = rpS k a → Inv X pins σ H { s with toks := tk } → EP X pins σ Q (.str z s.toks) { s with toks := tk } := fun tk z e J => ⟨.str z, H, J, ⟨_, rfl⟩, e ▸ q⟩
    by_cases h1 : k < 1
    · rw [if_pos h1]
      have e : Str.empty = rpS k a := by
        unfold rpS
        rw [show k.toNat = 0 by omega]
        rfl
      exact ⟨by decide, fin _ _ e (I.tok _)⟩
    · rw [if_neg h1]
      by_cases h2 : (k == 1 || a.length == 0) = true
      · rw [if_pos h2]
        have e : a = rpS k a := by
          unfold rpS
          rw [Bool.or_eq_true, beq_iff_eq, beq_iff_eq] at h2
          obtain ⟨c⟩ := a
          rcases h2 with h2 | h2
          · subst h2
            simp
          · have : c = #[] := Array.eq_empty_of_size_eq_zero h2
            subst this
            have : ∀ n : Nat, (List.replicate n ([] : List Nat)).flatten = [] := fun n => by
              induction n with
              | zero => rfl
              | succ n ih => rw [List.replicate_succ, List.flatten_cons, ih]; rfl
            simp [this]
        exact ⟨.str a, H, I, ⟨_, rfl⟩, e ▸ q⟩
      · rw [if_neg h2]
        have e : (⟨(List.replicate k.toNat a.cps).foldl (· ++ ·) #[]⟩ : Str) = rpS k a := by
          unfold rpS
          rw [foldl_app]
          simp
        rw [e]
        exact ⟨hz, fin _ _ rfl (I.tok _)⟩
def gMulS (d e : D) : Rs D := match d with
  | .str a => match e with
    | .int k => if -(2 ^ 63) ≤ k ∧ k < 2 ^ 63 ∧ a.length * k.toNat ≤ sizeLine then .ok (.str (rpS k a)) else .no
    | _ => .no
  | _ => .no
theorem bi_mulS {K : PySem.W.Frag} : BiD K rMulS gMulS := by
  intro ω H x y d e Q wf l1 l2 o
  cases d with
  | str a => cases e with
    | int k =>
      obtain ⟨⟨c1, c2, c3⟩, o⟩ := if_inv o
      rw [l1.str, l2.int]
      exact ⟨a, k, rfl, rfl, c1, c2, c3, o H _ (Ext.refl H) (.str _)⟩
    | _ => exact o.elim
  | _ => exact o.elim
theorem nx_mulS : NoX2 gMulS := fun x y c a => by
  cases x <;> cases y <;> first | exact nx_if | (intro z; cases z)
/-! ### max of three -/
def gMax3 : List D → Rs D
  | [.int i, .int j, .int k] => .ok (.int (if (if i < j then j else i) < k then k else if i < j then j else i))
  | _ => .no
theorem ld_max3 {K : PySem.W.Frag} : LiD K (rNuC3 nuMax3) gMax3 := by
  intro ω H xs ds Q wf l o
  unfold gMax3 at o
  split at o
  · rename_i i j k
    cases l with
    | cons l1 l => cases l with
      | cons l2 l => cases l with
        | cons l3 l =>
          cases l
          rw [l1.int, l2.int, l3.int]
          refine ⟨_, _, _, _, rfl, ?_, o H _ (Ext.refl H) (.int _)⟩
          show (nuMax2 (.int i) (.int j)).bind _ = _
          by_cases h : i < j
          · have e : nuMax2 (.int i) (.int j) = some (.int j) := by
              show some (if decide (i < j) = true then V.int j else V.int i) = _
              rw [decide_eq_true h]; rfl
            rw [e, if_pos h]
            show some (if decide (j < k) = true then V.int k else V.int j) = _
            by_cases h2 : j < k
            · rw [decide_eq_true h2, if_pos h2]; rfl
            · rw [decide_eq_false h2, if_neg h2]; rfl
          · have e : nuMax2 (.int i) (.int j) = some (.int i) := by
              show some (if decide (i < j) = true then V.int j else V.int i) = _
              rw [decide_eq_false h]; rfl
            rw [e, if_neg h]
            show some (if decide (i < k) = true then V.int k else V.int i) = _
            by_cases h2 : i < k
            · rw [decide_eq_true h2, if_pos h2]; rfl
            · rw [decide_eq_false h2, if_neg h2]; rfl
  · exact o.elim
theorem nx_max3 : NoXL gMax3 := fun ds c a => by unfold gMax3; split <;> (intro z; cases z)
section
variable {X : Cx} {G : Gm} {a b : Expr} {es : List Expr} {pos p : Pos} {ta tb : Am} {ms : Lm}
theorem xMulS (ha : PE X a (tA1 G ta)) (hb : PE X b (tA1 G tb)) : PE X (.BinOp a .Mult b pos) (tI G (mB gMulS ta tb)) := bi op_mulS bi_mulS nx_mulS ha hb
theorem xMax3 (hc : X.calm = true) (hm : X.mg "max" = none) (ha : PA X (a :: es) (tAr G ms)) (hg : Gl X "max" := by rfl) (he : starEach (a :: es) X.env = (false, eval a X.env) :: starEach es X.env := by rfl) (hpl : (backTo pos (starEach es X.env)).any (·.1) = false := by rfl) :
    PE X (.Call (.Name "max" p) (a :: es) [] pos) (tI G (mL gMax3 ms)) := xB (call_max3Nu hc) ld_max3 nx_max3 hm PyProof.Rows.boot_max ha hg (by decide) (by decide) he hpl
end
/-! ### several values, each held as it is -/
def tOs (G : Gm) (shs : List Sh) (m : Sm) : TA := fun σ H Q => ∃ ω δ φ, Slots G.K G.κ ω H σ δ φ ∧
  Out (m δ) (fun r => ∀ ω' H' φ' vs f, Step ω (Fp φ) H ω' (fun a => Fp φ' a ∨ a ∈ f) H' → Slots G.K G.κ ω' H' σ r.2 φ' → Owns G.K ω' H' shs vs r.1 f → f.Nodup → (∀ a ∈ f, ω' a ∧ ¬ Fp φ' a) → Q vs H') (Esc G.K G.cls G.E ω (Fp φ) H)
section
variable {X : Cx} {G : Gm} {e : Expr} {es : List Expr}
theorem on' : PA X [] (tOs G [] sNil) := pa_if pa_nil fun σ H Q ⟨ω, δ, φ, s, o⟩ => o ω H φ [] [] ⟨fun a u h _ => h, fun a h => .inl h, fun a h _ => h, fun a z => z.elim .inl fun z => absurd z (by simp), s.sub, s.wf⟩ s .nil .nil fun a z => absurd z (by simp)
theorem oc' {sh : Sh} {shs : List Sh} {m : Em} {n : Sm} (h : PE X e (tO G sh m)) (hr : PA X es (tOs G shs n)) (hs : starEach (e :: es) X.env = (false, eval e X.env) :: starEach es X.env := by rfl) : PA X (e :: es) (tOs G (sh :: shs) (sCons m n)) := by
  refine pa_if (pa_cons h hr hs) fun σ H Q ⟨ω, δ, φ, sl, o⟩ => ⟨ω, δ, φ, sl, (Out.bind o).mono (fun r hr ω1 H1 φ1 v f st1 s1 ow nd hf => ⟨ω1, r.2, φ1, s1, (Out.bind hr).mono (fun q hq ω2 H2 φ2 vs g st2 s2 os nd2 hg => ?_) fun c z q => ?_⟩) fun _ _ z => z⟩
  · have lst : ∀ a ∈ f, ∃ xs, H1 a = some (.lst xs) := fun a ha => s1.wf a (hf a ha).1
    have keepf : ∀ a ∈ f, H2 a = H1 a := fun a ha => by
      obtain ⟨xs, e⟩ := lst a ha
      rw [e, st2.keep a _ e (hf a ha).2]
    have notp : ∀ a ∈ f, ¬ (Fp φ2 a ∨ a ∈ g) := fun a ha z => by
      rcases st2.fp a z with z | z
      · exact (hf a ha).2 z
      · obtain ⟨xs, e⟩ := lst a ha
        rw [e] at z; cases z
    have ow2 : Own G.K ω2 H2 sh v r.1 f := Own.mono st2.grow _ _ _ _ keepf ow
    have st1' : Step ω (Fp φ) H ω1 (fun a => Fp φ1 a ∨ a ∈ f) H1 := st1
    have st2' : Step ω1 (fun a => Fp φ1 a ∨ a ∈ f) H1 ω2 (fun a => Fp φ2 a ∨ a ∈ f ++ g) H2 := ⟨fun a o h n => st2.keep a o h fun z => n (.inl z), st2.om, fun a h n => st2.stay a h fun z => n (.inl z), fun a z => by
      rcases z with z | z
      · exact (st2.fp a (.inl z)).imp .inl id
      · rcases List.mem_append.mp z with z | z
        · exact .inl (.inr z)
        · exact (st2.fp a (.inr z)).imp .inl id, fun a z => z.elim (st2.sub a) fun z => (hf a z).1, st2.wf⟩
    refine hq ω2 H2 φ2 (v :: vs) (f ++ g) (st1'.trans st2') s2 (.cons ow2 os) (List.nodup_append.mpr ⟨nd, nd2, fun a ha b hb e => notp a ha (.inr (e ▸ hb))⟩) fun a ha => ?_
    rcases (List.mem_append.mp ha) with ha | ha
    · exact ⟨st2.stay a (hf a ha).1 (hf a ha).2, fun z => notp a ha (.inl z)⟩
    · exact hg a ha
  · have st1' : Step ω (Fp φ) H ω1 (Fp φ1) H1 := ⟨st1.keep, st1.om, st1.stay, fun a z => st1.fp a (.inl z), st1.sub, st1.wf⟩
    exact q.up st1'
end
section
variable {X : Cx} {G : Gs} {σ0 : L2.St} {pos : Pos}
theorem Slots.put_st {K : PySem.W.Frag} {κ : Kn} {ω ω' P : Om} {H H' : Hp} {σ : L2.St} {δ : Dl} {φ : Fps} {f g : List Addr} (st : Step ω P H ω' (fun a => Fp φ a ∨ a ∈ f ++ g) H') (s : Slots K κ ω' H' σ δ φ) (i : Nat) (hi : i < δ.length) {v : V} {d : D} (ow : Own K ω' H' (κ i) v d f) (nd : (f ++ g).Nodup) (hf : ∀ a ∈ f ++ g, ω' a ∧ ¬ Fp φ a) :
    Step ω P H ω' (fun a => Fp (fun j => if j = i then f else φ j) a ∨ a ∈ g) H' ∧ Slots K κ ω' H' (σ.set i (some v)) (δ.set i (some d)) (fun j => if j = i then f else φ j) ∧ (∀ a ∈ g, ω' a ∧ ¬ Fp (fun j => if j = i then f else φ j) a) := by
  obtain ⟨n1, n2, n3⟩ := List.nodup_append.mp nd
  refine ⟨⟨st.keep, st.om, st.stay, fun a z => ?_, st.sub, st.wf⟩, s.put i hi ow n1 fun a ha => hf a (List.mem_append_left _ ha), fun a ha => ⟨(hf a (List.mem_append_right _ ha)).1, fun ⟨j, z⟩ => ?_⟩⟩
  · rcases z with ⟨j, z⟩ | z
    · dsimp only at z
      split at z
      · exact st.fp a (.inr (List.mem_append_left _ z))
      · exact st.fp a (.inl ⟨j, z⟩)
    · exact st.fp a (.inr (List.mem_append_right _ z))
  · dsimp only at z
    split at z
    · exact n3 a z a ha rfl
    · exact (hf a (List.mem_append_right _ ha)).2 ⟨j, z⟩
theorem pparO {i j : Nat} {x y : Str} {ea eb : Expr} {m : Sm} {px py pt : Pos} {kt k2 pt2} (hc : X.calm = true) (hN : X.N.Nodup) (ha : PA X [ea, eb] (tOs G.toGm [G.κ i, G.κ j] m)) (hi : X.N[i]? = some x := by rfl) (hj : X.N[j]? = some y := by rfl) (hij : i ≠ j := by decide)
    (hpi : G.pin i = false := by rfl) (hpj : G.pin j = false := by rfl) (hx : X.env.scope.names.lookup x = some .local := by rfl) (hy : X.env.scope.names.lookup y = some .local := by rfl)
    (hw : swappedStores [.Tuple [.Name x px, .Name y py] kt pt] (.Tuple [ea, eb] k2 pt2) X.env = pure (some [x, y]) := by rfl)
    (hs : swapsWithSole [.Tuple [.Name x px, .Name y py] kt pt] (.Tuple [ea, eb] k2 pt2) pos.line X.env = pure false := by rfl) :
    PS X (.Assign [.Tuple [.Name x px, .Name y py] kt pt] (.Tuple [ea, eb] k2 pt2) pos) (tP G σ0 (pPar i j m)) := by
  refine ps_if' (ps_par hc hN hi hj hij hx hy ha hw hs) fun D σ H ⟨p, ω, δ, φ, s, o⟩ => ⟨ω, δ, φ, s, (Out.bind o).mono (fun r hr ω' H' φ' vs f st s' rp nd hf => ?_) fun _ _ z => z⟩
  obtain ⟨ds, δ1⟩ := r
  match ds, rp, hr with
  | [], rp, hr => exact hr.elim
  | [d], _, hr => exact hr.elim
  | d :: e :: f :: g, _, hr => exact hr.elim
  | [d, e], rp, hr =>
    cases rp with
    | cons r1 r2 =>
      cases r2 with
      | cons r2 r3 =>
        cases r3
        obtain ⟨h1, h2⟩ := put_inv (Out.bind hr)
        obtain ⟨h3, h4⟩ := put_inv (Out.bind h2)
        obtain ⟨st1, s1, f1⟩ := Slots.put_st st s' i h1 r1 nd hf
        obtain ⟨st2, s2, f2⟩ := Slots.put_st st1 s1 j h3 r2 (List.nodup_append.mp nd).2.1 f1
        exact ⟨_, _, rfl, h4 ω' H' _ _ ⟨st2.keep, st2.om, st2.stay, fun a z => st2.fp a (.inl z), st2.sub, st2.wf⟩ s2 (pin_set (pin_set p hpi) hpj)⟩
theorem ppar3O {i j l : Nat} {x y z : Str} {ea eb ec : Expr} {m : Sm} {px py pz pt : Pos} {kt k2 pt2} (hc : X.calm = true) (hN : X.N.Nodup) (ha : PA X [ea, eb, ec] (tOs G.toGm [G.κ i, G.κ j, G.κ l] m)) (hi : X.N[i]? = some x := by rfl) (hj : X.N[j]? = some y := by rfl) (hl : X.N[l]? = some z := by rfl) (hij : i ≠ j := by decide) (hil : i ≠ l := by decide) (hjl : j ≠ l := by decide)
    (hpi : G.pin i = false := by rfl) (hpj : G.pin j = false := by rfl) (hpl : G.pin l = false := by rfl) (hx : X.env.scope.names.lookup x = some .local := by rfl) (hy : X.env.scope.names.lookup y = some .local := by rfl) (hz : X.env.scope.names.lookup z = some .local := by rfl)
    (hw : swappedStores [.Tuple [.Name x px, .Name y py, .Name z pz] kt pt] (.Tuple [ea, eb, ec] k2 pt2) X.env = pure (some [x, y, z]) := by rfl)
    (hs : swapsWithSole [.Tuple [.Name x px, .Name y py, .Name z pz] kt pt] (.Tuple [ea, eb, ec] k2 pt2) pos.line X.env = pure false := by rfl) :
    PS X (.Assign [.Tuple [.Name x px, .Name y py, .Name z pz] kt pt] (.Tuple [ea, eb, ec] k2 pt2) pos) (tP G σ0 (pPar3 i j l m)) := by
  refine ps_if' (ps_par3 hc hN hi hj hl hij hil hjl hx hy hz ha hw hs) fun D σ H ⟨p, ω, δ, φ, s, o⟩ => ⟨ω, δ, φ, s, (Out.bind o).mono (fun r hr ω' H' φ' vs f st s' rp nd hf => ?_) fun _ _ z => z⟩
  obtain ⟨ds, δ1⟩ := r
  match ds, rp, hr with
  | [], _, hr => exact hr.elim
  | [d], _, hr => exact hr.elim
  | [d, e], _, hr => exact hr.elim
  | d :: e :: f :: g :: h, _, hr => exact hr.elim
  | [d, e, w], rp, hr =>
    cases rp with
    | cons r1 r2 =>
      cases r2 with
      | cons r2 r3 =>
        cases r3 with
        | cons r3 r4 =>
          cases r4
          obtain ⟨h1, h2⟩ := put_inv (Out.bind hr)
          obtain ⟨h3, h4⟩ := put_inv (Out.bind h2)
          obtain ⟨h5, h6⟩ := put_inv (Out.bind h4)
          obtain ⟨st1, s1, f1⟩ := Slots.put_st st s' i h1 r1 nd hf
          obtain ⟨st2, s2, f2⟩ := Slots.put_st st1 s1 j h3 r2 (List.nodup_append.mp nd).2.1 f1
          obtain ⟨st3, s3, f3⟩ := Slots.put_st st2 s2 l h5 r3 (List.nodup_append.mp (List.nodup_append.mp nd).2.1).2.1 f2
          exact ⟨_, _, _, rfl, h6 ω' H' _ _ ⟨st3.keep, st3.om, st3.stay, fun a z => st3.fp a (.inl z), st3.sub, st3.wf⟩ s3 (pin_set (pin_set (pin_set p hpi) hpj) hpl)⟩
end
theorem kc_str {K : PySem.W.Frag} {mg : Str → Option Value} {x : Str} {z : Str} {t : Tok} (h : mg x = some (.str z t)) : Kc K mg x (.str z) := ⟨.str z, .str z t, h, ⟨t, rfl⟩, fun _ _ => .str z⟩
section
variable {β : Type} (δ : Dl)
theorem strD_b {β : Type} (a : Str) (k : Str → Rs β) : (strD (.str a) >>= k) = k a := hid rfl
theorem evJoin (g : Str → D → Rs D) (m : Em) (n : Am) (k : D → Dl → Rs β) : ev (mM1 g m n) δ k = ev m δ fun x δ1 => strD x >>= fun a => evA n δ1 fun y δ2 => g a y >>= fun z => k z δ2 := by
  unfold ev mM1 evA ev
  simp only [bind_as, okb]
end
end Zd

namespace Zd
open PySem PySem.Spec
open PyProof.Rows L2

/-! ### plain facts of the runs by names -/
theorem forS_inv {σ : Type} {b : D → σ → Rs σ} {I : σ → Prop} : ∀ (xs : List D) (s : σ), (∀ d ∈ xs, ∀ s, I s → ∃ s', b d s = .ok s' ∧ I s') → I s → ∃ s', forS b xs s = .ok s' ∧ I s'
  | [], s, _, h => ⟨s, rfl, h⟩
  | d :: xs, s, hb, h => by
    obtain ⟨s1, e1, h1⟩ := hb d (by simp) s h
    obtain ⟨s2, e2, h2⟩ := forS_inv xs s1 (fun d hd => hb d (by simp [hd])) h1
    exact ⟨s2, by rw [forS, e1, okb, e2], h2⟩
/-- .. by how many were seen -/
theorem forS_ix {σ : Type} {b : D → σ → Rs σ} {I : List D → σ → Prop} : ∀ (xs ys : List D) (s : σ), (∀ d zs s, d ∈ xs → I zs s → ∃ s', b d s = .ok s' ∧ I (zs ++ [d]) s') → I ys s → ∃ s', forS b xs s = .ok s' ∧ I (ys ++ xs) s'
  | [], ys, s, _, h => ⟨s, rfl, by rw [List.append_nil]; exact h⟩
  | d :: xs, ys, s, hb, h => by
    obtain ⟨s1, e1, h1⟩ := hb d ys s (by simp) h
    obtain ⟨s2, e2, h2⟩ := forS_ix xs (ys ++ [d]) s1 (fun d zs s hd => hb d zs s (by simp [hd])) h1
    exact ⟨s2, by rw [forS, e1, okb, e2], by rw [List.append_assoc] at h2; exact h2⟩
theorem forL_inv {σ : Type} {b : D → σ → Rs (Lp σ)} {I : σ → Prop} : ∀ (xs : List D) (s : σ), (∀ d ∈ xs, ∀ s, I s → ∃ s', b d s = .ok (.nx s') ∧ I s') → I s → ∃ s', forL b xs s = .ok (.nx s') ∧ I s'
  | [], s, _, h => ⟨s, rfl, h⟩
  | d :: xs, s, hb, h => by
    obtain ⟨s1, e1, h1⟩ := hb d (by simp) s h
    obtain ⟨s2, e2, h2⟩ := forL_inv xs s1 (fun d hd => hb d (by simp [hd])) h1
    exact ⟨s2, by rw [forL, e1, okb]; exact e2, h2⟩
theorem whA_eq {σ : Type} (t : σ → Rs Bool) (b : σ → Rs (Lp σ)) (s : σ) : whA t b s = t s >>= fun c => if c = true then b s >>= fun r => (match r with
    | .nx s' => whA t b s'
    | .bk s' => .ok (.nx s')
    | .rt v s' => .ok (.rt v s')) else .ok (.nx s) := by
  have key : ∀ s, ((∃ n, whW t b n s ≠ .no) ∨ whA t b s = .no) := fun s => by
    by_cases h : ∃ n, whW t b n s ≠ .no
    · exact .inl h
    · right
      unfold whA
      rw [dif_neg h]
  cases e : t s with
  | no =>
    rw [show (whA t b s) = .no from (key s).elim (fun ⟨n, h⟩ => by
      rw [whA_of h]
      cases n with
      | zero => rfl
      | succ n => rw [whW, e]; rfl) id]
    rfl
  | ex c a =>
    have : whW t b 1 s = .ex c a := by rw [whW, e]; rfl
    rw [whA_of (n := 1) (by rw [this]; exact nofun), this]
    rfl
  | ok c =>
    rw [okb]
    cases c with
    | false =>
      have : whW t b 1 s = .ok (.nx s) := by rw [whW, e]; rfl
      rw [whA_of (n := 1) (by rw [this]; exact nofun), this]
      rfl
    | true =>
      rw [if_pos_t]
      cases e2 : b s with
      | no =>
        rw [show (whA t b s) = .no from (key s).elim (fun ⟨n, h⟩ => by
          rw [whA_of h]
          cases n with
          | zero => rfl
          | succ n => rw [whW, e, okb, if_pos_t, e2]; rfl) id]
        rfl
      | ex c a =>
        have : whW t b 1 s = .ex c a := by rw [whW, e, okb, if_pos_t, e2]; rfl
        rw [whA_of (n := 1) (by rw [this]; exact nofun), this]
        rfl
      | ok r =>
        rw [okb]
        cases r with
        | bk s' =>
          have : whW t b 1 s = .ok (.nx s') := by rw [whW, e, okb, if_pos_t, e2]; rfl
          rw [whA_of (n := 1) (by rw [this]; exact nofun), this]
        | rt v s' =>
          have : whW t b 1 s = .ok (.rt v s') := by rw [whW, e, okb, if_pos_t, e2]; rfl
          rw [whA_of (n := 1) (by rw [this]; exact nofun), this]
        | nx s' =>
          have st : ∀ n, whW t b (n + 1) s = whW t b n s' := fun n => by rw [whW, e, okb, if_pos_t, e2, okb]
          show whA t b s = whA t b s'
          by_cases h : ∃ n, whW t b n s' ≠ .no
          · obtain ⟨n, h⟩ := h
            rw [whA_of h, whA_of (n := n + 1) (by rw [st]; exact h), st]
          · have h' : ¬ ∃ n, whW t b n s ≠ .no := fun ⟨n, q⟩ => by
              cases n with
              | zero => exact q rfl
              | succ n => exact h ⟨n, by rw [← st]; exact q⟩
            unfold whA
            rw [dif_neg h, dif_neg h']
/-- a while by a measure -/
theorem whA_inv {σ : Type} {t : σ → Rs Bool} {b : σ → Rs (Lp σ)} {I : σ → Prop} (μ : σ → Nat) (h : ∀ s, I s → ∃ c, t s = .ok c ∧ (c = true → ∃ s', b s = .ok (.nx s') ∧ I s' ∧ μ s' < μ s)) : ∀ (n : Nat) (s : σ), μ s ≤ n → I s → ∃ s', whA t b s = .ok (.nx s') ∧ I s' ∧ t s' = .ok false
  | n, s, hn, hi => by
    obtain ⟨c, ht, hb⟩ := h s hi
    rw [whA_eq, ht, okb]
    cases c with
    | false => exact ⟨s, rfl, hi, ht⟩
    | true =>
      obtain ⟨s1, e1, h1, hm⟩ := hb rfl
      rw [if_pos_t, e1, okb]
      cases n with
      | zero => omega
      | succ n => exact whA_inv μ h n s1 (by omega) h1
theorem sz1000 {n : Nat} (h : n ≤ 1000) : n ≤ sizeLine := Nat.le_of_lt (small1000 h)
theorem lenR_ok {α : Type} {xs : List D} {a : α} {r : Rs α} (hl : xs.length ≤ sizeLine) (h : r = .ok a) : lenR xs r = .ok a := by
  subst h
  exact if_pos hl
theorem compT_map {τ : Type} {t : D → Rs τ} {e : τ → Rs D} (f : D → D) : ∀ xs : List D, (∀ d ∈ xs, (t d >>= e) = .ok (f d)) → compT t (fun _ => .ok true) e xs = .ok (xs.map f)
  | [], _ => rfl
  | d :: xs, h => by
    have h1 := h d (by simp)
    have ih := compT_map f xs fun d hd => h d (by simp [hd])
    rw [compT]
    cases e1 : t d with
    | no => rw [e1] at h1; cases h1
    | ex c a => rw [e1] at h1; cases h1
    | ok z =>
      rw [e1, okb] at h1
      simp only [okb, ite_tt, h1, ih, List.map_cons]
theorem compT_fil {e : D → Rs D} {c : D → Rs Bool} (f : D → D) (p : D → Bool) : ∀ xs : List D, (∀ d ∈ xs, c d = .ok (p d)) → (∀ d ∈ xs, p d = true → e d = .ok (f d)) → compT Rs.ok c e xs = .ok ((xs.filter p).map f)
  | [], _, _ => rfl
  | d :: xs, h, h2 => by
    have h1 := h d (by simp)
    have ih := compT_fil f p xs (fun d hd => h d (by simp [hd])) fun d hd => h2 d (by simp [hd])
    rw [compT, okb, h1, okb]
    cases hp : p d with
    | false => simp only [if_false_b, ih, List.filter_cons, hp]
    | true => simp only [ite_tt, h2 d (by simp) hp, okb, ih, List.filter_cons, hp, List.map_cons]
theorem compT_fil2 {τ : Type} {t : D → Rs τ} {e : τ → Rs D} {c : τ → Rs Bool} (f : D → D) (p : D → Bool) : ∀ xs : List D, (∀ d ∈ xs, ∃ z, t d = .ok z ∧ c z = .ok (p d) ∧ (p d = true → e z = .ok (f d))) → compT t c e xs = .ok ((xs.filter p).map f)
  | [], _ => rfl
  | d :: xs, h => by
    obtain ⟨z, h0, h1, h2⟩ := h d (by simp)
    have ih := compT_fil2 f p xs fun d hd => h d (by simp [hd])
    rw [compT, h0, okb, h1, okb]
    cases hp : p d with
    | false => simp only [if_false_b, ih, List.filter_cons, hp]
    | true => simp only [ite_tt, h2 hp, okb, ih, List.filter_cons, hp, List.map_cons]
/-- a comprehension that draws -/
theorem compU_draw {τ σ : Type} {t : D → Rs τ} {e : τ → σ → Rs (D × σ)} {I : σ → Prop} {P : D → Prop} : ∀ (xs : List D) (s : σ), (∀ d ∈ xs, ∀ s, I s → ∃ z v s', t d = .ok z ∧ e z s = .ok (v, s') ∧ P v ∧ I s') → I s → ∃ ys s', compU t (fun _ s => .ok (true, s)) e xs s = .ok (ys, s') ∧ ys.length = xs.length ∧ (∀ y ∈ ys, P y) ∧ I s'
  | [], s, _, h => ⟨[], s, rfl, rfl, nofun, h⟩
  | d :: xs, s, he, h => by
    obtain ⟨z, v, s1, e0, e1, hv, h1⟩ := he d (by simp) s h
    obtain ⟨ys, s2, e2, hl, hy, h2⟩ := compU_draw xs s1 (fun d hd => he d (by simp [hd])) h1
    refine ⟨v :: ys, s2, ?_, by simp [hl], ?_, h2⟩
    · rw [compU, e0, okb, okb]
      simp only [ite_tt, e1, okb, e2]
    · intro y hy'
      rcases List.mem_cons.mp hy' with rfl | hy'
      · exact hv
      · exact hy y hy'
theorem rng_ok {j : Int} (h0 : 0 ≤ j) (h1 : j ≤ 1000000) : rngR (.int j) = .ok ((List.range j.toNat).map fun i => .int (i : Nat)) := by
  unfold rngR
  refine if_pos ?_
  constructor <;> omega
theorem rng_len (j : Nat) : ((List.range j).map fun i => PyData.int (i : Nat)).length = j := by simp
theorem cut_mem {xs : List D} {lo hi : Option Int} {d : D} (h : d ∈ cut xs lo hi) : d ∈ xs := List.mem_of_mem_drop (List.mem_of_mem_take h)
theorem cut_len (xs : List D) (lo hi : Option Int) : (cut xs lo hi).length ≤ xs.length := by
  unfold cut
  rw [List.length_take,
            List.length_drop]
  omega
theorem atI_in {xs : List D} {i : Int} (h0 : 0 ≤ i) (h1 : i < xs.length) : ∃ v, atI xs i = some v ∧ v ∈ xs := by
  obtain ⟨j, rfl⟩ : ∃ j : Nat, i = j := ⟨i.toNat, by omega⟩
  have hj : j < xs.length := by omega
  exact ⟨xs[j], atI_nat (List.getElem?_eq_getElem hj), List.getElem_mem hj⟩
theorem atI_end {xs : List D} (h : xs ≠ []) : ∃ v, atI xs (-1) = some v ∧ v ∈ xs := by
  obtain ⟨ys, y, rfl⟩ : ∃ ys y, xs = ys ++ [y] := ⟨xs.dropLast, xs.getLast h, (List.dropLast_concat_getLast h).symm⟩
  exact ⟨y, atI_last ys y, by simp⟩
theorem gIx_t {xs : List D} {i : Int} {v : D} (h : atI xs i = some v) : gIx (.tuple xs) (.int i) = .ok v := by
  show optR (atI xs i) = _
  rw [h]
  rfl
theorem gIx_l {xs : List D} {i : Int} {v : D} (h : atI xs i = some v) : gIx (.list xs) (.int i) = .ok v := by
  show optR (atI xs i) = _
  rw [h]
  rfl
theorem gAdd_t {xs ys : List D} (h : xs.length + ys.length ≤ 1000) : gAdd (.tuple xs) (.tuple ys) = .ok (.tuple (xs ++ ys)) := by
  unfold gAdd
  exact if_pos (sz1000 h)
theorem gAdd_l {xs ys : List D} (h : xs.length + ys.length ≤ 1000) : gAdd (.list xs) (.list ys) = .ok (.list (xs ++ ys)) := by
  unfold gAdd
  exact if_pos (sz1000 h)
theorem fAdd_l {xs ys : List D} (h : xs.length + ys.length ≤ 1000) : fAdd (.list xs) (.list ys) = .ok (xs ++ ys) := by
  unfold fAdd
  exact if_pos (sz1000 h)
theorem gMulA_t {xs : List D} {k : Nat} (h : k ≤ 1000) (hl : xs.length ≤ 1000) : gMulA (.tuple xs) (.int k) = .ok (.tuple (List.replicate k xs).flatten) := by
  unfold gMulA gRepT
  have c : -1000000 ≤ (k : Int) ∧ (k : Int) ≤ 1000 ∧ xs.length ≤ 1000 := ⟨by omega, by omega, hl⟩
  simp only [if_pos c, rep, Int.toNat_natCast]
theorem gMulA_1 {x : D} {k : Nat} (h : k ≤ 1000) : gMulA (.tuple [x]) (.int k) = .ok (.tuple (List.replicate k x)) := by
  rw [gMulA_t h (show ([x] : List D).length ≤ 1000 by simp)]
  have : ∀ m : Nat, (List.replicate m [x]).flatten = List.replicate m x := fun m => by
    induction m with
    | zero => rfl
    | succ m ih => rw [List.replicate_succ, List.replicate_succ, List.flatten_cons, ih]; rfl
  rw [this]

theorem gAdd_ii (a b : Int) : gAdd (.int a) (.int b) = .ok (.int (a + b)) := rfl
theorem forS_nat {σ : Type} {b : D → σ → Rs σ} {I : Nat → σ → Prop} : ∀ (xs : List D) (k : Nat) (s : σ), (∀ d i s, d ∈ xs → k ≤ i → i < k + xs.length → I i s → ∃ s', b d s = .ok s' ∧ I (i + 1) s') → I k s → ∃ s', forS b xs s = .ok s' ∧ I (k + xs.length) s'
  | [], k, s, _, h => ⟨s, rfl, h⟩
  | d :: xs, k, s, hb, h => by
    obtain ⟨s1, e1, h1⟩ := hb d k s (by simp) (Nat.le_refl _) (by simp) h
    obtain ⟨s2, e2, h2⟩ := forS_nat xs (k + 1) s1 (fun d i s hd h1 h2 => hb d i s (by simp [hd]) (by omega) (by rw [List.length_cons]; omega)) h1
    refine ⟨s2, by rw [forS, e1, okb, e2], ?_⟩
    rw [List.length_cons, show k + (xs.length + 1) = k + 1 + xs.length by omega]
    exact h2
end Zd

namespace Zd
open PySem PySem.Spec
open PyProof.Rows L2
noncomputable def t_law_same_1 (value_ : D) (due_ : D) : Rs Bool := gIsi isTup value_ >>= fun t3 =>
tru t3 >>= fun b4 =>
if (!b4) = true then (.ok true) else (gLen [value_] >>= fun t5 =>
gLen [due_] >>= fun t6 =>
gNe t5 t6 >>= fun t7 =>
bool t7 >>= fun b8 =>
.ok b8)
theorem t_law_same_1_n {β : Type} (value_ : D) (due_ : D) (o_one : Option D) (o_other : Option D) (k : Bool → Dl → Rs β) : ev (mOr (mNot (mTr (vA (mU (gIsi isTup) (vA (mV 0)))))) (mT (mB gNe (vA (mL gLen (lCons (vA (mV 0)) lNil))) (vA (mL gLen (lCons (vA (mV 1)) lNil)))))) [some value_, some due_, o_one, o_other] k = t_law_same_1 value_ due_ >>= fun z => k z [some value_, some due_, o_one, o_other] := by
  unfold t_law_same_1
  simp only [↓bind_as, ↓bind_ite, ↓evV0, ↓evVS, ↓evM, ↓evC, ↓evBvv, ↓evBrv, ↓evBvr, ↓evBrr, ↓evFvv, ↓evFrv, ↓evFvr, ↓evFrr, ↓evAv, ↓evAr, ↓evU, ↓evFU, ↓evTr, ↓evRev, ↓evRevT, ↓evSlv, ↓evfSlv, ↓evSlr, ↓evfSlr, ↓evoN, ↓evoS, ↓evL, ↓evs0, ↓evsv, ↓evsr, ↓evFl, ↓eveF, ↓evLst, ↓ltOne_b, ↓evT, ↓evNot, ↓eveNot, ↓evS0, ↓evSC, ↓evSS, ↓evTup, ↓evCall, ↓evCallK, ↓evCallM, ↓evApp, ↓evPop, ↓evPopAt, ↓evSeq, ↓evRng, ↓evZip, ↓tgN, ↓tgT2, ↓tgT3, ↓kS_nx, ↓kS_rt, ↓kS_bk, ↓kS_ct, ↓evPS, ↓evPn, ↓evPb, ↓evPc, ↓evPr, ↓evPset, ↓evPas, ↓evPex, ↓evPpar, ↓evPpar3, ↓evPinc, ↓evPsto, ↓evFor, ↓evComp, ↓evY, ↓kP_rt, ↓kP_nx, ↓kM_rt, ↓kM_nx, ↓kC_nx, ↓kC_ct, ↓kC_bk, ↓kC_rt, ↓rmv0, ↓rmvS, ↓pt0, ↓ptS, ↓okb, ↓nob, ↓rdO_s, ↓rdO_z, ↓liD_b, ↓mkT_b, ↓mkL_b, ↓hd2_b, ↓hd3_b, ↓un2_b, ↓un3_b, ↓evJoin, ↓strD_b, ↓outL_nx, ↓outL_bk, ↓outL_rt, ↓lpK_nx, ↓lpK_rt, ↓lpK_bk, ↓evPif, ↓evAnd, ↓evOr, ↓eveAnd, ↓eveOr, ↓evmIf, ↓evCh, pick0, pick1, List.getElem?_cons_succ, List.getElem?_cons_zero, Option.toList_some, List.cons_append, List.nil_append, List.length_cons, List.length_nil, Nat.reduceAdd, Nat.reduceLeDiff, wipe0, wipeS, List.set_cons_succ, List.set_cons_zero]
noncomputable def c_law_same_2 (n : Nat)  : List D → Rs (List D) := compT (τ := D × D) un2 (fun z => (r_law_same n) [z.1, z.2] >>= fun t11 =>
tru t11 >>= fun b12 =>
.ok (!b12)) (fun z => .ok (.int 0))
theorem c_law_same_2_n {β : Type} (n : Nat) (value_ : D) (due_ : D) (o_one : Option D) (o_other : Option D) (xs : List D) (k : List D → Dl → Rs β) : cpF [2, 3] (gT 2 (gC (gN 2) (gC (gN 3) gE))) (mNot (mTr (vA (mCall (r_law_same n) (sCons (mV 2) (sCons (mV 3) sNil)))))) (mC (.int 0)) xs [some value_, some due_, o_one, o_other] k = lenR xs (c_law_same_2 n xs) >>= fun ys => k ys [some value_, some due_, o_one, o_other] := by
  unfold c_law_same_2
  exact cpF_T (ε := fun z => [some value_, some due_, some z.1, some z.2]) (fun d => by simp only [↓bind_as, ↓bind_ite, ↓t_law_same_1_n, ↓evV0, ↓evVS, ↓evM, ↓evC, ↓evBvv, ↓evBrv, ↓evBvr, ↓evBrr, ↓evFvv, ↓evFrv, ↓evFvr, ↓evFrr, ↓evAv, ↓evAr, ↓evU, ↓evFU, ↓evTr, ↓evRev, ↓evRevT, ↓evSlv, ↓evfSlv, ↓evSlr, ↓evfSlr, ↓evoN, ↓evoS, ↓evL, ↓evs0, ↓evsv, ↓evsr, ↓evFl, ↓eveF, ↓evLst, ↓ltOne_b, ↓evT, ↓evNot, ↓eveNot, ↓evS0, ↓evSC, ↓evSS, ↓evTup, ↓evCall, ↓evCallK, ↓evCallM, ↓evApp, ↓evPop, ↓evPopAt, ↓evSeq, ↓evRng, ↓evZip, ↓tgN, ↓tgT2, ↓tgT3, ↓kS_nx, ↓kS_rt, ↓kS_bk, ↓kS_ct, ↓evPS, ↓evPn, ↓evPb, ↓evPc, ↓evPr, ↓evPset, ↓evPas, ↓evPex, ↓evPpar, ↓evPpar3, ↓evPinc, ↓evPsto, ↓evFor, ↓evComp, ↓evY, ↓kP_rt, ↓kP_nx, ↓kM_rt, ↓kM_nx, ↓kC_nx, ↓kC_ct, ↓kC_bk, ↓kC_rt, ↓rmv0, ↓rmvS, ↓pt0, ↓ptS, ↓okb, ↓nob, ↓rdO_s, ↓rdO_z, ↓liD_b, ↓mkT_b, ↓mkL_b, ↓hd2_b, ↓hd3_b, ↓un2_b, ↓un3_b, ↓evJoin, ↓strD_b, ↓outL_nx, ↓outL_bk, ↓outL_rt, ↓lpK_nx, ↓lpK_rt, ↓lpK_bk, ↓evPif, pick0, pick1, List.getElem?_cons_succ, List.getElem?_cons_zero, Option.toList_some, List.cons_append, List.nil_append, List.length_cons, List.length_nil, Nat.reduceAdd, Nat.reduceLeDiff, wipe0, wipeS, List.set_cons_succ, List.set_cons_zero]) (fun z => by simp only [↓bind_as, ↓bind_ite, ↓t_law_same_1_n, ↓evV0, ↓evVS, ↓evM, ↓evC, ↓evBvv, ↓evBrv, ↓evBvr, ↓evBrr, ↓evFvv, ↓evFrv, ↓evFvr, ↓evFrr, ↓evAv, ↓evAr, ↓evU, ↓evFU, ↓evTr, ↓evRev, ↓evRevT, ↓evSlv, ↓evfSlv, ↓evSlr, ↓evfSlr, ↓evoN, ↓evoS, ↓evL, ↓evs0, ↓evsv, ↓evsr, ↓evFl, ↓eveF, ↓evLst, ↓ltOne_b, ↓evT, ↓evNot, ↓eveNot, ↓evS0, ↓evSC, ↓evSS, ↓evTup, ↓evCall, ↓evCallK, ↓evCallM, ↓evApp, ↓evPop, ↓evPopAt, ↓evSeq, ↓evRng, ↓evZip, ↓tgN, ↓tgT2, ↓tgT3, ↓kS_nx, ↓kS_rt, ↓kS_bk, ↓kS_ct, ↓evPS, ↓evPn, ↓evPb, ↓evPc, ↓evPr, ↓evPset, ↓evPas, ↓evPex, ↓evPpar, ↓evPpar3, ↓evPinc, ↓evPsto, ↓evFor, ↓evComp, ↓evY, ↓kP_rt, ↓kP_nx, ↓kM_rt, ↓kM_nx, ↓kC_nx, ↓kC_ct, ↓kC_bk, ↓kC_rt, ↓rmv0, ↓rmvS, ↓pt0, ↓ptS, ↓okb, ↓nob, ↓rdO_s, ↓rdO_z, ↓liD_b, ↓mkT_b, ↓mkL_b, ↓hd2_b, ↓hd3_b, ↓un2_b, ↓un3_b, ↓evJoin, ↓strD_b, ↓outL_nx, ↓outL_bk, ↓outL_rt, ↓lpK_nx, ↓lpK_rt, ↓lpK_bk, ↓evPif, pick0, pick1, List.getElem?_cons_succ, List.getElem?_cons_zero, Option.toList_some, List.cons_append, List.nil_append, List.length_cons, List.length_nil, Nat.reduceAdd, Nat.reduceLeDiff, wipe0, wipeS, List.set_cons_succ, List.set_cons_zero]) (fun z => by simp only [↓bind_as, ↓bind_ite, ↓t_law_same_1_n, ↓evV0, ↓evVS, ↓evM, ↓evC, ↓evBvv, ↓evBrv, ↓evBvr, ↓evBrr, ↓evFvv, ↓evFrv, ↓evFvr, ↓evFrr, ↓evAv, ↓evAr, ↓evU, ↓evFU, ↓evTr, ↓evRev, ↓evRevT, ↓evSlv, ↓evfSlv, ↓evSlr, ↓evfSlr, ↓evoN, ↓evoS, ↓evL, ↓evs0, ↓evsv, ↓evsr, ↓evFl, ↓eveF, ↓evLst, ↓ltOne_b, ↓evT, ↓evNot, ↓eveNot, ↓evS0, ↓evSC, ↓evSS, ↓evTup, ↓evCall, ↓evCallK, ↓evCallM, ↓evApp, ↓evPop, ↓evPopAt, ↓evSeq, ↓evRng, ↓evZip, ↓tgN, ↓tgT2, ↓tgT3, ↓kS_nx, ↓kS_rt, ↓kS_bk, ↓kS_ct, ↓evPS, ↓evPn, ↓evPb, ↓evPc, ↓evPr, ↓evPset, ↓evPas, ↓evPex, ↓evPpar, ↓evPpar3, ↓evPinc, ↓evPsto, ↓evFor, ↓evComp, ↓evY, ↓kP_rt, ↓kP_nx, ↓kM_rt, ↓kM_nx, ↓kC_nx, ↓kC_ct, ↓kC_bk, ↓kC_rt, ↓rmv0, ↓rmvS, ↓pt0, ↓ptS, ↓okb, ↓nob, ↓rdO_s, ↓rdO_z, ↓liD_b, ↓mkT_b, ↓mkL_b, ↓hd2_b, ↓hd3_b, ↓un2_b, ↓un3_b, ↓evJoin, ↓strD_b, ↓outL_nx, ↓outL_bk, ↓outL_rt, ↓lpK_nx, ↓lpK_rt, ↓lpK_bk, ↓evPif, pick0, pick1, List.getElem?_cons_succ, List.getElem?_cons_zero, Option.toList_some, List.cons_append, List.nil_append, List.length_cons, List.length_nil, Nat.reduceAdd, Nat.reduceLeDiff, wipe0, wipeS, List.set_cons_succ, List.set_cons_zero]) (fun z => rfl) xs k
noncomputable def x_law_same_3 (value_ : D) (due_ : D) : Rs D := gIsi isInt value_ >>= fun t26 =>
bool t26 >>= fun b27 =>
if b27 = true then (gIsi isBool value_ >>= fun t28 =>
bool t28 >>= fun b29 =>
bool (.bool (!b29)) >>= fun b30 =>
if b30 = true then (gEq value_ due_ >>= fun t31 =>
.ok t31) else (.ok (.bool false))) else (.ok (.bool false))
theorem x_law_same_3_n {β : Type} (value_ : D) (due_ : D) (o_one : Option D) (o_other : Option D) (k : D → Dl → Rs β) : ev (eAnd (mU (gIsi isInt) (vA (mV 0))) (eAnd (eNot (mU (gIsi isBool) (vA (mV 0)))) (mB gEq (vA (mV 0)) (vA (mV 1))))) [some value_, some due_, o_one, o_other] k = x_law_same_3 value_ due_ >>= fun z => k z [some value_, some due_, o_one, o_other] := by
  unfold x_law_same_3
  simp only [↓bind_as, ↓bind_ite, ↓c_law_same_2_n, ↓t_law_same_1_n, ↓evV0, ↓evVS, ↓evM, ↓evC, ↓evBvv, ↓evBrv, ↓evBvr, ↓evBrr, ↓evFvv, ↓evFrv, ↓evFvr, ↓evFrr, ↓evAv, ↓evAr, ↓evU, ↓evFU, ↓evTr, ↓evRev, ↓evRevT, ↓evSlv, ↓evfSlv, ↓evSlr, ↓evfSlr, ↓evoN, ↓evoS, ↓evL, ↓evs0, ↓evsv, ↓evsr, ↓evFl, ↓eveF, ↓evLst, ↓ltOne_b, ↓evT, ↓evNot, ↓eveNot, ↓evS0, ↓evSC, ↓evSS, ↓evTup, ↓evCall, ↓evCallK, ↓evCallM, ↓evApp, ↓evPop, ↓evPopAt, ↓evSeq, ↓evRng, ↓evZip, ↓tgN, ↓tgT2, ↓tgT3, ↓kS_nx, ↓kS_rt, ↓kS_bk, ↓kS_ct, ↓evPS, ↓evPn, ↓evPb, ↓evPc, ↓evPr, ↓evPset, ↓evPas, ↓evPex, ↓evPpar, ↓evPpar3, ↓evPinc, ↓evPsto, ↓evFor, ↓evComp, ↓evY, ↓kP_rt, ↓kP_nx, ↓kM_rt, ↓kM_nx, ↓kC_nx, ↓kC_ct, ↓kC_bk, ↓kC_rt, ↓rmv0, ↓rmvS, ↓pt0, ↓ptS, ↓okb, ↓nob, ↓rdO_s, ↓rdO_z, ↓liD_b, ↓mkT_b, ↓mkL_b, ↓hd2_b, ↓hd3_b, ↓un2_b, ↓un3_b, ↓evJoin, ↓strD_b, ↓outL_nx, ↓outL_bk, ↓outL_rt, ↓lpK_nx, ↓lpK_rt, ↓lpK_bk, ↓evPif, ↓evAnd, ↓evOr, ↓eveAnd, ↓eveOr, ↓evmIf, ↓evCh, pick0, pick1, List.getElem?_cons_succ, List.getElem?_cons_zero, Option.toList_some, List.cons_append, List.nil_append, List.length_cons, List.length_nil, Nat.reduceAdd, Nat.reduceLeDiff, wipe0, wipeS, List.set_cons_succ, List.set_cons_zero]
noncomputable def x_law_same_4 (value_ : D) (due_ : D) : Rs D := gIsi isStr value_ >>= fun t33 =>
bool t33 >>= fun b34 =>
if b34 = true then (gEq value_ due_ >>= fun t35 =>
.ok t35) else (.ok (.bool false))
theorem x_law_same_4_n {β : Type} (value_ : D) (due_ : D) (o_one : Option D) (o_other : Option D) (k : D → Dl → Rs β) : ev (eAnd (mU (gIsi isStr) (vA (mV 0))) (mB gEq (vA (mV 0)) (vA (mV 1)))) [some value_, some due_, o_one, o_other] k = x_law_same_4 value_ due_ >>= fun z => k z [some value_, some due_, o_one, o_other] := by
  unfold x_law_same_4
  simp only [↓bind_as, ↓bind_ite, ↓x_law_same_3_n, ↓c_law_same_2_n, ↓t_law_same_1_n, ↓evV0, ↓evVS, ↓evM, ↓evC, ↓evBvv, ↓evBrv, ↓evBvr, ↓evBrr, ↓evFvv, ↓evFrv, ↓evFvr, ↓evFrr, ↓evAv, ↓evAr, ↓evU, ↓evFU, ↓evTr, ↓evRev, ↓evRevT, ↓evSlv, ↓evfSlv, ↓evSlr, ↓evfSlr, ↓evoN, ↓evoS, ↓evL, ↓evs0, ↓evsv, ↓evsr, ↓evFl, ↓eveF, ↓evLst, ↓ltOne_b, ↓evT, ↓evNot, ↓eveNot, ↓evS0, ↓evSC, ↓evSS, ↓evTup, ↓evCall, ↓evCallK, ↓evCallM, ↓evApp, ↓evPop, ↓evPopAt, ↓evSeq, ↓evRng, ↓evZip, ↓tgN, ↓tgT2, ↓tgT3, ↓kS_nx, ↓kS_rt, ↓kS_bk, ↓kS_ct, ↓evPS, ↓evPn, ↓evPb, ↓evPc, ↓evPr, ↓evPset, ↓evPas, ↓evPex, ↓evPpar, ↓evPpar3, ↓evPinc, ↓evPsto, ↓evFor, ↓evComp, ↓evY, ↓kP_rt, ↓kP_nx, ↓kM_rt, ↓kM_nx, ↓kC_nx, ↓kC_ct, ↓kC_bk, ↓kC_rt, ↓rmv0, ↓rmvS, ↓pt0, ↓ptS, ↓okb, ↓nob, ↓rdO_s, ↓rdO_z, ↓liD_b, ↓mkT_b, ↓mkL_b, ↓hd2_b, ↓hd3_b, ↓un2_b, ↓un3_b, ↓evJoin, ↓strD_b, ↓outL_nx, ↓outL_bk, ↓outL_rt, ↓lpK_nx, ↓lpK_rt, ↓lpK_bk, ↓evPif, ↓evAnd, ↓evOr, ↓eveAnd, ↓eveOr, ↓evmIf, ↓evCh, pick0, pick1, List.getElem?_cons_succ, List.getElem?_cons_zero, Option.toList_some, List.cons_append, List.nil_append, List.length_cons, List.length_nil, Nat.reduceAdd, Nat.reduceLeDiff, wipe0, wipeS, List.set_cons_succ, List.set_cons_zero]
theorem eq_law_same (n : Nat) (value_ : D) (due_ : D) : r_law_same (n + 1) [value_, due_] = gIsi isTup due_ >>= fun t1 =>
tru t1 >>= fun b2 =>
if b2 = true then (t_law_same_1 value_ due_ >>= fun b9 =>
if b9 = true then (.ok (.bool false)) else (zipR value_ due_ >>= fun xs10 =>
lenR xs10 (c_law_same_2 n xs10) >>= fun ys13 =>
gEq (.list ys13) (.list []) >>= fun t14 =>
.ok t14)) else (gIs due_ .none >>= fun t15 =>
bool t15 >>= fun b16 =>
if b16 = true then (gIs value_ .none >>= fun t17 =>
.ok t17) else (gIs due_ (.bool true) >>= fun t18 =>
bool t18 >>= fun b19 =>
if b19 = true then (gIs value_ (.bool true) >>= fun t20 =>
.ok t20) else (gIs due_ (.bool false) >>= fun t21 =>
bool t21 >>= fun b22 =>
if b22 = true then (gIs value_ (.bool false) >>= fun t23 =>
.ok t23) else (gIsi isInt due_ >>= fun t24 =>
tru t24 >>= fun b25 =>
if b25 = true then (x_law_same_3 value_ due_ >>= fun t32 =>
.ok t32) else (x_law_same_4 value_ due_ >>= fun t36 =>
.ok t36))))) := by
  refine (show _ = runP (.im) 4 (b_law_same (r_law_same n)) [value_, due_] from rfl).trans ((runP_ev (δ := [some value_, some due_, none, none]) rfl).trans ?_)
  unfold b_law_same
  simp only [↓bind_as, ↓bind_ite, ↓x_law_same_4_n, ↓x_law_same_3_n, ↓c_law_same_2_n, ↓t_law_same_1_n, ↓evV0, ↓evVS, ↓evM, ↓evC, ↓evBvv, ↓evBrv, ↓evBvr, ↓evBrr, ↓evFvv, ↓evFrv, ↓evFvr, ↓evFrr, ↓evAv, ↓evAr, ↓evU, ↓evFU, ↓evTr, ↓evRev, ↓evRevT, ↓evSlv, ↓evfSlv, ↓evSlr, ↓evfSlr, ↓evoN, ↓evoS, ↓evL, ↓evs0, ↓evsv, ↓evsr, ↓evFl, ↓eveF, ↓evLst, ↓ltOne_b, ↓evT, ↓evNot, ↓eveNot, ↓evS0, ↓evSC, ↓evSS, ↓evTup, ↓evCall, ↓evCallK, ↓evCallM, ↓evApp, ↓evPop, ↓evPopAt, ↓evSeq, ↓evRng, ↓evZip, ↓tgN, ↓tgT2, ↓tgT3, ↓kS_nx, ↓kS_rt, ↓kS_bk, ↓kS_ct, ↓evPS, ↓evPn, ↓evPb, ↓evPc, ↓evPr, ↓evPset, ↓evPas, ↓evPex, ↓evPpar, ↓evPpar3, ↓evPinc, ↓evPsto, ↓evFor, ↓evComp, ↓evY, ↓kP_rt, ↓kP_nx, ↓kM_rt, ↓kM_nx, ↓kC_nx, ↓kC_ct, ↓kC_bk, ↓kC_rt, ↓rmv0, ↓rmvS, ↓pt0, ↓ptS, ↓okb, ↓nob, ↓rdO_s, ↓rdO_z, ↓liD_b, ↓mkT_b, ↓mkL_b, ↓hd2_b, ↓hd3_b, ↓un2_b, ↓un3_b, ↓evJoin, ↓strD_b, ↓outL_nx, ↓outL_bk, ↓outL_rt, ↓lpK_nx, ↓lpK_rt, ↓lpK_bk, ↓evPif, pick0, pick1, List.getElem?_cons_succ, List.getElem?_cons_zero, Option.toList_some, List.cons_append, List.nil_append, List.length_cons, List.length_nil, Nat.reduceAdd, Nat.reduceLeDiff, wipe0, wipeS, List.set_cons_succ, List.set_cons_zero]
theorem eq_law_of (deal_ : D) (some_ : D) : r_law_of [deal_, some_] = gLen [some_] >>= fun t1 =>
r_law_any [deal_, t1] >>= fun q2 =>
gIx some_ q2.1 >>= fun t3 =>
.ok (t3, q2.2) := by
  refine (show _ = runM (.im) 2 b_law_of [deal_, some_] from rfl).trans ((runM_ev (δ := [some deal_, some some_]) rfl).trans ?_)
  unfold b_law_of
  simp only [↓bind_as, ↓bind_ite, ↓evV0, ↓evVS, ↓evM, ↓evC, ↓evBvv, ↓evBrv, ↓evBvr, ↓evBrr, ↓evFvv, ↓evFrv, ↓evFvr, ↓evFrr, ↓evAv, ↓evAr, ↓evU, ↓evFU, ↓evTr, ↓evRev, ↓evRevT, ↓evSlv, ↓evfSlv, ↓evSlr, ↓evfSlr, ↓evoN, ↓evoS, ↓evL, ↓evs0, ↓evsv, ↓evsr, ↓evFl, ↓eveF, ↓evLst, ↓ltOne_b, ↓evT, ↓evNot, ↓eveNot, ↓evS0, ↓evSC, ↓evSS, ↓evTup, ↓evCall, ↓evCallK, ↓evCallM, ↓evApp, ↓evPop, ↓evPopAt, ↓evSeq, ↓evRng, ↓evZip, ↓tgN, ↓tgT2, ↓tgT3, ↓kS_nx, ↓kS_rt, ↓kS_bk, ↓kS_ct, ↓evPS, ↓evPn, ↓evPb, ↓evPc, ↓evPr, ↓evPset, ↓evPas, ↓evPex, ↓evPpar, ↓evPpar3, ↓evPinc, ↓evPsto, ↓evFor, ↓evComp, ↓evY, ↓kP_rt, ↓kP_nx, ↓kM_rt, ↓kM_nx, ↓kC_nx, ↓kC_ct, ↓kC_bk, ↓kC_rt, ↓rmv0, ↓rmvS, ↓pt0, ↓ptS, ↓okb, ↓nob, ↓rdO_s, ↓rdO_z, ↓liD_b, ↓mkT_b, ↓mkL_b, ↓hd2_b, ↓hd3_b, ↓un2_b, ↓un3_b, ↓evJoin, ↓strD_b, ↓outL_nx, ↓outL_bk, ↓outL_rt, ↓lpK_nx, ↓lpK_rt, ↓lpK_bk, ↓evPif, pick0, pick1, List.getElem?_cons_succ, List.getElem?_cons_zero, Option.toList_some, List.cons_append, List.nil_append, List.length_cons, List.length_nil, Nat.reduceAdd, Nat.reduceLeDiff, wipe0, wipeS, List.set_cons_succ, List.set_cons_zero]
/-! ### likeness, of long ones too -/
def gd : Nat → D → Bool
  | _, .none => true
  | _, .bool _ => true
  | _, .int _ => true
  | _, .str _ => true
  | n + 1, .tuple xs => decide (xs.length ≤ 1000000) && xs.all (gd n)
  | _, _ => false
theorem sz6 {n : Nat} (h : n ≤ 1000000) : n ≤ sizeLine := Nat.le_trans h (by decide)
theorem pairs_self {xs : List D} {d : D} : d ∈ pairs xs xs → ∃ x, d = .tuple [x, x] ∧ x ∈ xs := by
  induction xs with
  | nil => exact nofun
  | cons x xs ih =>
    intro h
    rcases (List.mem_cons.mp h) with rfl | h
    · exact ⟨x, rfl, by simp⟩
    · obtain ⟨y, e, hy⟩ := ih h
      exact ⟨y, e, by simp [hy]⟩
theorem same_rf : ∀ (n : Nat) (d : D), gd n d = true → r_law_same (n + 1) [d, d] = .ok (.bool true) := by
  intro n
  induction n with
  | zero =>
    intro d h
    rw [eq_law_same]
    cases d with
    | none => rfl
    | bool b => cases b <;> rfl
    | int i => 
      have e := gEq_i i i
      simp only [gIsi, isTup, tru, okb, Bool.false_eq_true, if_true, gIs, isNo, isBo, bool, isInt, ite_tt, x_law_same_3, isBool, Bool.not_false, e, beq_self_eq_true]
    | str z =>
      have e := gEq_s z z
      simp only [gIsi, isTup, tru, okb, Bool.false_eq_true, if_true, gIs, isNo, isBo, bool, isInt, ite_tt, x_law_same_4, isStr, e, beq_self_eq_true]
    | tuple xs => exact absurd h (by simp [gd])
    | list xs => exact absurd h (by simp [gd])
    | dict xs => exact absurd h (by simp [gd])
  | succ n ih =>
    intro d h
    rw [eq_law_same]
    cases d with
    | none => rfl
    | bool b => cases b <;> rfl
    | int i => 
      have e := gEq_i i i
      simp only [gIsi, isTup, tru, okb, Bool.false_eq_true, if_true, gIs, isNo, isBo, bool, isInt, ite_tt, x_law_same_3, isBool, Bool.not_false, e, beq_self_eq_true]
    | str z =>
      have e := gEq_s z z
      simp only [gIsi, isTup, tru, okb, Bool.false_eq_true, if_true, gIs, isNo, isBo, bool, isInt, ite_tt, x_law_same_4, isStr, e, beq_self_eq_true]
    | tuple xs =>
      simp only [gd, Bool.and_eq_true, decide_eq_true_eq, List.all_eq_true] at h
      obtain ⟨hl, ha⟩ := h
      have e := gNe_i xs.length xs.length
      have c : lenR (pairs xs xs) (c_law_same_2 (n + 1) (pairs xs xs)) = .ok [] := by
        refine lenR_ok ?_ ?_
        · rw [pairs_len, Nat.min_self]
          exact sz6 hl
        · unfold c_law_same_2
          rw [compT_fil2 (fun _ => .int 0) (fun _ => false) _ fun d hd => ?_, List.filter_eq_nil_iff.mpr (fun _ _ => by simp)]
          · rfl
          · obtain ⟨x, rfl, hx⟩ := pairs_self hd
            refine ⟨(x, x), rfl, ?_, fun z => absurd z (by simp)⟩
            simp only [ih x (ha x hx), okb, tru, Bool.not_true]
      have gl : gLen [.tuple xs] = .ok (.int xs.length) := rfl
      have zp : zipR (.tuple xs) (.tuple xs) = .ok (pairs xs xs) := rfl
      have en := gEq_nil []
      simp only [gIsi, isTup, tru, okb, ite_tt, t_law_same_1, Bool.not_true, Bool.false_eq_true, if_true, gl, e, beq_self_eq_true, bool, zp, c, en, List.isEmpty_nil]
    | list xs => exact absurd h (by simp [gd])
    | dict xs => exact absurd h (by simp [gd])
/-! ### texts -/
abbrev tx (a : List Nat) : D := .str ⟨a.toArray⟩
theorem lit (s : String) : PyData.str (Str.ofString s) = tx (s.toList.map Char.toNat) := by rw [Str.ofString_eq_toList]
theorem tx_inj {a b : List Nat} (h : tx a = tx b) : a = b := by
  have := Str.mk.inj (PyData.str.inj h)
  simpa using this
theorem str_tx (z : Str) : PyData.str z = tx z.cps.toList := by cases z; simp
theorem gLen_tx {a : List Nat} (h : a.length ≤ 1000000) : gLen [tx a] = .ok (.int a.length) := by
  unfold gLen
  show (if (⟨a.toArray⟩ : Str).length ≤ sizeLine then _ else _) = _
  have e : (⟨a.toArray⟩ : Str).length = a.length := by show a.toArray.size = _; simp
  rw [e, if_pos (sz6 h)]
theorem gIx_tx {a : List Nat} {i : Int} {c : Nat} (h : a.length ≤ 1000000) (hi : atI a i = some c) : gIx (tx a) (.int i) = .ok (tx [c]) := by
  show (if (⟨a.toArray⟩ : Str).length ≤ sizeLine then _ else _) = _
  have e : (⟨a.toArray⟩ : Str).length = a.length := by show a.toArray.size = _; simp
  rw [e, if_pos (sz6 h)]
  show optR ((atI a.toArray.toList i).map _) = _
  rw [show a.toArray.toList = a by simp, hi]
  rfl
theorem gIn_tx (c : Nat) (a : List Nat) : gIn (tx [c]) (tx a) = .ok (.bool (decide (c ∈ a))) := by
  show Rs.ok (PyData.bool _) = _
  have := StrLaws.found_one ⟨a.toArray⟩ c
  simp only [show ([c] : List Nat).toArray = #[c] from rfl, this]
theorem gNi_tx (c : Nat) (a : List Nat) : gNi (tx [c]) (tx a) = .ok (.bool (!decide (c ∈ a))) := by
  show Rs.ok (PyData.bool (!_)) = _
  have := StrLaws.found_one ⟨a.toArray⟩ c
  simp only [show ([c] : List Nat).toArray = #[c] from rfl, this]
theorem beq_tx (a b : List Nat) : ((⟨a.toArray⟩ : Str) == ⟨b.toArray⟩) = decide (a = b) := by
  by_cases h : a = b
  · subst h; simp
  · rw [decide_eq_false h]
    rw [beq_eq_false_iff_ne]
    intro e
    exact h (by simpa using e)
theorem gEq_tx (a b : List Nat) : gEq (tx a) (tx b) = .ok (.bool (decide (a = b))) := by rw [gEq_s, beq_tx]
theorem gNe_tx (a b : List Nat) : gNe (tx a) (tx b) = .ok (.bool (!decide (a = b))) := by
  unfold gNe
  rw [depth_s, depth_s, PyData.eqv, if_pos (by decide), beq_tx]
theorem gAdd_tx {a b : List Nat} (h : a.length + b.length ≤ 1000000) : gAdd (tx a) (tx b) = .ok (tx (a ++ b)) := by
  unfold gAdd
  show (if (⟨a.toArray⟩ : Str).length + (⟨b.toArray⟩ : Str).length ≤ sizeLine then _ else _) = _
  have e : ∀ a : List Nat, (⟨a.toArray⟩ : Str).length = a.length := fun a => by show a.toArray.size = _; simp
  rw [e, e, if_pos (sz6 h)]
  show Rs.ok (PyData.str ⟨a.toArray ++ b.toArray⟩) = _
  simp
theorem seqOf_tx (a : List Nat) : seqOf (tx a) = .ok (a.map fun c => tx [c]) := by
  show Rs.ok _ = _
  rfl
theorem txs_map (xs : List (List Nat)) : txs (xs.map tx) = .ok (xs.map fun a => ⟨a.toArray⟩) := by
  induction xs with
  | nil => rfl
  | cons x xs ih => rw [List.map_cons, txs, ih]; rfl
theorem join_e (xs : List (List Nat)) : Txt.join (Str.ofString "") (xs.map fun a => (⟨a.toArray⟩ : Str)) = ⟨xs.flatten.toArray⟩ := by
  rw [TL.join_eq, Str.ofString_eq_toList]
  have : ∀ xs : List (List Nat), Str.join ⟨(("".toList).map Char.toNat).toArray⟩ (xs.map fun a => (⟨a.toArray⟩ : Str)) = ⟨xs.flatten.toArray⟩ := fun xs => by
    induction xs with
    | nil => rfl
    | cons x xs ih =>
      cases xs with
      | nil => simp [Str.join]
      | cons y ys =>
        show (⟨x.toArray⟩ : Str) ++ _ ++ Str.join _ ((y :: ys).map fun a => (⟨a.toArray⟩ : Str)) = _
        rw [ih, List.flatten_cons]
        show (⟨x.toArray ++ #[] ++ (y :: ys).flatten.toArray⟩ : Str) = _
        simp
  exact this xs
theorem gJoin_tx {xs : List (List Nat)} (h : xs.flatten.length ≤ 1000000) : gJoin (Str.ofString "") (.list (xs.map tx)) = .ok (tx xs.flatten) := by
  unfold gJoin ltD
  rw [okb, txs_map, okb, join_e]
  refine if_pos ?_
  have e : ((xs.map fun a => (⟨a.toArray⟩ : Str)).map (·.length)).sum = xs.flatten.length := by
    rw [List.length_flatten, List.map_map]
    congr 1
  have z : (Str.ofString "").length = 0 := rfl
  rw [e, z]
  omega
theorem rpS_tx (k : Nat) (a : List Nat) : PyData.str (rpS k ⟨a.toArray⟩) = tx (List.replicate k a).flatten := by
  unfold rpS
  simp
theorem gMulS_tx {k : Nat} {a : List Nat} (h : a.length * k ≤ 1000000) (hk : k ≤ 1000000) : gMulS (tx a) (.int k) = .ok (tx (List.replicate k a).flatten) := by
  have e : (⟨a.toArray⟩ : Str).length = a.length := by show a.toArray.size = _; simp
  unfold gMulS
  rw [← rpS_tx]
  refine if_pos ⟨?_, ?_, ?_⟩
  · omega
  · omega
  · rw [e, Int.toNat_natCast]; exact sz6 h
theorem of_tx {d : D} {L : List Nat} (h : Deal d) (hx : L ≠ []) (hl : L.length < 1000) : ∃ c d', r_law_of [d, tx L] = .ok (tx [c], d') ∧ Deal d' ∧ c ∈ L := by
  have hp : 0 < L.length := List.length_pos_iff.mpr hx
  obtain ⟨v, d', e, h', v0, v1⟩ := any_ok (m := L.length) h (by omega) (by omega)
  obtain ⟨j, rfl⟩ : ∃ j : Nat, v = j := ⟨v.toNat, by omega⟩
  have hj : j < L.length := by omega
  refine ⟨L[j], d', ?_, h', List.getElem_mem hj⟩
  rw [eq_law_of, gLen_tx (by omega), okb, e, okb, gIx_tx (by omega) (atI_nat (List.getElem?_eq_getElem hj)), okb]
end Zd

namespace Zd
open PySem PySem.Spec
open PyProof.Rows L2
noncomputable def b_run_end : Pm := (pSeq (pSet 3 (mV 1))
    (pSeq (loopA (mAnd (mT (mB gLt (vA (mV 3)) (vA (mL gLen (lCons (vA (mV 0)) lNil))))) (mT (mB gIn (vA (mB gIx (vA (mV 0)) (vA (mV 3)))) (vA (mV 2))))) (pInc 3 (mC (.int 1))))
    (pRet (mV 3))))
noncomputable def r_run_end : List D → Rs D := runP (.im) 4 b_run_end
noncomputable def b_tokens : Pm := (pSeq (pSet 1 (eF (fLst sNil)))
    (pSeq (pSet 2 (mC (.int 0)))
    (pSeq (loopA (mT (mB gLt (vA (mV 2)) (vA (mL gLen (lCons (vA (mV 0)) lNil))))) (pSeq (pSet 3 (mL gMax3 (lCons (vA (mB gAdd (vA (mV 2)) (vA (mC (.int 1))))) (lCons (vA (mCall r_run_end (sCons (mV 0) (sCons (mV 2) (sCons (mC (.str "abcdefghijklmnopqrstuvwxyz")) sNil))))) (lCons (vA (mCall r_run_end (sCons (mV 0) (sCons (mV 2) (sCons (mC (.str "0123456789")) sNil))))) lNil)))))
    (pSeq (pIf (mT (mB gNi (vA (mB gIx (vA (mV 0)) (vA (mV 2)))) (vA (mC (.str " \n"))))) (pEx (mApp 1 (mSl (vA (mV 0)) (oS (mV 2)) (oS (mV 3))))) pNil)
    (pSet 2 (mV 3)))))
    (pRet (mL gTup (lCons (rA 1) lNil))))))
noncomputable def r_tokens : List D → Rs D := runP (.im) 4 b_tokens
noncomputable def b_is_numeral : Pm := (pSeq (pIf (mOr (mNot (mTr (vA (mU (gIsi isStr) (vA (mV 0)))))) (mOr (mT (mB gEq (vA (mV 0)) (vA (mC (.str ""))))) (mT (mB gGt (vA (mL gLen (lCons (vA (mV 0)) lNil))) (vA (mC (.int 12))))))) (pRet (mC (.bool false))) pNil)
    (pRet (eAnd (mB gEq (vA (mCall r_run_end (sCons (mV 0) (sCons (mC (.int 0)) (sCons (mC (.str "0123456789")) sNil))))) (vA (mL gLen (lCons (vA (mV 0)) lNil)))) (eOr (mB gEq (vA (mV 0)) (vA (mC (.str "0")))) (mB gNe (vA (mB gIx (vA (mV 0)) (vA (mC (.int 0))))) (vA (mC (.str "0"))))))))
noncomputable def r_is_numeral : List D → Rs D := runP (.im) 1 b_is_numeral
noncomputable def b_law_is_numeral : Pm := (pSeq (pIf (mOr (mNot (mTr (vA (mU (gIsi isStr) (vA (mV 0)))))) (mNot (mT (mCh gLe gLe (mC (.int 1)) (mL gLen (lCons (vA (mV 0)) lNil)) (mC (.int 12)))))) (pRet (mC (.bool false))) pNil)
    (pRet (eAnd (mB gEq (vA (eF (fComp [1] (wSeq (mV 0)) (gN 1) (mT (mB gNi (vA (mV 1)) (vA (mC (.str "0123456789"))))) (mV 1)))) (vA (eF (fLst sNil)))) (eOr (mB gEq (vA (mV 0)) (vA (mC (.str "0")))) (mB gNe (vA (mB gIx (vA (mV 0)) (vA (mC (.int 0))))) (vA (mC (.str "0"))))))))
noncomputable def r_law_is_numeral : List D → Rs D := runP (.im) 2 b_law_is_numeral
noncomputable def b_law_scanned : Pm := (pSeq (pPar 1 2 (sCons (eF (fLst sNil)) (sCons (mC (.str "")) sNil)))
    (pSeq (pFor (wSeq (mV 0)) (gN 3) (pSeq (pSet 4 (mIf (mT (mB gIn (vA (mV 3)) (vA (mC (.str "abcdefghijklmnopqrstuvwxyz"))))) (mC (.str "a")) (mIf (mT (mB gIn (vA (mV 3)) (vA (mC (.str "0123456789"))))) (mC (.str "0")) (mC (.str "")))))
    (pSeq (pIf (mAnd (mT (mB gNe (vA (mV 3)) (vA (mC (.str " "))))) (mT (mB gNe (vA (mV 3)) (vA (mC (.str "\n")))))) (pIf (mAnd (mT (mB gNe (vA (mV 4)) (vA (mC (.str ""))))) (mT (mB gEq (vA (mV 4)) (vA (mV 2))))) (pStore 1 (mB gAdd (vA (mB gIx (rA 1) (vA (mU gNeg (vA (mC (.int 1))))))) (vA (mV 3))) (mU gNeg (vA (mC (.int 1))))) (pEx (mApp 1 (mV 3)))) pNil)
    (pSet 2 (mV 4)))))
    (pRet (mM 1))))
noncomputable def r_law_scanned : List D → Rs D := runP (.im) 5 b_law_scanned
noncomputable def b_law_run : Pm := (pSeq (pSet 2 (mCallM 0 r_law_of (sCons (eF (fLst (sCons (mC (.int 1)) (sCons (mC (.int 1)) (sCons (mC (.int 2)) (sCons (mC (.int 3)) (sCons (mC (.int 9)) (sCons (mC (.int 10)) (sCons (mC (.int 11)) (sCons (mC (.int 12)) (sCons (mC (.int 13)) (sCons (mB gAdd (vA (mC (.int 1))) (vA (mCallM 0 r_law_any (sCons (mC (.int 60)) sNil)))) sNil)))))))))))) sNil)))
    (pRet (mM1 gJoin (mC (.str "")) (vA (eF (fComp [3] (wRng (sCons (mV 2) sNil)) (gN 3) tmY (mCallM 0 r_law_of (sCons (mV 1) sNil))))))))
noncomputable def r_law_run : List D → Rs (D × D) := runM (.im) 4 b_law_run
noncomputable def b_law_text : Pm := (pSeq (pAs (gT 2 (gC (gN 1) (gC (gN 2) gE))) (mTup (sCons (mC (.str " \n\t!#$&'()*+,-./:;<=>?@ABMXYZ[\\]^_|~\"")) (sCons (mC (.str "")) sNil))))
    (pSeq (pFor (wRng (sCons (mCallM 0 r_law_of (sCons (eF (fLst (sCons (mC (.int 0)) (sCons (mC (.int 1)) (sCons (mC (.int 5)) (sCons (mC (.int 20)) (sCons (mC (.int 60)) sNil))))))) sNil)) sNil)) (gN 3) (pSeq (pSet 4 (mCallM 0 r_law_any (sCons (mC (.int 5)) sNil)))
    (pIf (mT (mB gEq (vA (mV 4)) (vA (mC (.int 0))))) (pSet 2 (mB gAdd (vA (mV 2)) (vA (mCallM 0 r_law_run (sCons (mC (.str "abcdefghijklmnopqrstuvwxyz")) sNil))))) (pIf (mT (mB gEq (vA (mV 4)) (vA (mC (.int 1))))) (pSet 2 (mB gAdd (vA (mV 2)) (vA (mCallM 0 r_law_run (sCons (mC (.str "0123456789")) sNil))))) (pIf (mT (mB gEq (vA (mV 4)) (vA (mC (.int 2))))) (pSet 2 (mB gAdd (vA (mV 2)) (vA (mCallM 0 r_law_of (sCons (eF (fLst (sCons (mC (.str " ")) (sCons (mC (.str "\n")) (sCons (mC (.str "  ")) (sCons (mC (.str " \n")) sNil)))))) sNil))))) (pSet 2 (mB gAdd (vA (mV 2)) (vA (mCallM 0 r_law_of (sCons (mV 1) sNil))))))))))
    (pSeq (pIf (mAnd (mT (mB gEq (vA (mCallM 0 r_law_any (sCons (mC (.int 4)) sNil))) (vA (mC (.int 0))))) (mT (mB gLt (vA (mL gLen (lCons (vA (mV 2)) lNil))) (vA (mC (.int 300)))))) (pSet 2 (mB gMulS (vA (mV 2)) (vA (mB gAdd (vA (mC (.int 2))) (vA (mCallM 0 r_law_any (sCons (mC (.int 9)) sNil))))))) pNil)
    (pRet (mV 2)))))
noncomputable def r_law_text : List D → Rs (D × D) := runM (.im) 5 b_law_text
noncomputable def b_law_value : Pm := (pSeq (pSet 1 (mCallM 0 r_law_run (sCons (mC (.str "0123456789")) sNil)))
    (pSeq (pSet 1 (mB gAdd (vA (mB gMulS (vA (mC (.str "0"))) (vA (mCallM 0 r_law_of (sCons (eF (fLst (sCons (mC (.int 0)) (sCons (mC (.int 0)) (sCons (mC (.int 0)) (sCons (mC (.int 1)) sNil)))))) sNil))))) (vA (mV 1))))
    (pSeq (pSet 2 (eF (fLst (sCons (mV 1) (sCons (mV 1) (sCons (mV 1) (sCons (mSl (vA (mV 1)) oN (oS (mC (.int 12)))) (sCons (mSl (vA (mV 1)) oN (oS (mC (.int 12)))) (sCons (mSl (vA (mV 1)) oN (oS (mC (.int 13)))) (sCons (mB gAdd (vA (mV 1)) (vA (mC (.str " ")))) (sCons (mB gAdd (vA (mC (.str " "))) (vA (mV 1))) (sCons (mB gAdd (vA (mC (.str "-"))) (vA (mV 1))) (sCons (mB gAdd (vA (mC (.str "+"))) (vA (mV 1))) (sCons (mB gAdd (vA (mV 1)) (vA (mC (.str "\n")))) sNil))))))))))))))
    (pSeq (pSet 2 (mB gAdd (vA (mV 2)) (vA (eF (fLst (sCons (mC (.str "")) (sCons (mC (.str "0")) (sCons (mC (.str "1_0")) (sCons (mC (.str "1.0")) (sCons (mC (.str "a")) (sCons (mB gAdd (vA (mSl (vA (mV 1)) oN (oS (mC (.int 5))))) (vA (mC (.str "a")))) (sCons (mB gAdd (vA (mSl (vA (mV 1)) oN (oS (mC (.int 5))))) (vA (mC (.str "/2")))) (sCons (mC .none) (sCons (mC (.bool true)) (sCons (mC (.bool false)) (sCons (mC (.int 0)) (sCons (mC (.int 7)) (sCons (mTup (sCons (mV 1) sNil)) (sCons (eF (fLst (sCons (mV 1) sNil))) sNil)))))))))))))))))))
    (pRet (mCallM 0 r_law_of (sCons (mV 2) sNil)))))))
noncomputable def r_law_value : List D → Rs (D × D) := runM (.im) 3 b_law_value
noncomputable def b_law : Pm := (pSeq (pSet 1 (mCall r_law_draw (sCons (mV 0) (sCons (mC (.int 10)) sNil))))
    (pSeq (pFor (wRng (sCons (mC (.int 2)) sNil)) (gN 2) (pSeq (pSet 3 (mCallM 1 r_law_text sNil))
    (pSeq (pSet 4 (mL gTup (lCons (vA (mCall r_law_scanned (sCons (mV 3) sNil))) lNil)))
    (pIf (mNot (mTr (vA (mCall (r_law_same 4) (sCons (mCall r_tokens (sCons (mV 3) sNil)) (sCons (mV 4) sNil)))))) (pRet (mC (.bool false))) pNil))))
    (pSeq (pFor (wRng (sCons (mC (.int 12)) sNil)) (gN 2) (pSeq (pSet 5 (mCallM 1 r_law_value sNil))
    (pIf (mNot (mTr (vA (mCall (r_law_same 4) (sCons (mCall r_is_numeral (sCons (mV 5) sNil)) (sCons (mCall r_law_is_numeral (sCons (mV 5) sNil)) sNil)))))) (pRet (mC (.bool false))) pNil)))
    (pRet (mC (.bool true))))))
noncomputable def r_law : List D → Rs D := runP (.im) 6 b_law
end Zd

namespace Zd
open PySem PySem.Spec
open PyProof.Rows L2
noncomputable def l_run_end_1  : (D) → Rs (Lp (D)) := fun s => incR s (.int 1) >>= fun end1 =>
.ok (.nx (end1))
noncomputable def t_run_end_2 (text_ : D) (signs_ : D) (end_ : D) : Rs Bool := gLen [text_] >>= fun t2 =>
gLt end_ t2 >>= fun t3 =>
bool t3 >>= fun b4 =>
if b4 = true then (gIx text_ end_ >>= fun t5 =>
gIn t5 signs_ >>= fun t6 =>
bool t6 >>= fun b7 =>
.ok b7) else (.ok false)
theorem t_run_end_2_n {β : Type} (text_ : D) (at_ : D) (signs_ : D) (end_ : D) (k : Bool → Dl → Rs β) : ev (mAnd (mT (mB gLt (vA (mV 3)) (vA (mL gLen (lCons (vA (mV 0)) lNil))))) (mT (mB gIn (vA (mB gIx (vA (mV 0)) (vA (mV 3)))) (vA (mV 2))))) [some text_, some at_, some signs_, some end_] k = t_run_end_2 text_ signs_ end_ >>= fun z => k z [some text_, some at_, some signs_, some end_] := by
  unfold t_run_end_2
  simp only [↓bind_as, ↓bind_ite, ↓evV0, ↓evVS, ↓evM, ↓evC, ↓evBvv, ↓evBrv, ↓evBvr, ↓evBrr, ↓evFvv, ↓evFrv, ↓evFvr, ↓evFrr, ↓evAv, ↓evAr, ↓evU, ↓evFU, ↓evTr, ↓evRev, ↓evRevT, ↓evSlv, ↓evfSlv, ↓evSlr, ↓evfSlr, ↓evoN, ↓evoS, ↓evL, ↓evs0, ↓evsv, ↓evsr, ↓evFl, ↓eveF, ↓evLst, ↓ltOne_b, ↓evT, ↓evNot, ↓eveNot, ↓evS0, ↓evSC, ↓evSS, ↓evTup, ↓evCall, ↓evCallK, ↓evCallM, ↓evApp, ↓evPop, ↓evPopAt, ↓evSeq, ↓evRng, ↓evZip, ↓tgN, ↓tgT2, ↓tgT3, ↓kS_nx, ↓kS_rt, ↓kS_bk, ↓kS_ct, ↓evPS, ↓evPn, ↓evPb, ↓evPc, ↓evPr, ↓evPset, ↓evPas, ↓evPex, ↓evPpar, ↓evPpar3, ↓evPinc, ↓evPsto, ↓evFor, ↓evComp, ↓evY, ↓kP_rt, ↓kP_nx, ↓kM_rt, ↓kM_nx, ↓kC_nx, ↓kC_ct, ↓kC_bk, ↓kC_rt, ↓rmv0, ↓rmvS, ↓pt0, ↓ptS, ↓okb, ↓nob, ↓rdO_s, ↓rdO_z, ↓liD_b, ↓mkT_b, ↓mkL_b, ↓hd2_b, ↓hd3_b, ↓un2_b, ↓un3_b, ↓evJoin, ↓strD_b, ↓outL_nx, ↓outL_bk, ↓outL_rt, ↓lpK_nx, ↓lpK_rt, ↓lpK_bk, ↓evPif, ↓evAnd, ↓evOr, ↓eveAnd, ↓eveOr, ↓evmIf, ↓evCh, pick0, pick1, List.getElem?_cons_succ, List.getElem?_cons_zero, Option.toList_some, List.cons_append, List.nil_append, List.length_cons, List.length_nil, Nat.reduceAdd, Nat.reduceLeDiff, wipe0, wipeS, List.set_cons_succ, List.set_cons_zero]
noncomputable def w_run_end_3 (text_ : D) (signs_ : D) : (D) → Rs Bool := fun s => t_run_end_2 text_ signs_ s >>= fun b8 =>
.ok b8
theorem l_run_end_1_n {β : Type} (text_ : D) (at_ : D) (signs_ : D) (end_ : D) (k : Fl → Dl → Rs β) : ev (loopA (mAnd (mT (mB gLt (vA (mV 3)) (vA (mL gLen (lCons (vA (mV 0)) lNil))))) (mT (mB gIn (vA (mB gIx (vA (mV 0)) (vA (mV 3)))) (vA (mV 2))))) (pInc 3 (mC (.int 1)))) [some text_, some at_, some signs_, some end_] k = whA (w_run_end_3 text_ signs_) (l_run_end_1) (end_) >>= fun r => lpK r (fun s' => k .nx [some text_, some at_, some signs_, some s']) (fun d s' => k (.rt d) [some text_, some at_, some signs_, some s']) :=
  loopWh (enc := fun s => [some text_, some at_, some signs_, some s]) (by
    intro s
    unfold w_run_end_3
    simp only [↓bind_as, ↓bind_ite, ↓t_run_end_2_n, ↓evV0, ↓evVS, ↓evM, ↓evC, ↓evBvv, ↓evBrv, ↓evBvr, ↓evBrr, ↓evFvv, ↓evFrv, ↓evFvr, ↓evFrr, ↓evAv, ↓evAr, ↓evU, ↓evFU, ↓evTr, ↓evRev, ↓evRevT, ↓evSlv, ↓evfSlv, ↓evSlr, ↓evfSlr, ↓evoN, ↓evoS, ↓evL, ↓evs0, ↓evsv, ↓evsr, ↓evFl, ↓eveF, ↓evLst, ↓ltOne_b, ↓evT, ↓evNot, ↓eveNot, ↓evS0, ↓evSC, ↓evSS, ↓evTup, ↓evCall, ↓evCallK, ↓evCallM, ↓evApp, ↓evPop, ↓evPopAt, ↓evSeq, ↓evRng, ↓evZip, ↓tgN, ↓tgT2, ↓tgT3, ↓kS_nx, ↓kS_rt, ↓kS_bk, ↓kS_ct, ↓evPS, ↓evPn, ↓evPb, ↓evPc, ↓evPr, ↓evPset, ↓evPas, ↓evPex, ↓evPpar, ↓evPpar3, ↓evPinc, ↓evPsto, ↓evFor, ↓evComp, ↓evY, ↓kP_rt, ↓kP_nx, ↓kM_rt, ↓kM_nx, ↓kC_nx, ↓kC_ct, ↓kC_bk, ↓kC_rt, ↓rmv0, ↓rmvS, ↓pt0, ↓ptS, ↓okb, ↓nob, ↓rdO_s, ↓rdO_z, ↓liD_b, ↓mkT_b, ↓mkL_b, ↓hd2_b, ↓hd3_b, ↓un2_b, ↓un3_b, ↓evJoin, ↓strD_b, ↓outL_nx, ↓outL_bk, ↓outL_rt, ↓lpK_nx, ↓lpK_rt, ↓lpK_bk, ↓evPif, pick0, pick1, List.getElem?_cons_succ, List.getElem?_cons_zero, Option.toList_some, List.cons_append, List.nil_append, List.length_cons, List.length_nil, Nat.reduceAdd, Nat.reduceLeDiff, wipe0, wipeS, List.set_cons_succ, List.set_cons_zero]) (by
    intro s
    unfold l_run_end_1
    simp only [↓bind_as, ↓bind_ite, ↓t_run_end_2_n, ↓evV0, ↓evVS, ↓evM, ↓evC, ↓evBvv, ↓evBrv, ↓evBvr, ↓evBrr, ↓evFvv, ↓evFrv, ↓evFvr, ↓evFrr, ↓evAv, ↓evAr, ↓evU, ↓evFU, ↓evTr, ↓evRev, ↓evRevT, ↓evSlv, ↓evfSlv, ↓evSlr, ↓evfSlr, ↓evoN, ↓evoS, ↓evL, ↓evs0, ↓evsv, ↓evsr, ↓evFl, ↓eveF, ↓evLst, ↓ltOne_b, ↓evT, ↓evNot, ↓eveNot, ↓evS0, ↓evSC, ↓evSS, ↓evTup, ↓evCall, ↓evCallK, ↓evCallM, ↓evApp, ↓evPop, ↓evPopAt, ↓evSeq, ↓evRng, ↓evZip, ↓tgN, ↓tgT2, ↓tgT3, ↓kS_nx, ↓kS_rt, ↓kS_bk, ↓kS_ct, ↓evPS, ↓evPn, ↓evPb, ↓evPc, ↓evPr, ↓evPset, ↓evPas, ↓evPex, ↓evPpar, ↓evPpar3, ↓evPinc, ↓evPsto, ↓evFor, ↓evComp, ↓evY, ↓kP_rt, ↓kP_nx, ↓kM_rt, ↓kM_nx, ↓kC_nx, ↓kC_ct, ↓kC_bk, ↓kC_rt, ↓rmv0, ↓rmvS, ↓pt0, ↓ptS, ↓okb, ↓nob, ↓rdO_s, ↓rdO_z, ↓liD_b, ↓mkT_b, ↓mkL_b, ↓hd2_b, ↓hd3_b, ↓un2_b, ↓un3_b, ↓evJoin, ↓strD_b, ↓outL_nx, ↓outL_bk, ↓outL_rt, ↓lpK_nx, ↓lpK_rt, ↓lpK_bk, ↓evPif, pick0, pick1, List.getElem?_cons_succ, List.getElem?_cons_zero, Option.toList_some, List.cons_append, List.nil_append, List.length_cons, List.length_nil, Nat.reduceAdd, Nat.reduceLeDiff, wipe0, wipeS, List.set_cons_succ, List.set_cons_zero]) (end_) k
theorem eq_run_end (text_ : D) (at_ : D) (signs_ : D) : r_run_end [text_, at_, signs_] = whA (w_run_end_3 text_ signs_) (l_run_end_1) (at_) >>= fun r9 =>
lpK r9 (fun s10 =>
.ok s10) (fun v11 s10 => .ok v11) := by
  refine (show _ = runP (.im) 4 b_run_end [text_, at_, signs_] from rfl).trans ((runP_ev (δ := [some text_, some at_, some signs_, none]) rfl).trans ?_)
  unfold b_run_end
  simp only [↓bind_as, ↓bind_ite, ↓l_run_end_1_n, ↓t_run_end_2_n, ↓evV0, ↓evVS, ↓evM, ↓evC, ↓evBvv, ↓evBrv, ↓evBvr, ↓evBrr, ↓evFvv, ↓evFrv, ↓evFvr, ↓evFrr, ↓evAv, ↓evAr, ↓evU, ↓evFU, ↓evTr, ↓evRev, ↓evRevT, ↓evSlv, ↓evfSlv, ↓evSlr, ↓evfSlr, ↓evoN, ↓evoS, ↓evL, ↓evs0, ↓evsv, ↓evsr, ↓evFl, ↓eveF, ↓evLst, ↓ltOne_b, ↓evT, ↓evNot, ↓eveNot, ↓evS0, ↓evSC, ↓evSS, ↓evTup, ↓evCall, ↓evCallK, ↓evCallM, ↓evApp, ↓evPop, ↓evPopAt, ↓evSeq, ↓evRng, ↓evZip, ↓tgN, ↓tgT2, ↓tgT3, ↓kS_nx, ↓kS_rt, ↓kS_bk, ↓kS_ct, ↓evPS, ↓evPn, ↓evPb, ↓evPc, ↓evPr, ↓evPset, ↓evPas, ↓evPex, ↓evPpar, ↓evPpar3, ↓evPinc, ↓evPsto, ↓evFor, ↓evComp, ↓evY, ↓kP_rt, ↓kP_nx, ↓kM_rt, ↓kM_nx, ↓kC_nx, ↓kC_ct, ↓kC_bk, ↓kC_rt, ↓rmv0, ↓rmvS, ↓pt0, ↓ptS, ↓okb, ↓nob, ↓rdO_s, ↓rdO_z, ↓liD_b, ↓mkT_b, ↓mkL_b, ↓hd2_b, ↓hd3_b, ↓un2_b, ↓un3_b, ↓evJoin, ↓strD_b, ↓outL_nx, ↓outL_bk, ↓outL_rt, ↓lpK_nx, ↓lpK_rt, ↓lpK_bk, ↓evPif, pick0, pick1, List.getElem?_cons_succ, List.getElem?_cons_zero, Option.toList_some, List.cons_append, List.nil_append, List.length_cons, List.length_nil, Nat.reduceAdd, Nat.reduceLeDiff, wipe0, wipeS, List.set_cons_succ, List.set_cons_zero]
noncomputable def i_tokens_1 (text_ : D) (found_ : D) (at_ : D) (end_ : D) : Rs (D) := gIx text_ at_ >>= fun t5 =>
gNi t5 (.str " \n") >>= fun t6 =>
bool t6 >>= fun b7 =>
if b7 = true then (liD found_ >>= fun _y8 =>
toI at_ >>= fun i9 =>
toI end_ >>= fun i10 =>
gCut (some i9) (some i10) text_ >>= fun t11 =>
appR found_ t11 >>= fun found12 =>
.ok (found12)) else (.ok (found_))
theorem i_tokens_1_n {β : Type} (text_ : D) (found_ : D) (at_ : D) (end_ : D) (k : Fl → Dl → Rs β) : ev (pIf (no_index (mT (mB gNi (vA (mB gIx (vA (mV 0)) (vA (mV 2)))) (vA (mC (.str " \n")))))) (no_index (pEx (mApp 1 (mSl (vA (mV 0)) (oS (mV 2)) (oS (mV 3)))))) (no_index pNil)) (no_index [some text_, some found_, some at_, some end_]) k = i_tokens_1 text_ found_ at_ end_ >>= fun z => k .nx [some text_, some z, some at_, some end_] := by
  unfold i_tokens_1
  simp only [↓bind_as, ↓bind_ite, ↓evV0, ↓evVS, ↓evM, ↓evC, ↓evBvv, ↓evBrv, ↓evBvr, ↓evBrr, ↓evFvv, ↓evFrv, ↓evFvr, ↓evFrr, ↓evAv, ↓evAr, ↓evU, ↓evFU, ↓evTr, ↓evRev, ↓evRevT, ↓evSlv, ↓evfSlv, ↓evSlr, ↓evfSlr, ↓evoN, ↓evoS, ↓evL, ↓evs0, ↓evsv, ↓evsr, ↓evFl, ↓eveF, ↓evLst, ↓ltOne_b, ↓evT, ↓evNot, ↓eveNot, ↓evS0, ↓evSC, ↓evSS, ↓evTup, ↓evCall, ↓evCallK, ↓evCallM, ↓evApp, ↓evPop, ↓evPopAt, ↓evSeq, ↓evRng, ↓evZip, ↓tgN, ↓tgT2, ↓tgT3, ↓kS_nx, ↓kS_rt, ↓kS_bk, ↓kS_ct, ↓evPS, ↓evPn, ↓evPb, ↓evPc, ↓evPr, ↓evPset, ↓evPas, ↓evPex, ↓evPpar, ↓evPpar3, ↓evPinc, ↓evPsto, ↓evFor, ↓evComp, ↓evY, ↓kP_rt, ↓kP_nx, ↓kM_rt, ↓kM_nx, ↓kC_nx, ↓kC_ct, ↓kC_bk, ↓kC_rt, ↓rmv0, ↓rmvS, ↓pt0, ↓ptS, ↓okb, ↓nob, ↓rdO_s, ↓rdO_z, ↓liD_b, ↓mkT_b, ↓mkL_b, ↓hd2_b, ↓hd3_b, ↓un2_b, ↓un3_b, ↓evJoin, ↓strD_b, ↓outL_nx, ↓outL_bk, ↓outL_rt, ↓lpK_nx, ↓lpK_rt, ↓lpK_bk, ↓evPif, pick0, pick1, List.getElem?_cons_succ, List.getElem?_cons_zero, Option.toList_some, List.cons_append, List.nil_append, List.length_cons, List.length_nil, Nat.reduceAdd, Nat.reduceLeDiff, wipe0, wipeS, List.set_cons_succ, List.set_cons_zero]
noncomputable def l_tokens_2 (text_ : D) : (D × D × Option D) → Rs (Lp (D × D × Option D)) := fun s => gAdd s.2.1 (.int 1) >>= fun t1 =>
r_run_end [text_, s.2.1, (.str "abcdefghijklmnopqrstuvwxyz")] >>= fun t2 =>
r_run_end [text_, s.2.1, (.str "0123456789")] >>= fun t3 =>
gMax3 [t1, t2, t3] >>= fun t4 =>
i_tokens_1 text_ s.1 s.2.1 t4 >>= fun z13 =>
.ok (.nx (z13, t4, some t4))
noncomputable def w_tokens_3 (text_ : D) : (D × D × Option D) → Rs Bool := fun s => gLen [text_] >>= fun t14 =>
gLt s.2.1 t14 >>= fun t15 =>
bool t15 >>= fun b16 =>
.ok b16
theorem l_tokens_2_n {β : Type} (text_ : D) (found_ : D) (at_ : D) (o_end : Option D) (k : Fl → Dl → Rs β) : ev (loopA (mT (mB gLt (vA (mV 2)) (vA (mL gLen (lCons (vA (mV 0)) lNil))))) (pSeq (pSet 3 (mL gMax3 (lCons (vA (mB gAdd (vA (mV 2)) (vA (mC (.int 1))))) (lCons (vA (mCall r_run_end (sCons (mV 0) (sCons (mV 2) (sCons (mC (.str "abcdefghijklmnopqrstuvwxyz")) sNil))))) (lCons (vA (mCall r_run_end (sCons (mV 0) (sCons (mV 2) (sCons (mC (.str "0123456789")) sNil))))) lNil)))))
    (pSeq (pIf (mT (mB gNi (vA (mB gIx (vA (mV 0)) (vA (mV 2)))) (vA (mC (.str " \n"))))) (pEx (mApp 1 (mSl (vA (mV 0)) (oS (mV 2)) (oS (mV 3))))) pNil)
    (pSet 2 (mV 3))))) [some text_, some found_, some at_, o_end] k = whA (w_tokens_3 text_) (l_tokens_2 text_) (found_, at_, o_end) >>= fun r => lpK r (fun s' => k .nx [some text_, some s'.1, some s'.2.1, s'.2.2]) (fun d s' => k (.rt d) [some text_, some s'.1, some s'.2.1, s'.2.2]) :=
  loopWh (enc := fun s => [some text_, some s.1, some s.2.1, s.2.2]) (by
    intro s
    unfold w_tokens_3
    simp only [↓bind_as, ↓bind_ite, ↓i_tokens_1_n, ↓evV0, ↓evVS, ↓evM, ↓evC, ↓evBvv, ↓evBrv, ↓evBvr, ↓evBrr, ↓evFvv, ↓evFrv, ↓evFvr, ↓evFrr, ↓evAv, ↓evAr, ↓evU, ↓evFU, ↓evTr, ↓evRev, ↓evRevT, ↓evSlv, ↓evfSlv, ↓evSlr, ↓evfSlr, ↓evoN, ↓evoS, ↓evL, ↓evs0, ↓evsv, ↓evsr, ↓evFl, ↓eveF, ↓evLst, ↓ltOne_b, ↓evT, ↓evNot, ↓eveNot, ↓evS0, ↓evSC, ↓evSS, ↓evTup, ↓evCall, ↓evCallK, ↓evCallM, ↓evApp, ↓evPop, ↓evPopAt, ↓evSeq, ↓evRng, ↓evZip, ↓tgN, ↓tgT2, ↓tgT3, ↓kS_nx, ↓kS_rt, ↓kS_bk, ↓kS_ct, ↓evPS, ↓evPn, ↓evPb, ↓evPc, ↓evPr, ↓evPset, ↓evPas, ↓evPex, ↓evPpar, ↓evPpar3, ↓evPinc, ↓evPsto, ↓evFor, ↓evComp, ↓evY, ↓kP_rt, ↓kP_nx, ↓kM_rt, ↓kM_nx, ↓kC_nx, ↓kC_ct, ↓kC_bk, ↓kC_rt, ↓rmv0, ↓rmvS, ↓pt0, ↓ptS, ↓okb, ↓nob, ↓rdO_s, ↓rdO_z, ↓liD_b, ↓mkT_b, ↓mkL_b, ↓hd2_b, ↓hd3_b, ↓un2_b, ↓un3_b, ↓evJoin, ↓strD_b, ↓outL_nx, ↓outL_bk, ↓outL_rt, ↓lpK_nx, ↓lpK_rt, ↓lpK_bk, ↓evPif, pick0, pick1, List.getElem?_cons_succ, List.getElem?_cons_zero, Option.toList_some, List.cons_append, List.nil_append, List.length_cons, List.length_nil, Nat.reduceAdd, Nat.reduceLeDiff, wipe0, wipeS, List.set_cons_succ, List.set_cons_zero]) (by
    intro s
    unfold l_tokens_2
    simp only [↓bind_as, ↓bind_ite, ↓i_tokens_1_n, ↓evV0, ↓evVS, ↓evM, ↓evC, ↓evBvv, ↓evBrv, ↓evBvr, ↓evBrr, ↓evFvv, ↓evFrv, ↓evFvr, ↓evFrr, ↓evAv, ↓evAr, ↓evU, ↓evFU, ↓evTr, ↓evRev, ↓evRevT, ↓evSlv, ↓evfSlv, ↓evSlr, ↓evfSlr, ↓evoN, ↓evoS, ↓evL, ↓evs0, ↓evsv, ↓evsr, ↓evFl, ↓eveF, ↓evLst, ↓ltOne_b, ↓evT, ↓evNot, ↓eveNot, ↓evS0, ↓evSC, ↓evSS, ↓evTup, ↓evCall, ↓evCallK, ↓evCallM, ↓evApp, ↓evPop, ↓evPopAt, ↓evSeq, ↓evRng, ↓evZip, ↓tgN, ↓tgT2, ↓tgT3, ↓kS_nx, ↓kS_rt, ↓kS_bk, ↓kS_ct, ↓evPS, ↓evPn, ↓evPb, ↓evPc, ↓evPr, ↓evPset, ↓evPas, ↓evPex, ↓evPpar, ↓evPpar3, ↓evPinc, ↓evPsto, ↓evFor, ↓evComp, ↓evY, ↓kP_rt, ↓kP_nx, ↓kM_rt, ↓kM_nx, ↓kC_nx, ↓kC_ct, ↓kC_bk, ↓kC_rt, ↓rmv0, ↓rmvS, ↓pt0, ↓ptS, ↓okb, ↓nob, ↓rdO_s, ↓rdO_z, ↓liD_b, ↓mkT_b, ↓mkL_b, ↓hd2_b, ↓hd3_b, ↓un2_b, ↓un3_b, ↓evJoin, ↓strD_b, ↓outL_nx, ↓outL_bk, ↓outL_rt, ↓lpK_nx, ↓lpK_rt, ↓lpK_bk, ↓evPif, pick0, pick1, List.getElem?_cons_succ, List.getElem?_cons_zero, Option.toList_some, List.cons_append, List.nil_append, List.length_cons, List.length_nil, Nat.reduceAdd, Nat.reduceLeDiff, wipe0, wipeS, List.set_cons_succ, List.set_cons_zero]) (found_, at_, o_end) k
theorem eq_tokens (text_ : D) : r_tokens [text_] = whA (w_tokens_3 text_) (l_tokens_2 text_) ((.list []), (.int 0), none) >>= fun r17 =>
lpK r17 (fun s18 =>
gTup [s18.1] >>= fun t20 =>
.ok t20) (fun v19 s18 => .ok v19) := by
  refine (show _ = runP (.im) 4 b_tokens [text_] from rfl).trans ((runP_ev (δ := [some text_, none, none, none]) rfl).trans ?_)
  unfold b_tokens
  simp only [↓bind_as, ↓bind_ite, ↓l_tokens_2_n, ↓i_tokens_1_n, ↓evV0, ↓evVS, ↓evM, ↓evC, ↓evBvv, ↓evBrv, ↓evBvr, ↓evBrr, ↓evFvv, ↓evFrv, ↓evFvr, ↓evFrr, ↓evAv, ↓evAr, ↓evU, ↓evFU, ↓evTr, ↓evRev, ↓evRevT, ↓evSlv, ↓evfSlv, ↓evSlr, ↓evfSlr, ↓evoN, ↓evoS, ↓evL, ↓evs0, ↓evsv, ↓evsr, ↓evFl, ↓eveF, ↓evLst, ↓ltOne_b, ↓evT, ↓evNot, ↓eveNot, ↓evS0, ↓evSC, ↓evSS, ↓evTup, ↓evCall, ↓evCallK, ↓evCallM, ↓evApp, ↓evPop, ↓evPopAt, ↓evSeq, ↓evRng, ↓evZip, ↓tgN, ↓tgT2, ↓tgT3, ↓kS_nx, ↓kS_rt, ↓kS_bk, ↓kS_ct, ↓evPS, ↓evPn, ↓evPb, ↓evPc, ↓evPr, ↓evPset, ↓evPas, ↓evPex, ↓evPpar, ↓evPpar3, ↓evPinc, ↓evPsto, ↓evFor, ↓evComp, ↓evY, ↓kP_rt, ↓kP_nx, ↓kM_rt, ↓kM_nx, ↓kC_nx, ↓kC_ct, ↓kC_bk, ↓kC_rt, ↓rmv0, ↓rmvS, ↓pt0, ↓ptS, ↓okb, ↓nob, ↓rdO_s, ↓rdO_z, ↓liD_b, ↓mkT_b, ↓mkL_b, ↓hd2_b, ↓hd3_b, ↓un2_b, ↓un3_b, ↓evJoin, ↓strD_b, ↓outL_nx, ↓outL_bk, ↓outL_rt, ↓lpK_nx, ↓lpK_rt, ↓lpK_bk, ↓evPif, pick0, pick1, List.getElem?_cons_succ, List.getElem?_cons_zero, Option.toList_some, List.cons_append, List.nil_append, List.length_cons, List.length_nil, Nat.reduceAdd, Nat.reduceLeDiff, wipe0, wipeS, List.set_cons_succ, List.set_cons_zero]
noncomputable def t_is_numeral_1 (value_ : D) : Rs Bool := gIsi isStr value_ >>= fun t1 =>
tru t1 >>= fun b2 =>
if (!b2) = true then (.ok true) else (gEq value_ (.str "") >>= fun t3 =>
bool t3 >>= fun b4 =>
if b4 = true then (.ok true) else (gLen [value_] >>= fun t5 =>
gGt t5 (.int 12) >>= fun t6 =>
bool t6 >>= fun b7 =>
.ok b7))
theorem t_is_numeral_1_n {β : Type} (value_ : D) (k : Bool → Dl → Rs β) : ev (mOr (mNot (mTr (vA (mU (gIsi isStr) (vA (mV 0)))))) (mOr (mT (mB gEq (vA (mV 0)) (vA (mC (.str ""))))) (mT (mB gGt (vA (mL gLen (lCons (vA (mV 0)) lNil))) (vA (mC (.int 12))))))) [some value_] k = t_is_numeral_1 value_ >>= fun z => k z [some value_] := by
  unfold t_is_numeral_1
  simp only [↓bind_as, ↓bind_ite, ↓evV0, ↓evVS, ↓evM, ↓evC, ↓evBvv, ↓evBrv, ↓evBvr, ↓evBrr, ↓evFvv, ↓evFrv, ↓evFvr, ↓evFrr, ↓evAv, ↓evAr, ↓evU, ↓evFU, ↓evTr, ↓evRev, ↓evRevT, ↓evSlv, ↓evfSlv, ↓evSlr, ↓evfSlr, ↓evoN, ↓evoS, ↓evL, ↓evs0, ↓evsv, ↓evsr, ↓evFl, ↓eveF, ↓evLst, ↓ltOne_b, ↓evT, ↓evNot, ↓eveNot, ↓evS0, ↓evSC, ↓evSS, ↓evTup, ↓evCall, ↓evCallK, ↓evCallM, ↓evApp, ↓evPop, ↓evPopAt, ↓evSeq, ↓evRng, ↓evZip, ↓tgN, ↓tgT2, ↓tgT3, ↓kS_nx, ↓kS_rt, ↓kS_bk, ↓kS_ct, ↓evPS, ↓evPn, ↓evPb, ↓evPc, ↓evPr, ↓evPset, ↓evPas, ↓evPex, ↓evPpar, ↓evPpar3, ↓evPinc, ↓evPsto, ↓evFor, ↓evComp, ↓evY, ↓kP_rt, ↓kP_nx, ↓kM_rt, ↓kM_nx, ↓kC_nx, ↓kC_ct, ↓kC_bk, ↓kC_rt, ↓rmv0, ↓rmvS, ↓pt0, ↓ptS, ↓okb, ↓nob, ↓rdO_s, ↓rdO_z, ↓liD_b, ↓mkT_b, ↓mkL_b, ↓hd2_b, ↓hd3_b, ↓un2_b, ↓un3_b, ↓evJoin, ↓strD_b, ↓outL_nx, ↓outL_bk, ↓outL_rt, ↓lpK_nx, ↓lpK_rt, ↓lpK_bk, ↓evPif, ↓evAnd, ↓evOr, ↓eveAnd, ↓eveOr, ↓evmIf, ↓evCh, pick0, pick1, List.getElem?_cons_succ, List.getElem?_cons_zero, Option.toList_some, List.cons_append, List.nil_append, List.length_cons, List.length_nil, Nat.reduceAdd, Nat.reduceLeDiff, wipe0, wipeS, List.set_cons_succ, List.set_cons_zero]
noncomputable def x_is_numeral_2 (value_ : D) : Rs D := r_run_end [value_, (.int 0), (.str "0123456789")] >>= fun t9 =>
gLen [value_] >>= fun t10 =>
gEq t9 t10 >>= fun t11 =>
bool t11 >>= fun b12 =>
if b12 = true then (gEq value_ (.str "0") >>= fun t13 =>
bool t13 >>= fun b14 =>
if b14 = true then (.ok (.bool true)) else (gIx value_ (.int 0) >>= fun t15 =>
gNe t15 (.str "0") >>= fun t16 =>
.ok t16)) else (.ok (.bool false))
theorem x_is_numeral_2_n {β : Type} (value_ : D) (k : D → Dl → Rs β) : ev (eAnd (mB gEq (vA (mCall r_run_end (sCons (mV 0) (sCons (mC (.int 0)) (sCons (mC (.str "0123456789")) sNil))))) (vA (mL gLen (lCons (vA (mV 0)) lNil)))) (eOr (mB gEq (vA (mV 0)) (vA (mC (.str "0")))) (mB gNe (vA (mB gIx (vA (mV 0)) (vA (mC (.int 0))))) (vA (mC (.str "0")))))) [some value_] k = x_is_numeral_2 value_ >>= fun z => k z [some value_] := by
  unfold x_is_numeral_2
  simp only [↓bind_as, ↓bind_ite, ↓t_is_numeral_1_n, ↓evV0, ↓evVS, ↓evM, ↓evC, ↓evBvv, ↓evBrv, ↓evBvr, ↓evBrr, ↓evFvv, ↓evFrv, ↓evFvr, ↓evFrr, ↓evAv, ↓evAr, ↓evU, ↓evFU, ↓evTr, ↓evRev, ↓evRevT, ↓evSlv, ↓evfSlv, ↓evSlr, ↓evfSlr, ↓evoN, ↓evoS, ↓evL, ↓evs0, ↓evsv, ↓evsr, ↓evFl, ↓eveF, ↓evLst, ↓ltOne_b, ↓evT, ↓evNot, ↓eveNot, ↓evS0, ↓evSC, ↓evSS, ↓evTup, ↓evCall, ↓evCallK, ↓evCallM, ↓evApp, ↓evPop, ↓evPopAt, ↓evSeq, ↓evRng, ↓evZip, ↓tgN, ↓tgT2, ↓tgT3, ↓kS_nx, ↓kS_rt, ↓kS_bk, ↓kS_ct, ↓evPS, ↓evPn, ↓evPb, ↓evPc, ↓evPr, ↓evPset, ↓evPas, ↓evPex, ↓evPpar, ↓evPpar3, ↓evPinc, ↓evPsto, ↓evFor, ↓evComp, ↓evY, ↓kP_rt, ↓kP_nx, ↓kM_rt, ↓kM_nx, ↓kC_nx, ↓kC_ct, ↓kC_bk, ↓kC_rt, ↓rmv0, ↓rmvS, ↓pt0, ↓ptS, ↓okb, ↓nob, ↓rdO_s, ↓rdO_z, ↓liD_b, ↓mkT_b, ↓mkL_b, ↓hd2_b, ↓hd3_b, ↓un2_b, ↓un3_b, ↓evJoin, ↓strD_b, ↓outL_nx, ↓outL_bk, ↓outL_rt, ↓lpK_nx, ↓lpK_rt, ↓lpK_bk, ↓evPif, ↓evAnd, ↓evOr, ↓eveAnd, ↓eveOr, ↓evmIf, ↓evCh, pick0, pick1, List.getElem?_cons_succ, List.getElem?_cons_zero, Option.toList_some, List.cons_append, List.nil_append, List.length_cons, List.length_nil, Nat.reduceAdd, Nat.reduceLeDiff, wipe0, wipeS, List.set_cons_succ, List.set_cons_zero]
theorem eq_is_numeral (value_ : D) : r_is_numeral [value_] = t_is_numeral_1 value_ >>= fun b8 =>
if b8 = true then (.ok (.bool false)) else (x_is_numeral_2 value_ >>= fun t17 =>
.ok t17) := by
  refine (show _ = runP (.im) 1 b_is_numeral [value_] from rfl).trans ((runP_ev (δ := [some value_]) rfl).trans ?_)
  unfold b_is_numeral
  simp only [↓bind_as, ↓bind_ite, ↓x_is_numeral_2_n, ↓t_is_numeral_1_n, ↓evV0, ↓evVS, ↓evM, ↓evC, ↓evBvv, ↓evBrv, ↓evBvr, ↓evBrr, ↓evFvv, ↓evFrv, ↓evFvr, ↓evFrr, ↓evAv, ↓evAr, ↓evU, ↓evFU, ↓evTr, ↓evRev, ↓evRevT, ↓evSlv, ↓evfSlv, ↓evSlr, ↓evfSlr, ↓evoN, ↓evoS, ↓evL, ↓evs0, ↓evsv, ↓evsr, ↓evFl, ↓eveF, ↓evLst, ↓ltOne_b, ↓evT, ↓evNot, ↓eveNot, ↓evS0, ↓evSC, ↓evSS, ↓evTup, ↓evCall, ↓evCallK, ↓evCallM, ↓evApp, ↓evPop, ↓evPopAt, ↓evSeq, ↓evRng, ↓evZip, ↓tgN, ↓tgT2, ↓tgT3, ↓kS_nx, ↓kS_rt, ↓kS_bk, ↓kS_ct, ↓evPS, ↓evPn, ↓evPb, ↓evPc, ↓evPr, ↓evPset, ↓evPas, ↓evPex, ↓evPpar, ↓evPpar3, ↓evPinc, ↓evPsto, ↓evFor, ↓evComp, ↓evY, ↓kP_rt, ↓kP_nx, ↓kM_rt, ↓kM_nx, ↓kC_nx, ↓kC_ct, ↓kC_bk, ↓kC_rt, ↓rmv0, ↓rmvS, ↓pt0, ↓ptS, ↓okb, ↓nob, ↓rdO_s, ↓rdO_z, ↓liD_b, ↓mkT_b, ↓mkL_b, ↓hd2_b, ↓hd3_b, ↓un2_b, ↓un3_b, ↓evJoin, ↓strD_b, ↓outL_nx, ↓outL_bk, ↓outL_rt, ↓lpK_nx, ↓lpK_rt, ↓lpK_bk, ↓evPif, pick0, pick1, List.getElem?_cons_succ, List.getElem?_cons_zero, Option.toList_some, List.cons_append, List.nil_append, List.length_cons, List.length_nil, Nat.reduceAdd, Nat.reduceLeDiff, wipe0, wipeS, List.set_cons_succ, List.set_cons_zero]
noncomputable def t_law_is_numeral_1 (value_ : D) : Rs Bool := gIsi isStr value_ >>= fun t1 =>
tru t1 >>= fun b2 =>
if (!b2) = true then (.ok true) else (gLen [value_] >>= fun t3 =>
gLe (.int 1) t3 >>= fun z4 =>
bool z4 >>= fun b5 =>
if b5 = true then (gLe t3 (.int 12) >>= fun t6 =>
bool t6 >>= fun b7 =>
.ok (!b7)) else (bool (.bool false) >>= fun b8 =>
.ok (!b8)))
theorem t_law_is_numeral_1_n {β : Type} (value_ : D) (o_sign : Option D) (k : Bool → Dl → Rs β) : ev (mOr (mNot (mTr (vA (mU (gIsi isStr) (vA (mV 0)))))) (mNot (mT (mCh gLe gLe (mC (.int 1)) (mL gLen (lCons (vA (mV 0)) lNil)) (mC (.int 12)))))) [some value_, o_sign] k = t_law_is_numeral_1 value_ >>= fun z => k z [some value_, o_sign] := by
  unfold t_law_is_numeral_1
  simp only [↓bind_as, ↓bind_ite, ↓evV0, ↓evVS, ↓evM, ↓evC, ↓evBvv, ↓evBrv, ↓evBvr, ↓evBrr, ↓evFvv, ↓evFrv, ↓evFvr, ↓evFrr, ↓evAv, ↓evAr, ↓evU, ↓evFU, ↓evTr, ↓evRev, ↓evRevT, ↓evSlv, ↓evfSlv, ↓evSlr, ↓evfSlr, ↓evoN, ↓evoS, ↓evL, ↓evs0, ↓evsv, ↓evsr, ↓evFl, ↓eveF, ↓evLst, ↓ltOne_b, ↓evT, ↓evNot, ↓eveNot, ↓evS0, ↓evSC, ↓evSS, ↓evTup, ↓evCall, ↓evCallK, ↓evCallM, ↓evApp, ↓evPop, ↓evPopAt, ↓evSeq, ↓evRng, ↓evZip, ↓tgN, ↓tgT2, ↓tgT3, ↓kS_nx, ↓kS_rt, ↓kS_bk, ↓kS_ct, ↓evPS, ↓evPn, ↓evPb, ↓evPc, ↓evPr, ↓evPset, ↓evPas, ↓evPex, ↓evPpar, ↓evPpar3, ↓evPinc, ↓evPsto, ↓evFor, ↓evComp, ↓evY, ↓kP_rt, ↓kP_nx, ↓kM_rt, ↓kM_nx, ↓kC_nx, ↓kC_ct, ↓kC_bk, ↓kC_rt, ↓rmv0, ↓rmvS, ↓pt0, ↓ptS, ↓okb, ↓nob, ↓rdO_s, ↓rdO_z, ↓liD_b, ↓mkT_b, ↓mkL_b, ↓hd2_b, ↓hd3_b, ↓un2_b, ↓un3_b, ↓evJoin, ↓strD_b, ↓outL_nx, ↓outL_bk, ↓outL_rt, ↓lpK_nx, ↓lpK_rt, ↓lpK_bk, ↓evPif, ↓evAnd, ↓evOr, ↓eveAnd, ↓eveOr, ↓evmIf, ↓evCh, pick0, pick1, List.getElem?_cons_succ, List.getElem?_cons_zero, Option.toList_some, List.cons_append, List.nil_append, List.length_cons, List.length_nil, Nat.reduceAdd, Nat.reduceLeDiff, wipe0, wipeS, List.set_cons_succ, List.set_cons_zero]
noncomputable def c_law_is_numeral_2  : List D → Rs (List D) := compT (τ := D) Rs.ok (fun z => gNi z (.str "0123456789") >>= fun t11 =>
bool t11 >>= fun b12 =>
.ok b12) (fun z => .ok z)
theorem c_law_is_numeral_2_n {β : Type} (value_ : D) (o_sign : Option D) (xs : List D) (k : List D → Dl → Rs β) : cpF [1] (gN 1) (mT (mB gNi (vA (mV 1)) (vA (mC (.str "0123456789"))))) (mV 1) xs [some value_, o_sign] k = lenR xs (c_law_is_numeral_2 xs) >>= fun ys => k ys [some value_, o_sign] := by
  unfold c_law_is_numeral_2
  exact cpF_T (ε := fun z => [some value_, some z]) (fun d => by simp only [↓bind_as, ↓bind_ite, ↓t_law_is_numeral_1_n, ↓evV0, ↓evVS, ↓evM, ↓evC, ↓evBvv, ↓evBrv, ↓evBvr, ↓evBrr, ↓evFvv, ↓evFrv, ↓evFvr, ↓evFrr, ↓evAv, ↓evAr, ↓evU, ↓evFU, ↓evTr, ↓evRev, ↓evRevT, ↓evSlv, ↓evfSlv, ↓evSlr, ↓evfSlr, ↓evoN, ↓evoS, ↓evL, ↓evs0, ↓evsv, ↓evsr, ↓evFl, ↓eveF, ↓evLst, ↓ltOne_b, ↓evT, ↓evNot, ↓eveNot, ↓evS0, ↓evSC, ↓evSS, ↓evTup, ↓evCall, ↓evCallK, ↓evCallM, ↓evApp, ↓evPop, ↓evPopAt, ↓evSeq, ↓evRng, ↓evZip, ↓tgN, ↓tgT2, ↓tgT3, ↓kS_nx, ↓kS_rt, ↓kS_bk, ↓kS_ct, ↓evPS, ↓evPn, ↓evPb, ↓evPc, ↓evPr, ↓evPset, ↓evPas, ↓evPex, ↓evPpar, ↓evPpar3, ↓evPinc, ↓evPsto, ↓evFor, ↓evComp, ↓evY, ↓kP_rt, ↓kP_nx, ↓kM_rt, ↓kM_nx, ↓kC_nx, ↓kC_ct, ↓kC_bk, ↓kC_rt, ↓rmv0, ↓rmvS, ↓pt0, ↓ptS, ↓okb, ↓nob, ↓rdO_s, ↓rdO_z, ↓liD_b, ↓mkT_b, ↓mkL_b, ↓hd2_b, ↓hd3_b, ↓un2_b, ↓un3_b, ↓evJoin, ↓strD_b, ↓outL_nx, ↓outL_bk, ↓outL_rt, ↓lpK_nx, ↓lpK_rt, ↓lpK_bk, ↓evPif, pick0, pick1, List.getElem?_cons_succ, List.getElem?_cons_zero, Option.toList_some, List.cons_append, List.nil_append, List.length_cons, List.length_nil, Nat.reduceAdd, Nat.reduceLeDiff, wipe0, wipeS, List.set_cons_succ, List.set_cons_zero]) (fun z => by simp only [↓bind_as, ↓bind_ite, ↓t_law_is_numeral_1_n, ↓evV0, ↓evVS, ↓evM, ↓evC, ↓evBvv, ↓evBrv, ↓evBvr, ↓evBrr, ↓evFvv, ↓evFrv, ↓evFvr, ↓evFrr, ↓evAv, ↓evAr, ↓evU, ↓evFU, ↓evTr, ↓evRev, ↓evRevT, ↓evSlv, ↓evfSlv, ↓evSlr, ↓evfSlr, ↓evoN, ↓evoS, ↓evL, ↓evs0, ↓evsv, ↓evsr, ↓evFl, ↓eveF, ↓evLst, ↓ltOne_b, ↓evT, ↓evNot, ↓eveNot, ↓evS0, ↓evSC, ↓evSS, ↓evTup, ↓evCall, ↓evCallK, ↓evCallM, ↓evApp, ↓evPop, ↓evPopAt, ↓evSeq, ↓evRng, ↓evZip, ↓tgN, ↓tgT2, ↓tgT3, ↓kS_nx, ↓kS_rt, ↓kS_bk, ↓kS_ct, ↓evPS, ↓evPn, ↓evPb, ↓evPc, ↓evPr, ↓evPset, ↓evPas, ↓evPex, ↓evPpar, ↓evPpar3, ↓evPinc, ↓evPsto, ↓evFor, ↓evComp, ↓evY, ↓kP_rt, ↓kP_nx, ↓kM_rt, ↓kM_nx, ↓kC_nx, ↓kC_ct, ↓kC_bk, ↓kC_rt, ↓rmv0, ↓rmvS, ↓pt0, ↓ptS, ↓okb, ↓nob, ↓rdO_s, ↓rdO_z, ↓liD_b, ↓mkT_b, ↓mkL_b, ↓hd2_b, ↓hd3_b, ↓un2_b, ↓un3_b, ↓evJoin, ↓strD_b, ↓outL_nx, ↓outL_bk, ↓outL_rt, ↓lpK_nx, ↓lpK_rt, ↓lpK_bk, ↓evPif, pick0, pick1, List.getElem?_cons_succ, List.getElem?_cons_zero, Option.toList_some, List.cons_append, List.nil_append, List.length_cons, List.length_nil, Nat.reduceAdd, Nat.reduceLeDiff, wipe0, wipeS, List.set_cons_succ, List.set_cons_zero]) (fun z => by simp only [↓bind_as, ↓bind_ite, ↓t_law_is_numeral_1_n, ↓evV0, ↓evVS, ↓evM, ↓evC, ↓evBvv, ↓evBrv, ↓evBvr, ↓evBrr, ↓evFvv, ↓evFrv, ↓evFvr, ↓evFrr, ↓evAv, ↓evAr, ↓evU, ↓evFU, ↓evTr, ↓evRev, ↓evRevT, ↓evSlv, ↓evfSlv, ↓evSlr, ↓evfSlr, ↓evoN, ↓evoS, ↓evL, ↓evs0, ↓evsv, ↓evsr, ↓evFl, ↓eveF, ↓evLst, ↓ltOne_b, ↓evT, ↓evNot, ↓eveNot, ↓evS0, ↓evSC, ↓evSS, ↓evTup, ↓evCall, ↓evCallK, ↓evCallM, ↓evApp, ↓evPop, ↓evPopAt, ↓evSeq, ↓evRng, ↓evZip, ↓tgN, ↓tgT2, ↓tgT3, ↓kS_nx, ↓kS_rt, ↓kS_bk, ↓kS_ct, ↓evPS, ↓evPn, ↓evPb, ↓evPc, ↓evPr, ↓evPset, ↓evPas, ↓evPex, ↓evPpar, ↓evPpar3, ↓evPinc, ↓evPsto, ↓evFor, ↓evComp, ↓evY, ↓kP_rt, ↓kP_nx, ↓kM_rt, ↓kM_nx, ↓kC_nx, ↓kC_ct, ↓kC_bk, ↓kC_rt, ↓rmv0, ↓rmvS, ↓pt0, ↓ptS, ↓okb, ↓nob, ↓rdO_s, ↓rdO_z, ↓liD_b, ↓mkT_b, ↓mkL_b, ↓hd2_b, ↓hd3_b, ↓un2_b, ↓un3_b, ↓evJoin, ↓strD_b, ↓outL_nx, ↓outL_bk, ↓outL_rt, ↓lpK_nx, ↓lpK_rt, ↓lpK_bk, ↓evPif, pick0, pick1, List.getElem?_cons_succ, List.getElem?_cons_zero, Option.toList_some, List.cons_append, List.nil_append, List.length_cons, List.length_nil, Nat.reduceAdd, Nat.reduceLeDiff, wipe0, wipeS, List.set_cons_succ, List.set_cons_zero]) (fun z => rfl) xs k
noncomputable def x_law_is_numeral_3 (value_ : D) : Rs D := seqOf value_ >>= fun xs10 =>
lenR xs10 (c_law_is_numeral_2 xs10) >>= fun ys13 =>
gEq (.list ys13) (.list []) >>= fun t14 =>
bool t14 >>= fun b15 =>
if b15 = true then (gEq value_ (.str "0") >>= fun t16 =>
bool t16 >>= fun b17 =>
if b17 = true then (.ok (.bool true)) else (gIx value_ (.int 0) >>= fun t18 =>
gNe t18 (.str "0") >>= fun t19 =>
.ok t19)) else (.ok (.bool false))
theorem x_law_is_numeral_3_n {β : Type} (value_ : D) (o_sign : Option D) (k : D → Dl → Rs β) : ev (eAnd (mB gEq (vA (eF (fComp [1] (wSeq (mV 0)) (gN 1) (mT (mB gNi (vA (mV 1)) (vA (mC (.str "0123456789"))))) (mV 1)))) (vA (eF (fLst sNil)))) (eOr (mB gEq (vA (mV 0)) (vA (mC (.str "0")))) (mB gNe (vA (mB gIx (vA (mV 0)) (vA (mC (.int 0))))) (vA (mC (.str "0")))))) [some value_, o_sign] k = x_law_is_numeral_3 value_ >>= fun z => k z [some value_, o_sign] := by
  unfold x_law_is_numeral_3
  simp only [↓bind_as, ↓bind_ite, ↓c_law_is_numeral_2_n, ↓t_law_is_numeral_1_n, ↓evV0, ↓evVS, ↓evM, ↓evC, ↓evBvv, ↓evBrv, ↓evBvr, ↓evBrr, ↓evFvv, ↓evFrv, ↓evFvr, ↓evFrr, ↓evAv, ↓evAr, ↓evU, ↓evFU, ↓evTr, ↓evRev, ↓evRevT, ↓evSlv, ↓evfSlv, ↓evSlr, ↓evfSlr, ↓evoN, ↓evoS, ↓evL, ↓evs0, ↓evsv, ↓evsr, ↓evFl, ↓eveF, ↓evLst, ↓ltOne_b, ↓evT, ↓evNot, ↓eveNot, ↓evS0, ↓evSC, ↓evSS, ↓evTup, ↓evCall, ↓evCallK, ↓evCallM, ↓evApp, ↓evPop, ↓evPopAt, ↓evSeq, ↓evRng, ↓evZip, ↓tgN, ↓tgT2, ↓tgT3, ↓kS_nx, ↓kS_rt, ↓kS_bk, ↓kS_ct, ↓evPS, ↓evPn, ↓evPb, ↓evPc, ↓evPr, ↓evPset, ↓evPas, ↓evPex, ↓evPpar, ↓evPpar3, ↓evPinc, ↓evPsto, ↓evFor, ↓evComp, ↓evY, ↓kP_rt, ↓kP_nx, ↓kM_rt, ↓kM_nx, ↓kC_nx, ↓kC_ct, ↓kC_bk, ↓kC_rt, ↓rmv0, ↓rmvS, ↓pt0, ↓ptS, ↓okb, ↓nob, ↓rdO_s, ↓rdO_z, ↓liD_b, ↓mkT_b, ↓mkL_b, ↓hd2_b, ↓hd3_b, ↓un2_b, ↓un3_b, ↓evJoin, ↓strD_b, ↓outL_nx, ↓outL_bk, ↓outL_rt, ↓lpK_nx, ↓lpK_rt, ↓lpK_bk, ↓evPif, ↓evAnd, ↓evOr, ↓eveAnd, ↓eveOr, ↓evmIf, ↓evCh, pick0, pick1, List.getElem?_cons_succ, List.getElem?_cons_zero, Option.toList_some, List.cons_append, List.nil_append, List.length_cons, List.length_nil, Nat.reduceAdd, Nat.reduceLeDiff, wipe0, wipeS, List.set_cons_succ, List.set_cons_zero]
theorem eq_law_is_numeral (value_ : D) : r_law_is_numeral [value_] = t_law_is_numeral_1 value_ >>= fun b9 =>
if b9 = true then (.ok (.bool false)) else (x_law_is_numeral_3 value_ >>= fun t20 =>
.ok t20) := by
  refine (show _ = runP (.im) 2 b_law_is_numeral [value_] from rfl).trans ((runP_ev (δ := [some value_, none]) rfl).trans ?_)
  unfold b_law_is_numeral
  simp only [↓bind_as, ↓bind_ite, ↓x_law_is_numeral_3_n, ↓c_law_is_numeral_2_n, ↓t_law_is_numeral_1_n, ↓evV0, ↓evVS, ↓evM, ↓evC, ↓evBvv, ↓evBrv, ↓evBvr, ↓evBrr, ↓evFvv, ↓evFrv, ↓evFvr, ↓evFrr, ↓evAv, ↓evAr, ↓evU, ↓evFU, ↓evTr, ↓evRev, ↓evRevT, ↓evSlv, ↓evfSlv, ↓evSlr, ↓evfSlr, ↓evoN, ↓evoS, ↓evL, ↓evs0, ↓evsv, ↓evsr, ↓evFl, ↓eveF, ↓evLst, ↓ltOne_b, ↓evT, ↓evNot, ↓eveNot, ↓evS0, ↓evSC, ↓evSS, ↓evTup, ↓evCall, ↓evCallK, ↓evCallM, ↓evApp, ↓evPop, ↓evPopAt, ↓evSeq, ↓evRng, ↓evZip, ↓tgN, ↓tgT2, ↓tgT3, ↓kS_nx, ↓kS_rt, ↓kS_bk, ↓kS_ct, ↓evPS, ↓evPn, ↓evPb, ↓evPc, ↓evPr, ↓evPset, ↓evPas, ↓evPex, ↓evPpar, ↓evPpar3, ↓evPinc, ↓evPsto, ↓evFor, ↓evComp, ↓evY, ↓kP_rt, ↓kP_nx, ↓kM_rt, ↓kM_nx, ↓kC_nx, ↓kC_ct, ↓kC_bk, ↓kC_rt, ↓rmv0, ↓rmvS, ↓pt0, ↓ptS, ↓okb, ↓nob, ↓rdO_s, ↓rdO_z, ↓liD_b, ↓mkT_b, ↓mkL_b, ↓hd2_b, ↓hd3_b, ↓un2_b, ↓un3_b, ↓evJoin, ↓strD_b, ↓outL_nx, ↓outL_bk, ↓outL_rt, ↓lpK_nx, ↓lpK_rt, ↓lpK_bk, ↓evPif, pick0, pick1, List.getElem?_cons_succ, List.getElem?_cons_zero, Option.toList_some, List.cons_append, List.nil_append, List.length_cons, List.length_nil, Nat.reduceAdd, Nat.reduceLeDiff, wipe0, wipeS, List.set_cons_succ, List.set_cons_zero]
noncomputable def x_law_scanned_1 (sign_ : D) : Rs D := gIn sign_ (.str "abcdefghijklmnopqrstuvwxyz") >>= fun t2 =>
bool t2 >>= fun b3 =>
if b3 = true then (.ok (.str "a")) else (gIn sign_ (.str "0123456789") >>= fun t4 =>
bool t4 >>= fun b5 =>
if b5 = true then (.ok (.str "0")) else (.ok (.str "")))
theorem x_law_scanned_1_n {β : Type} (text_ : D) (found_ : D) (last_ : D) (sign_ : D) (o_kind : Option D) (k : D → Dl → Rs β) : ev (mIf (mT (mB gIn (vA (mV 3)) (vA (mC (.str "abcdefghijklmnopqrstuvwxyz"))))) (mC (.str "a")) (mIf (mT (mB gIn (vA (mV 3)) (vA (mC (.str "0123456789"))))) (mC (.str "0")) (mC (.str "")))) [some text_, some found_, some last_, some sign_, o_kind] k = x_law_scanned_1 sign_ >>= fun z => k z [some text_, some found_, some last_, some sign_, o_kind] := by
  unfold x_law_scanned_1
  simp only [↓bind_as, ↓bind_ite, ↓evV0, ↓evVS, ↓evM, ↓evC, ↓evBvv, ↓evBrv, ↓evBvr, ↓evBrr, ↓evFvv, ↓evFrv, ↓evFvr, ↓evFrr, ↓evAv, ↓evAr, ↓evU, ↓evFU, ↓evTr, ↓evRev, ↓evRevT, ↓evSlv, ↓evfSlv, ↓evSlr, ↓evfSlr, ↓evoN, ↓evoS, ↓evL, ↓evs0, ↓evsv, ↓evsr, ↓evFl, ↓eveF, ↓evLst, ↓ltOne_b, ↓evT, ↓evNot, ↓eveNot, ↓evS0, ↓evSC, ↓evSS, ↓evTup, ↓evCall, ↓evCallK, ↓evCallM, ↓evApp, ↓evPop, ↓evPopAt, ↓evSeq, ↓evRng, ↓evZip, ↓tgN, ↓tgT2, ↓tgT3, ↓kS_nx, ↓kS_rt, ↓kS_bk, ↓kS_ct, ↓evPS, ↓evPn, ↓evPb, ↓evPc, ↓evPr, ↓evPset, ↓evPas, ↓evPex, ↓evPpar, ↓evPpar3, ↓evPinc, ↓evPsto, ↓evFor, ↓evComp, ↓evY, ↓kP_rt, ↓kP_nx, ↓kM_rt, ↓kM_nx, ↓kC_nx, ↓kC_ct, ↓kC_bk, ↓kC_rt, ↓rmv0, ↓rmvS, ↓pt0, ↓ptS, ↓okb, ↓nob, ↓rdO_s, ↓rdO_z, ↓liD_b, ↓mkT_b, ↓mkL_b, ↓hd2_b, ↓hd3_b, ↓un2_b, ↓un3_b, ↓evJoin, ↓strD_b, ↓outL_nx, ↓outL_bk, ↓outL_rt, ↓lpK_nx, ↓lpK_rt, ↓lpK_bk, ↓evPif, ↓evAnd, ↓evOr, ↓eveAnd, ↓eveOr, ↓evmIf, ↓evCh, pick0, pick1, List.getElem?_cons_succ, List.getElem?_cons_zero, Option.toList_some, List.cons_append, List.nil_append, List.length_cons, List.length_nil, Nat.reduceAdd, Nat.reduceLeDiff, wipe0, wipeS, List.set_cons_succ, List.set_cons_zero]
noncomputable def t_law_scanned_2 (sign_ : D) : Rs Bool := gNe sign_ (.str " ") >>= fun t7 =>
bool t7 >>= fun b8 =>
if b8 = true then (gNe sign_ (.str "\n") >>= fun t9 =>
bool t9 >>= fun b10 =>
.ok b10) else (.ok false)
theorem t_law_scanned_2_n {β : Type} (text_ : D) (found_ : D) (last_ : D) (sign_ : D) (kind_ : D) (k : Bool → Dl → Rs β) : ev (mAnd (mT (mB gNe (vA (mV 3)) (vA (mC (.str " "))))) (mT (mB gNe (vA (mV 3)) (vA (mC (.str "\n")))))) [some text_, some found_, some last_, some sign_, some kind_] k = t_law_scanned_2 sign_ >>= fun z => k z [some text_, some found_, some last_, some sign_, some kind_] := by
  unfold t_law_scanned_2
  simp only [↓bind_as, ↓bind_ite, ↓x_law_scanned_1_n, ↓evV0, ↓evVS, ↓evM, ↓evC, ↓evBvv, ↓evBrv, ↓evBvr, ↓evBrr, ↓evFvv, ↓evFrv, ↓evFvr, ↓evFrr, ↓evAv, ↓evAr, ↓evU, ↓evFU, ↓evTr, ↓evRev, ↓evRevT, ↓evSlv, ↓evfSlv, ↓evSlr, ↓evfSlr, ↓evoN, ↓evoS, ↓evL, ↓evs0, ↓evsv, ↓evsr, ↓evFl, ↓eveF, ↓evLst, ↓ltOne_b, ↓evT, ↓evNot, ↓eveNot, ↓evS0, ↓evSC, ↓evSS, ↓evTup, ↓evCall, ↓evCallK, ↓evCallM, ↓evApp, ↓evPop, ↓evPopAt, ↓evSeq, ↓evRng, ↓evZip, ↓tgN, ↓tgT2, ↓tgT3, ↓kS_nx, ↓kS_rt, ↓kS_bk, ↓kS_ct, ↓evPS, ↓evPn, ↓evPb, ↓evPc, ↓evPr, ↓evPset, ↓evPas, ↓evPex, ↓evPpar, ↓evPpar3, ↓evPinc, ↓evPsto, ↓evFor, ↓evComp, ↓evY, ↓kP_rt, ↓kP_nx, ↓kM_rt, ↓kM_nx, ↓kC_nx, ↓kC_ct, ↓kC_bk, ↓kC_rt, ↓rmv0, ↓rmvS, ↓pt0, ↓ptS, ↓okb, ↓nob, ↓rdO_s, ↓rdO_z, ↓liD_b, ↓mkT_b, ↓mkL_b, ↓hd2_b, ↓hd3_b, ↓un2_b, ↓un3_b, ↓evJoin, ↓strD_b, ↓outL_nx, ↓outL_bk, ↓outL_rt, ↓lpK_nx, ↓lpK_rt, ↓lpK_bk, ↓evPif, ↓evAnd, ↓evOr, ↓eveAnd, ↓eveOr, ↓evmIf, ↓evCh, pick0, pick1, List.getElem?_cons_succ, List.getElem?_cons_zero, Option.toList_some, List.cons_append, List.nil_append, List.length_cons, List.length_nil, Nat.reduceAdd, Nat.reduceLeDiff, wipe0, wipeS, List.set_cons_succ, List.set_cons_zero]
noncomputable def t_law_scanned_3 (last_ : D) (kind_ : D) : Rs Bool := gNe kind_ (.str "") >>= fun t12 =>
bool t12 >>= fun b13 =>
if b13 = true then (gEq kind_ last_ >>= fun t14 =>
bool t14 >>= fun b15 =>
.ok b15) else (.ok false)
theorem t_law_scanned_3_n {β : Type} (text_ : D) (found_ : D) (last_ : D) (sign_ : D) (kind_ : D) (k : Bool → Dl → Rs β) : ev (mAnd (mT (mB gNe (vA (mV 4)) (vA (mC (.str ""))))) (mT (mB gEq (vA (mV 4)) (vA (mV 2))))) [some text_, some found_, some last_, some sign_, some kind_] k = t_law_scanned_3 last_ kind_ >>= fun z => k z [some text_, some found_, some last_, some sign_, some kind_] := by
  unfold t_law_scanned_3
  simp only [↓bind_as, ↓bind_ite, ↓t_law_scanned_2_n, ↓x_law_scanned_1_n, ↓evV0, ↓evVS, ↓evM, ↓evC, ↓evBvv, ↓evBrv, ↓evBvr, ↓evBrr, ↓evFvv, ↓evFrv, ↓evFvr, ↓evFrr, ↓evAv, ↓evAr, ↓evU, ↓evFU, ↓evTr, ↓evRev, ↓evRevT, ↓evSlv, ↓evfSlv, ↓evSlr, ↓evfSlr, ↓evoN, ↓evoS, ↓evL, ↓evs0, ↓evsv, ↓evsr, ↓evFl, ↓eveF, ↓evLst, ↓ltOne_b, ↓evT, ↓evNot, ↓eveNot, ↓evS0, ↓evSC, ↓evSS, ↓evTup, ↓evCall, ↓evCallK, ↓evCallM, ↓evApp, ↓evPop, ↓evPopAt, ↓evSeq, ↓evRng, ↓evZip, ↓tgN, ↓tgT2, ↓tgT3, ↓kS_nx, ↓kS_rt, ↓kS_bk, ↓kS_ct, ↓evPS, ↓evPn, ↓evPb, ↓evPc, ↓evPr, ↓evPset, ↓evPas, ↓evPex, ↓evPpar, ↓evPpar3, ↓evPinc, ↓evPsto, ↓evFor, ↓evComp, ↓evY, ↓kP_rt, ↓kP_nx, ↓kM_rt, ↓kM_nx, ↓kC_nx, ↓kC_ct, ↓kC_bk, ↓kC_rt, ↓rmv0, ↓rmvS, ↓pt0, ↓ptS, ↓okb, ↓nob, ↓rdO_s, ↓rdO_z, ↓liD_b, ↓mkT_b, ↓mkL_b, ↓hd2_b, ↓hd3_b, ↓un2_b, ↓un3_b, ↓evJoin, ↓strD_b, ↓outL_nx, ↓outL_bk, ↓outL_rt, ↓lpK_nx, ↓lpK_rt, ↓lpK_bk, ↓evPif, ↓evAnd, ↓evOr, ↓eveAnd, ↓eveOr, ↓evmIf, ↓evCh, pick0, pick1, List.getElem?_cons_succ, List.getElem?_cons_zero, Option.toList_some, List.cons_append, List.nil_append, List.length_cons, List.length_nil, Nat.reduceAdd, Nat.reduceLeDiff, wipe0, wipeS, List.set_cons_succ, List.set_cons_zero]
noncomputable def i_law_scanned_4 (found_ : D) (last_ : D) (sign_ : D) (kind_ : D) : Rs (D) := t_law_scanned_2 sign_ >>= fun b11 =>
if b11 = true then (t_law_scanned_3 last_ kind_ >>= fun b16 =>
if b16 = true then (gNeg (.int 1) >>= fun t17 =>
gIx found_ t17 >>= fun t18 =>
gAdd t18 sign_ >>= fun t19 =>
liD found_ >>= fun _y20 =>
gNeg (.int 1) >>= fun t21 =>
stoR found_ t21 t19 >>= fun found22 =>
.ok (found22)) else (liD found_ >>= fun _y23 =>
appR found_ sign_ >>= fun found24 =>
.ok (found24))) else (.ok (found_))
theorem i_law_scanned_4_n {β : Type} (text_ : D) (found_ : D) (last_ : D) (sign_ : D) (kind_ : D) (k : Fl → Dl → Rs β) : ev (pIf (no_index (mAnd (mT (mB gNe (vA (mV 3)) (vA (mC (.str " "))))) (mT (mB gNe (vA (mV 3)) (vA (mC (.str "\n"))))))) (no_index (pIf (mAnd (mT (mB gNe (vA (mV 4)) (vA (mC (.str ""))))) (mT (mB gEq (vA (mV 4)) (vA (mV 2))))) (pStore 1 (mB gAdd (vA (mB gIx (rA 1) (vA (mU gNeg (vA (mC (.int 1))))))) (vA (mV 3))) (mU gNeg (vA (mC (.int 1))))) (pEx (mApp 1 (mV 3))))) (no_index pNil)) (no_index [some text_, some found_, some last_, some sign_, some kind_]) k = i_law_scanned_4 found_ last_ sign_ kind_ >>= fun z => k .nx [some text_, some z, some last_, some sign_, some kind_] := by
  unfold i_law_scanned_4
  simp only [↓bind_as, ↓bind_ite, ↓t_law_scanned_3_n, ↓t_law_scanned_2_n, ↓x_law_scanned_1_n, ↓evV0, ↓evVS, ↓evM, ↓evC, ↓evBvv, ↓evBrv, ↓evBvr, ↓evBrr, ↓evFvv, ↓evFrv, ↓evFvr, ↓evFrr, ↓evAv, ↓evAr, ↓evU, ↓evFU, ↓evTr, ↓evRev, ↓evRevT, ↓evSlv, ↓evfSlv, ↓evSlr, ↓evfSlr, ↓evoN, ↓evoS, ↓evL, ↓evs0, ↓evsv, ↓evsr, ↓evFl, ↓eveF, ↓evLst, ↓ltOne_b, ↓evT, ↓evNot, ↓eveNot, ↓evS0, ↓evSC, ↓evSS, ↓evTup, ↓evCall, ↓evCallK, ↓evCallM, ↓evApp, ↓evPop, ↓evPopAt, ↓evSeq, ↓evRng, ↓evZip, ↓tgN, ↓tgT2, ↓tgT3, ↓kS_nx, ↓kS_rt, ↓kS_bk, ↓kS_ct, ↓evPS, ↓evPn, ↓evPb, ↓evPc, ↓evPr, ↓evPset, ↓evPas, ↓evPex, ↓evPpar, ↓evPpar3, ↓evPinc, ↓evPsto, ↓evFor, ↓evComp, ↓evY, ↓kP_rt, ↓kP_nx, ↓kM_rt, ↓kM_nx, ↓kC_nx, ↓kC_ct, ↓kC_bk, ↓kC_rt, ↓rmv0, ↓rmvS, ↓pt0, ↓ptS, ↓okb, ↓nob, ↓rdO_s, ↓rdO_z, ↓liD_b, ↓mkT_b, ↓mkL_b, ↓hd2_b, ↓hd3_b, ↓un2_b, ↓un3_b, ↓evJoin, ↓strD_b, ↓outL_nx, ↓outL_bk, ↓outL_rt, ↓lpK_nx, ↓lpK_rt, ↓lpK_bk, ↓evPif, pick0, pick1, List.getElem?_cons_succ, List.getElem?_cons_zero, Option.toList_some, List.cons_append, List.nil_append, List.length_cons, List.length_nil, Nat.reduceAdd, Nat.reduceLeDiff, wipe0, wipeS, List.set_cons_succ, List.set_cons_zero]
noncomputable def l_law_scanned_5  : D → (D × D × Option D × Option D) → Rs (D × D × Option D × Option D) := fun d s => x_law_scanned_1 d >>= fun t6 =>
i_law_scanned_4 s.1 s.2.1 d t6 >>= fun z25 =>
.ok (z25, t6, some d, some t6)
theorem l_law_scanned_5_n {β : Type} (text_ : D) (found_ : D) (last_ : D) (o_sign : Option D) (o_kind : Option D) (xs : List D) (k : Fl → Dl → Rs β) : lpF (gN 3) (pSeq (pSet 4 (mIf (mT (mB gIn (vA (mV 3)) (vA (mC (.str "abcdefghijklmnopqrstuvwxyz"))))) (mC (.str "a")) (mIf (mT (mB gIn (vA (mV 3)) (vA (mC (.str "0123456789"))))) (mC (.str "0")) (mC (.str "")))))
    (pSeq (pIf (mAnd (mT (mB gNe (vA (mV 3)) (vA (mC (.str " "))))) (mT (mB gNe (vA (mV 3)) (vA (mC (.str "\n")))))) (pIf (mAnd (mT (mB gNe (vA (mV 4)) (vA (mC (.str ""))))) (mT (mB gEq (vA (mV 4)) (vA (mV 2))))) (pStore 1 (mB gAdd (vA (mB gIx (rA 1) (vA (mU gNeg (vA (mC (.int 1))))))) (vA (mV 3))) (mU gNeg (vA (mC (.int 1))))) (pEx (mApp 1 (mV 3)))) pNil)
    (pSet 2 (mV 4)))) xs [some text_, some found_, some last_, o_sign, o_kind] k = forS (l_law_scanned_5) xs (found_, last_, o_sign, o_kind) >>= fun s' => k .nx [some text_, some s'.1, some s'.2.1, s'.2.2.1, s'.2.2.2] :=
  loopS (enc := fun s => [some text_, some s.1, some s.2.1, s.2.2.1, s.2.2.2]) (by
    intro d s
    unfold l_law_scanned_5
    simp only [↓bind_as, ↓bind_ite, ↓i_law_scanned_4_n, ↓t_law_scanned_3_n, ↓t_law_scanned_2_n, ↓x_law_scanned_1_n, ↓evV0, ↓evVS, ↓evM, ↓evC, ↓evBvv, ↓evBrv, ↓evBvr, ↓evBrr, ↓evFvv, ↓evFrv, ↓evFvr, ↓evFrr, ↓evAv, ↓evAr, ↓evU, ↓evFU, ↓evTr, ↓evRev, ↓evRevT, ↓evSlv, ↓evfSlv, ↓evSlr, ↓evfSlr, ↓evoN, ↓evoS, ↓evL, ↓evs0, ↓evsv, ↓evsr, ↓evFl, ↓eveF, ↓evLst, ↓ltOne_b, ↓evT, ↓evNot, ↓eveNot, ↓evS0, ↓evSC, ↓evSS, ↓evTup, ↓evCall, ↓evCallK, ↓evCallM, ↓evApp, ↓evPop, ↓evPopAt, ↓evSeq, ↓evRng, ↓evZip, ↓tgN, ↓tgT2, ↓tgT3, ↓kS_nx, ↓kS_rt, ↓kS_bk, ↓kS_ct, ↓evPS, ↓evPn, ↓evPb, ↓evPc, ↓evPr, ↓evPset, ↓evPas, ↓evPex, ↓evPpar, ↓evPpar3, ↓evPinc, ↓evPsto, ↓evFor, ↓evComp, ↓evY, ↓kP_rt, ↓kP_nx, ↓kM_rt, ↓kM_nx, ↓kC_nx, ↓kC_ct, ↓kC_bk, ↓kC_rt, ↓rmv0, ↓rmvS, ↓pt0, ↓ptS, ↓okb, ↓nob, ↓rdO_s, ↓rdO_z, ↓liD_b, ↓mkT_b, ↓mkL_b, ↓hd2_b, ↓hd3_b, ↓un2_b, ↓un3_b, ↓evJoin, ↓strD_b, ↓outL_nx, ↓outL_bk, ↓outL_rt, ↓lpK_nx, ↓lpK_rt, ↓lpK_bk, ↓evPif, pick0, pick1, List.getElem?_cons_succ, List.getElem?_cons_zero, Option.toList_some, List.cons_append, List.nil_append, List.length_cons, List.length_nil, Nat.reduceAdd, Nat.reduceLeDiff, wipe0, wipeS, List.set_cons_succ, List.set_cons_zero]) xs (found_, last_, o_sign, o_kind) k
theorem eq_law_scanned (text_ : D) : r_law_scanned [text_] = seqOf text_ >>= fun xs1 =>
forS (l_law_scanned_5) xs1 ((.list []), (.str ""), none, none) >>= fun s27 =>
.ok s27.1 := by
  refine (show _ = runP (.im) 5 b_law_scanned [text_] from rfl).trans ((runP_ev (δ := [some text_, none, none, none, none]) rfl).trans ?_)
  unfold b_law_scanned
  simp only [↓bind_as, ↓bind_ite, ↓l_law_scanned_5_n, ↓i_law_scanned_4_n, ↓t_law_scanned_3_n, ↓t_law_scanned_2_n, ↓x_law_scanned_1_n, ↓evV0, ↓evVS, ↓evM, ↓evC, ↓evBvv, ↓evBrv, ↓evBvr, ↓evBrr, ↓evFvv, ↓evFrv, ↓evFvr, ↓evFrr, ↓evAv, ↓evAr, ↓evU, ↓evFU, ↓evTr, ↓evRev, ↓evRevT, ↓evSlv, ↓evfSlv, ↓evSlr, ↓evfSlr, ↓evoN, ↓evoS, ↓evL, ↓evs0, ↓evsv, ↓evsr, ↓evFl, ↓eveF, ↓evLst, ↓ltOne_b, ↓evT, ↓evNot, ↓eveNot, ↓evS0, ↓evSC, ↓evSS, ↓evTup, ↓evCall, ↓evCallK, ↓evCallM, ↓evApp, ↓evPop, ↓evPopAt, ↓evSeq, ↓evRng, ↓evZip, ↓tgN, ↓tgT2, ↓tgT3, ↓kS_nx, ↓kS_rt, ↓kS_bk, ↓kS_ct, ↓evPS, ↓evPn, ↓evPb, ↓evPc, ↓evPr, ↓evPset, ↓evPas, ↓evPex, ↓evPpar, ↓evPpar3, ↓evPinc, ↓evPsto, ↓evFor, ↓evComp, ↓evY, ↓kP_rt, ↓kP_nx, ↓kM_rt, ↓kM_nx, ↓kC_nx, ↓kC_ct, ↓kC_bk, ↓kC_rt, ↓rmv0, ↓rmvS, ↓pt0, ↓ptS, ↓okb, ↓nob, ↓rdO_s, ↓rdO_z, ↓liD_b, ↓mkT_b, ↓mkL_b, ↓hd2_b, ↓hd3_b, ↓un2_b, ↓un3_b, ↓evJoin, ↓strD_b, ↓outL_nx, ↓outL_bk, ↓outL_rt, ↓lpK_nx, ↓lpK_rt, ↓lpK_bk, ↓evPif, pick0, pick1, List.getElem?_cons_succ, List.getElem?_cons_zero, Option.toList_some, List.cons_append, List.nil_append, List.length_cons, List.length_nil, Nat.reduceAdd, Nat.reduceLeDiff, wipe0, wipeS, List.set_cons_succ, List.set_cons_zero]
noncomputable def c_law_run_1 (letters_ : D) : List D → D → Rs (List D × D) := compU (σ := D) (τ := D) Rs.ok (fun z s => .ok (true, s)) (fun z s => r_law_of [s, letters_] >>= fun q5 =>
.ok (q5.1, q5.2))
theorem c_law_run_1_n {β : Type} (deal_ : D) (letters_ : D) (many_ : D) (o_one : Option D) (xs : List D) (k : List D → Dl → Rs β) : cpF [3] (gN 3) tmY (mCallM 0 r_law_of (sCons (mV 1) sNil)) xs [some deal_, some letters_, some many_, o_one] k = lenR xs (c_law_run_1 letters_ xs deal_) >>= fun ys => k ys.1 [some ys.2, some letters_, some many_, o_one] := by
  unfold c_law_run_1
  exact cpF_U (δ := fun s => [some s, some letters_, some many_, o_one]) (ε := fun z s => [some s, some letters_, some many_, some z]) (fun d s => by simp only [↓bind_as, ↓bind_ite, ↓evV0, ↓evVS, ↓evM, ↓evC, ↓evBvv, ↓evBrv, ↓evBvr, ↓evBrr, ↓evFvv, ↓evFrv, ↓evFvr, ↓evFrr, ↓evAv, ↓evAr, ↓evU, ↓evFU, ↓evTr, ↓evRev, ↓evRevT, ↓evSlv, ↓evfSlv, ↓evSlr, ↓evfSlr, ↓evoN, ↓evoS, ↓evL, ↓evs0, ↓evsv, ↓evsr, ↓evFl, ↓eveF, ↓evLst, ↓ltOne_b, ↓evT, ↓evNot, ↓eveNot, ↓evS0, ↓evSC, ↓evSS, ↓evTup, ↓evCall, ↓evCallK, ↓evCallM, ↓evApp, ↓evPop, ↓evPopAt, ↓evSeq, ↓evRng, ↓evZip, ↓tgN, ↓tgT2, ↓tgT3, ↓kS_nx, ↓kS_rt, ↓kS_bk, ↓kS_ct, ↓evPS, ↓evPn, ↓evPb, ↓evPc, ↓evPr, ↓evPset, ↓evPas, ↓evPex, ↓evPpar, ↓evPpar3, ↓evPinc, ↓evPsto, ↓evFor, ↓evComp, ↓evY, ↓kP_rt, ↓kP_nx, ↓kM_rt, ↓kM_nx, ↓kC_nx, ↓kC_ct, ↓kC_bk, ↓kC_rt, ↓rmv0, ↓rmvS, ↓pt0, ↓ptS, ↓okb, ↓nob, ↓rdO_s, ↓rdO_z, ↓liD_b, ↓mkT_b, ↓mkL_b, ↓hd2_b, ↓hd3_b, ↓un2_b, ↓un3_b, ↓evJoin, ↓strD_b, ↓outL_nx, ↓outL_bk, ↓outL_rt, ↓lpK_nx, ↓lpK_rt, ↓lpK_bk, ↓evPif, pick0, pick1, List.getElem?_cons_succ, List.getElem?_cons_zero, Option.toList_some, List.cons_append, List.nil_append, List.length_cons, List.length_nil, Nat.reduceAdd, Nat.reduceLeDiff, wipe0, wipeS, List.set_cons_succ, List.set_cons_zero]) (fun z s => by simp only [↓bind_as, ↓bind_ite, ↓evV0, ↓evVS, ↓evM, ↓evC, ↓evBvv, ↓evBrv, ↓evBvr, ↓evBrr, ↓evFvv, ↓evFrv, ↓evFvr, ↓evFrr, ↓evAv, ↓evAr, ↓evU, ↓evFU, ↓evTr, ↓evRev, ↓evRevT, ↓evSlv, ↓evfSlv, ↓evSlr, ↓evfSlr, ↓evoN, ↓evoS, ↓evL, ↓evs0, ↓evsv, ↓evsr, ↓evFl, ↓eveF, ↓evLst, ↓ltOne_b, ↓evT, ↓evNot, ↓eveNot, ↓evS0, ↓evSC, ↓evSS, ↓evTup, ↓evCall, ↓evCallK, ↓evCallM, ↓evApp, ↓evPop, ↓evPopAt, ↓evSeq, ↓evRng, ↓evZip, ↓tgN, ↓tgT2, ↓tgT3, ↓kS_nx, ↓kS_rt, ↓kS_bk, ↓kS_ct, ↓evPS, ↓evPn, ↓evPb, ↓evPc, ↓evPr, ↓evPset, ↓evPas, ↓evPex, ↓evPpar, ↓evPpar3, ↓evPinc, ↓evPsto, ↓evFor, ↓evComp, ↓evY, ↓kP_rt, ↓kP_nx, ↓kM_rt, ↓kM_nx, ↓kC_nx, ↓kC_ct, ↓kC_bk, ↓kC_rt, ↓rmv0, ↓rmvS, ↓pt0, ↓ptS, ↓okb, ↓nob, ↓rdO_s, ↓rdO_z, ↓liD_b, ↓mkT_b, ↓mkL_b, ↓hd2_b, ↓hd3_b, ↓un2_b, ↓un3_b, ↓evJoin, ↓strD_b, ↓outL_nx, ↓outL_bk, ↓outL_rt, ↓lpK_nx, ↓lpK_rt, ↓lpK_bk, ↓evPif, pick0, pick1, List.getElem?_cons_succ, List.getElem?_cons_zero, Option.toList_some, List.cons_append, List.nil_append, List.length_cons, List.length_nil, Nat.reduceAdd, Nat.reduceLeDiff, wipe0, wipeS, List.set_cons_succ, List.set_cons_zero]) (fun z s => by simp only [↓bind_as, ↓bind_ite, ↓evV0, ↓evVS, ↓evM, ↓evC, ↓evBvv, ↓evBrv, ↓evBvr, ↓evBrr, ↓evFvv, ↓evFrv, ↓evFvr, ↓evFrr, ↓evAv, ↓evAr, ↓evU, ↓evFU, ↓evTr, ↓evRev, ↓evRevT, ↓evSlv, ↓evfSlv, ↓evSlr, ↓evfSlr, ↓evoN, ↓evoS, ↓evL, ↓evs0, ↓evsv, ↓evsr, ↓evFl, ↓eveF, ↓evLst, ↓ltOne_b, ↓evT, ↓evNot, ↓eveNot, ↓evS0, ↓evSC, ↓evSS, ↓evTup, ↓evCall, ↓evCallK, ↓evCallM, ↓evApp, ↓evPop, ↓evPopAt, ↓evSeq, ↓evRng, ↓evZip, ↓tgN, ↓tgT2, ↓tgT3, ↓kS_nx, ↓kS_rt, ↓kS_bk, ↓kS_ct, ↓evPS, ↓evPn, ↓evPb, ↓evPc, ↓evPr, ↓evPset, ↓evPas, ↓evPex, ↓evPpar, ↓evPpar3, ↓evPinc, ↓evPsto, ↓evFor, ↓evComp, ↓evY, ↓kP_rt, ↓kP_nx, ↓kM_rt, ↓kM_nx, ↓kC_nx, ↓kC_ct, ↓kC_bk, ↓kC_rt, ↓rmv0, ↓rmvS, ↓pt0, ↓ptS, ↓okb, ↓nob, ↓rdO_s, ↓rdO_z, ↓liD_b, ↓mkT_b, ↓mkL_b, ↓hd2_b, ↓hd3_b, ↓un2_b, ↓un3_b, ↓evJoin, ↓strD_b, ↓outL_nx, ↓outL_bk, ↓outL_rt, ↓lpK_nx, ↓lpK_rt, ↓lpK_bk, ↓evPif, pick0, pick1, List.getElem?_cons_succ, List.getElem?_cons_zero, Option.toList_some, List.cons_append, List.nil_append, List.length_cons, List.length_nil, Nat.reduceAdd, Nat.reduceLeDiff, wipe0, wipeS, List.set_cons_succ, List.set_cons_zero]) (fun z s s' => rfl) xs deal_ k
theorem eq_law_run (deal_ : D) (letters_ : D) : r_law_run [deal_, letters_] = r_law_any [deal_, (.int 60)] >>= fun q1 =>
gAdd (.int 1) q1.1 >>= fun t2 =>
r_law_of [q1.2, (.list [(.int 1), (.int 1), (.int 2), (.int 3), (.int 9), (.int 10), (.int 11), (.int 12), (.int 13), t2])] >>= fun q3 =>
rngR q3.1 >>= fun xs4 =>
lenR xs4 (c_law_run_1 letters_ xs4 q3.2) >>= fun z6 =>
gJoin "" (.list z6.1) >>= fun t7 =>
.ok (t7, z6.2) := by
  refine (show _ = runM (.im) 4 b_law_run [deal_, letters_] from rfl).trans ((runM_ev (δ := [some deal_, some letters_, none, none]) rfl).trans ?_)
  unfold b_law_run
  simp only [↓bind_as, ↓bind_ite, ↓c_law_run_1_n, ↓evV0, ↓evVS, ↓evM, ↓evC, ↓evBvv, ↓evBrv, ↓evBvr, ↓evBrr, ↓evFvv, ↓evFrv, ↓evFvr, ↓evFrr, ↓evAv, ↓evAr, ↓evU, ↓evFU, ↓evTr, ↓evRev, ↓evRevT, ↓evSlv, ↓evfSlv, ↓evSlr, ↓evfSlr, ↓evoN, ↓evoS, ↓evL, ↓evs0, ↓evsv, ↓evsr, ↓evFl, ↓eveF, ↓evLst, ↓ltOne_b, ↓evT, ↓evNot, ↓eveNot, ↓evS0, ↓evSC, ↓evSS, ↓evTup, ↓evCall, ↓evCallK, ↓evCallM, ↓evApp, ↓evPop, ↓evPopAt, ↓evSeq, ↓evRng, ↓evZip, ↓tgN, ↓tgT2, ↓tgT3, ↓kS_nx, ↓kS_rt, ↓kS_bk, ↓kS_ct, ↓evPS, ↓evPn, ↓evPb, ↓evPc, ↓evPr, ↓evPset, ↓evPas, ↓evPex, ↓evPpar, ↓evPpar3, ↓evPinc, ↓evPsto, ↓evFor, ↓evComp, ↓evY, ↓kP_rt, ↓kP_nx, ↓kM_rt, ↓kM_nx, ↓kC_nx, ↓kC_ct, ↓kC_bk, ↓kC_rt, ↓rmv0, ↓rmvS, ↓pt0, ↓ptS, ↓okb, ↓nob, ↓rdO_s, ↓rdO_z, ↓liD_b, ↓mkT_b, ↓mkL_b, ↓hd2_b, ↓hd3_b, ↓un2_b, ↓un3_b, ↓evJoin, ↓strD_b, ↓outL_nx, ↓outL_bk, ↓outL_rt, ↓lpK_nx, ↓lpK_rt, ↓lpK_bk, ↓evPif, pick0, pick1, List.getElem?_cons_succ, List.getElem?_cons_zero, Option.toList_some, List.cons_append, List.nil_append, List.length_cons, List.length_nil, Nat.reduceAdd, Nat.reduceLeDiff, wipe0, wipeS, List.set_cons_succ, List.set_cons_zero]
noncomputable def l_law_text_1 (signs_ : D) : D → (D × D × Option D × Option D) → Rs (D × D × Option D × Option D) := fun d s => r_law_any [s.1, (.int 5)] >>= fun q4 =>
gEq q4.1 (.int 0) >>= fun t5 =>
bool t5 >>= fun b6 =>
if b6 = true then (r_law_run [q4.2, (.str "abcdefghijklmnopqrstuvwxyz")] >>= fun q7 =>
gAdd s.2.1 q7.1 >>= fun t8 =>
.ok (q7.2, t8, some d, some q4.1)) else (gEq q4.1 (.int 1) >>= fun t9 =>
bool t9 >>= fun b10 =>
if b10 = true then (r_law_run [q4.2, (.str "0123456789")] >>= fun q11 =>
gAdd s.2.1 q11.1 >>= fun t12 =>
.ok (q11.2, t12, some d, some q4.1)) else (gEq q4.1 (.int 2) >>= fun t13 =>
bool t13 >>= fun b14 =>
if b14 = true then (r_law_of [q4.2, (.list [(.str " "), (.str "\n"), (.str "  "), (.str " \n")])] >>= fun q15 =>
gAdd s.2.1 q15.1 >>= fun t16 =>
.ok (q15.2, t16, some d, some q4.1)) else (r_law_of [q4.2, signs_] >>= fun q17 =>
gAdd s.2.1 q17.1 >>= fun t18 =>
.ok (q17.2, t18, some d, some q4.1))))
theorem l_law_text_1_n {β : Type} (deal_ : D) (signs_ : D) (text_ : D) (o_turn : Option D) (o_way : Option D) (xs : List D) (k : Fl → Dl → Rs β) : lpF (gN 3) (pSeq (pSet 4 (mCallM 0 r_law_any (sCons (mC (.int 5)) sNil)))
    (pIf (mT (mB gEq (vA (mV 4)) (vA (mC (.int 0))))) (pSet 2 (mB gAdd (vA (mV 2)) (vA (mCallM 0 r_law_run (sCons (mC (.str "abcdefghijklmnopqrstuvwxyz")) sNil))))) (pIf (mT (mB gEq (vA (mV 4)) (vA (mC (.int 1))))) (pSet 2 (mB gAdd (vA (mV 2)) (vA (mCallM 0 r_law_run (sCons (mC (.str "0123456789")) sNil))))) (pIf (mT (mB gEq (vA (mV 4)) (vA (mC (.int 2))))) (pSet 2 (mB gAdd (vA (mV 2)) (vA (mCallM 0 r_law_of (sCons (eF (fLst (sCons (mC (.str " ")) (sCons (mC (.str "\n")) (sCons (mC (.str "  ")) (sCons (mC (.str " \n")) sNil)))))) sNil))))) (pSet 2 (mB gAdd (vA (mV 2)) (vA (mCallM 0 r_law_of (sCons (mV 1) sNil))))))))) xs [some deal_, some signs_, some text_, o_turn, o_way] k = forS (l_law_text_1 signs_) xs (deal_, text_, o_turn, o_way) >>= fun s' => k .nx [some s'.1, some signs_, some s'.2.1, s'.2.2.1, s'.2.2.2] :=
  loopS (enc := fun s => [some s.1, some signs_, some s.2.1, s.2.2.1, s.2.2.2]) (by
    intro d s
    unfold l_law_text_1
    simp only [↓bind_as, ↓bind_ite, ↓evV0, ↓evVS, ↓evM, ↓evC, ↓evBvv, ↓evBrv, ↓evBvr, ↓evBrr, ↓evFvv, ↓evFrv, ↓evFvr, ↓evFrr, ↓evAv, ↓evAr, ↓evU, ↓evFU, ↓evTr, ↓evRev, ↓evRevT, ↓evSlv, ↓evfSlv, ↓evSlr, ↓evfSlr, ↓evoN, ↓evoS, ↓evL, ↓evs0, ↓evsv, ↓evsr, ↓evFl, ↓eveF, ↓evLst, ↓ltOne_b, ↓evT, ↓evNot, ↓eveNot, ↓evS0, ↓evSC, ↓evSS, ↓evTup, ↓evCall, ↓evCallK, ↓evCallM, ↓evApp, ↓evPop, ↓evPopAt, ↓evSeq, ↓evRng, ↓evZip, ↓tgN, ↓tgT2, ↓tgT3, ↓kS_nx, ↓kS_rt, ↓kS_bk, ↓kS_ct, ↓evPS, ↓evPn, ↓evPb, ↓evPc, ↓evPr, ↓evPset, ↓evPas, ↓evPex, ↓evPpar, ↓evPpar3, ↓evPinc, ↓evPsto, ↓evFor, ↓evComp, ↓evY, ↓kP_rt, ↓kP_nx, ↓kM_rt, ↓kM_nx, ↓kC_nx, ↓kC_ct, ↓kC_bk, ↓kC_rt, ↓rmv0, ↓rmvS, ↓pt0, ↓ptS, ↓okb, ↓nob, ↓rdO_s, ↓rdO_z, ↓liD_b, ↓mkT_b, ↓mkL_b, ↓hd2_b, ↓hd3_b, ↓un2_b, ↓un3_b, ↓evJoin, ↓strD_b, ↓outL_nx, ↓outL_bk, ↓outL_rt, ↓lpK_nx, ↓lpK_rt, ↓lpK_bk, ↓evPif, pick0, pick1, List.getElem?_cons_succ, List.getElem?_cons_zero, Option.toList_some, List.cons_append, List.nil_append, List.length_cons, List.length_nil, Nat.reduceAdd, Nat.reduceLeDiff, wipe0, wipeS, List.set_cons_succ, List.set_cons_zero]) xs (deal_, text_, o_turn, o_way) k
noncomputable def t_law_text_2 (deal_ : D) (text_ : D) : Rs (Bool × D) := r_law_any [deal_, (.int 4)] >>= fun q21 =>
gEq q21.1 (.int 0) >>= fun t22 =>
bool t22 >>= fun b23 =>
if b23 = true then (gLen [text_] >>= fun t24 =>
gLt t24 (.int 300) >>= fun t25 =>
bool t25 >>= fun b26 =>
.ok (b26, q21.2)) else (.ok (false, q21.2))
theorem t_law_text_2_n {β : Type} (deal_ : D) (signs_ : D) (text_ : D) (o_turn : Option D) (o_way : Option D) (k : Bool → Dl → Rs β) : ev (mAnd (mT (mB gEq (vA (mCallM 0 r_law_any (sCons (mC (.int 4)) sNil))) (vA (mC (.int 0))))) (mT (mB gLt (vA (mL gLen (lCons (vA (mV 2)) lNil))) (vA (mC (.int 300)))))) [some deal_, some signs_, some text_, o_turn, o_way] k = t_law_text_2 deal_ text_ >>= fun z => k z.1 [some z.2, some signs_, some text_, o_turn, o_way] := by
  unfold t_law_text_2
  simp only [↓bind_as, ↓bind_ite, ↓l_law_text_1_n, ↓evV0, ↓evVS, ↓evM, ↓evC, ↓evBvv, ↓evBrv, ↓evBvr, ↓evBrr, ↓evFvv, ↓evFrv, ↓evFvr, ↓evFrr, ↓evAv, ↓evAr, ↓evU, ↓evFU, ↓evTr, ↓evRev, ↓evRevT, ↓evSlv, ↓evfSlv, ↓evSlr, ↓evfSlr, ↓evoN, ↓evoS, ↓evL, ↓evs0, ↓evsv, ↓evsr, ↓evFl, ↓eveF, ↓evLst, ↓ltOne_b, ↓evT, ↓evNot, ↓eveNot, ↓evS0, ↓evSC, ↓evSS, ↓evTup, ↓evCall, ↓evCallK, ↓evCallM, ↓evApp, ↓evPop, ↓evPopAt, ↓evSeq, ↓evRng, ↓evZip, ↓tgN, ↓tgT2, ↓tgT3, ↓kS_nx, ↓kS_rt, ↓kS_bk, ↓kS_ct, ↓evPS, ↓evPn, ↓evPb, ↓evPc, ↓evPr, ↓evPset, ↓evPas, ↓evPex, ↓evPpar, ↓evPpar3, ↓evPinc, ↓evPsto, ↓evFor, ↓evComp, ↓evY, ↓kP_rt, ↓kP_nx, ↓kM_rt, ↓kM_nx, ↓kC_nx, ↓kC_ct, ↓kC_bk, ↓kC_rt, ↓rmv0, ↓rmvS, ↓pt0, ↓ptS, ↓okb, ↓nob, ↓rdO_s, ↓rdO_z, ↓liD_b, ↓mkT_b, ↓mkL_b, ↓hd2_b, ↓hd3_b, ↓un2_b, ↓un3_b, ↓evJoin, ↓strD_b, ↓outL_nx, ↓outL_bk, ↓outL_rt, ↓lpK_nx, ↓lpK_rt, ↓lpK_bk, ↓evPif, ↓evAnd, ↓evOr, ↓eveAnd, ↓eveOr, ↓evmIf, ↓evCh, pick0, pick1, List.getElem?_cons_succ, List.getElem?_cons_zero, Option.toList_some, List.cons_append, List.nil_append, List.length_cons, List.length_nil, Nat.reduceAdd, Nat.reduceLeDiff, wipe0, wipeS, List.set_cons_succ, List.set_cons_zero]
noncomputable def i_law_text_3 (deal_ : D) (text_ : D) : Rs (D × D) := t_law_text_2 deal_ text_ >>= fun z27 =>
if z27.1 = true then (r_law_any [z27.2, (.int 9)] >>= fun q28 =>
gAdd (.int 2) q28.1 >>= fun t29 =>
gMulS text_ t29 >>= fun t30 =>
.ok (q28.2, t30)) else (.ok (z27.2, text_))
theorem i_law_text_3_n {β : Type} (deal_ : D) (signs_ : D) (text_ : D) (o_turn : Option D) (o_way : Option D) (k : Fl → Dl → Rs β) : ev (pIf (no_index (mAnd (mT (mB gEq (vA (mCallM 0 r_law_any (sCons (mC (.int 4)) sNil))) (vA (mC (.int 0))))) (mT (mB gLt (vA (mL gLen (lCons (vA (mV 2)) lNil))) (vA (mC (.int 300))))))) (no_index (pSet 2 (mB gMulS (vA (mV 2)) (vA (mB gAdd (vA (mC (.int 2))) (vA (mCallM 0 r_law_any (sCons (mC (.int 9)) sNil)))))))) (no_index pNil)) (no_index [some deal_, some signs_, some text_, o_turn, o_way]) k = i_law_text_3 deal_ text_ >>= fun z => k .nx [some z.1, some signs_, some z.2, o_turn, o_way] := by
  unfold i_law_text_3
  simp only [↓bind_as, ↓bind_ite, ↓t_law_text_2_n, ↓l_law_text_1_n, ↓evV0, ↓evVS, ↓evM, ↓evC, ↓evBvv, ↓evBrv, ↓evBvr, ↓evBrr, ↓evFvv, ↓evFrv, ↓evFvr, ↓evFrr, ↓evAv, ↓evAr, ↓evU, ↓evFU, ↓evTr, ↓evRev, ↓evRevT, ↓evSlv, ↓evfSlv, ↓evSlr, ↓evfSlr, ↓evoN, ↓evoS, ↓evL, ↓evs0, ↓evsv, ↓evsr, ↓evFl, ↓eveF, ↓evLst, ↓ltOne_b, ↓evT, ↓evNot, ↓eveNot, ↓evS0, ↓evSC, ↓evSS, ↓evTup, ↓evCall, ↓evCallK, ↓evCallM, ↓evApp, ↓evPop, ↓evPopAt, ↓evSeq, ↓evRng, ↓evZip, ↓tgN, ↓tgT2, ↓tgT3, ↓kS_nx, ↓kS_rt, ↓kS_bk, ↓kS_ct, ↓evPS, ↓evPn, ↓evPb, ↓evPc, ↓evPr, ↓evPset, ↓evPas, ↓evPex, ↓evPpar, ↓evPpar3, ↓evPinc, ↓evPsto, ↓evFor, ↓evComp, ↓evY, ↓kP_rt, ↓kP_nx, ↓kM_rt, ↓kM_nx, ↓kC_nx, ↓kC_ct, ↓kC_bk, ↓kC_rt, ↓rmv0, ↓rmvS, ↓pt0, ↓ptS, ↓okb, ↓nob, ↓rdO_s, ↓rdO_z, ↓liD_b, ↓mkT_b, ↓mkL_b, ↓hd2_b, ↓hd3_b, ↓un2_b, ↓un3_b, ↓evJoin, ↓strD_b, ↓outL_nx, ↓outL_bk, ↓outL_rt, ↓lpK_nx, ↓lpK_rt, ↓lpK_bk, ↓evPif, pick0, pick1, List.getElem?_cons_succ, List.getElem?_cons_zero, Option.toList_some, List.cons_append, List.nil_append, List.length_cons, List.length_nil, Nat.reduceAdd, Nat.reduceLeDiff, wipe0, wipeS, List.set_cons_succ, List.set_cons_zero]
theorem eq_law_text (deal_ : D) : r_law_text [deal_] = .ok (.str " \n\t!#$&'()*+,-./:;<=>?@ABMXYZ[\\]^_|~\"") >>= fun signs1 =>
r_law_of [deal_, (.list [(.int 0), (.int 1), (.int 5), (.int 20), (.int 60)])] >>= fun q2 =>
rngR q2.1 >>= fun xs3 =>
forS (l_law_text_1 signs1) xs3 (q2.2, (.str ""), none, none) >>= fun s20 =>
i_law_text_3 s20.1 s20.2.1 >>= fun z31 =>
.ok (z31.2, z31.1) := by
  refine (show _ = runM (.im) 5 b_law_text [deal_] from rfl).trans ((runM_ev (δ := [some deal_, none, none, none, none]) rfl).trans ?_)
  unfold b_law_text
  simp only [↓bind_as, ↓bind_ite, ↓i_law_text_3_n, ↓t_law_text_2_n, ↓l_law_text_1_n, ↓evV0, ↓evVS, ↓evM, ↓evC, ↓evBvv, ↓evBrv, ↓evBvr, ↓evBrr, ↓evFvv, ↓evFrv, ↓evFvr, ↓evFrr, ↓evAv, ↓evAr, ↓evU, ↓evFU, ↓evTr, ↓evRev, ↓evRevT, ↓evSlv, ↓evfSlv, ↓evSlr, ↓evfSlr, ↓evoN, ↓evoS, ↓evL, ↓evs0, ↓evsv, ↓evsr, ↓evFl, ↓eveF, ↓evLst, ↓ltOne_b, ↓evT, ↓evNot, ↓eveNot, ↓evS0, ↓evSC, ↓evSS, ↓evTup, ↓evCall, ↓evCallK, ↓evCallM, ↓evApp, ↓evPop, ↓evPopAt, ↓evSeq, ↓evRng, ↓evZip, ↓tgN, ↓tgT2, ↓tgT3, ↓kS_nx, ↓kS_rt, ↓kS_bk, ↓kS_ct, ↓evPS, ↓evPn, ↓evPb, ↓evPc, ↓evPr, ↓evPset, ↓evPas, ↓evPex, ↓evPpar, ↓evPpar3, ↓evPinc, ↓evPsto, ↓evFor, ↓evComp, ↓evY, ↓kP_rt, ↓kP_nx, ↓kM_rt, ↓kM_nx, ↓kC_nx, ↓kC_ct, ↓kC_bk, ↓kC_rt, ↓rmv0, ↓rmvS, ↓pt0, ↓ptS, ↓okb, ↓nob, ↓rdO_s, ↓rdO_z, ↓liD_b, ↓mkT_b, ↓mkL_b, ↓hd2_b, ↓hd3_b, ↓un2_b, ↓un3_b, ↓evJoin, ↓strD_b, ↓outL_nx, ↓outL_bk, ↓outL_rt, ↓lpK_nx, ↓lpK_rt, ↓lpK_bk, ↓evPif, pick0, pick1, List.getElem?_cons_succ, List.getElem?_cons_zero, Option.toList_some, List.cons_append, List.nil_append, List.length_cons, List.length_nil, Nat.reduceAdd, Nat.reduceLeDiff, wipe0, wipeS, List.set_cons_succ, List.set_cons_zero]
theorem eq_law_value (deal_ : D) : r_law_value [deal_] = r_law_run [deal_, (.str "0123456789")] >>= fun q1 =>
r_law_of [q1.2, (.list [(.int 0), (.int 0), (.int 0), (.int 1)])] >>= fun q2 =>
gMulS (.str "0") q2.1 >>= fun t3 =>
gAdd t3 q1.1 >>= fun t4 =>
toI (.int 12) >>= fun i5 =>
gCut none (some i5) t4 >>= fun t6 =>
toI (.int 12) >>= fun i7 =>
gCut none (some i7) t4 >>= fun t8 =>
toI (.int 13) >>= fun i9 =>
gCut none (some i9) t4 >>= fun t10 =>
gAdd t4 (.str " ") >>= fun t11 =>
gAdd (.str " ") t4 >>= fun t12 =>
gAdd (.str "-") t4 >>= fun t13 =>
gAdd (.str "+") t4 >>= fun t14 =>
gAdd t4 (.str "\n") >>= fun t15 =>
.ok (.list [t4, t4, t4, t6, t8, t10, t11, t12, t13, t14, t15]) >>= fun some16 =>
toI (.int 5) >>= fun i17 =>
gCut none (some i17) t4 >>= fun t18 =>
gAdd t18 (.str "a") >>= fun t19 =>
toI (.int 5) >>= fun i20 =>
gCut none (some i20) t4 >>= fun t21 =>
gAdd t21 (.str "/2") >>= fun t22 =>
gAdd some16 (.list [(.str ""), (.str "0"), (.str "1_0"), (.str "1.0"), (.str "a"), t19, t22, .none, (.bool true), (.bool false), (.int 0), (.int 7), (.tuple [t4]), (.list [t4])]) >>= fun t23 =>
r_law_of [q2.2, t23] >>= fun q24 =>
.ok (q24.1, q24.2) := by
  refine (show _ = runM (.im) 3 b_law_value [deal_] from rfl).trans ((runM_ev (δ := [some deal_, none, none]) rfl).trans ?_)
  unfold b_law_value
  simp only [↓bind_as, ↓bind_ite, ↓evV0, ↓evVS, ↓evM, ↓evC, ↓evBvv, ↓evBrv, ↓evBvr, ↓evBrr, ↓evFvv, ↓evFrv, ↓evFvr, ↓evFrr, ↓evAv, ↓evAr, ↓evU, ↓evFU, ↓evTr, ↓evRev, ↓evRevT, ↓evSlv, ↓evfSlv, ↓evSlr, ↓evfSlr, ↓evoN, ↓evoS, ↓evL, ↓evs0, ↓evsv, ↓evsr, ↓evFl, ↓eveF, ↓evLst, ↓ltOne_b, ↓evT, ↓evNot, ↓eveNot, ↓evS0, ↓evSC, ↓evSS, ↓evTup, ↓evCall, ↓evCallK, ↓evCallM, ↓evApp, ↓evPop, ↓evPopAt, ↓evSeq, ↓evRng, ↓evZip, ↓tgN, ↓tgT2, ↓tgT3, ↓kS_nx, ↓kS_rt, ↓kS_bk, ↓kS_ct, ↓evPS, ↓evPn, ↓evPb, ↓evPc, ↓evPr, ↓evPset, ↓evPas, ↓evPex, ↓evPpar, ↓evPpar3, ↓evPinc, ↓evPsto, ↓evFor, ↓evComp, ↓evY, ↓kP_rt, ↓kP_nx, ↓kM_rt, ↓kM_nx, ↓kC_nx, ↓kC_ct, ↓kC_bk, ↓kC_rt, ↓rmv0, ↓rmvS, ↓pt0, ↓ptS, ↓okb, ↓nob, ↓rdO_s, ↓rdO_z, ↓liD_b, ↓mkT_b, ↓mkL_b, ↓hd2_b, ↓hd3_b, ↓un2_b, ↓un3_b, ↓evJoin, ↓strD_b, ↓outL_nx, ↓outL_bk, ↓outL_rt, ↓lpK_nx, ↓lpK_rt, ↓lpK_bk, ↓evPif, pick0, pick1, List.getElem?_cons_succ, List.getElem?_cons_zero, Option.toList_some, List.cons_append, List.nil_append, List.length_cons, List.length_nil, Nat.reduceAdd, Nat.reduceLeDiff, wipe0, wipeS, List.set_cons_succ, List.set_cons_zero]
noncomputable def l_law_1  : D → (D × Option D × Option D × Option D) → Rs (Lp (D × Option D × Option D × Option D)) := fun d s => r_law_text [s.1] >>= fun q3 =>
r_law_scanned [q3.1] >>= fun t4 =>
gTup [t4] >>= fun t5 =>
r_tokens [q3.1] >>= fun t6 =>
(r_law_same 4) [t6, t5] >>= fun t7 =>
tru t7 >>= fun b8 =>
if (!b8) = true then (.ok (.rt (.bool false) (q3.2, some d, some q3.1, some t5))) else (.ok (.nx (q3.2, some d, some q3.1, some t5)))
theorem l_law_1_n {β : Type} (script_ : D) (deal_ : D) (o_turn : Option D) (o_text : Option D) (o_due : Option D) (o_value : Option D) (xs : List D) (k : Fl → Dl → Rs β) : lpF (gN 2) (pSeq (pSet 3 (mCallM 1 r_law_text sNil))
    (pSeq (pSet 4 (mL gTup (lCons (vA (mCall r_law_scanned (sCons (mV 3) sNil))) lNil)))
    (pIf (mNot (mTr (vA (mCall (r_law_same 4) (sCons (mCall r_tokens (sCons (mV 3) sNil)) (sCons (mV 4) sNil)))))) (pRet (mC (.bool false))) pNil))) xs [some script_, some deal_, o_turn, o_text, o_due, o_value] k = forL (l_law_1) xs (deal_, o_turn, o_text, o_due) >>= fun r => lpK r (fun s' => k .nx [some script_, some s'.1, s'.2.1, s'.2.2.1, s'.2.2.2, o_value]) (fun d s' => k (.rt d) [some script_, some s'.1, s'.2.1, s'.2.2.1, s'.2.2.2, o_value]) :=
  loopL (enc := fun s => [some script_, some s.1, s.2.1, s.2.2.1, s.2.2.2, o_value]) (by
    intro d s
    unfold l_law_1
    simp only [↓bind_as, ↓bind_ite, ↓evV0, ↓evVS, ↓evM, ↓evC, ↓evBvv, ↓evBrv, ↓evBvr, ↓evBrr, ↓evFvv, ↓evFrv, ↓evFvr, ↓evFrr, ↓evAv, ↓evAr, ↓evU, ↓evFU, ↓evTr, ↓evRev, ↓evRevT, ↓evSlv, ↓evfSlv, ↓evSlr, ↓evfSlr, ↓evoN, ↓evoS, ↓evL, ↓evs0, ↓evsv, ↓evsr, ↓evFl, ↓eveF, ↓evLst, ↓ltOne_b, ↓evT, ↓evNot, ↓eveNot, ↓evS0, ↓evSC, ↓evSS, ↓evTup, ↓evCall, ↓evCallK, ↓evCallM, ↓evApp, ↓evPop, ↓evPopAt, ↓evSeq, ↓evRng, ↓evZip, ↓tgN, ↓tgT2, ↓tgT3, ↓kS_nx, ↓kS_rt, ↓kS_bk, ↓kS_ct, ↓evPS, ↓evPn, ↓evPb, ↓evPc, ↓evPr, ↓evPset, ↓evPas, ↓evPex, ↓evPpar, ↓evPpar3, ↓evPinc, ↓evPsto, ↓evFor, ↓evComp, ↓evY, ↓kP_rt, ↓kP_nx, ↓kM_rt, ↓kM_nx, ↓kC_nx, ↓kC_ct, ↓kC_bk, ↓kC_rt, ↓rmv0, ↓rmvS, ↓pt0, ↓ptS, ↓okb, ↓nob, ↓rdO_s, ↓rdO_z, ↓liD_b, ↓mkT_b, ↓mkL_b, ↓hd2_b, ↓hd3_b, ↓un2_b, ↓un3_b, ↓evJoin, ↓strD_b, ↓outL_nx, ↓outL_bk, ↓outL_rt, ↓lpK_nx, ↓lpK_rt, ↓lpK_bk, ↓evPif, pick0, pick1, List.getElem?_cons_succ, List.getElem?_cons_zero, Option.toList_some, List.cons_append, List.nil_append, List.length_cons, List.length_nil, Nat.reduceAdd, Nat.reduceLeDiff, wipe0, wipeS, List.set_cons_succ, List.set_cons_zero]) xs (deal_, o_turn, o_text, o_due) k
noncomputable def l_law_2  : D → (D × Option D × Option D) → Rs (Lp (D × Option D × Option D)) := fun d s => r_law_value [s.1] >>= fun q13 =>
r_is_numeral [q13.1] >>= fun t14 =>
r_law_is_numeral [q13.1] >>= fun t15 =>
(r_law_same 4) [t14, t15] >>= fun t16 =>
tru t16 >>= fun b17 =>
if (!b17) = true then (.ok (.rt (.bool false) (q13.2, some d, some q13.1))) else (.ok (.nx (q13.2, some d, some q13.1)))
theorem l_law_2_n {β : Type} (script_ : D) (deal_ : D) (o_turn : Option D) (o_text : Option D) (o_due : Option D) (o_value : Option D) (xs : List D) (k : Fl → Dl → Rs β) : lpF (gN 2) (pSeq (pSet 5 (mCallM 1 r_law_value sNil))
    (pIf (mNot (mTr (vA (mCall (r_law_same 4) (sCons (mCall r_is_numeral (sCons (mV 5) sNil)) (sCons (mCall r_law_is_numeral (sCons (mV 5) sNil)) sNil)))))) (pRet (mC (.bool false))) pNil)) xs [some script_, some deal_, o_turn, o_text, o_due, o_value] k = forL (l_law_2) xs (deal_, o_turn, o_value) >>= fun r => lpK r (fun s' => k .nx [some script_, some s'.1, s'.2.1, o_text, o_due, s'.2.2]) (fun d s' => k (.rt d) [some script_, some s'.1, s'.2.1, o_text, o_due, s'.2.2]) :=
  loopL (enc := fun s => [some script_, some s.1, s.2.1, o_text, o_due, s.2.2]) (by
    intro d s
    unfold l_law_2
    simp only [↓bind_as, ↓bind_ite, ↓l_law_1_n, ↓evV0, ↓evVS, ↓evM, ↓evC, ↓evBvv, ↓evBrv, ↓evBvr, ↓evBrr, ↓evFvv, ↓evFrv, ↓evFvr, ↓evFrr, ↓evAv, ↓evAr, ↓evU, ↓evFU, ↓evTr, ↓evRev, ↓evRevT, ↓evSlv, ↓evfSlv, ↓evSlr, ↓evfSlr, ↓evoN, ↓evoS, ↓evL, ↓evs0, ↓evsv, ↓evsr, ↓evFl, ↓eveF, ↓evLst, ↓ltOne_b, ↓evT, ↓evNot, ↓eveNot, ↓evS0, ↓evSC, ↓evSS, ↓evTup, ↓evCall, ↓evCallK, ↓evCallM, ↓evApp, ↓evPop, ↓evPopAt, ↓evSeq, ↓evRng, ↓evZip, ↓tgN, ↓tgT2, ↓tgT3, ↓kS_nx, ↓kS_rt, ↓kS_bk, ↓kS_ct, ↓evPS, ↓evPn, ↓evPb, ↓evPc, ↓evPr, ↓evPset, ↓evPas, ↓evPex, ↓evPpar, ↓evPpar3, ↓evPinc, ↓evPsto, ↓evFor, ↓evComp, ↓evY, ↓kP_rt, ↓kP_nx, ↓kM_rt, ↓kM_nx, ↓kC_nx, ↓kC_ct, ↓kC_bk, ↓kC_rt, ↓rmv0, ↓rmvS, ↓pt0, ↓ptS, ↓okb, ↓nob, ↓rdO_s, ↓rdO_z, ↓liD_b, ↓mkT_b, ↓mkL_b, ↓hd2_b, ↓hd3_b, ↓un2_b, ↓un3_b, ↓evJoin, ↓strD_b, ↓outL_nx, ↓outL_bk, ↓outL_rt, ↓lpK_nx, ↓lpK_rt, ↓lpK_bk, ↓evPif, pick0, pick1, List.getElem?_cons_succ, List.getElem?_cons_zero, Option.toList_some, List.cons_append, List.nil_append, List.length_cons, List.length_nil, Nat.reduceAdd, Nat.reduceLeDiff, wipe0, wipeS, List.set_cons_succ, List.set_cons_zero]) xs (deal_, o_turn, o_value) k
theorem eq_law (script_ : D) : r_law [script_] = r_law_draw [script_, (.int 10)] >>= fun t1 =>
rngR (.int 2) >>= fun xs2 =>
forL (l_law_1) xs2 (t1, none, none, none) >>= fun r9 =>
lpK r9 (fun s10 =>
rngR (.int 12) >>= fun xs12 =>
forL (l_law_2) xs12 (s10.1, s10.2.1, none) >>= fun r18 =>
lpK r18 (fun s19 =>
.ok (.bool true)) (fun v20 s19 => .ok v20)) (fun v11 s10 => .ok v11) := by
  refine (show _ = runP (.im) 6 b_law [script_] from rfl).trans ((runP_ev (δ := [some script_, none, none, none, none, none]) rfl).trans ?_)
  unfold b_law
  simp only [↓bind_as, ↓bind_ite, ↓l_law_2_n, ↓l_law_1_n, ↓evV0, ↓evVS, ↓evM, ↓evC, ↓evBvv, ↓evBrv, ↓evBvr, ↓evBrr, ↓evFvv, ↓evFrv, ↓evFvr, ↓evFrr, ↓evAv, ↓evAr, ↓evU, ↓evFU, ↓evTr, ↓evRev, ↓evRevT, ↓evSlv, ↓evfSlv, ↓evSlr, ↓evfSlr, ↓evoN, ↓evoS, ↓evL, ↓evs0, ↓evsv, ↓evsr, ↓evFl, ↓eveF, ↓evLst, ↓ltOne_b, ↓evT, ↓evNot, ↓eveNot, ↓evS0, ↓evSC, ↓evSS, ↓evTup, ↓evCall, ↓evCallK, ↓evCallM, ↓evApp, ↓evPop, ↓evPopAt, ↓evSeq, ↓evRng, ↓evZip, ↓tgN, ↓tgT2, ↓tgT3, ↓kS_nx, ↓kS_rt, ↓kS_bk, ↓kS_ct, ↓evPS, ↓evPn, ↓evPb, ↓evPc, ↓evPr, ↓evPset, ↓evPas, ↓evPex, ↓evPpar, ↓evPpar3, ↓evPinc, ↓evPsto, ↓evFor, ↓evComp, ↓evY, ↓kP_rt, ↓kP_nx, ↓kM_rt, ↓kM_nx, ↓kC_nx, ↓kC_ct, ↓kC_bk, ↓kC_rt, ↓rmv0, ↓rmvS, ↓pt0, ↓ptS, ↓okb, ↓nob, ↓rdO_s, ↓rdO_z, ↓liD_b, ↓mkT_b, ↓mkL_b, ↓hd2_b, ↓hd3_b, ↓un2_b, ↓un3_b, ↓evJoin, ↓strD_b, ↓outL_nx, ↓outL_bk, ↓outL_rt, ↓lpK_nx, ↓lpK_rt, ↓lpK_bk, ↓evPif, pick0, pick1, List.getElem?_cons_succ, List.getElem?_cons_zero, Option.toList_some, List.cons_append, List.nil_append, List.length_cons, List.length_nil, Nat.reduceAdd, Nat.reduceLeDiff, wipe0, wipeS, List.set_cons_succ, List.set_cons_zero]
end Zd

namespace Zd
open PySem PySem.Spec
open PyProof.Rows L2
def topS (i : Nat) : Stmt := PySem.Challenge.pw_samebehind_k10_whole_tokens_of_any_text.main.body.getD i (.Pass ⟨0, 0, 0, 0⟩)
abbrev s_run_end : Stmt := topS 3
theorem sc_run_end : FnScope ["text", "at", "signs", "end"] ["text", "at", "signs"] (defScope s_run_end) := ⟨rfl, rfl, rfl, by decide +kernel, rfl, by decide +kernel, by decide +kernel⟩
def k_run_end : Kn := fun _ => .im
abbrev s_tokens : Stmt := topS 4
theorem sc_tokens : FnScope ["text", "found", "at", "end"] ["text"] (defScope s_tokens) := ⟨rfl, rfl, rfl, by decide +kernel, rfl, by decide +kernel, by decide +kernel⟩
def k_tokens : Kn := fun i => match i with | 1 => .mu .im | _ => .im
abbrev s_is_numeral : Stmt := topS 5
theorem sc_is_numeral : FnScope ["value"] ["value"] (defScope s_is_numeral) := ⟨rfl, rfl, rfl, by decide +kernel, rfl, by decide +kernel, by decide +kernel⟩
def k_is_numeral : Kn := fun _ => .im
abbrev s_law_draw : Stmt := topS 7
theorem sc_law_draw : FnScope ["script", "salt", "cells", "blend", "cell"] ["script", "salt"] (defScope s_law_draw) := ⟨rfl, rfl, rfl, by decide +kernel, rfl, by decide +kernel, by decide +kernel⟩
def k_law_draw : Kn := fun _ => .im
abbrev s_law_same : Stmt := topS 10
theorem sc_law_same : FnScope ["value", "due", "one", "other"] ["value", "due"] (defScope s_law_same) := ⟨rfl, rfl, rfl, by decide +kernel, rfl, by decide +kernel, by decide +kernel⟩
def k_law_same : Kn := fun _ => .im
abbrev s_law_is_numeral : Stmt := topS 11
theorem sc_law_is_numeral : FnScope ["value", "sign"] ["value"] (defScope s_law_is_numeral) := ⟨rfl, rfl, rfl, by decide +kernel, rfl, by decide +kernel, by decide +kernel⟩
def k_law_is_numeral : Kn := fun _ => .im
abbrev s_law_scanned : Stmt := topS 12
theorem sc_law_scanned : FnScope ["text", "found", "last", "sign", "kind"] ["text"] (defScope s_law_scanned) := ⟨rfl, rfl, rfl, by decide +kernel, rfl, by decide +kernel, by decide +kernel⟩
def k_law_scanned : Kn := fun i => match i with | 1 => .mu .im | _ => .im
abbrev s_law_any : Stmt := topS 8
theorem sc_law_any : FnScope ["deal", "bound", "rest"] ["deal", "bound"] (defScope s_law_any) := ⟨rfl, rfl, rfl, by decide +kernel, rfl, by decide +kernel, by decide +kernel⟩
def k_law_any : Kn := fun i => match i with | 0 => .rc [.mu .im, .im] | _ => .im
abbrev s_law_of : Stmt := topS 9
theorem sc_law_of : FnScope ["deal", "some"] ["deal", "some"] (defScope s_law_of) := ⟨rfl, rfl, rfl, by decide +kernel, rfl, by decide +kernel, by decide +kernel⟩
def k_law_of : Kn := fun i => match i with | 0 => .rc [.mu .im, .im] | _ => .im
abbrev s_law_run : Stmt := topS 13
theorem sc_law_run : FnScope ["deal", "letters", "many", "one"] ["deal", "letters"] (defScope s_law_run) := ⟨rfl, rfl, rfl, by decide +kernel, rfl, by decide +kernel, by decide +kernel⟩
def k_law_run : Kn := fun i => match i with | 0 => .rc [.mu .im, .im] | _ => .im
abbrev s_law_text : Stmt := topS 14
theorem sc_law_text : FnScope ["deal", "signs", "text", "turn", "way"] ["deal"] (defScope s_law_text) := ⟨rfl, rfl, rfl, by decide +kernel, rfl, by decide +kernel, by decide +kernel⟩
def k_law_text : Kn := fun i => match i with | 0 => .rc [.mu .im, .im] | _ => .im
abbrev s_law_value : Stmt := topS 15
theorem sc_law_value : FnScope ["deal", "text", "some"] ["deal"] (defScope s_law_value) := ⟨rfl, rfl, rfl, by decide +kernel, rfl, by decide +kernel, by decide +kernel⟩
def k_law_value : Kn := fun i => match i with | 0 => .rc [.mu .im, .im] | _ => .im
abbrev s_law : Stmt := topS 16
theorem sc_law : FnScope ["script", "deal", "turn", "text", "due", "value"] ["script"] (defScope s_law) := ⟨rfl, rfl, rfl, by decide +kernel, rfl, by decide +kernel, by decide +kernel⟩
def k_law : Kn := fun i => match i with | 1 => .rc [.mu .im, .im] | _ => .im
section
variable {w : World} {K : PySem.W.Frag} {mg : Str → Option Value} {base : Heap} {cls : Cl} {f : Addr} {fd : FuncData}
theorem ok_run_end (df : Df K mg "run_end" s_run_end ["text", "at", "signs"] f fd) (b_len : mg "len" = none) : Hs PySem.Challenge.pw_samebehind_k10_whole_tokens_of_any_text w K mg base 1 "run_end" s_run_end ["text", "at", "signs"] (spP K cls (.im) 3 r_run_end) := by
  refine df.hs ?_
  rw [show (r_run_end : List D → Rs D) = runP (.im) (["text", "at", "signs", "end"] : List Str).length b_run_end from rfl]
  refine def_okP (κ := k_run_end) (m := b_run_end) df.fn sc_run_end rfl (fun i hi => by unfold k_run_end; first | rfl | (split <;> first | rfl | omega)) ?_
  intro cdv A outer s H E σ0 hr
  exact (pc (ps (i := 3) sc_run_end.nd (xV 1))
    (pc (pwA psu (tw (wa (tLt hr (av (xV 3)) (av (xLen b_len (lc (av (xV 0)) ln)))) (wa1 (tIn hr (av (xIx (av (xV 0)) (av (xV 3)))) (av (xV 2)))))) (p1 (pin_ (i := 3) sc_run_end.nd xi)))
    (p1 (pri (xV 3)))))
theorem ok_tokens (df : Df K mg "tokens" s_tokens ["text"] f fd) (h_run_end : Hs PySem.Challenge.pw_samebehind_k10_whole_tokens_of_any_text w K mg base 1 "run_end" s_run_end ["text", "at", "signs"] (spP K cls (.im) 3 r_run_end)) (kc_DIGITS : Kc K mg "DIGITS" (.str "0123456789")) (kc_LETTERS : Kc K mg "LETTERS" (.str "abcdefghijklmnopqrstuvwxyz")) (b_len : mg "len" = none) (b_max : mg "max" = none) (b_tuple : mg "tuple" = none) : Hs PySem.Challenge.pw_samebehind_k10_whole_tokens_of_any_text w K mg base 2 "tokens" s_tokens ["text"] (spP K cls (.im) 1 r_tokens) := by
  refine df.hs ?_
  rw [show (r_tokens : List D → Rs D) = runP (.im) (["text", "found", "at", "end"] : List Str).length b_tokens from rfl]
  refine def_okP (κ := k_tokens) (m := b_tokens) df.fn sc_tokens rfl (fun i hi => by unfold k_tokens; first | rfl | (split <;> first | rfl | omega)) ?_
  intro cdv A outer s H E σ0 hr
  exact (pc (pso (i := 1) sc_tokens.nd (fo (fl sn)))
    (pc (ps (i := 2) sc_tokens.nd xi)
    (pc (pwA psu (tLt hr (av (xV 2)) (av (xLen b_len (lc (av (xV 0)) ln)))) (pc (ps (i := 3) sc_tokens.nd (xMax3 rfl b_max (lc (av (xAdd (av (xV 2)) (av xi))) (lc (av (oI (hc h_run_end hr (by decide) psx (sc (xV 0) (sc (xV 2) (sc (xK kc_LETTERS) sn))) (lenS (lenS (lenS len0)))))) (lc (av (oI (hc h_run_end hr (by decide) psx (sc (xV 0) (sc (xV 2) (sc (xK kc_DIGITS) sn))) (lenS (lenS (lenS len0)))))) ln)))))
    (pc (pif (tNi hr (av (xIx (av (xV 0)) (av (xV 2)))) (av xs)) (p1 (pe (xApp 1 (xSl (av (xV 0)) (os (xV 2)) (os (xV 3)))))) pn)
    (p1 (ps (i := 2) sc_tokens.nd (xV 3))))))
    (p1 (pri (xTup b_tuple (lc (xR 1) ln)))))))
theorem ok_is_numeral (df : Df K mg "is_numeral" s_is_numeral ["value"] f fd) (h_run_end : Hs PySem.Challenge.pw_samebehind_k10_whole_tokens_of_any_text w K mg base 1 "run_end" s_run_end ["text", "at", "signs"] (spP K cls (.im) 3 r_run_end)) (kc_DIGITS : Kc K mg "DIGITS" (.str "0123456789")) (b_isinstance : mg "isinstance" = none) (b_len : mg "len" = none) (b_str : mg "str" = none) : Hs PySem.Challenge.pw_samebehind_k10_whole_tokens_of_any_text w K mg base 2 "is_numeral" s_is_numeral ["value"] (spP K cls (.im) 1 r_is_numeral) := by
  refine df.hs ?_
  rw [show (r_is_numeral : List D → Rs D) = runP (.im) (["value"] : List Str).length b_is_numeral from rfl]
  refine def_okP (κ := k_is_numeral) (m := b_is_numeral) df.fn sc_is_numeral rfl (fun i hi => by unfold k_is_numeral; first | rfl | (split <;> first | rfl | omega)) ?_
  intro cdv A outer s H E σ0 hr
  exact (pc (pif (tw (wo (tn (tt (av (xIsi ki_str b_isinstance b_str PyProof.Rows.boot_str (av (xV 0)))))) (wo (tEq hr (av (xV 0)) (av xs)) (wo1 (tGt hr (av (xLen b_len (lc (av (xV 0)) ln))) (av xi)))))) (p1 (pri xb)) pn)
    (p1 (pri (ea (cEq hr (av (oI (hc h_run_end hr (by decide) psx (sc (xV 0) (sc xi (sc (xK kc_DIGITS) sn))) (lenS (lenS (lenS len0)))))) (av (xLen b_len (lc (av (xV 0)) ln)))) (e1' (eo (cEq hr (av (xV 0)) (av xs)) (e1' (cNe hr (av (xIx (av (xV 0)) (av xi))) (av xs)))))))))
theorem ok_law_draw (df : Df K mg "_law_draw" s_law_draw ["script", "salt"] f fd) (b_abs : mg "abs" = none) (b_int : mg "int" = none) : Hs PySem.Challenge.pw_samebehind_k10_whole_tokens_of_any_text w K mg base 1 "_law_draw" s_law_draw ["script", "salt"] (spP K cls (.rc [.mu .im, .im]) 2 r_law_draw) := by
  refine df.hs ?_
  rw [show (r_law_draw : List D → Rs D) = runP (.rc [.mu .im, .im]) (["script", "salt", "cells", "blend", "cell"] : List Str).length b_law_draw from rfl]
  refine def_okP (κ := k_law_draw) (m := b_law_draw) df.fn sc_law_draw rfl (fun i hi => by unfold k_law_draw; first | rfl | (split <;> first | rfl | omega)) ?_
  intro cdv A outer s H E σ0 hr
  exact (pc (pcp (i := 2) rfl sc_law_draw.nd (iq (xSl (av (xV 0)) on (os xi))) (blkOk_by (own := [("cell", 4)]) (by show blkC ["script", "salt", "cells", "blend", "cell"] (defScope s_law_draw) _ _ = true; decide +kernel)) ng_n (fun _ _ _ _ _ _ => (gn (i := 4) sc_law_draw.nd)) (fun _ _ _ _ _ => py) (fun _ _ _ _ _ => (xAbs b_abs (lc (av (xInt b_int (lc (av (xV 4)) ln))) ln))))
    (pc (ps (i := 3) sc_law_draw.nd (xAdd (av xi) (av (xMul (av xi) (av (xV 1))))))
    (pc (pf psu rfl (iq (xV 2)) (gn (i := 4) sc_law_draw.nd) ng_n (p1 (ps (i := 3) sc_law_draw.nd (xMod (av (xInt b_int (lc (av (xAdd (av (xAdd (av (xMul (av (xV 3)) (av xi))) (av (xMod (av (xV 4)) (av xi))))) (av xi))) ln))) (av xi)))))
    (p1 (pr (xRc2 (fo (xRevF (av (oI (cp rfl sc_law_draw.nd (iq (xV 2)) (blkOk_by (own := [("cell", 4)]) (by show blkC ["script", "salt", "cells", "blend", "cell"] (defScope s_law_draw) _ _ = true; decide +kernel)) ng_n (fun _ _ _ _ _ _ => (gn (i := 4) sc_law_draw.nd)) (fun _ _ _ _ _ => (py1 (tGe hr (av (xV 4)) (av (xPow (av xi) (av xi)))))) (fun _ _ _ _ _ => (xV 4))))))) (xV 3)))))))
theorem ok_law_same (df : Df K mg "_law_same" s_law_same ["value", "due"] f fd) (b_bool : mg "bool" = none) (b_int : mg "int" = none) (b_isinstance : mg "isinstance" = none) (b_len : mg "len" = none) (b_str : mg "str" = none) (b_tuple : mg "tuple" = none) (b_zip : mg "zip" = none) : ∀ n : Nat, FnOk PySem.Challenge.pw_samebehind_k10_whole_tokens_of_any_text w K mg base (L2.CX PySem.Challenge.pw_samebehind_k10_whole_tokens_of_any_text w) (n + 0) f fd ["value", "due"] (spP K cls (.im) 2 (r_law_same n))
  | 0 => fnok_no
  | n + 1 => by
    have ih := ok_law_same df b_bool b_int b_isinstance b_len b_str b_tuple b_zip n
    rw [show n + 1 + 0 = (n + 0) + 1 by omega]
    rw [show (r_law_same (n + 1) : List D → Rs D) = runP (.im) (["value", "due", "one", "other"] : List Str).length (b_law_same (r_law_same n)) from rfl]
    refine def_okP (κ := k_law_same) (m := (b_law_same (r_law_same n))) df.fn sc_law_same rfl (fun i hi => by unfold k_law_same; first | rfl | (split <;> first | rfl | omega)) ?_
    intro cdv A outer s H E σ0 hr
    exact (pc (pif (tt (av (xIsi ki_tup b_isinstance b_tuple PyProof.Rows.boot_tuple (av (xV 1))))) (pc (pif (tw (wo (tn (tt (av (xIsi ki_tup b_isinstance b_tuple PyProof.Rows.boot_tuple (av (xV 0)))))) (wo1 (tNe hr (av (xLen b_len (lc (av (xV 0)) ln))) (av (xLen b_len (lc (av (xV 1)) ln))))))) (p1 (pri xb)) pn)
      (p1 (pri (cEq hr (av (oI (cp rfl sc_law_same.nd (iz b_zip (sc (xV 0) (sc (xV 1) sn))) (blkOk_by (own := [("one", 2), ("other", 3)]) (by show blkC ["value", "due", "one", "other"] (defScope s_law_same) _ _ = true; decide +kernel)) (ng_t (ng_c ng_n (ng_c ng_n ng_e))) (fun _ _ _ _ _ _ => (gt rfl (gc (gn (i := 2) sc_law_same.nd) (gc (gn (i := 3) sc_law_same.nd) ge)))) (fun _ _ _ _ _ => (py1 (tn (tt (av (oI (hc (df.hs ih) hr (by omega) passL (sc (xV 2) (sc (xV 3) sn)) (lenS (lenS len0))))))))) (fun _ _ _ _ _ => xi)))) (av (fi (fl sn))))))) pn)
      (pc (pif (tIs hr (av (xV 1)) (av xn)) (p1 (pri (cIs hr (av (xV 0)) (av xn)))) pn)
      (pc (pif (tIs hr (av (xV 1)) (av xb)) (p1 (pri (cIs hr (av (xV 0)) (av xb)))) pn)
      (pc (pif (tIs hr (av (xV 1)) (av xb)) (p1 (pri (cIs hr (av (xV 0)) (av xb)))) pn)
      (pc (pif (tt (av (xIsi ki_int b_isinstance b_int PyProof.Rows.boot_int (av (xV 1))))) (p1 (pri (ea (xIsi ki_int b_isinstance b_int PyProof.Rows.boot_int (av (xV 0))) (ea (en (xIsi ki_bool b_isinstance b_bool PyProof.Rows.boot_bool (av (xV 0)))) (e1' (cEq hr (av (xV 0)) (av (xV 1)))))))) pn)
      (p1 (pri (ea (xIsi ki_str b_isinstance b_str PyProof.Rows.boot_str (av (xV 0))) (e1' (cEq hr (av (xV 0)) (av (xV 1))))))))))))
theorem ok_law_is_numeral (df : Df K mg "_law_is_numeral" s_law_is_numeral ["value"] f fd) (b_isinstance : mg "isinstance" = none) (b_len : mg "len" = none) (b_str : mg "str" = none) : Hs PySem.Challenge.pw_samebehind_k10_whole_tokens_of_any_text w K mg base 1 "_law_is_numeral" s_law_is_numeral ["value"] (spP K cls (.im) 1 r_law_is_numeral) := by
  refine df.hs ?_
  rw [show (r_law_is_numeral : List D → Rs D) = runP (.im) (["value", "sign"] : List Str).length b_law_is_numeral from rfl]
  refine def_okP (κ := k_law_is_numeral) (m := b_law_is_numeral) df.fn sc_law_is_numeral rfl (fun i hi => by unfold k_law_is_numeral; first | rfl | (split <;> first | rfl | omega)) ?_
  intro cdv A outer s H E σ0 hr
  exact (pc (pif (tw (wo (tn (tt (av (xIsi ki_str b_isinstance b_str PyProof.Rows.boot_str (av (xV 0)))))) (wo1 (tn (tCh op_le op_le bi_le nx_le bi_le nx_le xi (xLen b_len (lc (av (xV 0)) ln)) xi))))) (p1 (pri xb)) pn)
    (p1 (pri (ea (cEq hr (av (oI (cp rfl sc_law_is_numeral.nd (iq (xV 0)) (blkOk_by (own := [("sign", 1)]) (by show blkC ["value", "sign"] (defScope s_law_is_numeral) _ _ = true; decide +kernel)) ng_n (fun _ _ _ _ _ _ => (gn (i := 1) sc_law_is_numeral.nd)) (fun _ _ _ _ _ => (py1 (tNi hr (av (xV 1)) (av xs)))) (fun _ _ _ _ _ => (xV 1))))) (av (fi (fl sn)))) (e1' (eo (cEq hr (av (xV 0)) (av xs)) (e1' (cNe hr (av (xIx (av (xV 0)) (av xi))) (av xs)))))))))
theorem ok_law_scanned (df : Df K mg "_law_scanned" s_law_scanned ["text"] f fd)  : Hs PySem.Challenge.pw_samebehind_k10_whole_tokens_of_any_text w K mg base 1 "_law_scanned" s_law_scanned ["text"] (spP K cls (.im) 1 r_law_scanned) := by
  refine df.hs ?_
  rw [show (r_law_scanned : List D → Rs D) = runP (.im) (["text", "found", "last", "sign", "kind"] : List Str).length b_law_scanned from rfl]
  refine def_okP (κ := k_law_scanned) (m := b_law_scanned) df.fn sc_law_scanned rfl (fun i hi => by unfold k_law_scanned; first | rfl | (split <;> first | rfl | omega)) ?_
  intro cdv A outer s H E σ0 hr
  exact (pc (pparO (i := 1) (j := 2) rfl sc_law_scanned.nd (oc' (fo (fl sn)) (oc' (oim xs) on')))
    (pc (pf psu rfl (iq (xV 0)) (gn (i := 3) sc_law_scanned.nd) ng_n (pc (ps (i := 4) sc_law_scanned.nd (ie (tIn hr (av (xV 3)) (av xs)) xs (ie (tIn hr (av (xV 3)) (av xs)) xs xs)))
    (pc (pif (tw (wa (tNe hr (av (xV 3)) (av xs)) (wa1 (tNe hr (av (xV 3)) (av xs))))) (p1 (pif (tw (wa (tNe hr (av (xV 4)) (av xs)) (wa1 (tEq hr (av (xV 4)) (av (xV 2)))))) (p1 (pst 1 (xAdd (av (xIx (xR 1) (av (xNeg (av xi))))) (av (xV 3))) (xNeg (av xi)))) (p1 (pe (xApp 1 (xV 3)))))) pn)
    (p1 (ps (i := 2) sc_law_scanned.nd (xV 4))))))
    (p1 (pri (oI (xM 1))))))
theorem ok_law_any (df : Df K mg "_law_any" s_law_any ["deal", "bound"] f fd) (b_int : mg "int" = none) : Hs PySem.Challenge.pw_samebehind_k10_whole_tokens_of_any_text w K mg base 1 "_law_any" s_law_any ["deal", "bound"] (spM K cls (.rc [.mu .im, .im]) (.im) 2 r_law_any) := by
  refine df.hs ?_
  rw [show (r_law_any : List D → Rs (D × D)) = runM (.im) (["deal", "bound", "rest"] : List Str).length b_law_any from rfl]
  refine def_okM (κ := k_law_any) (m := b_law_any) df.fn sc_law_any rfl (fun i h1 h2 => by unfold k_law_any; split <;> first | rfl | omega) rfl ?_
  intro cdv A outer s H E σ0 hr
  exact (pc (pwA psu (tw (wa (uNe hr nx_at nx_uc (uP 0 0 0) ue) (wa1 (tEq hr (av (uIx nx_at nx_uc (uP 0 0 0) un1)) (av xi))))) (p1 (pe (xPopIn 0 0 0))))
    (pc (pif (uNe hr nx_at nx_uc (uP 0 0 0) ue) (pc (ps (i := 2) sc_law_any.nd (xInt b_int (lc (av (xPopIn 0 0 0)) ln)))
    (pc (pap 0 0 0 (nx_vdiv nx_get nx_get) (vDiv nx_get nx_get (vV 2) (vV 1)))
    (p1 (pri (xMod (av (xV 2)) (av (xV 1))))))) pn)
    (pc (ppu 0 1 1 (xMod (av (xInt b_int (lc (av (xAdd (av (xMul (av (xAt 0 1 1)) (av xi))) (av xi))) ln))) (av xi)))
    (p1 (pri (xMod (av (xInt b_int (lc (av (xDiv (av (xAt 0 1 1)) (av xi))) ln))) (av (xV 1))))))))
theorem ok_law_of (df : Df K mg "_law_of" s_law_of ["deal", "some"] f fd) (h_law_any : Hs PySem.Challenge.pw_samebehind_k10_whole_tokens_of_any_text w K mg base 1 "_law_any" s_law_any ["deal", "bound"] (spM K cls (.rc [.mu .im, .im]) (.im) 2 r_law_any)) (b_len : mg "len" = none) : Hs PySem.Challenge.pw_samebehind_k10_whole_tokens_of_any_text w K mg base 2 "_law_of" s_law_of ["deal", "some"] (spM K cls (.rc [.mu .im, .im]) (.im) 2 r_law_of) := by
  refine df.hs ?_
  rw [show (r_law_of : List D → Rs (D × D)) = runM (.im) (["deal", "some"] : List Str).length b_law_of from rfl]
  refine def_okM (κ := k_law_of) (m := b_law_of) df.fn sc_law_of rfl (fun i h1 h2 => by unfold k_law_of; split <;> first | rfl | omega) rfl ?_
  intro cdv A outer s H E σ0 hr
  exact (p1 (pri (xIx (av (xV 1)) (av (oI (hcM 0 h_law_any hr (by decide) psx (sc (xLen b_len (lc (av (xV 1)) ln)) sn) (lenS len0)))))))
theorem ok_law_run (df : Df K mg "_law_run" s_law_run ["deal", "letters"] f fd) (h_law_any : Hs PySem.Challenge.pw_samebehind_k10_whole_tokens_of_any_text w K mg base 1 "_law_any" s_law_any ["deal", "bound"] (spM K cls (.rc [.mu .im, .im]) (.im) 2 r_law_any)) (h_law_of : Hs PySem.Challenge.pw_samebehind_k10_whole_tokens_of_any_text w K mg base 2 "_law_of" s_law_of ["deal", "some"] (spM K cls (.rc [.mu .im, .im]) (.im) 2 r_law_of)) (b_range : mg "range" = none) : Hs PySem.Challenge.pw_samebehind_k10_whole_tokens_of_any_text w K mg base 3 "_law_run" s_law_run ["deal", "letters"] (spM K cls (.rc [.mu .im, .im]) (.im) 2 r_law_run) := by
  refine df.hs ?_
  rw [show (r_law_run : List D → Rs (D × D)) = runM (.im) (["deal", "letters", "many", "one"] : List Str).length b_law_run from rfl]
  refine def_okM (κ := k_law_run) (m := b_law_run) df.fn sc_law_run rfl (fun i h1 h2 => by unfold k_law_run; split <;> first | rfl | omega) rfl ?_
  intro cdv A outer s H E σ0 hr
  exact (pc (ps (i := 2) sc_law_run.nd (oI (hcM 0 h_law_of hr (by decide) psx (sc (fi (fl (sc xi (sc xi (sc xi (sc xi (sc xi (sc xi (sc xi (sc xi (sc xi (sc (xAdd (av xi) (av (oI (hcM 0 h_law_any hr (by decide) psx (sc xi sn) (lenS len0))))) sn)))))))))))) sn) (lenS len0))))
    (p1 (pri (xJoin xs (av (oI (cp rfl sc_law_run.nd (ir b_range (sc (xV 2) sn)) (blkOk_by (own := [("one", 3)]) (by show blkC ["deal", "letters", "many", "one"] (defScope s_law_run) _ _ = true; decide +kernel)) ng_n (fun _ _ _ _ _ _ => (gn (i := 3) sc_law_run.nd)) (fun _ _ _ _ _ => py) (fun _ _ _ _ _ => (oI (hcM 0 h_law_of hr (by decide) passL (sc (xV 1) sn) (lenS len0)))))))))))
theorem ok_law_text (df : Df K mg "_law_text" s_law_text ["deal"] f fd) (h_law_any : Hs PySem.Challenge.pw_samebehind_k10_whole_tokens_of_any_text w K mg base 1 "_law_any" s_law_any ["deal", "bound"] (spM K cls (.rc [.mu .im, .im]) (.im) 2 r_law_any)) (h_law_of : Hs PySem.Challenge.pw_samebehind_k10_whole_tokens_of_any_text w K mg base 2 "_law_of" s_law_of ["deal", "some"] (spM K cls (.rc [.mu .im, .im]) (.im) 2 r_law_of)) (h_law_run : Hs PySem.Challenge.pw_samebehind_k10_whole_tokens_of_any_text w K mg base 3 "_law_run" s_law_run ["deal", "letters"] (spM K cls (.rc [.mu .im, .im]) (.im) 2 r_law_run)) (b_len : mg "len" = none) (b_range : mg "range" = none) : Hs PySem.Challenge.pw_samebehind_k10_whole_tokens_of_any_text w K mg base 4 "_law_text" s_law_text ["deal"] (spM K cls (.rc [.mu .im, .im]) (.im) 1 r_law_text) := by
  refine df.hs ?_
  rw [show (r_law_text : List D → Rs (D × D)) = runM (.im) (["deal", "signs", "text", "turn", "way"] : List Str).length b_law_text from rfl]
  refine def_okM (κ := k_law_text) (m := b_law_text) df.fn sc_law_text rfl (fun i h1 h2 => by unfold k_law_text; split <;> first | rfl | omega) rfl ?_
  intro cdv A outer s H E σ0 hr
  exact (pc (pas (et (sc xs (sc xs sn))) (gt rfl (gc (gn (i := 1) sc_law_text.nd) (gc (gn (i := 2) sc_law_text.nd) ge))) (ng_t (ng_c ng_n (ng_c ng_n ng_e))))
    (pc (pf psu rfl (ir b_range (sc (oI (hcM 0 h_law_of hr (by decide) psx (sc (fi (fl (sc xi (sc xi (sc xi (sc xi (sc xi sn))))))) sn) (lenS len0))) sn)) (gn (i := 3) sc_law_text.nd) ng_n (pc (ps (i := 4) sc_law_text.nd (oI (hcM 0 h_law_any hr (by decide) psx (sc xi sn) (lenS len0))))
    (p1 (pif (tEq hr (av (xV 4)) (av xi)) (p1 (ps (i := 2) sc_law_text.nd (xAdd (av (xV 2)) (av (oI (hcM 0 h_law_run hr (by decide) psx (sc xs sn) (lenS len0))))))) (p1 (pif (tEq hr (av (xV 4)) (av xi)) (p1 (ps (i := 2) sc_law_text.nd (xAdd (av (xV 2)) (av (oI (hcM 0 h_law_run hr (by decide) psx (sc xs sn) (lenS len0))))))) (p1 (pif (tEq hr (av (xV 4)) (av xi)) (p1 (ps (i := 2) sc_law_text.nd (xAdd (av (xV 2)) (av (oI (hcM 0 h_law_of hr (by decide) psx (sc (fi (fl (sc xs (sc xs (sc xs (sc xs sn)))))) sn) (lenS len0))))))) (p1 (ps (i := 2) sc_law_text.nd (xAdd (av (xV 2)) (av (oI (hcM 0 h_law_of hr (by decide) psx (sc (xV 1) sn) (lenS len0)))))))))))))))
    (pc (pif (tw (wa (tEq hr (av (oI (hcM 0 h_law_any hr (by decide) psx (sc xi sn) (lenS len0)))) (av xi)) (wa1 (tLt hr (av (xLen b_len (lc (av (xV 2)) ln))) (av xi))))) (p1 (ps (i := 2) sc_law_text.nd (xMulS (av (xV 2)) (av (xAdd (av xi) (av (oI (hcM 0 h_law_any hr (by decide) psx (sc xi sn) (lenS len0))))))))) pn)
    (p1 (pri (xV 2))))))
theorem ok_law_value (df : Df K mg "_law_value" s_law_value ["deal"] f fd) (h_law_of : Hs PySem.Challenge.pw_samebehind_k10_whole_tokens_of_any_text w K mg base 2 "_law_of" s_law_of ["deal", "some"] (spM K cls (.rc [.mu .im, .im]) (.im) 2 r_law_of)) (h_law_run : Hs PySem.Challenge.pw_samebehind_k10_whole_tokens_of_any_text w K mg base 3 "_law_run" s_law_run ["deal", "letters"] (spM K cls (.rc [.mu .im, .im]) (.im) 2 r_law_run)) : Hs PySem.Challenge.pw_samebehind_k10_whole_tokens_of_any_text w K mg base 4 "_law_value" s_law_value ["deal"] (spM K cls (.rc [.mu .im, .im]) (.im) 1 r_law_value) := by
  refine df.hs ?_
  rw [show (r_law_value : List D → Rs (D × D)) = runM (.im) (["deal", "text", "some"] : List Str).length b_law_value from rfl]
  refine def_okM (κ := k_law_value) (m := b_law_value) df.fn sc_law_value rfl (fun i h1 h2 => by unfold k_law_value; split <;> first | rfl | omega) rfl ?_
  intro cdv A outer s H E σ0 hr
  exact (pc (ps (i := 1) sc_law_value.nd (oI (hcM 0 h_law_run hr (by decide) psx (sc xs sn) (lenS len0))))
    (pc (ps (i := 1) sc_law_value.nd (xAdd (av (xMulS (av xs) (av (oI (hcM 0 h_law_of hr (by decide) psx (sc (fi (fl (sc xi (sc xi (sc xi (sc xi sn)))))) sn) (lenS len0)))))) (av (xV 1))))
    (pc (ps (i := 2) sc_law_value.nd (fi (fl (sc (xV 1) (sc (xV 1) (sc (xV 1) (sc (xSl (av (xV 1)) on (os xi)) (sc (xSl (av (xV 1)) on (os xi)) (sc (xSl (av (xV 1)) on (os xi)) (sc (xAdd (av (xV 1)) (av xs)) (sc (xAdd (av xs) (av (xV 1))) (sc (xAdd (av xs) (av (xV 1))) (sc (xAdd (av xs) (av (xV 1))) (sc (xAdd (av (xV 1)) (av xs)) sn))))))))))))))
    (pc (ps (i := 2) sc_law_value.nd (xAdd (av (xV 2)) (av (fi (fl (sc xs (sc xs (sc xs (sc xs (sc xs (sc (xAdd (av (xSl (av (xV 1)) on (os xi))) (av xs)) (sc (xAdd (av (xSl (av (xV 1)) on (os xi))) (av xs)) (sc xn (sc xb (sc xb (sc xi (sc xi (sc (et (sc (xV 1) sn)) (sc (fi (fl (sc (xV 1) sn))) sn)))))))))))))))))))
    (p1 (pri (oI (hcM 0 h_law_of hr (by decide) psx (sc (xV 2) sn) (lenS len0)))))))))
theorem ok_law (df : Df K mg "law" s_law ["script"] f fd) (h_tokens : Hs PySem.Challenge.pw_samebehind_k10_whole_tokens_of_any_text w K mg base 2 "tokens" s_tokens ["text"] (spP K cls (.im) 1 r_tokens)) (h_is_numeral : Hs PySem.Challenge.pw_samebehind_k10_whole_tokens_of_any_text w K mg base 2 "is_numeral" s_is_numeral ["value"] (spP K cls (.im) 1 r_is_numeral)) (h_law_draw : Hs PySem.Challenge.pw_samebehind_k10_whole_tokens_of_any_text w K mg base 1 "_law_draw" s_law_draw ["script", "salt"] (spP K cls (.rc [.mu .im, .im]) 2 r_law_draw)) (h_law_same : Hs PySem.Challenge.pw_samebehind_k10_whole_tokens_of_any_text w K mg base 4 "_law_same" s_law_same ["value", "due"] (spP K cls (.im) 2 (r_law_same 4))) (h_law_is_numeral : Hs PySem.Challenge.pw_samebehind_k10_whole_tokens_of_any_text w K mg base 1 "_law_is_numeral" s_law_is_numeral ["value"] (spP K cls (.im) 1 r_law_is_numeral)) (h_law_scanned : Hs PySem.Challenge.pw_samebehind_k10_whole_tokens_of_any_text w K mg base 1 "_law_scanned" s_law_scanned ["text"] (spP K cls (.im) 1 r_law_scanned)) (h_law_text : Hs PySem.Challenge.pw_samebehind_k10_whole_tokens_of_any_text w K mg base 4 "_law_text" s_law_text ["deal"] (spM K cls (.rc [.mu .im, .im]) (.im) 1 r_law_text)) (h_law_value : Hs PySem.Challenge.pw_samebehind_k10_whole_tokens_of_any_text w K mg base 4 "_law_value" s_law_value ["deal"] (spM K cls (.rc [.mu .im, .im]) (.im) 1 r_law_value)) (b_range : mg "range" = none) (b_tuple : mg "tuple" = none) : Hs PySem.Challenge.pw_samebehind_k10_whole_tokens_of_any_text w K mg base 5 "law" s_law ["script"] (spP K cls (.im) 1 r_law) := by
  refine df.hs ?_
  rw [show (r_law : List D → Rs D) = runP (.im) (["script", "deal", "turn", "text", "due", "value"] : List Str).length b_law from rfl]
  refine def_okP (κ := k_law) (m := b_law) df.fn sc_law rfl (fun i hi => by unfold k_law; first | rfl | (split <;> first | rfl | omega)) ?_
  intro cdv A outer s H E σ0 hr
  exact (pc (pso (i := 1) sc_law.nd (hc h_law_draw hr (by decide) psx (sc (xV 0) (sc xi sn)) (lenS (lenS len0))))
    (pc (pf psu rfl (ir b_range (sc xi sn)) (gn (i := 2) sc_law.nd) ng_n (pc (ps (i := 3) sc_law.nd (oI (hcM 1 h_law_text hr (by decide) psx sn len0)))
    (pc (ps (i := 4) sc_law.nd (xTup b_tuple (lc (av (oI (hc h_law_scanned hr (by decide) psx (sc (xV 3) sn) (lenS len0)))) ln)))
    (p1 (pif (tn (tt (av (oI (hc h_law_same hr (by omega) psx (sc (oI (hc h_tokens hr (by decide) psx (sc (xV 3) sn) (lenS len0))) (sc (xV 4) sn)) (lenS (lenS len0))))))) (p1 (pri xb)) pn)))))
    (pc (pf psu rfl (ir b_range (sc xi sn)) (gn (i := 2) sc_law.nd) ng_n (pc (ps (i := 5) sc_law.nd (oI (hcM 1 h_law_value hr (by decide) psx sn len0)))
    (p1 (pif (tn (tt (av (oI (hc h_law_same hr (by omega) psx (sc (oI (hc h_is_numeral hr (by decide) psx (sc (xV 5) sn) (lenS len0))) (sc (oI (hc h_law_is_numeral hr (by decide) psx (sc (xV 5) sn) (lenS len0))) sn)) (lenS (lenS len0))))))) (p1 (pri xb)) pn))))
    (p1 (pri xb)))))
end
end Zd

namespace Zd
open PySem PySem.Spec
open PyProof.Rows L2
def LET : List Nat := "abcdefghijklmnopqrstuvwxyz".toList.map Char.toNat
def DIG : List Nat := "0123456789".toList.map Char.toNat
theorem lit_L : PyData.str (Str.ofString "abcdefghijklmnopqrstuvwxyz") = tx LET := lit _
theorem lit_D : PyData.str (Str.ofString "0123456789") = tx DIG := lit _
theorem lit_0 : PyData.str (Str.ofString "") = tx [] := lit _
theorem lit_a : PyData.str (Str.ofString "a") = tx [97] := lit _
theorem lit_00 : PyData.str (Str.ofString "0") = tx [48] := lit _
theorem lit_sp : PyData.str (Str.ofString " ") = tx [32] := lit _
theorem lit_nl : PyData.str (Str.ofString "\n") = tx [10] := lit _
theorem lit_bl : PyData.str (Str.ofString " \n") = tx [32, 10] := lit _
theorem apart : ∀ c ∈ LET, c ∉ DIG ∧ c ∉ [32, 10] := by decide
theorem apart2 : ∀ c ∈ DIG, c ∉ LET ∧ c ∉ [32, 10] := by decide
/-! ### the end of a run -/
theorem drop_at {z : List Nat} {e : Nat} (h : e < z.length) : z.drop e = z[e] :: z.drop (e + 1) := List.drop_eq_getElem_cons h
theorem run_w (z L : List Nat) (hz : z.length ≤ 1000000) : ∀ (n e : Nat), e + n = z.length → whA (w_run_end_3 (tx z) (tx L)) l_run_end_1 (.int e) = .ok (.nx (.int ((e + ((z.drop e).takeWhile fun c => decide (c ∈ L)).length : Nat) : Int)))
  | 0, e, h => by
    rw [whA_eq]
    have t : w_run_end_3 (tx z) (tx L) (.int e) = .ok false := by
      unfold w_run_end_3 t_run_end_2
      have c : decide ((e : Int) < (z.length : Int)) = false := by rw [decide_eq_false_iff_not]; omega
      simp only [gLen_tx hz, okb, gLt, c, bool, Bool.false_eq_true, if_true]
    rw [t, okb, List.drop_eq_nil_of_le (by omega)]
    rfl
  | n + 1, e, h => by
    have he : e < z.length := by omega
    rw [whA_eq, drop_at he]
    have c : decide ((e : Int) < (z.length : Int)) = true := by rw [decide_eq_true_eq]; omega
    have ix := gIx_tx (i := e) hz (atI_nat (List.getElem?_eq_getElem he))
    have t : w_run_end_3 (tx z) (tx L) (.int e) = .ok (decide (z[e] ∈ L)) := by
      unfold w_run_end_3 t_run_end_2
      simp only [gLen_tx hz, okb, gLt, c, bool, ite_tt, ix, gIn_tx]
    rw [t, okb]
    cases hd : decide (z[e] ∈ L) with
    | false =>
      rw [List.takeWhile_cons, hd]
      rfl
    | true =>
      have b : l_run_end_1 (.int e) = .ok (.nx (.int ((e + 1 : Nat) : Int))) := rfl
      rw [if_pos rfl, b, okb, List.takeWhile_cons, hd]
      show whA _ _ _ = _
      rw [run_w z L hz n (e + 1) (by omega)]
      simp only [ite_tt, List.length_cons]
      congr 4
      omega
def rl (p : Nat → Bool) (cs : List Nat) : Nat := (cs.takeWhile p).length
theorem run_end_ok {z : List Nat} {at_ : Nat} (L : List Nat) (hz : z.length ≤ 1000000) (h : at_ ≤ z.length) : r_run_end [tx z, .int at_, tx L] = .ok (.int ((at_ + rl (fun c => decide (c ∈ L)) (z.drop at_) : Nat) : Int)) := by
  rw [eq_run_end, run_w z L hz (z.length - at_) at_ (by omega), okb, lpK_nx]
  rfl
/-! ### the law's scan -/
def kind (c : Nat) : Nat := if c ∈ LET then 1 else if c ∈ DIG then 2 else 0
def kD : Nat → D
  | 0 => tx []
  | 1 => tx [97]
  | _ => tx [48]
def grow (F : List (List Nat)) (c : Nat) : List (List Nat) := match F.getLast? with
  | some r => F.dropLast ++ [r ++ [c]]
  | none => []
theorem grow_s (F : List (List Nat)) (r : List Nat) (c : Nat) : grow (F ++ [r]) c = F ++ [r ++ [c]] := by
  unfold grow
  simp
def scn (F : List (List Nat)) (last : Nat) : List Nat → List (List Nat)
  | [] => F
  | c :: cs => scn (if c ∈ [32, 10] then F else if kind c ≠ 0 ∧ kind c = last then grow F c else F ++ [[c]]) (kind c) cs
theorem kind_le (c : Nat) : kind c = 0 ∨ kind c = 1 ∨ kind c = 2 := by
  unfold kind
  split
  · exact .inr (.inl rfl)
  · split
    · exact .inr (.inr rfl)
    · exact .inl rfl
theorem kD_eq {j k : Nat} (hj : j ≤ 2) (hk : k ≤ 2) : gEq (kD j) (kD k) = .ok (.bool (decide (j = k))) := by
  have a : j = 0 ∨ j = 1 ∨ j = 2 := by omega
  have b : k = 0 ∨ k = 1 ∨ k = 2 := by omega
  rcases a with rfl | rfl | rfl <;> rcases b with rfl | rfl | rfl <;> exact gEq_tx _ _
theorem kD_ne {j : Nat} (hj : j ≤ 2) : gNe (kD j) (tx []) = .ok (.bool (decide (j ≠ 0))) := by
  have a : j = 0 ∨ j = 1 ∨ j = 2 := by omega
  rcases a with rfl | rfl | rfl <;> exact gNe_tx _ _
theorem kind_ok (c : Nat) : x_law_scanned_1 (tx [c]) = .ok (kD (kind c)) := by
  unfold x_law_scanned_1 kind
  rw [lit_L, lit_D, lit_0, lit_a, lit_00]
  by_cases h : c ∈ LET
  · simp only [gIn_tx, okb, bool, decide_eq_true h, ite_tt, if_pos h]; rfl
  · by_cases h2 : c ∈ DIG
    · simp only [gIn_tx, okb, bool, decide_eq_false h, Bool.false_eq_true, if_true, decide_eq_true h2, ite_tt, if_pos h2, if_neg h]; rfl
    · simp only [gIn_tx, okb, bool, decide_eq_false h, Bool.false_eq_true, if_true, decide_eq_false h2, if_neg h2, if_neg h]; rfl
theorem blank_ok (c : Nat) : t_law_scanned_2 (tx [c]) = .ok (!decide (c ∈ [32, 10])) := by
  unfold t_law_scanned_2
  rw [lit_sp, lit_nl]
  have e : decide (c ∈ [32, 10]) = (decide ([c] = [32]) || decide ([c] = [10])) := by
    by_cases h1 : c = 32
    · subst h1; rfl
    · by_cases h2 : c = 10
      · subst h2; rfl
      · rw [decide_eq_false (by simp [h1, h2]), decide_eq_false (by simp [h1]), decide_eq_false (by simp [h2])]; rfl
  rw [e]
  simp only [gNe_tx, okb, bool]
  cases decide ([c] = [32]) <;> simp
theorem step_ok {F : List (List Nat)} {last c : Nat} (hl : last ≤ 2) (hF : F.length < 1000000) (h0 : last ≠ 0 → F ≠ []) (hR : ∀ r ∈ F, r.length + 1 ≤ 1000000) : i_law_scanned_4 (.list (F.map tx)) (kD last) (tx [c]) (kD (kind c)) = .ok (.list ((if c ∈ [32, 10] then F else if kind c ≠ 0 ∧ kind c = last then grow F c else F ++ [[c]]).map tx)) := by
  have kl : kind c ≤ 2 := by rcases kind_le c with h | h | h <;> omega
  unfold i_law_scanned_4
  rw [blank_ok, okb]
  by_cases hb : c ∈ [32, 10]
  · simp only [decide_eq_true hb, Bool.not_true, Bool.false_eq_true, if_true, if_pos hb]
  · have t3 : t_law_scanned_3 (kD last) (kD (kind c)) = .ok (decide (kind c ≠ 0 ∧ kind c = last)) := by
      unfold t_law_scanned_3
      rw [lit_0, kD_ne kl, okb]
      by_cases hk : kind c = 0
      · rw [decide_eq_false (by simp [hk] : ¬ kind c ≠ 0), decide_eq_false (by simp [hk])]
        rfl
      · rw [decide_eq_true (show kind c ≠ 0 from hk), bool_b, okb, if_pos rfl, kD_eq kl hl, okb, bool_b, okb]
        simp [hk]
    simp only [decide_eq_false hb, Bool.not_false, ite_tt, if_neg hb, t3, okb]
    by_cases hg : kind c ≠ 0 ∧ kind c = last
    · obtain ⟨F', r, rfl⟩ : ∃ F' r, F = F' ++ [r] := by
        have hne := h0 (hg.2 ▸ hg.1)
        exact ⟨F.dropLast, F.getLast hne, (List.dropLast_concat_getLast hne).symm⟩
      rw [decide_eq_true hg, if_pos rfl, if_pos hg, grow_s]
      have m1 : (F' ++ [r]).map tx = F'.map tx ++ [tx r] := by simp
      have m2 : (F' ++ [r ++ [c]]).map tx = F'.map tx ++ [tx (r ++ [c])] := by simp
      have ng : gNeg (.int 1) = .ok (.int (-1)) := rfl
      have ix : gIx (.list (F'.map tx ++ [tx r])) (.int (-1)) = .ok (tx r) := gIx_l (atI_last _ _)
      have ad := gAdd_tx (a := r) (b := [c]) (hR r (by simp))
      have st : stoR (.list (F'.map tx ++ [tx r])) (.int (-1)) (tx (r ++ [c])) = .ok (.list (F'.map tx ++ [tx (r ++ [c])])) := by
        have e : ixN (F'.map tx ++ [tx r]).length (-1) = some F'.length := by
          unfold ixN
          rw [if_neg (by decide), if_pos (by simp; omega)]
          simp only [List.length_append, List.length_map, List.length_singleton]
          congr 1
          omega
        unfold stoR
        simp only [liD, okb, toI, e, optR]
        simp
      rw [m1, m2]
      simp only [ng, okb, ix, ad, liD, st]
    · rw [decide_eq_false hg, if_neg hg]
      simp only [Bool.false_eq_true, if_true, liD, okb, appR]
      rw [if_pos (Nat.lt_of_lt_of_le (by rw [List.length_map]; exact hF) (sz6 (Nat.le_refl _))), okb]
      simp
/-- what the scan keeps -/
structure Ok1 (F : List (List Nat)) (last m : Nat) : Prop where
  le : last ≤ 2
  ne : last ≠ 0 → F ≠ []
  len : F.length ≤ m
  sz : ∀ r ∈ F, r.length ≤ m
theorem Ok1.step {F : List (List Nat)} {last m c : Nat} (h : Ok1 F last m) : Ok1 (if c ∈ [32, 10] then F else if kind c ≠ 0 ∧ kind c = last then grow F c else F ++ [[c]]) (kind c) (m + 1) := by
  have kl : kind c ≤ 2 := by rcases kind_le c with h | h | h <;> omega
  by_cases hb : c ∈ [32, 10]
  · rw [if_pos hb]
    refine ⟨kl, fun z => absurd ?_ z, by have := h.len; omega, fun r hr => by have := h.sz r hr; omega⟩
    have : ∀ c ∈ [32, 10], kind c = 0 := by decide
    exact this c hb
  · rw [if_neg hb]
    by_cases hg : kind c ≠ 0 ∧ kind c = last
    · rw [if_pos hg]
      obtain ⟨F', r, rfl⟩ : ∃ F' r, F = F' ++ [r] := by
        have hne := h.ne (hg.2 ▸ hg.1)
        exact ⟨F.dropLast, F.getLast hne, (List.dropLast_concat_getLast hne).symm⟩
      rw [grow_s]
      refine ⟨kl, fun _ => by simp, by have := h.len; simp at this ⊢; omega, fun q hq => ?_⟩
      rcases (List.mem_append.mp hq) with
          hq | hq
      · have := h.sz q (by simp [hq]); omega
      · have := h.sz r (by simp)
        rw [List.mem_singleton.mp hq, List.length_append, List.length_singleton]
        omega
    · rw [if_neg hg]
      refine ⟨kl, fun _ => by simp, by have := h.len; simp; omega, fun q hq => ?_⟩
      rcases (List.mem_append.mp hq) with
          hq | hq
      · have := h.sz q hq; omega
      · rw [List.mem_singleton.mp hq, List.length_singleton]; omega
theorem scan_w : ∀ (cs : List Nat) (F : List (List Nat)) (last m : Nat) (o1 o2 : Option D), Ok1 F last m → m + cs.length < 1000000 → ∃ s, forS l_law_scanned_5 (cs.map fun c => tx [c]) (.list (F.map tx), kD last, o1, o2) = .ok s ∧ s.1 = .list ((scn F last cs).map tx) ∧ Ok1 (scn F last cs) 0 (m + cs.length)
  | [], F, last, m, o1, o2, h, _ => ⟨_, rfl, rfl, ⟨by omega, fun z => absurd rfl z, by have := h.len; exact this, h.sz⟩⟩
  | c :: cs, F, last, m, o1, o2, h, hm => by
    rw [List.length_cons] at hm
    have st := step_ok (c := c) h.le (by have := h.len; omega) h.ne (fun r hr => by have := h.sz r hr; omega)
    have e1 : l_law_scanned_5 (tx [c]) (.list (F.map tx), kD last, o1, o2) = .ok (.list ((if c ∈ [32, 10] then F else if kind c ≠ 0 ∧ kind c = last then grow F c else F ++ [[c]]).map tx), kD (kind c), some (tx [c]), some (kD (kind c))) := by
      unfold l_law_scanned_5
      simp only [kind_ok, okb, st]
    obtain ⟨s, e2, e3, e4⟩ := scan_w cs _ _ (m + 1) (some (tx [c])) (some (kD (kind c))) (h.step (c := c)) (by omega)
    refine ⟨s, ?_, e3, ?_⟩
    · rw [List.map_cons, forS, e1, okb, e2]
    · rw [List.length_cons]
      have : m + (cs.length + 1) = m + 1 + cs.length := by omega
      rw [this]
      exact e4
theorem scanned_ok {z : List Nat} (hz : z.length ≤ 900000) : r_law_scanned [tx z] = .ok (.list ((scn [] 0 z).map tx)) ∧ Ok1 (scn [] 0 z) 0 z.length := by
  obtain ⟨s, e1, e2, e3⟩ := scan_w z [] 0 0 none none ⟨by omega, fun z => absurd rfl z, by simp, by simp⟩ (by omega)
  rw [Nat.zero_add] at e3
  refine ⟨?_, e3⟩
  rw [eq_law_scanned, seqOf_tx, okb, lit_0]
  have : (kD 0) = tx [] := rfl
  rw [← this]
  show (forS l_law_scanned_5 _ (.list (([] : List (List Nat)).map tx), kD 0, none, none) >>= _) = _
  rw [e1, okb, e2]
/-! ### the program's tokens are the scan's -/
theorem scn_run {k : Nat} (hk : k ≠ 0) : ∀ (cs rest : List Nat) (F : List (List Nat)) (r : List Nat), (∀ c ∈ cs, kind c = k) → scn (F ++ [r]) k (cs ++ rest) = scn (F ++ [r ++ cs]) k rest
  | [], rest, F, r, _ => by simp
  | c :: cs, rest, F, r, h => by
    have hc := h c (by simp)
    have nb : c ∉ [32, 10] := fun z => by
      have : ∀ c ∈ [32, 10], kind c = 0 := by decide
      rw [this c z] at hc
      exact hk hc.symm
    rw [List.cons_append, scn, if_neg nb, if_pos ⟨by rw [hc]; exact hk, hc⟩, grow_s, hc, scn_run hk cs rest F (r ++ [c]) fun c hc => h c (by simp [hc])]
    simp
theorem scn_last {k : Nat} : ∀ (cs : List Nat) (F : List (List Nat)), (∀ c, cs.head? = some c → kind c ≠ k) → scn F k cs = scn F 0 cs
  | [], _, _ => rfl
  | c :: cs, F, h => by
    have hc := h c rfl
    rw [scn, scn]
    congr 1
    by_cases hb : c ∈ [32, 10]
    · rw [if_pos hb, if_pos hb]
    · rw [if_neg hb, if_neg hb, if_neg (fun z => hc z.2), if_neg (fun z => z.1 z.2)]
theorem take_while (p : Nat → Bool) : ∀ cs : List Nat, cs.take (rl p cs) = cs.takeWhile p ∧ cs.drop (rl p cs) = cs.dropWhile p
  | [] => ⟨rfl, rfl⟩
  | c :: cs => by
    obtain ⟨i1, i2⟩ := take_while p cs
    unfold rl at *
    cases h : p c with
    | true => simp [List.takeWhile_cons, List.dropWhile_cons, h, i1, i2]
    | false => simp [List.takeWhile_cons, List.dropWhile_cons, h]
theorem drop_head (p : Nat → Bool) : ∀ (cs : List Nat) (c : Nat), (cs.dropWhile p).head? = some c → p c = false
  | [], _, h => by simp at h
  | d :: cs, c, h => by
    cases hd : p d with
    | true => rw [List.dropWhile_cons, hd] at h; exact drop_head p cs c h
    | false => rw [List.dropWhile_cons, hd] at h; simp at h; rw [← h]; exact hd
theorem take_all (p : Nat → Bool) : ∀ cs : List Nat, ∀ c ∈ cs.takeWhile p, p c = true
  | [], _, h => by simp at h
  | d :: cs, c, h => by
    cases hd : p d with
    | false => rw [List.takeWhile_cons, hd] at h; simp at h
    | true =>
      rw [List.takeWhile_cons, hd] at h
      rcases (List.mem_cons.mp h) with rfl | h
      · exact hd
      · exact take_all p cs c h
/-- how far the token at the head goes -/
def far (cs : List Nat) : Nat := max 1 (max (rl (fun c => decide (c ∈ LET)) cs) (rl (fun c => decide (c ∈ DIG)) cs))
theorem kind_L {c : Nat} : kind c = 1 ↔ c ∈ LET := by
  unfold kind
  by_cases h : c ∈ LET
  · simp [h]
  · rw [if_neg h]
    split <;> simp [h]
theorem kind_D {c : Nat} : kind c = 2 ↔ c ∈ DIG := by
  unfold kind
  by_cases h : c ∈ LET
  · simp [h, (apart c h).1]
  · rw [if_neg h]
    split <;> simp_all
theorem scn_far (c : Nat) (cs : List Nat) (F : List (List Nat)) : scn F 0 (c :: cs) = scn (if c ∈ [32, 10] then F else F ++ [(c :: cs).take (far (c :: cs))]) 0 ((c :: cs).drop (far (c :: cs))) := by
  have go : ∀ (k : Nat) (p : Nat → Bool), k ≠ 0 → (∀ c, p c = true ↔ kind c = k) → p c = true → far (c :: cs) = rl p (c :: cs) → scn F 0 (c :: cs) = scn (if c ∈ [32, 10] then F else F ++ [(c :: cs).take (far (c :: cs))]) 0 ((c :: cs).drop (far (c :: cs))) := by
    intro k p hk hp hc hf
    have kc := (hp c).mp hc
    have nb : c ∉ [32, 10] := fun z => by
      have : ∀ c ∈ [32, 10], kind c = 0 := by decide
      rw [this c z] at kc
      exact hk kc.symm
    obtain ⟨t1, t2⟩ := take_while p (c :: cs)
    rw [hf, t1, t2, if_neg nb, List.takeWhile_cons, hc, List.dropWhile_cons, hc]
    simp only [ite_tt]
    rw [← scn_last (k := k) (cs.dropWhile p) _ fun d hd z => by
      have := drop_head p cs d hd
      rw [(hp d).mpr z] at this
      cases this]
    rw [scn, if_neg nb, if_neg (fun z => z.1 z.2), kc]
    have := scn_run hk (cs.takeWhile p) (cs.dropWhile p) F [c] fun d hd => (hp d).mp (take_all p cs d hd)
    rw [List.takeWhile_append_dropWhile] at this
    exact this
  by_cases hL : c ∈ LET
  · refine go 1 (fun c => decide (c ∈ LET)) (by decide) (fun c => by rw [decide_eq_true_eq, kind_L]) (decide_eq_true hL) ?_
    unfold far rl
    rw [List.takeWhile_cons, List.takeWhile_cons, decide_eq_true hL, decide_eq_false (apart c hL).1]
    simp
  · by_cases hD : c ∈ DIG
    · refine go 2 (fun c => decide (c ∈ DIG)) (by decide) (fun c => by rw [decide_eq_true_eq, kind_D]) (decide_eq_true hD) ?_
      unfold far rl
      rw [List.takeWhile_cons, List.takeWhile_cons, decide_eq_true hD, decide_eq_false hL]
      simp
    · have f : far (c :: cs) = 1 := by
        unfold far rl
        rw [List.takeWhile_cons, List.takeWhile_cons, decide_eq_false hD, decide_eq_false hL]
        simp
      have k0 : kind c = 0 := by unfold kind; rw [if_neg hL, if_neg hD]
      have cc : (if c ∈ [32, 10] then F else if kind c ≠ 0 ∧ kind c = 0 then grow F c else F ++ [[c]]) = if c ∈ [32, 10] then F else F ++ [[c]] := by
        by_cases hb : c ∈ [32, 10]
        · rw [if_pos hb, if_pos hb]
        · rw [if_neg hb, if_neg hb, if_neg (fun z => z.1 z.2)]
      rw [f, scn, cc, k0]
      rfl
theorem far_pos (cs : List Nat) : 1 ≤ far cs := by unfold far; omega
theorem far_le {c : Nat} {cs : List Nat} : far (c :: cs) ≤ (c :: cs).length := by
  have a : ∀ p, rl p (c :: cs) ≤ (c :: cs).length := fun p => (List.takeWhile_sublist p).length_le
  unfold far
  have := a (fun c => decide (c ∈ LET))
  have := a (fun c => decide (c ∈ DIG))
  rw [List.length_cons] at *
  omega
theorem cut_tx {a : List Nat} {i j : Nat} (hl : a.length ≤ 1000000) (hi : i ≤ a.length) (hj : j ≤ a.length) : gCut (some (i : Int)) (some (j : Int)) (tx a) = .ok (tx ((a.drop i).take (j - i))) := by
  have e : (⟨a.toArray⟩ : Str).length = a.length := by show a.toArray.size = _; simp
  show (if (⟨a.toArray⟩ : Str).length ≤ sizeLine then _ else _) = _
  rw [e, if_pos (sz6 hl)]
  unfold cutS
  rw [e, HT.sIx_nat, HT.sIx_nat, Nat.min_eq_left hi, Nat.min_eq_left hj]
theorem max3 (a b c : Nat) (h : 1 ≤ a) : gMax3 [.int ((a : Nat) : Int), .int ((b : Nat) : Int), .int ((c : Nat) : Int)] = .ok (.int ((max a (max b c) : Nat) : Int)) := by
  show Rs.ok (PyData.int (if (if (a : Int) < (b : Int) then (b : Int) else (a : Int)) < (c : Int) then (c : Int) else if (a : Int) < (b : Int) then (b : Int) else (a : Int))) = _
  congr 2
  by_cases h1 : a < b
  · rw [if_pos (show (a : Int) < b by omega)]
    by_cases h2 : b < c
    · rw [if_pos (show (b : Int) < c by omega)]; omega
    · rw [if_neg (show ¬ (b : Int) < c by omega)]; omega
  · rw [if_neg (show ¬ (a : Int) < b by omega)]
    by_cases h2 : a < c
    · rw [if_pos (show (a : Int) < c by omega)]; omega
    · rw [if_neg (show ¬ (a : Int) < c by omega)]; omega
theorem tok_w (z : List Nat) (hz : z.length ≤ 900000) : ∀ (n at_ : Nat) (F : List (List Nat)) (o : Option D), z.length - at_ ≤ n → at_ ≤ z.length → F.length ≤ at_ → ∃ s, whA (w_tokens_3 (tx z)) (l_tokens_2 (tx z)) (.list (F.map tx), .int at_, o) = .ok (.nx s) ∧ s.1 = .list ((scn F 0 (z.drop at_)).map tx)
  | n, at_, F, o, hn, ha, hF => by
    rw [whA_eq]
    by_cases hlt : at_ < z.length
    · have c : decide ((at_ : Int) < (z.length : Int)) = true := by rw [decide_eq_true_eq]; omega
      have t : w_tokens_3 (tx z) (.list (F.map tx), .int at_, o) = .ok true := by
        unfold w_tokens_3
        simp only [gLen_tx (show z.length ≤ 1000000 by omega), okb, gLt, c, bool]
      rw [t, okb, if_pos rfl]
      have hd := drop_at hlt
      have f1 := far_pos (z.drop at_)
      have f2 : far (z.drop at_) ≤ z.length - at_ := by
        have := far_le (c := z[at_]) (cs := z.drop (at_ + 1))
        rw [← hd, List.length_drop] at this
        exact this
      have r1 := run_end_ok LET (show z.length ≤ 1000000 by omega) ha
      have r2 := run_end_ok DIG (show z.length ≤ 1000000 by omega) ha
      have mx : gMax3 [.int ((at_ : Int) + 1), .int ((at_ + rl (fun c => decide (c ∈ LET)) (z.drop at_) : Nat) : Int), .int ((at_ + rl (fun c => decide (c ∈ DIG)) (z.drop at_) : Nat) : Int)] = .ok (.int ((at_ + far (z.drop at_) : Nat) : Int)) := by
        rw [show ((at_ : Int) + 1) = ((at_ + 1 : Nat) : Int) by omega, max3 _ _ _ (by omega)]
        congr 3
        unfold far
        omega
      have ix := gIx_tx (i := at_) (show z.length ≤ 1000000 by omega) (atI_nat (List.getElem?_eq_getElem hlt))
      have st : i_tokens_1 (tx z) (.list (F.map tx)) (.int at_) (.int ((at_ + far (z.drop at_) : Nat) : Int)) = .ok (.list ((if z[at_] ∈ [32, 10] then F else F ++ [(z.drop at_).take (far (z.drop at_))]).map tx)) := by
        unfold i_tokens_1
        rw [ix, okb, lit_bl, gNi_tx, okb, bool_b, okb]
        by_cases hb : z[at_] ∈ [32, 10]
        · rw [decide_eq_true hb, if_pos hb]
          rfl
        · rw [decide_eq_false hb, if_neg hb]
          have ct := cut_tx (a := z) (i := at_) (j := at_ + far (z.drop at_)) (by omega) ha (by omega)
          rw [Nat.add_sub_cancel_left] at ct
          simp only [Bool.not_false, ite_tt, liD, okb, toI, ct, appR]
          rw [if_pos (Nat.lt_of_lt_of_le (by rw [List.length_map]; omega) (sz6 (Nat.le_refl _))), okb]
          simp
      have b : l_tokens_2 (tx z) (.list (F.map tx), .int at_, o) = .ok (.nx (.list ((if z[at_] ∈ [32, 10] then F else F ++ [(z.drop at_).take (far (z.drop at_))]).map tx), .int ((at_ + far (z.drop at_) : Nat) : Int), some (.int ((at_ + far (z.drop at_) : Nat) : Int)))) := by
        unfold l_tokens_2
        rw [lit_L, lit_D]
        simp only [gAdd_ii, okb, r1, r2, mx, st]
      rw [b, okb]
      cases n with
      | zero => omega
      | succ n =>
        obtain ⟨s, e1, e2⟩ := tok_w z hz n (at_ + far (z.drop at_)) (if z[at_] ∈ [32, 10] then F else F ++ [(z.drop at_).take (far (z.drop at_))]) (some (.int ((at_ + far (z.drop at_) : Nat) : Int))) (by omega) (by omega) (by
          split
          · omega
          · rw [List.length_append, List.length_singleton]; omega)
        refine ⟨s, e1, ?_⟩
        rw [e2, ← List.drop_drop, hd, scn_far]
    · have c : decide ((at_ : Int) < (z.length : Int)) = false := by rw [decide_eq_false_iff_not]; omega
      have t : w_tokens_3 (tx z) (.list (F.map tx), .int at_, o) = .ok false := by
        unfold w_tokens_3
        simp only [gLen_tx (show z.length ≤ 1000000 by omega), okb, gLt, c, bool]
      rw [t, okb, List.drop_eq_nil_of_le (by omega)]
      exact ⟨_, rfl, rfl⟩
theorem tokens_ok {z : List Nat} (hz : z.length ≤ 900000) : r_tokens [tx z] = .ok (.tuple ((scn [] 0 z).map tx)) := by
  obtain ⟨s, e1, e2⟩ := tok_w z hz z.length 0 [] none (by omega) (by omega) (by simp)
  rw [eq_tokens]
  show (whA _ _ (PyData.list (([] : List (List Nat)).map tx), PyData.int ((0 : Nat) : Int), none) >>= _) = _
  rw [e1, okb, lpK_nx, e2]
  rfl
/-! ### numerals -/
def num (z : List Nat) : Bool := decide (1 ≤ z.length) && decide (z.length ≤ 12) && z.all (fun c => decide (c ∈ DIG)) && (decide (z = [48]) || !decide (z.take 1 = [48]))
theorem rl_all (p : Nat → Bool) : ∀ z : List Nat, (((rl p z : Nat) : Int) == (z.length : Int)) = z.all p
  | [] => rfl
  | c :: cs => by
    have ih := rl_all p cs
    unfold rl at *
    rw [List.takeWhile_cons, List.all_cons]
    cases h : p c with
    | false => 
      simp only [Bool.false_and]
      rw [beq_eq_false_iff_ne]
      simp
      omega
    | true =>
      rw [Bool.true_and, ← ih]
      simp only [ite_tt, List.length_cons]
      by_cases e : (cs.takeWhile p).length = cs.length
      · rw [e, beq_self_eq_true, beq_self_eq_true]
      · rw [beq_eq_false_iff_ne.mpr (by omega), beq_eq_false_iff_ne.mpr (by omega)]
theorem rl_le (p : Nat → Bool) (z : List Nat) : rl p z ≤ z.length := (List.takeWhile_sublist p).length_le
theorem num_tail {z : List Nat} (hz : z.length ≤ 1000000) (h1 : 1 ≤ z.length) : (gEq (tx z) (.str (Str.ofString "0")) >>= fun t13 => bool t13 >>= fun b14 => if b14 = true then (Rs.ok (PyData.bool true)) else (gIx (tx z) (.int 0) >>= fun t15 => gNe t15 (.str (Str.ofString "0")) >>= fun t16 => .ok t16)) = .ok (.bool (decide (z = [48]) || !decide (z.take 1 = [48]))) := by
  rw [lit_00, gEq_tx, okb, bool_b, okb]
  cases h : decide (z = [48]) with
  | true => simp
  | false =>
    match z, h1 with
    | c :: cs, _ =>
      have ix := gIx_tx (a := c :: cs) (i := 0) hz (atI0 c cs)
      simp only [Bool.false_eq_true, if_true, ix, okb, gNe_tx, Bool.false_or]
      rfl
theorem numeral_str {z : List Nat} (hz : z.length ≤ 1000000) : r_is_numeral [tx z] = .ok (.bool (num z)) ∧ r_law_is_numeral [tx z] = .ok (.bool (num z)) := by
  constructor
  · have t : t_is_numeral_1 (tx z) = .ok (!(decide (1 ≤ z.length) && decide (z.length ≤ 12))) := by
      unfold t_is_numeral_1
      rw [lit_0]
      simp only [gIsi, isStr, okb, tru, Bool.not_true, Bool.false_eq_true, if_true, gEq_tx, bool, gLen_tx hz, gGt]
      cases z with
      | nil => simp
      | cons c cs =>
        rw [decide_eq_false (by simp : ¬ c :: cs = []), decide_eq_true (by simp : 1 ≤ (c :: cs).length)]
        simp only [Bool.false_eq_true, if_true, Bool.true_and]
        congr 1
        by_cases h : (c :: cs).length ≤ 12
        · rw [decide_eq_true h, decide_eq_false (by omega)]; rfl
        · rw [decide_eq_false h, decide_eq_true (by omega)]; rfl
    rw [eq_is_numeral, t, okb]
    unfold num
    cases h : (decide (1 ≤ z.length) && decide (z.length ≤ 12)) with
    | false => simp
    | true =>
      rw [Bool.and_eq_true, decide_eq_true_eq, decide_eq_true_eq] at h
      have re := run_end_ok (z := z) (at_ := 0) DIG hz (by omega)
      rw [List.drop_zero, Nat.zero_add] at re
      have re : r_run_end [tx z, .int 0, tx DIG] = .ok (.int ((rl (fun c => decide (c ∈ DIG)) z : Nat) : Int)) := re
      simp only [Bool.not_true, Bool.false_eq_true, if_true, Bool.true_and]
      unfold x_is_numeral_2
      rw [lit_D, re, okb, gLen_tx hz, okb, gEq_i, rl_all, okb, bool_b, okb]
      cases z.all (fun c => decide (c ∈ DIG)) with
      | false => simp [okb]
      | true =>
        have := num_tail hz h.1
        simp only [ite_tt, Bool.true_and]
        rw [this, okb]
  · have t : t_law_is_numeral_1 (tx z) = .ok (!(decide (1 ≤ z.length) && decide (z.length ≤ 12))) := by
      unfold t_law_is_numeral_1
      simp only [gIsi, isStr, okb, tru, Bool.not_true, Bool.false_eq_true, if_true, bool, gLen_tx hz, gLe]
      cases h : decide (1 ≤ z.length) with
      | false =>
        rw [decide_eq_false (by rw [decide_eq_false_iff_not] at h; omega)]
        simp
      | true =>
        rw [decide_eq_true (by rw [decide_eq_true_eq] at h; omega)]
        simp only [ite_tt, Bool.true_and]
        congr 2
        by_cases h : z.length ≤ 12
        · rw [decide_eq_true h, decide_eq_true (by omega)]
        · rw [decide_eq_false h, decide_eq_false (by omega)]
    rw [eq_law_is_numeral, t, okb]
    unfold num
    cases h : (decide (1 ≤ z.length) && decide (z.length ≤ 12)) with
    | false => simp
    | true =>
      rw [Bool.and_eq_true, decide_eq_true_eq, decide_eq_true_eq] at h
      simp only [Bool.not_true, Bool.false_eq_true, if_true, Bool.true_and]
      unfold x_law_is_numeral_3
      have c : lenR (z.map fun c => tx [c]) (c_law_is_numeral_2 (z.map fun c => tx [c])) = .ok ((z.filter fun c => !decide (c ∈ DIG)).map fun c => tx [c]) := by
        refine lenR_ok (by rw [List.length_map]; exact sz6 hz) ?_
        unfold c_law_is_numeral_2
        rw [lit_D]
        have e : ∀ zs : List Nat, compT Rs.ok (fun z => gNi z (tx DIG) >>= fun t11 => bool t11 >>= fun b12 => .ok b12) (fun z => .ok z) (zs.map fun c => tx [c]) = .ok ((zs.filter fun c => !decide (c ∈ DIG)).map fun c => tx [c]) := fun zs => by
          induction zs with
          | nil => rfl
          | cons c cs ih =>
            simp only [List.map_cons, compT, okb, gNi_tx, bool_b, ih]
            by_cases hc : c ∈ DIG
            · simp [hc]
            · simp [hc]
        exact e z
      rw [seqOf_tx, okb, c, okb, gEq_nil, okb, bool_b, okb]
      have e : ((z.filter fun c => !decide (c ∈ DIG)).map fun c => tx [c]).isEmpty = z.all (fun c => decide (c ∈ DIG)) := by
        clear c h t hz
        induction z with
        | nil => rfl
        | cons c cs ih =>
          by_cases hc : c ∈ DIG
          · simp [hc] at ih ⊢; exact ih
          · simp [hc]
      rw [e]
      cases z.all (fun c => decide (c ∈ DIG)) with
      | false => simp [okb]
      | true =>
        have := num_tail hz h.1
        simp only [ite_tt, Bool.true_and]
        rw [this, okb]
def Vv (v : D) : Prop := ∀ z, v = tx z → z.length ≤ 1000
theorem numeral_ok {v : D} (h : Vv v) : ∃ b, r_is_numeral [v] = .ok (.bool b) ∧ r_law_is_numeral [v] = .ok (.bool b) := by
  have no : ∀ v, isStr v = false → r_is_numeral [v] = .ok (.bool false) ∧ r_law_is_numeral [v] = .ok (.bool false) := fun v hv => by
    rw [eq_is_numeral, eq_law_is_numeral]
    unfold t_is_numeral_1 t_law_is_numeral_1
    simp only [gIsi, hv, okb, tru, Bool.not_false, ite_tt, and_self]
  cases v with
  | str z =>
    have hz := h z.cps.toList (str_tx z)
    rw [str_tx]
    exact ⟨_, numeral_str (by omega)⟩
  | none => exact ⟨false, no _ rfl⟩
  | bool b => exact ⟨false, no _ rfl⟩
  | int b => exact ⟨false, no _ rfl⟩
  | tuple b => exact ⟨false, no _ rfl⟩
  | list b => exact ⟨false, no _ rfl⟩
  | dict b => exact ⟨false, no _ rfl⟩
/-! ### what is drawn -/
theorem run_ok {d : D} {L : List Nat} (h : Deal d) (hx : L ≠ []) (hl : L.length < 1000) : ∃ cs d', r_law_run [d, tx L] = .ok (tx cs, d') ∧ Deal d' ∧ cs.length ≤ 60 := by
  obtain ⟨u, d1, e1, h1, u0, u1⟩ := any_ok (m := 60) h (by decide) (by decide)
  obtain ⟨v, d2, e2, h2, hv⟩ := of_ok (xs := [.int 1, .int 1, .int 2, .int 3, .int 9, .int 10, .int 11, .int 12, .int 13, .int (1 + u)]) h1 (by simp) (by simp)
  obtain ⟨n, rfl, hn⟩ : ∃ n : Nat, v = .int n ∧ n ≤ 60 := by
    simp only [List.mem_cons, List.not_mem_nil, or_false] at hv
    rcases hv with rfl | rfl | rfl | rfl | rfl | rfl | rfl | rfl | rfl | rfl
    · exact ⟨1, rfl, by decide⟩
    · exact ⟨1, rfl, by decide⟩
    · exact ⟨2, rfl, by decide⟩
    · exact ⟨3, rfl, by decide⟩
    · exact ⟨9, rfl, by decide⟩
    · exact ⟨10, rfl, by decide⟩
    · exact ⟨11, rfl, by decide⟩
    · exact ⟨12, rfl, by decide⟩
    · exact ⟨13, rfl, by decide⟩
    · exact ⟨(1 + u).toNat, by rw [Int.toNat_of_nonneg (by omega)], by omega⟩
  have rg := rng_ok (j := n) (by omega) (by omega)
  rw [Int.toNat_natCast] at rg
  obtain ⟨ys, d3, e3, hl3, hy, h3⟩ := compU_draw (t := Rs.ok) (e := fun z s => r_law_of [s, tx L] >>= fun q5 => .ok (q5.1, q5.2)) (I := Deal) (P := fun y => ∃ c, y = tx [c]) ((List.range n).map fun i => PyData.int (i : Nat)) d2 (fun z _ s hs => by
    obtain ⟨c, d', e, h', _⟩ := of_tx hs hx hl
    exact ⟨z, _, d', rfl, by rw [e]; rfl, ⟨c, rfl⟩, h'⟩) h2
  have cu : lenR ((List.range n).map fun i => PyData.int (i : Nat)) (c_law_run_1 (tx L) ((List.range n).map fun i => PyData.int (i : Nat)) d2) = .ok (ys, d3) := lenR_ok (by rw [rng_len]; exact sz6 (by omega)) e3
  obtain ⟨cs, rfl⟩ : ∃ cs : List Nat, ys = (cs.map fun c => [c]).map tx := by
    clear e3 hl3 cu
    induction ys with
    | nil => exact ⟨[], rfl⟩
    | cons y ys ih =>
      obtain ⟨cs, rfl⟩ := ih fun z hz => hy z (by simp [hz])
      obtain ⟨c, rfl⟩ := hy y (by simp)
      exact ⟨c :: cs, rfl⟩
  have fl : (cs.map fun c => [c]).flatten = cs := by
    clear e3 hl3 cu hy
    induction cs with
    | nil => rfl
    | cons c cs ih => rw [List.map_cons, List.flatten_cons, ih]; rfl
  have hc : cs.length ≤ 60 := by
    rw [rng_len] at hl3
    simp at hl3
    omega
  have jn := gJoin_tx (xs := cs.map fun c => [c]) (by rw [fl]; omega)
  rw [fl] at jn
  refine ⟨cs, d3, ?_, h3, hc⟩
  rw [eq_law_run]
  simp only [e1, okb, gAdd_ii, e2, rg, cu, jn]
theorem LET_ne : LET ≠ [] ∧ LET.length < 1000 := by decide
theorem DIG_ne : DIG ≠ [] ∧ DIG.length < 1000 := by decide
def SIG : List Nat := " \n\t!#$&'()*+,-./:;<=>?@ABMXYZ[\\]^_|~\"".toList.map Char.toNat
theorem SIG_ne : SIG ≠ [] ∧ SIG.length < 1000 := by decide
theorem turn1 {d t : D} {cs : List Nat} {o1 o2 : Option D} (h : Deal d) (hc : cs.length ≤ 900000) : ∃ d' cs' o1' o2', l_law_text_1 (tx SIG) t (d, tx cs, o1, o2) = .ok (d', tx cs', o1', o2') ∧ Deal d' ∧ cs'.length ≤ cs.length + 60 := by
  obtain ⟨u, d1, e1, h1, u0, u1⟩ := any_ok (m := 5) h (by decide) (by decide)
  unfold l_law_text_1
  rw [lit_L, lit_D]
  simp only [e1, okb, gEq_i, bool]
  by_cases c0 : u = 0
  · obtain ⟨xs, d2, e2, h2, hx⟩ := run_ok h1 LET_ne.1 LET_ne.2
    refine ⟨d2, cs ++ xs, some t, some (.int u), by simp only [beq_iff_eq.mpr c0, ite_tt, e2, okb, gAdd_tx (show cs.length + xs.length ≤ 1000000 by omega)], h2, by rw [List.length_append]; omega⟩
  · by_cases c1 : u = 1
    · obtain ⟨xs, d2, e2, h2, hx⟩ := run_ok h1 DIG_ne.1 DIG_ne.2
      refine ⟨d2, cs ++ xs, some t, some (.int u), by simp only [beq_eq_false_iff_ne.mpr c0, Bool.false_eq_true, if_true, beq_iff_eq.mpr c1, ite_tt, e2, okb, gAdd_tx (show cs.length + xs.length ≤ 1000000 by omega)], h2, by rw [List.length_append]; omega⟩
    · by_cases c2 : u = 2
      · obtain ⟨v, d2, e2, h2, hv⟩ := of_ok (xs := [.str (Str.ofString " "), .str (Str.ofString "\n"), .str (Str.ofString "  "), .str (Str.ofString " \n")]) h1 (by simp) (by simp)
        obtain ⟨xs, rfl, hx⟩ : ∃ xs, v = tx xs ∧ xs.length ≤ 2 := by
          simp only [List.mem_cons, List.not_mem_nil, or_false] at hv
          rcases hv with rfl | rfl | rfl | rfl
          · exact ⟨_, lit _, by decide⟩
          · exact ⟨_, lit _, by decide⟩
          · exact ⟨_, lit _, by decide⟩
          · exact ⟨_, lit _, by decide⟩
        refine ⟨d2, cs ++ xs, some t, some (.int u), by simp only [beq_eq_false_iff_ne.mpr c0, beq_eq_false_iff_ne.mpr c1, Bool.false_eq_true, if_true, beq_iff_eq.mpr c2, ite_tt, e2, okb, gAdd_tx (show cs.length + xs.length ≤ 1000000 by omega)], h2, by rw [List.length_append]; omega⟩
      · obtain ⟨c, d2, e2, h2, hv⟩ := of_tx h1 SIG_ne.1 SIG_ne.2
        refine ⟨d2, cs ++ [c], some t, some (.int u), by simp only [beq_eq_false_iff_ne.mpr c0, beq_eq_false_iff_ne.mpr c1, beq_eq_false_iff_ne.mpr c2, Bool.false_eq_true, if_true, e2, okb, gAdd_tx (show cs.length + [c].length ≤ 1000000 by simp; omega)], h2, by rw [List.length_append, List.length_singleton]; omega⟩
theorem text_ok {d : D} (h : Deal d) : ∃ cs d', r_law_text [d] = .ok (tx cs, d') ∧ Deal d' ∧ cs.length ≤ 4000 := by
  obtain ⟨v, d1, e1, h1, hv⟩ := of_ok (xs := [.int 0, .int 1, .int 5, .int 20, .int 60]) h (by simp) (by simp)
  obtain ⟨n, rfl, hn⟩ : ∃ n : Nat, v = .int n ∧ n ≤ 60 := by
    simp only [List.mem_cons, List.not_mem_nil, or_false] at hv
    rcases hv with rfl | rfl | rfl | rfl | rfl
    · exact ⟨0, rfl, by decide⟩
    · exact ⟨1, rfl, by decide⟩
    · exact ⟨5, rfl, by decide⟩
    · exact ⟨20, rfl, by decide⟩
    · exact ⟨60, rfl, by decide⟩
  have rg := rng_ok (j := n) (by omega) (by omega)
  rw [Int.toNat_natCast] at rg
  obtain ⟨s', e2, hs⟩ := forS_nat (b := l_law_text_1 (tx SIG)) (I := fun i s => ∃ d cs o1 o2, s = (d, tx cs, o1, o2) ∧ Deal d ∧ cs.length ≤ 60 * i) ((List.range n).map fun i => PyData.int (i : Nat)) 0 (d1, tx [], none, none) (fun t i s _ _ hi hI => by
    rw [rng_len] at hi
    obtain ⟨d, cs, o1, o2, rfl, hd, hc⟩ := hI
    obtain ⟨d', cs', o1', o2', e, hd', hc'⟩ := turn1 (t := t) (o1 := o1) (o2 := o2) hd (show cs.length ≤ 900000 by omega)
    exact ⟨_, e, d', cs', o1', o2', rfl, hd', by omega⟩) ⟨d1, [], none, none, rfl, h1, by simp⟩
  obtain ⟨d2, cs, o1, o2, rfl, h2, hc⟩ := hs
  rw [rng_len, Nat.zero_add] at hc
  -- at times many times
  obtain ⟨u, d3, e3, h3, u0, u1⟩ := any_ok (m := 4) h2 (by decide) (by decide)
  have hc4 : cs.length ≤ 3600 := by omega
  have gl := gLen_tx (show cs.length ≤ 1000000 by omega)
  obtain ⟨cs', d4, e4, h4, hc'⟩ : ∃ cs' d4, i_law_text_3 d2 (tx cs) = .ok (d4, tx cs') ∧ Deal d4 ∧ cs'.length ≤ 4000 := by
    by_cases c : u = 0 ∧ cs.length < 300
    · obtain ⟨w, d4, e4, h4, w0, w1⟩ := any_ok (m := 9) h3 (by decide) (by decide)
      have t2 : t_law_text_2 d2 (tx cs) = .ok (true, d3) := by
        unfold t_law_text_2
        simp only [e3, okb, gEq_i, beq_iff_eq.mpr c.1, bool, ite_tt, gl, gLt, decide_eq_true (show ((cs.length : Nat) : Int) < 300 by omega)]
      obtain ⟨k, rfl⟩ : ∃ k : Nat, w = k := ⟨w.toNat, by omega⟩
      have hk : k ≤ 8 := by omega
      have mu := gMulS_tx (k := 2 + k) (a := cs) (by
        have : cs.length * (2 + k) ≤ 300 * 10 := Nat.mul_le_mul (by omega) (by omega)
        omega) (by omega)
      rw [show (((2 + k : Nat)) : Int) = 2 + (k : Int) by omega] at mu
      refine ⟨(List.replicate (2 + k) cs).flatten, d4, by
        unfold i_law_text_3
        simp only [t2, okb, ite_tt, e4, gAdd_ii, mu], h4, ?_⟩
      have : ∀ m : Nat, ((List.replicate m cs).flatten).length = m * cs.length := fun m => by
        induction m with
        | zero => simp
        | succ m ih => rw [List.replicate_succ, List.flatten_cons, List.length_append, ih, Nat.succ_mul, Nat.add_comm]
      rw [this]
      have : (2 + k) * cs.length ≤ 10 * 300 := Nat.mul_le_mul (by omega) (by omega)
      omega
    · have t2 : t_law_text_2 d2 (tx cs) = .ok (false, d3) := by
        unfold t_law_text_2
        by_cases c0 : u = 0
        · have c1 : ¬ ((cs.length : Nat) : Int) < 300 := fun z => c ⟨c0, by omega⟩
          simp only [e3, okb, gEq_i, beq_iff_eq.mpr c0, bool, ite_tt, gl, gLt, decide_eq_false c1]
        · simp only [e3, okb, gEq_i, beq_eq_false_iff_ne.mpr c0, bool, Bool.false_eq_true, if_true]
      exact ⟨cs, d3, by unfold i_law_text_3; simp only [t2, okb, Bool.false_eq_true, if_true], h3, by omega⟩
  refine ⟨cs', d4, ?_, h4, hc'⟩
  rw [eq_law_text, lit]
  have sg : tx (" \n\t!#$&'()*+,-./:;<=>?@ABMXYZ[\\]^_|~\"".toList.map Char.toNat) = tx SIG := rfl
  rw [sg, okb, e1, okb, rg, okb, lit_0, e2, okb, e4, okb]
theorem vtx {a : List Nat} (h : a.length ≤ 1000) : Vv (tx a) := fun z e => by rw [← tx_inj e]; exact h
theorem vno {v : D} (h : ∀ z, v ≠ .str z) : Vv v := fun z e => absurd e (h _)
theorem cutS_end {a : List Nat} {n : Nat} (h : a.length ≤ 1000000) : gCut none (some (n : Int)) (tx a) = .ok (tx (a.take n)) := by
  have e : (⟨a.toArray⟩ : Str).length = a.length := by show a.toArray.size = _; simp
  show (if (⟨a.toArray⟩ : Str).length ≤ sizeLine then _ else _) = _
  rw [e, if_pos (sz6 h)]
  unfold cutS
  rw [e, HT.sIx_none, HT.sIx_nat]
  have : ((a.toArray.toList.drop 0).take (min n a.length - 0)) = a.take n := by simp [List.take_eq_take_min]
  rw [this]
theorem value_ok {d : D} (h : Deal d) : ∃ v d', r_law_value [d] = .ok (v, d') ∧ Deal d' ∧ Vv v := by
  obtain ⟨cs, d1, e1, h1, hc⟩ := run_ok h DIG_ne.1 DIG_ne.2
  obtain ⟨v, d2, e2, h2, hv⟩ := of_ok (xs := [.int 0, .int 0, .int 0, .int 1]) h1 (by simp) (by simp)
  obtain ⟨k, rfl, hk⟩ : ∃ k : Nat, v = .int k ∧ k ≤ 1 := by
    simp only [List.mem_cons, List.not_mem_nil, or_false] at hv
    rcases hv with rfl | rfl | rfl | rfl
    · exact ⟨0, rfl, by decide⟩
    · exact ⟨0, rfl, by decide⟩
    · exact ⟨0, rfl, by decide⟩
    · exact ⟨1, rfl, by decide⟩
  have mu := gMulS_tx (k := k) (a := [48]) (by simp; omega) (by omega)
  have l0 : ((List.replicate k [48]).flatten).length ≤ 1 := by
    have : k = 0 ∨ k = 1 := by omega
    rcases this with rfl | rfl <;> simp
  generalize (List.replicate k [48]).flatten = zs at mu l0
  have a0 := gAdd_tx (a := zs) (b := cs) (by omega)
  have lt : (zs ++ cs).length ≤ 61 := by rw [List.length_append]; omega
  generalize zs ++ cs = t at a0 lt
  have A : ∀ a b : List Nat, a.length ≤ 100 → b.length ≤ 100 → gAdd (tx a) (tx b) = .ok (tx (a ++ b)) := fun a b ha hb => gAdd_tx (by omega)
  have C : ∀ n : Nat, gCut none (some (n : Int)) (tx t) = .ok (tx (t.take n)) := fun n => cutS_end (by omega)
  have lk : ∀ n : Nat, (t.take n).length ≤ 61 := fun n => by rw [List.length_take]; omega
  have c12 : gCut none (some 12) (tx t) = .ok (tx (t.take 12)) := C 12
  have c13 : gCut none (some 13) (tx t) = .ok (tx (t.take 13)) := C 13
  have c5 : gCut none (some 5) (tx t) = .ok (tx (t.take 5)) := C 5
  have hs : ∀ s : String, s.toList.length ≤ 3 → PyData.str (Str.ofString s) = tx (s.toList.map Char.toNat) ∧ (s.toList.map Char.toNat).length ≤ 3 := fun s hs => ⟨lit s, by rw [List.length_map]; exact hs⟩
  obtain ⟨s1, q1⟩ := hs " " (by decide)
  obtain ⟨s2, q2⟩ := hs "-" (by decide)
  obtain ⟨s3, q3⟩ := hs "+" (by decide)
  obtain ⟨s4, q4⟩ := hs "\n" (by decide)
  obtain ⟨s5, q5⟩ := hs "a" (by decide)
  obtain ⟨s6, q6⟩ := hs "/2" (by decide)
  obtain ⟨s7, q7⟩ := hs "" (by decide)
  obtain ⟨s8, q8⟩ := hs "0" (by decide)
  obtain ⟨s9, q9⟩ := hs "1_0" (by decide)
  obtain ⟨s10, q10⟩ := hs "1.0" (by decide)
  rw [eq_law_value, lit_D, lit_00, s1, s2, s3, s4, s5, s6, s7, s9, s10]
  generalize " ".toList.map Char.toNat = x1 at *
  generalize "-".toList.map Char.toNat = x2 at *
  generalize "+".toList.map Char.toNat = x3 at *
  generalize "\n".toList.map Char.toNat = x4 at *
  generalize "a".toList.map Char.toNat = x5 at *
  generalize "/2".toList.map Char.toNat = x6 at *
  generalize "".toList.map Char.toNat = x7 at *
  generalize "1_0".toList.map Char.toNat = x9 at *
  generalize "1.0".toList.map Char.toNat = x10 at *
  have p1 := A t x1 (by omega) (by omega)
  have p1' := A x1 t (by omega) (by omega)
  have p2 := A x2 t (by omega) (by omega)
  have p3 := A x3 t (by omega) (by omega)
  have p4 := A t x4 (by omega) (by omega)
  have p5 := A (t.take 5) x5 (by have := lk 5; omega) (by omega)
  have p6 := A (t.take 5) x6 (by have := lk 5; omega) (by omega)
  have V : ∀ a b : List Nat, a.length ≤ 61 → b.length ≤ 61 → Vv (tx (a ++ b)) := fun a b ha hb => vtx (by rw [List.length_append]; omega)
  have all : ∀ v ∈ [tx t, tx t, tx t, tx (t.take 12), tx (t.take 12), tx (t.take 13), tx (t ++ x1), tx (x1 ++ t), tx (x2 ++ t), tx (x3 ++ t), tx (t ++ x4)] ++ [tx x7, tx [48], tx x9, tx x10, tx x5, tx (t.take 5 ++ x5), tx (t.take 5 ++ x6), .none, .bool true, .bool false, .int 0, .int 7, .tuple [tx t], .list [tx t]], Vv v := by
    intro v hv
    simp only [List.mem_append, List.mem_cons, List.not_mem_nil, or_false] at hv
    rcases hv with (rfl | rfl | rfl | rfl | rfl | rfl | rfl | rfl | rfl | rfl | rfl) | rfl | rfl | rfl | rfl | rfl | rfl | rfl | rfl | rfl | rfl | rfl | rfl | rfl | rfl
    · exact vtx (by omega)
    · exact vtx (by omega)
    · exact vtx (by omega)
    · exact vtx (by have := lk 12; omega)
    · exact vtx (by have := lk 12; omega)
    · exact vtx (by have := lk 13; omega)
    · exact V _ _ (by omega) (by omega)
    · exact V _ _ (by omega) (by omega)
    · exact V _ _ (by omega) (by omega)
    · exact V _ _ (by omega) (by omega)
    · exact V _ _ (by omega) (by omega)
    · exact vtx (by omega)
    · exact vtx (by simp)
    · exact vtx (by omega)
    · exact vtx (by omega)
    · exact vtx (by omega)
    · exact V _ _ (lk 5) (by omega)
    · exact V _ _ (lk 5) (by omega)
    · exact vno nofun
    · exact vno nofun
    · exact vno nofun
    · exact vno nofun
    · exact vno nofun
    · exact vno nofun
    · exact vno nofun
  have ap := gAdd_l (xs := [tx t, tx t, tx t, tx (t.take 12), tx (t.take 12), tx (t.take 13), tx (t ++ x1), tx (x1 ++ t), tx (x2 ++ t), tx (x3 ++ t), tx (t ++ x4)]) (ys := [tx x7, tx [48], tx x9, tx x10, tx x5, tx (t.take 5 ++ x5), tx (t.take 5 ++ x6), .none, .bool true, .bool false, .int 0, .int 7, .tuple [tx t], .list [tx t]]) (by simp)
  obtain ⟨v, d3, e3, h3, hv⟩ := of_ok (xs := [tx t, tx t, tx t, tx (t.take 12), tx (t.take 12), tx (t.take 13), tx (t ++ x1), tx (x1 ++ t), tx (x2 ++ t), tx (x3 ++ t), tx (t ++ x4)] ++ [tx x7, tx [48], tx x9, tx x10, tx x5, tx (t.take 5 ++ x5), tx (t.take 5 ++ x6), .none, .bool true, .bool false, .int 0, .int 7, .tuple [tx t], .list [tx t]]) h2 (by simp) (by simp)
  refine ⟨v, d3, ?_, h3, all v hv⟩
  simp only [e1, okb, e2, mu, a0, toI, c12, c13, p1, p1', p2, p3, p4, c5, p5, p6, ap, e3]
/-! ### the law -/
theorem same_b (b : Bool) : r_law_same 4 [.bool b, .bool b] = .ok (.bool true) := same_rf 3 _ (by cases b <;> rfl)
theorem law1 {d t : D} {s2 : Option D × Option D × Option D} (h : Deal d) : ∃ s', l_law_1 t (d, s2) = .ok (.nx s') ∧ Deal s'.1 := by
  obtain ⟨cs, d1, e1, h1, hc⟩ := text_ok h
  obtain ⟨e2, o⟩ := scanned_ok (z := cs) (by omega)
  have e3 := tokens_ok (z := cs) (by omega)
  have sm : r_law_same 4 [.tuple ((scn [] 0 cs).map tx), .tuple ((scn [] 0 cs).map tx)] = .ok (.bool true) := same_rf 3 _ (by
    have l := o.len
    have a : decide (((scn [] 0 cs).map tx).length ≤ 1000000) = true := decide_eq_true (by rw [List.length_map]; omega)
    have b : ((scn [] 0 cs).map tx).all (gd 2) = true := by
      rw [List.all_eq_true]
      intro x hx
      obtain ⟨a, _,
                rfl⟩ := List.mem_map.mp hx
      rfl
    show (decide (((scn [] 0 cs).map tx).length ≤ 1000000) && ((scn [] 0 cs).map tx).all (gd 2)) = true
    rw [a, b]
    rfl)
  have gt : gTup [.list ((scn [] 0 cs).map tx)] = .ok (.tuple ((scn [] 0 cs).map tx)) := rfl
  unfold l_law_1
  exact ⟨(d1, some t, some (tx cs), some (.tuple ((scn [] 0 cs).map tx))), by simp only [e1, okb, e2, gt, e3, sm, tru, Bool.not_true, Bool.false_eq_true, if_true], h1⟩
theorem law2 {d t : D} {s2 : Option D × Option D} (h : Deal d) : ∃ s', l_law_2 t (d, s2) = .ok (.nx s') ∧ Deal s'.1 := by
  obtain ⟨v, d1, e1, h1, hv⟩ := value_ok h
  obtain ⟨b, e2, e3⟩ := numeral_ok hv
  unfold l_law_2
  exact ⟨(d1, some t, some v), by simp only [e1, okb, e2, e3, same_b, tru, Bool.not_true, Bool.false_eq_true, if_true], h1⟩
theorem law_holds (ns : List Int) (hns : ns.length ≤ 63) : r_law [.list (ns.map .int)] = .ok (.bool true) := by
  obtain ⟨d0, e0, h0⟩ := draw_ok ns 10 (by decide) (by decide) hns
  rw [eq_law, e0, okb, rng_ok (j := 2) (by decide) (by decide), okb]
  obtain ⟨s', e, h1⟩ := forL_inv (b := l_law_1) (I := fun s => Deal s.1) ((List.range (2 : Int).toNat).map fun i => .int (i : Nat)) (d0, none, none, none) (fun d _ s hs => law1 (s2 := s.2) hs) h0
  rw [e, okb, lpK_nx, rng_ok (j := 12) (by decide) (by decide), okb]
  obtain ⟨s'', e', _⟩ := forL_inv (b := l_law_2) (I := fun s => Deal s.1) ((List.range (12 : Int).toNat).map fun i => .int (i : Nat)) (s'.1, s'.2.1, none) (fun d _ s hs => law2 (s2 := s.2) hs) h1
  rw [e', okb, lpK_nx]
end Zd

namespace Zd
open PySem PySem.Spec
open PyProof.Rows L2
theorem all_mk {w : World} {K : PySem.W.Frag} {h : Heap} {mg : Str → Option Value} {cls : Cl} {fa : Addr} (X : K.In h) (G : h.Ns mainGlobals mg) (hfa : mg "law" = some (.ref fa))  {t_DIGITS : Tok} {t_LETTERS : Tok} {f_run_end f_tokens f_is_numeral f_law_draw f_law_same f_law_is_numeral f_law_scanned f_law_any f_law_of f_law_run f_law_text f_law_value f_law : Addr} {od_run_end an_run_end od_tokens an_tokens od_is_numeral an_is_numeral od_law_draw an_law_draw od_law_same an_law_same od_law_is_numeral an_law_is_numeral od_law_scanned an_law_scanned od_law_any an_law_any od_law_of an_law_of od_law_run an_law_run od_law_text an_law_text od_law_value an_law_value od_law an_law : Option Addr} {oc_run_end kV_run_end dc_run_end pm_run_end cd_run_end ct_run_end oc_tokens kV_tokens dc_tokens pm_tokens cd_tokens ct_tokens oc_is_numeral kV_is_numeral dc_is_numeral pm_is_numeral cd_is_numeral ct_is_numeral oc_law_draw kV_law_draw dc_law_draw pm_law_draw cd_law_draw ct_law_draw oc_law_same kV_law_same dc_law_same pm_law_same cd_law_same ct_law_same oc_law_is_numeral kV_law_is_numeral dc_law_is_numeral pm_law_is_numeral cd_law_is_numeral ct_law_is_numeral oc_law_scanned kV_law_scanned dc_law_scanned pm_law_scanned cd_law_scanned ct_law_scanned oc_law_any kV_law_any dc_law_any pm_law_any cd_law_any ct_law_any oc_law_of kV_law_of dc_law_of pm_law_of cd_law_of ct_law_of oc_law_run kV_law_run dc_law_run pm_law_run cd_law_run ct_law_run oc_law_text kV_law_text dc_law_text pm_law_text cd_law_text ct_law_text oc_law_value kV_law_value dc_law_value pm_law_value cd_law_value ct_law_value oc_law kV_law dc_law pm_law cd_law ct_law : Value} {sl_run_end sl_tokens sl_is_numeral sl_law_draw sl_law_same sl_law_is_numeral sl_law_scanned sl_law_any sl_law_of sl_law_run sl_law_text sl_law_value sl_law : Array (Option Value)}
    (a_run_end : PySem.W.nsIn K mainGlobals "run_end" = some (some (.ref f_run_end))) (l_run_end : K.lookup f_run_end = some ⟨oc_run_end, od_run_end, .func (PySem.W.fnOf "run_end" "run_end" (defArgs s_run_end) (defBody s_run_end) (defScope s_run_end) .none kV_run_end dc_run_end pm_run_end an_run_end cd_run_end ct_run_end), sl_run_end⟩) (c_run_end : PySem.W.codeIn K cd_run_end "run_end" = true) (k_run_end : PySem.W.keepIn K (.ref f_run_end) = true)
    (a_tokens : PySem.W.nsIn K mainGlobals "tokens" = some (some (.ref f_tokens))) (l_tokens : K.lookup f_tokens = some ⟨oc_tokens, od_tokens, .func (PySem.W.fnOf "tokens" "tokens" (defArgs s_tokens) (defBody s_tokens) (defScope s_tokens) .none kV_tokens dc_tokens pm_tokens an_tokens cd_tokens ct_tokens), sl_tokens⟩) (c_tokens : PySem.W.codeIn K cd_tokens "tokens" = true) (k_tokens : PySem.W.keepIn K (.ref f_tokens) = true)
    (a_is_numeral : PySem.W.nsIn K mainGlobals "is_numeral" = some (some (.ref f_is_numeral))) (l_is_numeral : K.lookup f_is_numeral = some ⟨oc_is_numeral, od_is_numeral, .func (PySem.W.fnOf "is_numeral" "is_numeral" (defArgs s_is_numeral) (defBody s_is_numeral) (defScope s_is_numeral) .none kV_is_numeral dc_is_numeral pm_is_numeral an_is_numeral cd_is_numeral ct_is_numeral), sl_is_numeral⟩) (c_is_numeral : PySem.W.codeIn K cd_is_numeral "is_numeral" = true) (k_is_numeral : PySem.W.keepIn K (.ref f_is_numeral) = true)
    (a_law_draw : PySem.W.nsIn K mainGlobals "_law_draw" = some (some (.ref f_law_draw))) (l_law_draw : K.lookup f_law_draw = some ⟨oc_law_draw, od_law_draw, .func (PySem.W.fnOf "_law_draw" "_law_draw" (defArgs s_law_draw) (defBody s_law_draw) (defScope s_law_draw) .none kV_law_draw dc_law_draw pm_law_draw an_law_draw cd_law_draw ct_law_draw), sl_law_draw⟩) (c_law_draw : PySem.W.codeIn K cd_law_draw "_law_draw" = true) (k_law_draw : PySem.W.keepIn K (.ref f_law_draw) = true)
    (a_law_same : PySem.W.nsIn K mainGlobals "_law_same" = some (some (.ref f_law_same))) (l_law_same : K.lookup f_law_same = some ⟨oc_law_same, od_law_same, .func (PySem.W.fnOf "_law_same" "_law_same" (defArgs s_law_same) (defBody s_law_same) (defScope s_law_same) .none kV_law_same dc_law_same pm_law_same an_law_same cd_law_same ct_law_same), sl_law_same⟩) (c_law_same : PySem.W.codeIn K cd_law_same "_law_same" = true) (k_law_same : PySem.W.keepIn K (.ref f_law_same) = true)
    (a_law_is_numeral : PySem.W.nsIn K mainGlobals "_law_is_numeral" = some (some (.ref f_law_is_numeral))) (l_law_is_numeral : K.lookup f_law_is_numeral = some ⟨oc_law_is_numeral, od_law_is_numeral, .func (PySem.W.fnOf "_law_is_numeral" "_law_is_numeral" (defArgs s_law_is_numeral) (defBody s_law_is_numeral) (defScope s_law_is_numeral) .none kV_law_is_numeral dc_law_is_numeral pm_law_is_numeral an_law_is_numeral cd_law_is_numeral ct_law_is_numeral), sl_law_is_numeral⟩) (c_law_is_numeral : PySem.W.codeIn K cd_law_is_numeral "_law_is_numeral" = true) (k_law_is_numeral : PySem.W.keepIn K (.ref f_law_is_numeral) = true)
    (a_law_scanned : PySem.W.nsIn K mainGlobals "_law_scanned" = some (some (.ref f_law_scanned))) (l_law_scanned : K.lookup f_law_scanned = some ⟨oc_law_scanned, od_law_scanned, .func (PySem.W.fnOf "_law_scanned" "_law_scanned" (defArgs s_law_scanned) (defBody s_law_scanned) (defScope s_law_scanned) .none kV_law_scanned dc_law_scanned pm_law_scanned an_law_scanned cd_law_scanned ct_law_scanned), sl_law_scanned⟩) (c_law_scanned : PySem.W.codeIn K cd_law_scanned "_law_scanned" = true) (k_law_scanned : PySem.W.keepIn K (.ref f_law_scanned) = true)
    (a_law_any : PySem.W.nsIn K mainGlobals "_law_any" = some (some (.ref f_law_any))) (l_law_any : K.lookup f_law_any = some ⟨oc_law_any, od_law_any, .func (PySem.W.fnOf "_law_any" "_law_any" (defArgs s_law_any) (defBody s_law_any) (defScope s_law_any) .none kV_law_any dc_law_any pm_law_any an_law_any cd_law_any ct_law_any), sl_law_any⟩) (c_law_any : PySem.W.codeIn K cd_law_any "_law_any" = true) (k_law_any : PySem.W.keepIn K (.ref f_law_any) = true)
    (a_law_of : PySem.W.nsIn K mainGlobals "_law_of" = some (some (.ref f_law_of))) (l_law_of : K.lookup f_law_of = some ⟨oc_law_of, od_law_of, .func (PySem.W.fnOf "_law_of" "_law_of" (defArgs s_law_of) (defBody s_law_of) (defScope s_law_of) .none kV_law_of dc_law_of pm_law_of an_law_of cd_law_of ct_law_of), sl_law_of⟩) (c_law_of : PySem.W.codeIn K cd_law_of "_law_of" = true) (k_law_of : PySem.W.keepIn K (.ref f_law_of) = true)
    (a_law_run : PySem.W.nsIn K mainGlobals "_law_run" = some (some (.ref f_law_run))) (l_law_run : K.lookup f_law_run = some ⟨oc_law_run, od_law_run, .func (PySem.W.fnOf "_law_run" "_law_run" (defArgs s_law_run) (defBody s_law_run) (defScope s_law_run) .none kV_law_run dc_law_run pm_law_run an_law_run cd_law_run ct_law_run), sl_law_run⟩) (c_law_run : PySem.W.codeIn K cd_law_run "_law_run" = true) (k_law_run : PySem.W.keepIn K (.ref f_law_run) = true)
    (a_law_text : PySem.W.nsIn K mainGlobals "_law_text" = some (some (.ref f_law_text))) (l_law_text : K.lookup f_law_text = some ⟨oc_law_text, od_law_text, .func (PySem.W.fnOf "_law_text" "_law_text" (defArgs s_law_text) (defBody s_law_text) (defScope s_law_text) .none kV_law_text dc_law_text pm_law_text an_law_text cd_law_text ct_law_text), sl_law_text⟩) (c_law_text : PySem.W.codeIn K cd_law_text "_law_text" = true) (k_law_text : PySem.W.keepIn K (.ref f_law_text) = true)
    (a_law_value : PySem.W.nsIn K mainGlobals "_law_value" = some (some (.ref f_law_value))) (l_law_value : K.lookup f_law_value = some ⟨oc_law_value, od_law_value, .func (PySem.W.fnOf "_law_value" "_law_value" (defArgs s_law_value) (defBody s_law_value) (defScope s_law_value) .none kV_law_value dc_law_value pm_law_value an_law_value cd_law_value ct_law_value), sl_law_value⟩) (c_law_value : PySem.W.codeIn K cd_law_value "_law_value" = true) (k_law_value : PySem.W.keepIn K (.ref f_law_value) = true)
    (a_law : PySem.W.nsIn K mainGlobals "law" = some (some (.ref f_law))) (l_law : K.lookup f_law = some ⟨oc_law, od_law, .func (PySem.W.fnOf "law" "law" (defArgs s_law) (defBody s_law) (defScope s_law) .none kV_law dc_law pm_law an_law cd_law ct_law), sl_law⟩) (c_law : PySem.W.codeIn K cd_law "law" = true) (k_law : PySem.W.keepIn K (.ref f_law) = true)
    (z_abs : PySem.W.nsIn K mainGlobals "abs" = some none)
    (z_bool : PySem.W.nsIn K mainGlobals "bool" = some none)
    (z_int : PySem.W.nsIn K mainGlobals "int" = some none)
    (z_isinstance : PySem.W.nsIn K mainGlobals "isinstance" = some none)
    (z_len : PySem.W.nsIn K mainGlobals "len" = some none)
    (z_max : PySem.W.nsIn K mainGlobals "max" = some none)
    (z_range : PySem.W.nsIn K mainGlobals "range" = some none)
    (z_str : PySem.W.nsIn K mainGlobals "str" = some none)
    (z_tuple : PySem.W.nsIn K mainGlobals "tuple" = some none)
    (z_zip : PySem.W.nsIn K mainGlobals "zip" = some none)
    (y_DIGITS : PySem.W.nsIn K mainGlobals "DIGITS" = some (some (.str "0123456789" t_DIGITS)))
    (y_LETTERS : PySem.W.nsIn K mainGlobals "LETTERS" = some (some (.str "abcdefghijklmnopqrstuvwxyz" t_LETTERS))) :
    ∃ fd : FuncData, (∀ (s : Shared) (v : Value), BindsTo s fd ⟨[v], []⟩ [("script", v)]) ∧ ∀ base : Heap, K.In base → base.Ns mainGlobals mg → FnOk PySem.Challenge.pw_samebehind_k10_whole_tokens_of_any_text w K mg base (L2.CX PySem.Challenge.pw_samebehind_k10_whole_tokens_of_any_text w) 5 fa fd ["script"] (spP K cls (.im) 1 r_law) := by
  have e := hfa.symm.trans (PySem.W.mg_of X G a_law)
  cases e
  have F_run_end := fun_mk (st := s_run_end) l_run_end c_run_end k_run_end
  have d_run_end : Df K mg "run_end" s_run_end ["text", "at", "signs"] _ _ := ⟨F_run_end, PySem.W.mg_of X G a_run_end, F_run_end.binds fun _ _ _ _ _ _ us hl => match us, hl with | [_, _, _], _ => rfl⟩
  have F_tokens := fun_mk (st := s_tokens) l_tokens c_tokens k_tokens
  have d_tokens : Df K mg "tokens" s_tokens ["text"] _ _ := ⟨F_tokens, PySem.W.mg_of X G a_tokens, F_tokens.binds fun _ _ _ _ _ _ us hl => match us, hl with | [_], _ => rfl⟩
  have F_is_numeral := fun_mk (st := s_is_numeral) l_is_numeral c_is_numeral k_is_numeral
  have d_is_numeral : Df K mg "is_numeral" s_is_numeral ["value"] _ _ := ⟨F_is_numeral, PySem.W.mg_of X G a_is_numeral, F_is_numeral.binds fun _ _ _ _ _ _ us hl => match us, hl with | [_], _ => rfl⟩
  have F_law_draw := fun_mk (st := s_law_draw) l_law_draw c_law_draw k_law_draw
  have d_law_draw : Df K mg "_law_draw" s_law_draw ["script", "salt"] _ _ := ⟨F_law_draw, PySem.W.mg_of X G a_law_draw, F_law_draw.binds fun _ _ _ _ _ _ us hl => match us, hl with | [_, _], _ => rfl⟩
  have F_law_same := fun_mk (st := s_law_same) l_law_same c_law_same k_law_same
  have d_law_same : Df K mg "_law_same" s_law_same ["value", "due"] _ _ := ⟨F_law_same, PySem.W.mg_of X G a_law_same, F_law_same.binds fun _ _ _ _ _ _ us hl => match us, hl with | [_, _], _ => rfl⟩
  have F_law_is_numeral := fun_mk (st := s_law_is_numeral) l_law_is_numeral c_law_is_numeral k_law_is_numeral
  have d_law_is_numeral : Df K mg "_law_is_numeral" s_law_is_numeral ["value"] _ _ := ⟨F_law_is_numeral, PySem.W.mg_of X G a_law_is_numeral, F_law_is_numeral.binds fun _ _ _ _ _ _ us hl => match us, hl with | [_], _ => rfl⟩
  have F_law_scanned := fun_mk (st := s_law_scanned) l_law_scanned c_law_scanned k_law_scanned
  have d_law_scanned : Df K mg "_law_scanned" s_law_scanned ["text"] _ _ := ⟨F_law_scanned, PySem.W.mg_of X G a_law_scanned, F_law_scanned.binds fun _ _ _ _ _ _ us hl => match us, hl with | [_], _ => rfl⟩
  have F_law_any := fun_mk (st := s_law_any) l_law_any c_law_any k_law_any
  have d_law_any : Df K mg "_law_any" s_law_any ["deal", "bound"] _ _ := ⟨F_law_any, PySem.W.mg_of X G a_law_any, F_law_any.binds fun _ _ _ _ _ _ us hl => match us, hl with | [_, _], _ => rfl⟩
  have F_law_of := fun_mk (st := s_law_of) l_law_of c_law_of k_law_of
  have d_law_of : Df K mg "_law_of" s_law_of ["deal", "some"] _ _ := ⟨F_law_of, PySem.W.mg_of X G a_law_of, F_law_of.binds fun _ _ _ _ _ _ us hl => match us, hl with | [_, _], _ => rfl⟩
  have F_law_run := fun_mk (st := s_law_run) l_law_run c_law_run k_law_run
  have d_law_run : Df K mg "_law_run" s_law_run ["deal", "letters"] _ _ := ⟨F_law_run, PySem.W.mg_of X G a_law_run, F_law_run.binds fun _ _ _ _ _ _ us hl => match us, hl with | [_, _], _ => rfl⟩
  have F_law_text := fun_mk (st := s_law_text) l_law_text c_law_text k_law_text
  have d_law_text : Df K mg "_law_text" s_law_text ["deal"] _ _ := ⟨F_law_text, PySem.W.mg_of X G a_law_text, F_law_text.binds fun _ _ _ _ _ _ us hl => match us, hl with | [_], _ => rfl⟩
  have F_law_value := fun_mk (st := s_law_value) l_law_value c_law_value k_law_value
  have d_law_value : Df K mg "_law_value" s_law_value ["deal"] _ _ := ⟨F_law_value, PySem.W.mg_of X G a_law_value, F_law_value.binds fun _ _ _ _ _ _ us hl => match us, hl with | [_], _ => rfl⟩
  have F_law := fun_mk (st := s_law) l_law c_law k_law
  have d_law : Df K mg "law" s_law ["script"] _ _ := ⟨F_law, PySem.W.mg_of X G a_law, F_law.binds fun _ _ _ _ _ _ us hl => match us, hl with | [_], _ => rfl⟩
  have b_abs := PySem.W.mg_none_of X G z_abs
  have b_bool := PySem.W.mg_none_of X G z_bool
  have b_int := PySem.W.mg_none_of X G z_int
  have b_isinstance := PySem.W.mg_none_of X G z_isinstance
  have b_len := PySem.W.mg_none_of X G z_len
  have b_max := PySem.W.mg_none_of X G z_max
  have b_range := PySem.W.mg_none_of X G z_range
  have b_str := PySem.W.mg_none_of X G z_str
  have b_tuple := PySem.W.mg_none_of X G z_tuple
  have b_zip := PySem.W.mg_none_of X G z_zip
  have kc_DIGITS : Kc K mg "DIGITS" (.str "0123456789") := kc_str (PySem.W.mg_of X G y_DIGITS)
  have kc_LETTERS : Kc K mg "LETTERS" (.str "abcdefghijklmnopqrstuvwxyz") := kc_str (PySem.W.mg_of X G y_LETTERS)
  refine ⟨PySem.W.fnOf "law" "law" (defArgs s_law) (defBody s_law) (defScope s_law) .none kV_law dc_law pm_law an_law cd_law ct_law, fun s v => .of_eq rfl, fun base _ _ => ?_⟩
  have h_run_end := ok_run_end (w := w) (base := base) (cls := cls) d_run_end b_len
  have h_tokens := ok_tokens (w := w) (base := base) (cls := cls) d_tokens h_run_end kc_DIGITS kc_LETTERS b_len b_max b_tuple
  have h_is_numeral := ok_is_numeral (w := w) (base := base) (cls := cls) d_is_numeral h_run_end kc_DIGITS b_isinstance b_len b_str
  have h_law_draw := ok_law_draw (w := w) (base := base) (cls := cls) d_law_draw b_abs b_int
  have h_law_same : Hs PySem.Challenge.pw_samebehind_k10_whole_tokens_of_any_text w K mg base 4 "_law_same" s_law_same ["value", "due"] (spP K cls (.im) 2 (r_law_same 4)) := d_law_same.hs (ok_law_same d_law_same b_bool b_int b_isinstance b_len b_str b_tuple b_zip 4)
  have h_law_is_numeral := ok_law_is_numeral (w := w) (base := base) (cls := cls) d_law_is_numeral b_isinstance b_len b_str
  have h_law_scanned := ok_law_scanned (w := w) (base := base) (cls := cls) d_law_scanned 
  have h_law_any := ok_law_any (w := w) (base := base) (cls := cls) d_law_any b_int
  have h_law_of := ok_law_of (w := w) (base := base) (cls := cls) d_law_of h_law_any b_len
  have h_law_run := ok_law_run (w := w) (base := base) (cls := cls) d_law_run h_law_any h_law_of b_range
  have h_law_text := ok_law_text (w := w) (base := base) (cls := cls) d_law_text h_law_any h_law_of h_law_run b_len b_range
  have h_law_value := ok_law_value (w := w) (base := base) (cls := cls) d_law_value h_law_of h_law_run
  have h_law := ok_law (w := w) (base := base) (cls := cls) d_law h_tokens h_is_numeral h_law_draw h_law_same h_law_is_numeral h_law_scanned h_law_text h_law_value b_range b_tuple
  obtain ⟨f1, fd1, F1, m1, _, h1⟩ := h_law.ex
  rw [PySem.W.mg_of X G a_law] at m1
  cases m1
  obtain ⟨_, _, _, _, _, _, _, _, _, q1, q2, _⟩ := F1.ex
  subst q1
  rw [l_law] at q2
  cases q2
  exact h1
end Zd
open PySem PySem.W
open PyProof.Rows
set_option maxHeartbeats 0 in
theorem PySem.Challenge.cw_samebehind_k10_whole_tokens_of_any_text_holds : PySem.Challenge.rw_samebehind_k10_whole_tokens_of_any_text.Holds := by
  w_on; o_law; k_head
  (case hw => w_witness2)
  k_fill
  refine L2.walk_of (l := PySem.Challenge.rw_samebehind_k10_whole_tokens_of_any_text) (n := 63) (k := 5) (x := "script") (CX := fun w => L2.CX PySem.Challenge.pw_samebehind_k10_whole_tokens_of_any_text w) (sp := fun w => Zd.spP _ (fun _ => 0) .im 1 Zd.r_law) rfl (by decide) rfl ⟨rfl, by decide, by decide⟩ (fun w h Y => PySem.W.kIn_of Y) ?F (fun w H a ns hl hO hS => Zd.top_ok (by kernel_rfl) Zd.law_holds hl hO hS) (fun _ _ _ _ _ ⟨_, _, _, _, _, _, _, _, _, _, _, _, z⟩ => z)
  case F =>
    intro w mg fa h KX G hmg
    refine' Zd.all_mk KX G hmg ?a_run_end ?l_run_end ?c_run_end ?k_run_end ?a_tokens ?l_tokens ?c_tokens ?k_tokens ?a_is_numeral ?l_is_numeral ?c_is_numeral ?k_is_numeral ?a_law_draw ?l_law_draw ?c_law_draw ?k_law_draw ?a_law_same ?l_law_same ?c_law_same ?k_law_same ?a_law_is_numeral ?l_law_is_numeral ?c_law_is_numeral ?k_law_is_numeral ?a_law_scanned ?l_law_scanned ?c_law_scanned ?k_law_scanned ?a_law_any ?l_law_any ?c_law_any ?k_law_any ?a_law_of ?l_law_of ?c_law_of ?k_law_of ?a_law_run ?l_law_run ?c_law_run ?k_law_run ?a_law_text ?l_law_text ?c_law_text ?k_law_text ?a_law_value ?l_law_value ?c_law_value ?k_law_value ?a_law ?l_law ?c_law ?k_law ?z_abs ?z_bool ?z_int ?z_isinstance ?z_len ?z_max ?z_range ?z_str ?z_tuple ?z_zip ?y_DIGITS ?y_LETTERS
    (case a_run_end => k_is)
    (case l_run_end => k_is)
    (case c_run_end => k_is)
    (case k_run_end => k_is)
    (case a_tokens => k_is)
    (case l_tokens => k_is)
    (case c_tokens => k_is)
    (case k_tokens => k_is)
    (case a_is_numeral => k_is)
    (case l_is_numeral => k_is)
    (case c_is_numeral => k_is)
    (case k_is_numeral => k_is)
    (case a_law_draw => k_is)
    (case l_law_draw => k_is)
    (case c_law_draw => k_is)
    (case k_law_draw => k_is)
    (case a_law_same => k_is)
    (case l_law_same => k_is)
    (case c_law_same => k_is)
    (case k_law_same => k_is)
    (case a_law_is_numeral => k_is)
    (case l_law_is_numeral => k_is)
    (case c_law_is_numeral => k_is)
    (case k_law_is_numeral => k_is)
    (case a_law_scanned => k_is)
    (case l_law_scanned => k_is)
    (case c_law_scanned => k_is)
    (case k_law_scanned => k_is)
    (case a_law_any => k_is)
    (case l_law_any => k_is)
    (case c_law_any => k_is)
    (case k_law_any => k_is)
    (case a_law_of => k_is)
    (case l_law_of => k_is)
    (case c_law_of => k_is)
    (case k_law_of => k_is)
    (case a_law_run => k_is)
    (case l_law_run => k_is)
    (case c_law_run => k_is)
    (case k_law_run => k_is)
    (case a_law_text => k_is)
    (case l_law_text => k_is)
    (case c_law_text => k_is)
    (case k_law_text => k_is)
    (case a_law_value => k_is)
    (case l_law_value => k_is)
    (case c_law_value => k_is)
    (case k_law_value => k_is)
    (case a_law => k_is)
    (case l_law => k_is)
    (case c_law => k_is)
    (case k_law => k_is)
    (case z_abs => k_is)
    (case z_bool => k_is)
    (case z_int => k_is)
    (case z_isinstance => k_is)
    (case z_len => k_is)
    (case z_max => k_is)
    (case z_range => k_is)
    (case z_str => k_is)
    (case z_tuple => k_is)
    (case z_zip => k_is)
    (case y_DIGITS => k_is)
    (case y_LETTERS => k_is)

