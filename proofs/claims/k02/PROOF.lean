import PyProof.Rows.All
import Wide.All
import OpenK.AllK
import Wide.FinOn
import HandS.ForMost
import HandS.Evl
import HandS.IsInst
import HandS.Wide
import HandS.TupAny
import HandS.Walk
import HandS.Zip
import HandS.Deep
import HandS.Style
import HandS.Defaults
import HandS.HeadHook4
import HandS.Dict
import PyProof.DictUpdate
import KE.GoesZip
import KE.GoesMore
import HandS.Text
import HandS.Head0
import HandS.Head1
import HandS.Head2
import HandS.HeadEnd
import KE.KStateDown
import Lean
import PySem.Challenge.RW_doublerings_k02_what_is_a_page
set_option Elab.async false
set_option linter.all false
set_option autoImplicit false
set_option maxRecDepth 100000
set_option maxHeartbeats 1000000
namespace DR
open PySem PySem.Spec L2
open PyProof.Rows hiding St
open Evl (Ex ex_l ex_t ex_rd)

/-! ### data, and what represents it -/
abbrev D := PyData
abbrev DS := List (Option D)
def kD : Key → D
  | .inl i => .int i
  | .inr x => .str x
mutual
inductive Rep (K : PySem.W.Frag) (H : Hp) : V → D → Prop
  | non : Rep K H .non .none
  | bl (b : Bool) : Rep K H (.bl b) (.bool b)
  | int (i : Int) : Rep K H (.int i) (.int i)
  | str (x : Str) : Rep K H (.str x) (.str x)
  | lst {a : Addr} {xs : List V} {ds : List D} : Rd H a (.lst xs) → RepA K H xs ds → Rep K H (.ref a) (.list ds)
  | tup {a : Addr} {xs : List V} {ds : List D} : SqT K H a xs → RepA K H xs ds → Rep K H (.ref a) (.tuple ds)
  | dct {a : Addr} {kvs : List (Key × V)} {ds : List (D × D)} : H a = some (.dK kvs) → (kvs.map (·.1)).Nodup → RepK K H kvs ds → Rep K H (.ref a) (.dict ds)
inductive RepA (K : PySem.W.Frag) (H : Hp) : List V → List D → Prop
  | nil : RepA K H [] []
  | cons {v : V} {vs : List V} {d : D} {ds : List D} : Rep K H v d → RepA K H vs ds → RepA K H (v :: vs) (d :: ds)
inductive RepK (K : PySem.W.Frag) (H : Hp) : List (Key × V) → List (D × D) → Prop
  | nil : RepK K H [] []
  | cons {k : Key} {v : V} {vs : List (Key × V)} {d : D} {ds : List (D × D)} : Rep K H v d → RepK K H vs ds → RepK K H ((k, v) :: vs) ((kD k, d) :: ds)
end
section
variable {K : PySem.W.Frag} {H H' B : Hp}
mutual
theorem Rep.mono (e : Ex H H') : ∀ {v : V} {d : D}, Rep K H v d → Rep K H' v d
  | _, _, .non => .non
  | _, _, .bl b => .bl b
  | _, _, .int i => .int i
  | _, _, .str x => .str x
  | _, _, .lst h a => .lst (ex_rd e h) (RepA.mono e a)
  | _, _, .tup h a => .tup (ex_t e h) (RepA.mono e a)
  | _, _, .dct h n a => .dct (e _ _ h) n (RepK.mono e a)
theorem RepA.mono (e : Ex H H') : ∀ {vs : List V} {ds : List D}, RepA K H vs ds → RepA K H' vs ds
  | _, _, .nil => .nil
  | _, _, .cons h t => .cons (Rep.mono e h) (RepA.mono e t)
theorem RepK.mono (e : Ex H H') : ∀ {vs : List (Key × V)} {ds : List (D × D)}, RepK K H vs ds → RepK K H' vs ds
  | _, _, .nil => .nil
  | _, _, .cons h t => .cons (Rep.mono e h) (RepK.mono e t)
end
theorem RepA.length : ∀ {vs : List V} {ds : List D}, RepA K H vs ds → vs.length = ds.length
  | _, _, .nil => rfl
  | _, _, .cons _ t => congrArg Nat.succ (RepA.length t)
theorem RepA.append : ∀ {vs ws : List V} {ds es : List D}, RepA K H vs ds → RepA K H ws es → RepA K H (vs ++ ws) (ds ++ es)
  | _, _, _, _, .nil, s => s
  | _, _, _, _, .cons r t, s => .cons r (RepA.append t s)
theorem RepA.get : ∀ {vs : List V} {ds : List D} {i : Nat} {d : D}, RepA K H vs ds → ds[i]? = some d → ∃ v, vs[i]? = some v ∧ Rep K H v d
  | _, _, _, _, .nil, e => by simp at e
  | _, _, 0, _, .cons r _, e => by
    simp at e
    subst e
    exact ⟨_, rfl, r⟩
  | _, _, i + 1, d, .cons _ t, e => by
    obtain ⟨u, h1, h2⟩ := RepA.get (i := i) (d := d) t (by simpa using e)
    exact ⟨u, by simpa using h1, h2⟩
theorem RepA.getV : ∀ {vs : List V} {ds : List D} {i : Nat} {v : V}, RepA K H vs ds → vs[i]? = some v → ∃ d, ds[i]? = some d ∧ Rep K H v d
  | _, _, _, _, .nil, e => by simp at e
  | _, _, 0, _, .cons r _, e => by
    simp at e
    subst e
    exact ⟨_, rfl, r⟩
  | _, _, i + 1, d, .cons _ t, e => by
    obtain ⟨u, h1, h2⟩ := RepA.getV (i := i) (v := d) t (by simpa using e)
    exact ⟨u, by simpa using h1, h2⟩
theorem RepA.set {x : V} {d : D} (r : Rep K H x d) : ∀ {vs : List V} {ds : List D} (i : Nat), RepA K H vs ds → RepA K H (vs.set i x) (ds.set i d)
  | _, _, _, .nil => .nil
  | _, _, 0, .cons _ t => .cons r t
  | _, _, i + 1, .cons q t => .cons q (RepA.set r i t)
theorem RepA.take : ∀ {vs : List V} {ds : List D} (n : Nat), RepA K H vs ds → RepA K H (vs.take n) (ds.take n)
  | _, _, 0, _ => .nil
  | _, _, _ + 1, .nil => .nil
  | _, _, n + 1, .cons r t => .cons r (RepA.take n t)
theorem RepA.drop : ∀ {vs : List V} {ds : List D} (n : Nat), RepA K H vs ds → RepA K H (vs.drop n) (ds.drop n)
  | _, _, 0, r => r
  | _, _, _ + 1, .nil => .nil
  | _, _, n + 1, .cons _ t => RepA.drop n t
theorem RepA.reverse {vs : List V} {ds : List D} (h : RepA K H vs ds) : RepA K H vs.reverse ds.reverse := by
  induction vs generalizing ds with
  | nil =>
    cases h
    exact .nil
  | cons v vs ih =>
    cases h with
    | cons r t =>
      rw [List.reverse_cons, List.reverse_cons]
      exact (ih t).append (.cons r .nil)
theorem RepA.rep {vs : List V} {ds : List D} (h : RepA K H vs ds) : ∀ k : Nat, RepA K H (List.replicate k vs).flatten (List.replicate k ds).flatten
  | 0 => .nil
  | k + 1 => by
    rw [List.replicate_succ, List.replicate_succ, List.flatten_cons, List.flatten_cons]
    exact h.append (h.rep k)
/-- ints, texts, truths as data -/
theorem repA_ints : ∀ (ns : List Int), RepA K H (ns.map V.int) (ns.map PyData.int)
  | [] => .nil
  | n :: ns => .cons (.int n) (repA_ints ns)
theorem repA_strs : ∀ (xs : List Str), RepA K H (xs.map V.str) (xs.map PyData.str)
  | [] => .nil
  | n :: ns => .cons (.str n) (repA_strs ns)
end

/-! ### flat data: no list, no dict within -/
mutual
def flat : D → Bool
  | .list _ => false
  | .dict _ => false
  | .tuple ds => flatA ds
  | _ => true
def flatA : List D → Bool
  | [] => true
  | d :: ds => flat d && flatA ds
end
def cut (B : Hp) (Z : Addr → Bool) : Hp := fun a => if Z a = true then none else B a
theorem cut_ex {B : Hp} {Z : Addr → Bool} : Ex (cut B Z) B := fun a o h => by
  unfold cut at h
  split at h
  · cases h
  · exact h
theorem cut_mono {B B' : Hp} {Z : Addr → Bool} (e : Ex B B') : Ex (cut B Z) (cut B' Z) := fun a o h => by
  unfold cut at h ⊢
  split at h
  · cases h
  · rename_i hz
    rw [if_neg hz]
    exact e a o h
theorem cut_none {B : Hp} {Z : Addr → Bool} (h : ∀ a, Z a = false) : cut B Z = B := by
  funext a
  unfold cut
  rw [h a]
  rfl
/-- what may stand at a cell -/
def isCell : HO → Bool
  | .lst _ => true
  | .dK _ => true
  | .dT _ => true
  | .set _ _ => true
  | .ins _ _ _ => true
  | _ => false
section
variable {K : PySem.W.Frag} {B : Hp} {Z : Addr → Bool}
theorem cut_t (zo : ∀ a, Z a = true → ∃ o, B a = some o ∧ isCell o = true) {a : Addr} {xs : List V} (h : SqT K B a xs) : SqT K (cut B Z) a xs := by
  rcases h with h | h
  · refine Or.inl ?_
    have hz : Z a = false := by
      cases e : Z a with
      | false => rfl
      | true =>
        obtain ⟨o, e1, e2⟩ := zo a e
        rcases h with h | ⟨ob, h⟩
        · rw [h] at e1
          cases e1
          cases e2
        · rw [h] at e1
          cases e1
          cases e2
    have e : cut B Z a = B a := by
      unfold cut
      rw [hz]
      rfl
    rcases h with h | ⟨ob, h⟩
    · exact Or.inl (e.trans h)
    · exact Or.inr ⟨ob, e.trans h⟩
  · exact Or.inr h
mutual
theorem Rep.cut (zo : ∀ a, Z a = true → ∃ o, B a = some o ∧ isCell o = true) : ∀ {v : V} {d : D}, flat d = true → Rep K B v d → Rep K (cut B Z) v d
  | _, _, _, .non => .non
  | _, _, _, .bl b => .bl b
  | _, _, _, .int i => .int i
  | _, _, _, .str x => .str x
  | _, _, f, .lst h a => nomatch f
  | _, _, f, .tup h a => .tup (cut_t zo h) (RepA.cut zo f a)
  | _, _, f, .dct h n a => nomatch f
theorem RepA.cut (zo : ∀ a, Z a = true → ∃ o, B a = some o ∧ isCell o = true) : ∀ {vs : List V} {ds : List D}, flatA ds = true → RepA K B vs ds → RepA K (cut B Z) vs ds
  | _, _, _, .nil => .nil
  | _, _, f, .cons h t => .cons (Rep.cut zo (Bool.and_eq_true_iff.mp f).1 h) (RepA.cut zo (Bool.and_eq_true_iff.mp f).2 t)
end
end

/-! ### what stands at a cell, as data -/
inductive RepO (K : PySem.W.Frag) (B : Hp) : HO → D → Prop
  | lst {xs : List V} {ds : List D} : RepA K B xs ds → RepO K B (.lst xs) (.list ds)
  | dct {kvs : List (Key × V)} {ds : List (D × D)} : (kvs.map (·.1)).Nodup → RepK K B kvs ds → RepO K B (.dK kvs) (.dict ds)
theorem RepO.mono {K : PySem.W.Frag} {B B' : Hp} (e : Ex B B') {o : HO} {d : D} : RepO K B o d → RepO K B' o d
  | .lst a => .lst (a.mono e)
  | .dct n a => .dct n (a.mono e)
theorem RepO.rep {K : PySem.W.Frag} {B B' : Hp} (e : Ex B B') {o : HO} {d : D} {l : Addr} (h : B' l = some o) : RepO K B o d → Rep K B' (.ref l) d
  | .lst a => .lst (.inl h) (a.mono e)
  | .dct n a => .dct h n (a.mono e)
theorem RepO.isCell {K : PySem.W.Frag} {B : Hp} {o : HO} {d : D} : RepO K B o d → isCell o = true
  | .lst _ => rfl
  | .dct _ _ => rfl

/-! ### results -/
inductive Res (β : Type) where
  | ok (b : β)
  | ex (c : Addr) (fl : Option (Str × D))
abbrev DM (β : Type) := DS → Option (Res β × DS)
def DM.pure {β : Type} (b : β) : DM β := fun st => some (.ok b, st)
def DM.opt {β : Type} (o : Option β) : DM β := fun st => o.map fun b => (.ok b, st)
def DM.bind {β γ : Type} (m : DM β) (k : β → DM γ) : DM γ := fun st => match m st with
  | none => none
  | some (.ok b, st1) => k b st1
  | some (.ex c fl, st1) => some (.ex c fl, st1)
theorem bind_ok {β γ : Type} {m : DM β} {k : β → DM γ} {st st1 : DS} {b : β} (h : m st = some (.ok b, st1)) : m.bind k st = k b st1 := by
  unfold DM.bind
  rw [h]
theorem bind_ex {β γ : Type} {m : DM β} {k : β → DM γ} {st st1 : DS} {c : Addr} {fl : Option (Str × D)} (h : m st = some (.ex c fl, st1)) : m.bind k st = some (.ex c fl, st1) := by
  unfold DM.bind
  rw [h]

/-! ### a def's static part; the relation between the abstract slots and heap and the data -/
structure Cf where
  mx : Bool
  hid : List Nat
  ps : List Nat
  W : XK
structure ER (K : PySem.W.Frag) (c : Cf) (A : Nat → Addr) (Z : Addr → Bool) (B : Hp) (σ : L2.St) (H : Hp) (st : DS) : Prop where
  len : st.length = σ.length
  bh : Ex B H
  rd : ∀ i d, i ∉ c.hid → i ∉ c.ps → st[i]? = some (some d) → ∃ v, σ[i]? = some (some v) ∧ Rep K B v d
  pn : ∀ i ∈ c.ps, ∃ d o, st[i]? = some (some d) ∧ σ[i]? = some (some (.ref (A i))) ∧ B (A i) = none ∧ H (A i) = some o ∧ RepO K (cut B Z) o d
  ne : ∀ i ∈ c.ps, ∀ j ∈ c.ps, i ≠ j → A i ≠ A j
  zx : c.mx = false → ∀ a, Z a = false
  zo : ∀ a, Z a = true → ∃ o, B a = some o ∧ isCell o = true
structure Adv (ps : List Nat) (A : Nat → Addr) (B H : Hp) (st : DS) (B' H' : Hp) (st' : DS) : Prop where
  ext : Ex B B'
  new : ∀ a o, B' a = some o → B a = some o ∨ H a = none
  keep : ∀ a o, H a = some o → (∀ i ∈ ps, a ≠ A i) → H' a = some o
  there : ∀ a, H' a = none → H a = none
  ln : st'.length = st.length
  upd : ∀ (i : Nat), i ∉ ps → st'[i]? = st[i]?
  pst : ∀ (i : Nat) (d : D), st'[i]? = some (some d) → ∃ e, st[i]? = some (some e)
theorem Adv.refl {ps : List Nat} {A : Nat → Addr} {B H : Hp} {st : DS} : Adv ps A B H st B H st :=
  ⟨fun _ _ h => h, fun _ _ h => .inl h, fun _ _ h _ => h, fun _ h => h, rfl, fun _ _ => rfl, fun _ d h => ⟨d, h⟩⟩
theorem Adv.trans {ps : List Nat} {A : Nat → Addr} {B H B1 H1 B2 H2 : Hp} {st st1 st2 : DS} (a : Adv ps A B H st B1 H1 st1) (b : Adv ps A B1 H1 st1 B2 H2 st2) : Adv ps A B H st B2 H2 st2 where
  ext := fun x o h => b.ext x o (a.ext x o h)
  new := fun x o h => by
    rcases b.new x o h with h | h
    · exact a.new x o h
    · exact .inr (a.there x h)
  keep := fun x o h n => b.keep x o (a.keep x o h n) n
  there := fun x h => a.there x (b.there x h)
  ln := b.ln.trans a.ln
  upd := fun i h => (b.upd i h).trans (a.upd i h)
  pst := fun i d h => by
    obtain ⟨e, h1⟩ := b.pst i d h
    exact a.pst i e h1
/-- a step that changes nothing that was there -/
structure Pu (B H B' H' : Hp) : Prop where
  ext : Ex B B'
  hx : Ex H H'
  bh : Ex B' H'
  new : ∀ a o, B' a = some o → B a = some o ∨ H a = none
theorem Pu.refl {B H : Hp} (e : Ex B H) : Pu B H B H := ⟨fun _ _ h => h, fun _ _ h => h, e, fun _ _ h => .inl h⟩
theorem none_of {B H : Hp} (e : Ex B H) {p : Addr} (h : H p = none) : B p = none := by
  cases q : B p with
  | none => rfl
  | some o =>
    rw [e p o q] at h
    cases h
theorem Pu.mk1 {B H : Hp} (e : Ex B H) {p : Addr} {o : HO} (h : H p = none) : Pu B H (upd B p o) (upd H p o) where
  ext := fun a u q => by
    rw [upd_ne (ne_of_none q (none_of e h))]
    exact q
  hx := fun a u q => by
    rw [upd_ne (ne_of_none q h)]
    exact q
  bh := fun a u q => by
    by_cases z : a = p
    · subst z
      rw [upd_same] at q
      rw [upd_same]
      exact q
    · rw [upd_ne z] at q
      rw [upd_ne z]
      exact e a u q
  new := fun a u q => by
    by_cases z : a = p
    · subst z
      exact .inr h
    · rw [upd_ne z] at q
      exact .inl q
/-- a new object that the base does not know -/
theorem Pu.mk0 {B H : Hp} (e : Ex B H) {p : Addr} {o : HO} (h : H p = none) : Pu B H B (upd H p o) where
  ext := fun a u q => q
  hx := fun a u q => by
    rw [upd_ne (ne_of_none q h)]
    exact q
  bh := fun a u q => by
    rw [upd_ne (ne_of_none (e a u q) h)]
    exact e a u q
  new := fun a u q => .inl q
theorem Pu.trans {B H B1 H1 B2 H2 : Hp} (a : Pu B H B1 H1) (b : Pu B1 H1 B2 H2) : Pu B H B2 H2 where
  ext := fun x o h => b.ext x o (a.ext x o h)
  hx := fun x o h => b.hx x o (a.hx x o h)
  bh := b.bh
  new := fun x o h => by
    rcases b.new x o h with h | h
    · exact a.new x o h
    · exact .inr (none_of a.hx h)
section
variable {K : PySem.W.Frag} {c : Cf} {A : Nat → Addr} {Z : Addr → Bool} {B B' H H' : Hp} {σ : L2.St} {st : DS}
theorem Pu.adv {ps : List Nat} (p : Pu B H B' H') : Adv ps A B H st B' H' st :=
  ⟨p.ext, p.new, fun a o h _ => p.hx a o h, fun a h => none_of p.hx h, rfl, fun _ _ => rfl, fun _ d h => ⟨d, h⟩⟩
theorem ER.pu (e : ER K c A Z B σ H st) (p : Pu B H B' H') : ER K c A Z B' σ H' st where
  len := e.len
  bh := p.bh
  rd := fun i d h1 h2 h => by
    obtain ⟨v, q, r⟩ := e.rd i d h1 h2 h
    exact ⟨v, q, r.mono p.ext⟩
  pn := fun i h1 => by
    obtain ⟨d, o, h, q, n, h2, r⟩ := e.pn i h1
    refine ⟨d, o, h, q, ?_, p.hx _ _ h2, r.mono (cut_mono p.ext)⟩
    cases z : B' (A i) with
    | none => rfl
    | some u =>
      rcases p.new _ _ z with z | z
      · rw [n] at z
        cases z
      · rw [h2] at z
        cases z
  ne := e.ne
  zx := e.zx
  zo := fun a h => by
    obtain ⟨o, h1, h2⟩ := e.zo a h
    exact ⟨o, p.ext a o h1, h2⟩
end

/-! ### evaluation -/
def Fld (K : PySem.W.Frag) (B H : Hp) (dx : Option Addr) : Option (Str × D) → Prop
  | none => dx = none
  | some (x, d) => ∃ p v, dx = some p ∧ H p = some (.xd [(x, v)]) ∧ Rep K B v d
abbrev TG0 (α : Type) := L2.St → Hp → (α → Hp → Prop) → Prop
def EvP {α β : Type} (K : PySem.W.Frag) (c : Cf) (P : Hp → Prop) (rel : Hp → α → β → Prop) (t : TG0 α) (f : DM β) : Prop :=
  ∀ (A : Nat → Addr) (Z : Addr → Bool) (B : Hp) (σ : L2.St) (H : Hp) (st : DS) (r : Res β × DS), ER K c A Z B σ H st → P B → f st = some r → ∀ Q : α → Hp → Prop,
    (∀ b st', r = (.ok b, st') → ∀ v B' H', ER K c A Z B' σ H' st' → Adv c.ps A B H st B' H' st' → rel B' v b → Q v H') →
    (∀ x fl st', r = (.ex x fl, st') → ∀ dx B' H', ER K c A Z B' σ H' st' → Adv c.ps A B H st B' H' st' → Fld K B' H' dx fl → c.W (.ref x) dx H') → t σ H Q
def Mono (P : Hp → Prop) : Prop := ∀ B B', Ex B B' → P B → P B'
def MonoR {α β : Type} (rel : Hp → α → β → Prop) : Prop := ∀ v b, Mono fun B => rel B v b
theorem mono_true : Mono fun _ => True := fun _ _ _ h => h
theorem Mono.and {P R : Hp → Prop} (a : Mono P) (b : Mono R) : Mono fun B => P B ∧ R B := fun B B' e h => ⟨a B B' e h.1, b B B' e h.2⟩
theorem monoR_rep {K : PySem.W.Frag} : MonoR (Rep K) := fun v d B B' e h => h.mono e
theorem monoR_repA {K : PySem.W.Frag} : MonoR (RepA K) := fun v d B B' e h => h.mono e
abbrev eqR {α : Type} : Hp → α → α → Prop := fun _ x y => x = y
theorem monoR_eq {α : Type} : MonoR (eqR (α := α)) := fun v d B B' e h => h
section
variable {α β γ δ : Type} {K : PySem.W.Frag} {c : Cf} {P : Hp → Prop}
theorem EvP.bind {relA : Hp → α → β → Prop} {relC : Hp → γ → δ → Prop} {ta : TG0 α} {tk : α → TG0 γ} {fa : DM β} {k : β → DM δ} (hP : Mono P) (ha : EvP K c P relA ta fa)
    (hk : ∀ x b, EvP K c (fun B => P B ∧ relA B x b) relC (tk x) (k b)) : EvP K c P relC (fun σ H Q => ta σ H fun x H1 => tk x σ H1 Q) (fa.bind k) := by
  intro A Z B σ H st r er p hf Q hok hex
  cases ea : fa st with
  | none =>
    unfold DM.bind at hf
    rw [ea] at hf
    cases hf
  | some ra =>
    obtain ⟨res, st1⟩ := ra
    refine ha A Z B σ H st _ er p ea _ (fun b st' e v B' H' er' ad rv => ?_) (fun x fl st' e dx B' H' er' ad fl' => ?_)
    · cases e
      rw [bind_ok ea] at hf
      exact hk v b A Z B' σ H' st1 r er' ⟨hP _ _ ad.ext p, rv⟩ hf Q (fun b2 st2 e2 v2 B2 H2 er2 ad2 rv2 => hok b2 st2 e2 v2 B2 H2 er2 (ad.trans ad2) rv2)
        fun x fl st2 e2 dx B2 H2 er2 ad2 fl2 => hex x fl st2 e2 dx B2 H2 er2 (ad.trans ad2) fl2
    · cases e
      rw [bind_ex ea] at hf
      exact hex x fl st1 (Option.some.inj hf).symm dx B' H' er' ad fl'
theorem EvP.weak {R : Hp → Prop} {rel : Hp → α → β → Prop} {t : TG0 α} {f : DM β} (h : EvP K c P rel t f) (w : ∀ B, R B → P B) : EvP K c R rel t f :=
  fun A Z B σ H st r er p hf Q hok hex => h A Z B σ H st r er (w B p) hf Q hok hex
/-- by values alone -/
theorem EvP.val {rel : Hp → α → β → Prop} {t : Hp → (α → Hp → Prop) → Prop} {o : Option β}
    (h : ∀ (B H : Hp) (b : β), Ex B H → P B → o = some b → ∀ Q : α → Hp → Prop, (∀ v B' H', Pu B H B' H' → rel B' v b → Q v H') → t H Q) : EvP K c P rel (fun _ H Q => t H Q) (DM.opt o) := by
  intro A Z B σ H st r er p hf Q hok hex
  cases o with
  | none => cases hf
  | some b =>
    cases hf
    exact h B H b er.bh p rfl Q fun v B' H' pu rv => hok b st rfl v B' H' (er.pu pu) pu.adv rv
theorem EvP.pure {rel : Hp → α → β → Prop} {v : α} {b : β} (h : ∀ B, P B → rel B v b) : EvP K c P rel (fun _ H Q => Q v H) (DM.pure b) := by
  intro A Z B σ H st r er p hf Q hok hex
  cases hf
  exact hok b st rfl v B H er Adv.refl (h B p)
end
abbrev EvD (K : PySem.W.Frag) (c : Cf) (t : TE) (f : DM D) : Prop := EvP K c (fun _ => True) (Rep K) t f
abbrev EvT (K : PySem.W.Frag) (c : Cf) (t : TT) (f : DM Bool) : Prop := EvP K c (fun _ => True) eqR t f
abbrev EvA (K : PySem.W.Frag) (c : Cf) (t : TA) (f : DM (List D)) : Prop := EvP K c (fun _ => True) (RepA K) t f
abbrev EvO (K : PySem.W.Frag) (c : Cf) (t : TO) (f : DM (Option Int)) : Prop := EvP K c (fun _ => True) eqR t f

/-! ### the judgements: syntax, reading, data function -/
structure PD (X : Cx) (c : Cf) (e : Expr) (t : TE) (f : DM D) : Prop where
  pe : PE X e t
  ev : EvD X.K c t f
structure PDT (X : Cx) (c : Cf) (e : Expr) (t : TT) (f : DM Bool) : Prop where
  pt : PT X e t
  ev : EvT X.K c t f
structure PDA (X : Cx) (c : Cf) (es : List Expr) (t : TA) (f : DM (List D)) : Prop where
  pa : PA X es t
  ev : EvA X.K c t f
structure PDO (X : Cx) (c : Cf) (e : Option Expr) (t : TO) (f : DM (Option Int)) : Prop where
  po : PO X e t
  ev : EvO X.K c t f

/-! ### names, constants -/
def dvar (i : Nat) : DM D := fun st => match st[i]? with
  | some (some d) => some (.ok d, st)
  | _ => none
section
variable {X : Cx} {c : Cf}
theorem ev_var {K : PySem.W.Frag} {i : Nat} (h1 : i ∉ c.hid) (h2 : i ∉ c.ps) : EvD K c (tVar i) (dvar i) := by
  intro A Z B σ H st r er _ hf Q hok hex
  unfold dvar at hf
  split at hf
  · rename_i d hd
    cases hf
    obtain ⟨v, q, rv⟩ := er.rd i d h1 h2 hd
    exact ⟨v, q, hok d st rfl v B H er Adv.refl rv⟩
  · cases hf
theorem pd_var (i : Nat) {x : Str} {pos : Pos} (h1 : i ∉ c.hid := by decide) (h2 : i ∉ c.ps := by decide) (hN : X.N[i]? = some x := by rfl) (hv : Vis X.env.scope x := by first | exact Or.inl rfl | exact Or.inr (Or.inl rfl) | exact Or.inr (Or.inr rfl))
    (hd : (x == ("__debug__" : Str)) = false := by decide) (hcd : (x == ("__classdict__" : Str)) = false := by decide) : PD X c (.Name x pos) (tVar i) (dvar i) := ⟨pv i hN hv hd hcd, ev_var h1 h2⟩
theorem ev_c {K : PySem.W.Frag} {v : V} {d : D} (h : ∀ H, Rep K H v d) : EvD K c (tC v) (DM.pure d) := EvP.pure fun B _ => h B
theorem pd_int {i j pos} : PD X c (.Constant (.int i) j pos) (tC (.int i)) (DM.pure (.int i)) := ⟨pe_int, ev_c fun _ => .int i⟩
theorem pd_bl {i j pos} : PD X c (.Constant (.bool i) j pos) (tC (.bl i)) (DM.pure (.bool i)) := ⟨pe_bl, ev_c fun _ => .bl i⟩
theorem pd_str {i j pos} : PD X c (.Constant (.str i) j pos) (tC (.str i)) (DM.pure (.str i)) := ⟨pe_str, ev_c fun _ => .str i⟩
theorem pd_non {j pos} : PD X c (.Constant .none j pos) (tC .non) (DM.pure .none) := ⟨pe_non, ev_c fun _ => .non⟩
/-- a module's constant -/
theorem pd_glob {x : Str} {v : V} {d : D} {u : Value} {pos : Pos} (hg : Gl X x) (hm : X.mg x = some u) (r : RelV v u) (h : ∀ H, Rep X.K H v d) (hd : (x == ("__debug__" : Str)) = false := by decide) : PD X c (.Name x pos) (tC v) (DM.pure d) := ⟨pe_glob hg hm r hd, ev_c h⟩
theorem pd_globI {x : Str} {i : Int} {pos : Pos} (hg : Gl X x) (hm : ∃ t, X.mg x = some (.int i t)) (hd : (x == ("__debug__" : Str)) = false := by decide) : PD X c (.Name x pos) (tC (.int i)) (DM.pure (.int i)) := by
  obtain ⟨t, h⟩ := hm
  exact pd_glob hg h ⟨t, rfl⟩ (fun _ => .int i) hd
theorem pd_globS {x z : Str} {pos : Pos} (hg : Gl X x) (hm : ∃ t, X.mg x = some (.str z t)) (hd : (x == ("__debug__" : Str)) = false := by decide) : PD X c (.Name x pos) (tC (.str z)) (DM.pure (.str z)) := by
  obtain ⟨t, h⟩ := hm
  exact pd_glob hg h ⟨t, rfl⟩ (fun _ => .str z) hd
end

/-! ### operators -/
def dop (g : D → D → Option D) (fa fb : DM D) : DM D := fa.bind fun x => fb.bind fun y => DM.opt (g x y)
def dun (g : D → Option D) (fa : DM D) : DM D := fa.bind fun x => DM.opt (g x)
def RD2 (K : PySem.W.Frag) (r : R2) (g : D → D → Option D) : Prop := ∀ (x y : V) (dx dy dz : D) (B H : Hp), Ex B H → Rep K B x dx → Rep K B y dy → g dx dy = some dz →
  ∀ Q : VK, (∀ v B' H', Pu B H B' H' → Rep K B' v dz → Q v H') → r x y H Q
def RD1 (K : PySem.W.Frag) (r : V → Hp → VK → Prop) (g : D → Option D) : Prop := ∀ (x : V) (dx dz : D) (B H : Hp), Ex B H → Rep K B x dx → g dx = some dz →
  ∀ Q : VK, (∀ v B' H', Pu B H B' H' → Rep K B' v dz → Q v H') → r x H Q
section
variable {X : Cx} {c : Cf} {K : PySem.W.Frag} {ta tb : TE} {fa fb : DM D}
theorem ev_op {r : R2} {g : D → D → Option D} (hr : RD2 K r g) (ha : EvD K c ta fa) (hb : EvD K c tb fb) : EvD K c (tOp r ta tb) (dop g fa fb) :=
  EvP.bind (relA := Rep K) (tk := fun x σ H Q => tb σ H fun y H2 => r x y H2 Q) mono_true ha fun x dx => EvP.bind (relA := Rep K) (tk := fun y _ H Q => r x y H Q) (mono_true.and (monoR_rep x dx)) (hb.weak fun _ _ => True.intro) fun y dy =>
    EvP.val (t := fun H Q => r x y H Q) fun B H dz e p h Q q => hr x y dx dy dz B H e p.1.2 p.2 h Q q
theorem ev_un {r : V → Hp → VK → Prop} {g : D → Option D} (hr : RD1 K r g) (ha : EvD K c ta fa) : EvD K c (tUn r ta) (dun g fa) :=
  EvP.bind (relA := Rep K) (tk := fun x _ H Q => r x H Q) mono_true ha fun x dx => EvP.val (t := fun H Q => r x H Q) fun B H dz e p h Q q => hr x dx dz B H e p.2 h Q q
theorem RD2.or {r r' : R2} {g g' : D → D → Option D} (h : RD2 K r g) (h' : RD2 K r' g') : RD2 K (fun x y H Q => r x y H Q ∨ r' x y H Q) (fun x y => match g x y with | some z => some z | none => g' x y) :=
  fun x y dx dy dz B H e rx ry hg Q q => by
    cases eg : g dx dy with
    | some z =>
      simp only [eg] at hg
      cases hg
      exact .inl (h x y dx dy dz B H e rx ry eg Q q)
    | none =>
      simp only [eg] at hg
      exact .inr (h' x y dx dy dz B H e rx ry hg Q q)
theorem pd_bin {op : Operator} {r : R2} {g : D → D → Option D} {a b : Expr} {pos : Pos} (ho : OpR X (binaryOp op) r) (hr : RD2 X.K r g) (ha : PD X c a ta fa) (hb : PD X c b tb fb) : PD X c (.BinOp a op b pos) (tOp r ta tb) (dop g fa fb) :=
  ⟨pe_op ho ha.pe hb.pe, ev_op hr ha.ev hb.ev⟩
theorem pd_cmp {op : CmpOp} {r : R2} {g : D → D → Option D} {a b : Expr} {pos : Pos} (ho : OpR X (compareOp op) r) (hr : RD2 X.K r g) (ha : PD X c a ta fa) (hb : PD X c b tb fb) (hm : behindInMarks op b = false := by first | exact nomark _ | rfl) : PD X c (.Compare a [op] [b] pos) (tOp r ta tb) (dop g fa fb) :=
  ⟨pe_cmpR ho ha.pe hb.pe hm, ev_op hr ha.ev hb.ev⟩
theorem pd_un {op : UnaryOp} {r : V → Hp → VK → Prop} {g : D → Option D} {a : Expr} {pos : Pos} (ho : UnR X (unaryOp op) r) (hr : RD1 X.K r g) (ha : PD X c a ta fa) : PD X c (.UnaryOp op a pos) (tUn r ta) (dun g fa) := ⟨pe_un ho ha.pe, ev_un hr ha.ev⟩
end

/-! ### tests -/
def asB : D → Option Bool
  | .bool b => some b
  | _ => none
def dtest (fa : DM D) : DM Bool := fa.bind fun d => DM.opt (asB d)
def dand (fa fb : DM Bool) : DM Bool := fa.bind fun b => if b = true then fb else DM.pure false
def dor (fa fb : DM Bool) : DM Bool := fa.bind fun b => if b = true then DM.pure true else fb
def dnot (fa : DM Bool) : DM Bool := fa.bind fun b => DM.pure (!b)
def dBool (fa : DM Bool) : DM D := fa.bind fun b => DM.pure (.bool b)
section
variable {X : Cx} {c : Cf} {K : PySem.W.Frag} {ta tb : TE} {fa fb : DM D} {tt tu : TT} {ft fu : DM Bool} {P : Hp → Prop}
theorem asB_ok {B : Hp} {x : V} {d : D} {b : Bool} (r : Rep K B x d) (h : asB d = some b) : x = .bl b := by
  cases r <;> first | (cases h; done) | skip
  cases h
  rfl
theorem ev_test (ha : EvD K c ta fa) : EvT K c (fun σ H Q => ta σ H fun x H' => ∃ k, x = .bl k ∧ Q k H') (dtest fa) :=
  EvP.bind (relA := Rep K) (tk := fun x _ H Q => ∃ k, x = .bl k ∧ Q k H) mono_true ha fun x d => EvP.val (t := fun H Q => ∃ k, x = .bl k ∧ Q k H) fun B H b e p h Q q => ⟨b, asB_ok p.2 h, q b B H (Pu.refl e) rfl⟩
theorem pdt_cmp {op : CmpOp} {r : R2} {g : D → D → Option D} {a b : Expr} {pos : Pos} (ho : OpR X (compareOp op) r) (hr : RD2 X.K r g) (ha : PD X c a ta fa) (hb : PD X c b tb fb) (hm : behindInMarks op b = false := by first | exact nomark _ | rfl) : PDT X c (.Compare a [op] [b] pos) (tTest (tOp r ta tb)) (dtest (dop g fa fb)) :=
  ⟨pt_cmpR ho ha.pe hb.pe hm, ev_test (ev_op hr ha.ev hb.ev)⟩
theorem pdt_val {a : Expr} (ha : PD X c a ta fa) (he : ∀ whole, isTrue a X.env whole = (do let v ← whole; standAt a.pos; holding [v] (truthy v)) := by intro _; rfl) : PDT X c a (tB ta) (dtest fa) := ⟨pt_val ha.pe he, ev_test ha.ev⟩
theorem ev_if0 {α β : Type} {rel : Hp → α → β → Prop} {t : TG0 Bool} {u w : TG0 α} {f : DM Bool} {g h : DM β} (ht : EvP K c P eqR t f) (hP : Mono P) (hu : EvP K c P rel u g) (hw : EvP K c P rel w h) :
    EvP K c P rel (fun σ H Q => t σ H fun b H1 => if b = true then u σ H1 Q else w σ H1 Q) (f.bind fun b => if b = true then g else h) := by
  refine EvP.bind (tk := fun b σ H Q => if b = true then u σ H Q else w σ H Q) hP ht fun x b => ?_
  intro A Z B σ H st r er p hf Q hok hex
  have e : x = b := p.2
  subst e
  cases x with
  | true => exact hu A Z B σ H st r er p.1 hf Q hok hex
  | false => exact hw A Z B σ H st r er p.1 hf Q hok hex
theorem ev_and (h1 : EvT K c tt ft) (h2 : EvT K c tu fu) : EvT K c (tAnd tt tu) (dand ft fu) := ev_if0 (w := fun _ H Q => Q false H) h1 mono_true h2 (EvP.pure fun _ _ => rfl)
theorem ev_or (h1 : EvT K c tt ft) (h2 : EvT K c tu fu) : EvT K c (tOr tt tu) (dor ft fu) := ev_if0 (u := fun _ H Q => Q true H) h1 mono_true (EvP.pure fun _ _ => rfl) h2
theorem ev_not (h1 : EvT K c tt ft) : EvT K c (tNot tt) (dnot ft) := EvP.bind (tk := fun b _ H Q => Q (!b) H) mono_true h1 fun x b => EvP.pure fun B p => by
  have e : x = b := p.2
  show (!x) = (!b)
  rw [e]
/-- and, or: the parts as tests -/
structure PDW (X : Cx) (c : Cf) (e : Expr) (t : TT) (f : DM Bool) : Prop where
  pw : PW X e t
  ev : EvT X.K c t f
theorem PDW.pdt {e : Expr} (h : PDW X c e tt ft) : PDT X c e tt ft := ⟨h.pw.pt, h.ev⟩
variable {a b : Expr} {rest : List Expr} {pos : Pos}
theorem pdw_and1 (ha : PDT X c a tt ft) : PDW X c (.BoolOp .And [a] pos) tt ft := ⟨pw_and1 ha.pt, ha.ev⟩
theorem pdw_or1 (ha : PDT X c a tt ft) : PDW X c (.BoolOp .Or [a] pos) tt ft := ⟨pw_or1 ha.pt, ha.ev⟩
theorem pdw_and (ha : PDT X c a tt ft) (hb : PDW X c (.BoolOp .And (b :: rest) pos) tu fu) : PDW X c (.BoolOp .And (a :: b :: rest) pos) (tAnd tt tu) (dand ft fu) := ⟨pw_and ha.pt hb.pw, ev_and ha.ev hb.ev⟩
theorem pdw_or (ha : PDT X c a tt ft) (hb : PDW X c (.BoolOp .Or (b :: rest) pos) tu fu) : PDW X c (.BoolOp .Or (a :: b :: rest) pos) (tOr tt tu) (dor ft fu) := ⟨pw_or ha.pt hb.pw, ev_or ha.ev hb.ev⟩
theorem pdt_not (ha : PDT X c a tt ft) : PDT X c (.UnaryOp .Not a pos) (tNot tt) (dnot ft) := ⟨pt_not ha.pt, ev_not ha.ev⟩
theorem pd_ifexp {e : Expr} (ht : PDT X c e tt ft) (ha : PD X c a ta fa) (hb : PD X c b tb fb) : PD X c (.IfExp e a b pos) (tIf tt ta tb) (ft.bind fun k => if k = true then fa else fb) := ⟨pe_ifExp ht.pt ha.pe hb.pe, ev_if0 ht.ev mono_true ha.ev hb.ev⟩
/-- and, or, not as values (truths) -/
def dandV (fa fb : DM D) : DM D := (dtest fa).bind fun b => if b = true then fb else DM.pure (.bool false)
def dorV (fa fb : DM D) : DM D := (dtest fa).bind fun b => if b = true then DM.pure (.bool true) else fb
def dnotV (fa : DM D) : DM D := (dtest fa).bind fun b => DM.pure (.bool (!b))
theorem ev_andV (ha : EvD K c ta fa) (hb : EvD K c tb fb) : EvD K c (tAndV ta tb) (dandV fa fb) := by
  intro A Z B σ H st r er p hf Q hok hex
  have h0 := ev_if0 (rel := Rep K) (w := fun _ H Q => Q (.bl false) H) (ev_test ha) mono_true hb (EvP.pure (b := PyData.bool false) fun _ _ => .bl false) A Z B σ H st r er p hf Q hok hex
  exact h0
theorem ev_orV (ha : EvD K c ta fa) (hb : EvD K c tb fb) : EvD K c (tOrV ta tb) (dorV fa fb) := by
  intro A Z B σ H st r er p hf Q hok hex
  exact ev_if0 (rel := Rep K) (u := fun _ H Q => Q (.bl true) H) (ev_test ha) mono_true (EvP.pure (b := PyData.bool true) fun _ _ => .bl true) hb A Z B σ H st r er p hf Q hok hex
theorem ev_notV (ha : EvD K c ta fa) : EvD K c (tNotV ta) (dnotV fa) := by
  intro A Z B σ H st r er p hf Q hok hex
  exact EvP.bind (relC := Rep K) (tk := fun b _ H Q => Q (.bl (!b)) H) mono_true (ev_test ha) (fun x b => EvP.pure (b := PyData.bool (!b)) fun B p => by
    have e : x = b := p.2
    rw [e]
    exact .bl _) A Z B σ H st r er p hf Q hok hex
theorem pd_one {op} (h : PD X c a ta fa) : PD X c (.BoolOp op [a] pos) ta fa := ⟨pe_one h.pe, h.ev⟩
theorem pd_and (ha : PD X c a ta fa) (hb : PD X c (.BoolOp .And (b :: rest) pos) tb fb) : PD X c (.BoolOp .And (a :: b :: rest) pos) (tAndV ta tb) (dandV fa fb) := ⟨pe_and ha.pe hb.pe, ev_andV ha.ev hb.ev⟩
theorem pd_or (ha : PD X c a ta fa) (hb : PD X c (.BoolOp .Or (b :: rest) pos) tb fb) : PD X c (.BoolOp .Or (a :: b :: rest) pos) (tOrV ta tb) (dorV fa fb) := ⟨pe_or ha.pe hb.pe, ev_orV ha.ev hb.ev⟩
theorem pd_not (ha : PD X c a ta fa) : PD X c (.UnaryOp .Not a pos) (tNotV ta) (dnotV fa) := ⟨pe_not ha.pe, ev_notV ha.ev⟩
end
end DR

set_option maxRecDepth 100000
set_option maxHeartbeats 1000000
namespace DR
open PySem PySem.Spec L2
open PyProof.Rows hiding St
open Evl (Ex ex_l ex_t ex_rd)

/-! ### inversions -/
section
variable {K : PySem.W.Frag} {B : Hp} {v : V}
theorem rep_int {i : Int} (h : Rep K B v (.int i)) : v = .int i := by
  cases h
  rfl
theorem rep_str {i : Str} (h : Rep K B v (.str i)) : v = .str i := by
  cases h
  rfl
theorem rep_bl {i : Bool} (h : Rep K B v (.bool i)) : v = .bl i := by
  cases h
  rfl
theorem rep_non (h : Rep K B v .none) : v = .non := by
  cases h
  rfl
theorem rep_lst {ds : List D} (h : Rep K B v (.list ds)) : ∃ a xs, v = .ref a ∧ Rd B a (.lst xs) ∧ RepA K B xs ds := by
  cases h with
  | lst h a => exact ⟨_, _, rfl, h, a⟩
theorem rep_tup {ds : List D} (h : Rep K B v (.tuple ds)) : ∃ a xs, v = .ref a ∧ SqT K B a xs ∧ RepA K B xs ds := by
  cases h with
  | tup h a => exact ⟨_, _, rfl, h, a⟩
theorem repA_ints_of : ∀ {vs : List V} {ns : List Int}, RepA K B vs (ns.map PyData.int) → vs = ns.map V.int
  | _, [], .nil => rfl
  | _, n :: ns, .cons h t => by
    rw [rep_int h, repA_ints_of t]
    rfl
theorem repA_strs_of : ∀ {vs : List V} {ns : List Str}, RepA K B vs (ns.map PyData.str) → vs = ns.map V.str
  | _, [], .nil => rfl
  | _, n :: ns, .cons h t => by
    rw [rep_str h, repA_strs_of t]
    rfl
theorem repA_bls_of : ∀ {vs : List V} {ns : List Bool}, RepA K B vs (ns.map PyData.bool) → vs = ns.map V.bl
  | _, [], .nil => rfl
  | _, n :: ns, .cons h t => by
    rw [rep_bl h, repA_bls_of t]
    rfl
end
/-! all of a list of data ints, texts, truths -/
def intsD : List D → Option (List Int)
  | [] => some []
  | .int i :: r => (intsD r).map (i :: ·)
  | _ => none
def strsD : List D → Option (List Str)
  | [] => some []
  | .str i :: r => (strsD r).map (i :: ·)
  | _ => none
def blsD : List D → Option (List Bool)
  | [] => some []
  | .bool i :: r => (blsD r).map (i :: ·)
  | _ => none
theorem intsD_eq : ∀ {ds : List D} {ns : List Int}, intsD ds = some ns → ds = ns.map PyData.int
  | [], ns, h => by
    cases h
    rfl
  | d :: r, ns, h => by
    cases d <;> first | (cases h; done) | skip
    rename_i i
    unfold intsD at h
    cases e : intsD r with
    | none =>
      rw [e] at h
      cases h
    | some ms =>
      rw [e] at h
      cases h
      rw [intsD_eq e]
      rfl
theorem strsD_eq : ∀ {ds : List D} {ns : List Str}, strsD ds = some ns → ds = ns.map PyData.str
  | [], ns, h => by
    cases h
    rfl
  | d :: r, ns, h => by
    cases d <;> first | (cases h; done) | skip
    rename_i i
    unfold strsD at h
    cases e : strsD r with
    | none =>
      rw [e] at h
      cases h
    | some ms =>
      rw [e] at h
      cases h
      rw [strsD_eq e]
      rfl
theorem blsD_eq : ∀ {ds : List D} {ns : List Bool}, blsD ds = some ns → ds = ns.map PyData.bool
  | [], ns, h => by
    cases h
    rfl
  | d :: r, ns, h => by
    cases d <;> first | (cases h; done) | skip
    rename_i i
    unfold blsD at h
    cases e : blsD r with
    | none =>
      rw [e] at h
      cases h
    | some ms =>
      rw [e] at h
      cases h
      rw [blsD_eq e]
      rfl
theorem intsD_map : ∀ (ns : List Int), intsD (ns.map PyData.int) = some ns
  | [] => rfl
  | n :: ns => by
    show (intsD (ns.map PyData.int)).map (n :: ·) = some (n :: ns)
    rw [intsD_map ns]
    rfl
theorem strsD_map : ∀ (ns : List Str), strsD (ns.map PyData.str) = some ns
  | [] => rfl
  | n :: ns => by
    show (strsD (ns.map PyData.str)).map (n :: ·) = some (n :: ns)
    rw [strsD_map ns]
    rfl
theorem blsD_map : ∀ (ns : List Bool), blsD (ns.map PyData.bool) = some ns
  | [] => rfl
  | n :: ns => by
    show (blsD (ns.map PyData.bool)).map (n :: ·) = some (n :: ns)
    rw [blsD_map ns]
    rfl

/-! ### operators by values -/
/-- a list that is read -/
theorem rd_lstM {X : Cx} {pins : List (Addr × Obj)} {σ : L2.St} {H : Hp} {s : Shared} {l : Addr} {xs : List V} (I : Inv X pins σ H s) (h : Rd H l (.lst xs)) : xs.length ≤ sizeLine ∧ ∃ (its : List Value) (n : Nat), Vals xs its ∧ xs.length = its.length ∧ s.heap.get? l = some { cls := .type "list", data := .seq its.toArray n } := by
  obtain ⟨z, its, n, r, e⟩ := h.ok I.hok
  exact ⟨z, its, n, r, r.length, e⟩
def rCatL : R2 := fun x y H Q => ∃ l b xs zs, x = .ref l ∧ y = .ref b ∧ Rd H l (.lst xs) ∧ Rd H b (.lst zs) ∧ xs.length + zs.length ≤ sizeLine ∧ ∀ p, H p = none → Q (.ref p) (upd H p (.lst (xs ++ zs)))
theorem op_catL {X : Cx} : OpR X (binaryOp .Add) rCatL := by
  intro pins s σ H x y v u Q I rx ry h
  obtain ⟨l, b, xs, zs, rfl, rfl, hH, hB, hz, q⟩ := h
  cases rx
  cases ry
  obtain ⟨z, its, n, r, hl, e⟩ := rd_lstM I hH
  obtain ⟨z2, its2, n2, r2, hl2, e2⟩ := rd_lstM I hB
  refine PySem.P.add_list e e2 ?_ (by rw [List.size_toArray, List.size_toArray]; omega)
  have ea : its.toArray ++ its2.toArray = (its ++ its2).toArray := by simp
  rw [ea]
  exact ⟨.ref _, _, I.lnew (t' := s.toks) (r.append r2) (by rw [List.length_append]; omega), rfl, q _ I.fresh⟩
abbrev rAddI : R2 := rI0 fun i j => .int (i + j)
abbrev rAddS : R2 := fun x y H Q => ∃ i j, x = .str i ∧ y = .str j ∧ i.length + j.length ≤ sizeLine ∧ Q (.str (i ++ j)) H
def rAddA (K : PySem.W.Frag) : R2 := fun x y H Q => rAddI x y H Q ∨ (rAddS x y H Q ∨ (rCatL x y H Q ∨ rCatA K x y H Q))
theorem op_addA {X : Cx} : OpR X (binaryOp .Add) (rAddA X.K) := op_add.or (op_add_str.or (op_catL.or op_catA))
def addD : D → D → Option D
  | .int i, .int j => some (.int (i + j))
  | .str i, .str j => if i.length + j.length ≤ sizeLine then some (.str (i ++ j)) else none
  | .list xs, .list ys => if xs.length + ys.length ≤ sizeLine then some (.list (xs ++ ys)) else none
  | .tuple xs, .tuple ys => if xs.length + ys.length ≤ sizeLine then some (.tuple (xs ++ ys)) else none
  | _, _ => none
theorem opt_if {α : Type} {p : Prop} [Decidable p] {a z : α} (h : (if p then some a else none) = some z) : p ∧ a = z := by
  by_cases hp : p
  · rw [if_pos hp] at h
    exact ⟨hp, Option.some.inj h⟩
  · rw [if_neg hp] at h
    cases h
section
variable {K : PySem.W.Frag}
theorem rd2_add : RD2 K (rAddA K) addD := by
  intro x y dx dy dz B H e rx ry hg Q q
  cases dx <;> cases dy <;> first | (cases hg; done) | skip
  · cases hg
    exact .inl ⟨_, _, rep_int rx, rep_int ry, q _ B H (Pu.refl e) (.int _)⟩
  · rename_i i j
    simp only [addD] at hg
    obtain ⟨hl, rfl⟩ := opt_if hg
    exact .inr (.inl ⟨i, j, rep_str rx, rep_str ry, hl, q _ B H (Pu.refl e) (.str _)⟩)
  · rename_i xs ys
    simp only [addD] at hg
    obtain ⟨hl, rfl⟩ := opt_if hg
    obtain ⟨a, vs, rfl, ha, ra⟩ := rep_lst rx
    obtain ⟨b, ws, rfl, hb, rb⟩ := rep_lst ry
    refine .inr (.inr (.inl ⟨a, b, vs, ws, rfl, rfl, ex_rd e ha, ex_rd e hb, by rw [ra.length, rb.length]; exact hl, fun p hp => ?_⟩))
    have pu := Pu.mk1 (o := .lst (vs ++ ws)) e hp
    exact q _ _ _ pu (.lst (.inl upd_same) ((ra.append rb).mono pu.ext))
  · rename_i xs ys
    simp only [addD] at hg
    obtain ⟨hl, rfl⟩ := opt_if hg
    obtain ⟨a, vs, rfl, ha, ra⟩ := rep_tup rx
    obtain ⟨b, ws, rfl, hb, rb⟩ := rep_tup ry
    refine .inr (.inr (.inr ⟨a, b, vs, ws, rfl, rfl, ex_t e ha, ex_t e hb, by rw [ra.length, rb.length]; exact hl, fun h0 => ?_, fun h0 h1 => ?_, fun h0 h1 p hp => ?_⟩))
    · subst h0
      cases ra
      exact q _ B H (Pu.refl e) (.tup hb rb)
    · subst h1
      cases rb
      rw [List.append_nil] at q
      exact q _ B H (Pu.refl e) (.tup ha ra)
    · have pu := Pu.mk1 (o := .tup (vs ++ ws)) e hp
      exact q _ _ _ pu (.tup (SqT.of upd_same) ((ra.append rb).mono pu.ext))
def subD : D → D → Option D
  | .int i, .int j => some (.int (i - j))
  | _, _ => none
theorem rd2_sub : RD2 K (rI0 fun i j => .int (i - j)) subD := by
  intro x y dx dy dz B H e rx ry hg Q q
  cases dx <;> cases dy <;> first | (cases hg; done) | skip
  cases hg
  exact ⟨_, _, rep_int rx, rep_int ry, q _ B H (Pu.refl e) (.int _)⟩
/-- n * k of ints, a text or a list times an int -/
def rMulS : R2 := fun x y H Q => ∃ (z : Str) (n : Int), x = .str z ∧ y = .int n ∧ n ≤ 100000 ∧ -100000 ≤ n ∧ z.length ≤ 100 ∧ Q (.str ⟨(List.replicate n.toNat z.cps).foldl (· ++ ·) #[]⟩) H
end
theorem rep_nil (n : Nat) : (List.replicate n (#[] : Array Nat)).foldl (· ++ ·) #[] = #[] := by
  induction n with
  | zero => rfl
  | succ n ih =>
    rw [List.replicate_succ, List.foldl_cons]
    exact ih
theorem op_mulS {X : Cx} : OpR X (binaryOp .Mult) rMulS := by
  intro pins s σ H x y v u Q I rx ry h
  obtain ⟨z, n, rfl, rfl, h1, h2, hz, q⟩ := h
  obtain ⟨t, rfl⟩ := rx
  obtain ⟨t', rfl⟩ := ry
  have hb1 : z.length * n.toNat ≤ 100 * 100000 := Nat.mul_le_mul hz (by omega)
  refine PySem.P.mul_str (by rw [decide_eq_false (by omega), decide_eq_false (by omega)]; rfl) (fun h3 _ => ?_) (fun h3 _ => ?_) ?_
  · have h4 : (0 : Int) < n := by omega
    have h5 : (100 : Int) ≤ (2 ^ 63 - 1) / n := by
      rw [Int.le_ediv_iff_mul_le h4]
      omega
    omega
  · unfold Builtin.Str.tooLong
    refine decide_eq_false ?_
    rw [sizeLine_eq]
    omega
  · split
    · rename_i h3
      have e0 : n.toNat = 0 := by omega
      rw [e0] at q
      exact ⟨by decide, ⟨.str _, H, I.tok _, ⟨_, rfl⟩, q⟩⟩
    · split
      · rename_i h3 h4
        rw [Bool.or_eq_true] at h4
        have e1 : (⟨(List.replicate n.toNat z.cps).foldl (· ++ ·) #[]⟩ : Str) = z := by
          rcases h4 with h4 | h4
          · have e2 : n = 1 := eq_of_beq h4
            subst e2
            show (⟨#[] ++ z.cps⟩ : Str) = z
            rw [Array.empty_append]
          · have e2 : z.length = 0 := eq_of_beq h4
            have e3 : z.cps = #[] := Array.eq_empty_of_size_eq_zero e2
            rw [e3, rep_nil]
            cases z
            rw [← e3]
        rw [e1] at q
        exact ⟨.str _, H, I, ⟨_, rfl⟩, q⟩
      · refine ⟨?_, ⟨.str _, H, I.tok _, ⟨_, rfl⟩, q⟩⟩
        have : ∀ (k : Nat) (acc : Array Nat), ((List.replicate k z.cps).foldl (· ++ ·) acc).size = acc.size + k * z.cps.size := by
          intro k
          induction k with
          | zero => intro acc; simp
          | succ k ih =>
            intro acc
            rw [List.replicate_succ, List.foldl_cons, ih, Array.size_append, Nat.add_mul]
            omega
        show ((List.replicate n.toNat z.cps).foldl (· ++ ·) #[]).size ≤ sizeLine
        rw [this, sizeLine_eq]
        have e6 : n.toNat * z.cps.size = z.length * n.toNat := Nat.mul_comm _ _
        simp only [Array.size_empty]
        omega
end DR

set_option maxRecDepth 100000
set_option maxHeartbeats 1000000
namespace DR
open PySem PySem.Spec L2
open PyProof.Rows hiding St
open Evl (Ex ex_l ex_t ex_rd)

/-! ### products, quotients, powers -/
def rRepL : R2 := fun x y H Q => ∃ l k xs, x = .ref l ∧ y = .int k ∧ Rd H l (.lst xs) ∧ -(2 ^ 63) ≤ k ∧ k < 2 ^ 63 ∧ xs.length * k.toNat ≤ sizeLine ∧
  ∀ p, H p = none → Q (.ref p) (upd H p (.lst (List.replicate k.toNat xs).flatten))
theorem op_repL {X : Cx} : OpR X (binaryOp .Mult) rRepL := by
  intro pins s σ H x y v u Q I rx ry h
  obtain ⟨l, k, xs, rfl, rfl, hH, h1, h2, hz, q⟩ := h
  cases rx
  obtain ⟨t, rfl⟩ := ry
  obtain ⟨z, its, n, r, hl, e⟩ := rd_lstM I hH
  have hlen : its.toArray.size * k.toNat ≤ sizeLine := by rw [List.size_toArray, ← hl]; exact hz
  have hcap : ¬ its.toArray.size * k.toNat > (2 ^ 63 - 1) / 8 := by
    have : (sizeLine : Nat) ≤ (2 ^ 63 - 1) / 8 := by decide
    omega
  have hfit : ¬ (!Builtin.List.listFitsIndex k) = true := by
    rw [fitsIndex_both h1 h2]
    exact Bool.false_ne_true
  have hlong : ¬ Builtin.List.listTooLong (its.toArray.size * k.toNat) = true := by
    rw [notLongL hlen]
    exact Bool.false_ne_true
  have hnew : List.foldl (fun x1 x2 => x1 ++ x2) #[] (List.replicate (if its.toArray.isEmpty = true then 0 else k.toNat) its.toArray) = (List.replicate k.toNat its).flatten.toArray := by
    have f0 : ∀ m : Nat, List.foldl (fun x1 x2 => x1 ++ x2) #[] (List.replicate m its.toArray) = (List.replicate m its).flatten.toArray := fun m => by
      have := foldl_rep its m []
      rw [List.nil_append] at this
      exact this
    rw [f0]
    cases its with
    | nil => simp
    | cons a r' => rw [if_neg (by simp)]
  refine wpAny_binaryOp_repeat_ref (T := "list") (U := "int") (by decide) ⟨_, e, rfl⟩ (fun s' => typeIs_int s' k t) noFill_list_mul F.fills_int_mul F.slot_int_rmul repeat_list F.slot_int_index.lookup
    (call_meets F.slot_int_rmul (typeIs_int s k t) F.entry_int_rmul (F.args_int_rmul_2 _ _) (int___rmul___int_list k t l its.toArray n)
      ⟨e, rfl, ⟨_, e, rfl⟩, call_meets F.slot_list_mul ⟨_, e, rfl⟩ F.entry_list_mul (F.args_list_mul_2 _ _) (AutoListH.list___mul___list_int_3 l its.toArray n k t hfit hcap hlong) ⟨e, ?_⟩⟩)
  rw [hnew]
  exact ⟨.ref _, _, I.lnew (t' := s.toks) (r.rep k.toNat) (by rw [PyProof.Rows.lm_len_rep_flat, Nat.mul_comm]; exact hz), rfl, q _ I.fresh⟩
def rMulA : R2 := fun x y H Q => rI CMul (fun i j => .int (i * j)) x y H Q ∨ (rMulS x y H Q ∨ rRepL x y H Q)
theorem op_mulA {X : Cx} : OpR X (binaryOp .Mult) rMulA := op_mul.or (op_mulS.or op_repL)
def strTimes (z : Str) (n : Int) : Str := ⟨(List.replicate n.toNat z.cps).foldl (· ++ ·) #[]⟩
def mulD : D → D → Option D
  | .int i, .int j => if (-18446744073709551616 < i ∧ i < 18446744073709551616) ∨ (-18446744073709551616 < j ∧ j < 18446744073709551616) then some (.int (i * j)) else none
  | .str z, .int n => if n ≤ 100000 ∧ -100000 ≤ n ∧ z.length ≤ 100 then some (.str (strTimes z n)) else none
  | .list xs, .int k => if -100000 ≤ k ∧ k ≤ 100000 ∧ xs.length ≤ 100 then some (.list (List.replicate k.toNat xs).flatten) else none
  | _, _ => none
def modD : D → D → Option D
  | .int i, .int j => if 0 < j then some (.int (i % j)) else none
  | _, _ => none
def fdivD : D → D → Option D
  | .int i, .int j => if 0 < j ∧ j < 18446744073709551616 then some (.int (i / j)) else none
  | _, _ => none
def powD : D → D → Option D
  | .int i, .int j => if 0 ≤ j ∧ j ≤ 1000 ∧ -18446744073709551616 < i ∧ i < 18446744073709551616 then some (.int (i ^ j.toNat)) else none
  | _, _ => none
def negD : D → Option D
  | .int i => some (.int (-i))
  | _ => none
section
variable {K : PySem.W.Frag}
theorem rd2_mul : RD2 K rMulA mulD := by
  intro x y dx dy dz B H e rx ry hg Q q
  cases dx <;> cases dy <;> first | (cases hg; done) | skip
  · rename_i i j
    simp only [mulD] at hg
    obtain ⟨hl, rfl⟩ := opt_if hg
    refine .inl ⟨_, _, rep_int rx, rep_int ry, ?_, q _ B H (Pu.refl e) (.int _)⟩
    unfold CMul
    omega
  · rename_i z n
    simp only [mulD] at hg
    obtain ⟨hl, rfl⟩ := opt_if hg
    exact .inr (.inl ⟨z, n, rep_str rx, rep_int ry, hl.1, hl.2.1, hl.2.2, q _ B H (Pu.refl e) (.str _)⟩)
  · rename_i xs k
    simp only [mulD] at hg
    obtain ⟨hl, rfl⟩ := opt_if hg
    obtain ⟨a, vs, rfl, ha, ra⟩ := rep_lst rx
    have hb1 : vs.length * k.toNat ≤ 100 * 100000 := Nat.mul_le_mul (by rw [ra.length]; exact hl.2.2) (by omega)
    refine .inr (.inr ⟨a, k, vs, rfl, rep_int ry, ex_rd e ha, by omega, by omega, by rw [sizeLine_eq]; omega, fun p hp => ?_⟩)
    have pu := Pu.mk1 (o := .lst (List.replicate k.toNat vs).flatten) e hp
    exact q _ _ _ pu (.lst (.inl upd_same) ((ra.rep _).mono pu.ext))
theorem rd2_mod : RD2 K (rI (fun _ j => 0 < j) fun i j => .int (i % j)) modD := by
  intro x y dx dy dz B H e rx ry hg Q q
  cases dx <;> cases dy <;> first | (cases hg; done) | skip
  simp only [modD] at hg
  obtain ⟨hl, rfl⟩ := opt_if hg
  exact ⟨_, _, rep_int rx, rep_int ry, hl, q _ B H (Pu.refl e) (.int _)⟩
theorem rd2_fdiv : RD2 K (rI CDivW fun i j => .int (i / j)) fdivD := by
  intro x y dx dy dz B H e rx ry hg Q q
  cases dx <;> cases dy <;> first | (cases hg; done) | skip
  simp only [fdivD] at hg
  obtain ⟨hl, rfl⟩ := opt_if hg
  exact ⟨_, _, rep_int rx, rep_int ry, wide_div (b := 64) hl.1 (by omega) (by decide) (by decide), q _ B H (Pu.refl e) (.int _)⟩
theorem rd2_pow : RD2 K (rI CPow fun i j => .int (i ^ j.toNat)) powD := by
  intro x y dx dy dz B H e rx ry hg Q q
  cases dx <;> cases dy <;> first | (cases hg; done) | skip
  simp only [powD] at hg
  obtain ⟨hl, rfl⟩ := opt_if hg
  refine ⟨_, _, rep_int rx, rep_int ry, ?_, q _ B H (Pu.refl e) (.int _)⟩
  unfold CPow
  omega
theorem rd1_neg : RD1 K (rU fun i => .int (-i)) negD := by
  intro x dx dz B H e rx hg Q q
  cases dx <;> first | (cases hg; done) | skip
  cases hg
  exact ⟨_, rep_int rx, q _ B H (Pu.refl e) (.int _)⟩
end

/-! ### order -/
abbrev rCmpI (p : Int → Int → Bool) : R2 := rI0 fun i j => .bl (p i j)
abbrev rCmpS (p : Str → Str → Bool) : R2 := fun x y H Q => ∃ i j, x = .str i ∧ y = .str j ∧ Q (.bl (p i j)) H
def ltS (i j : Str) : Bool := decide (i.cps.toList < j.cps.toList)
def cmpD (p : Int → Int → Bool) (r : Str → Str → Bool) : D → D → Option D
  | .int i, .int j => some (.bool (p i j))
  | .str i, .str j => some (.bool (r i j))
  | _, _ => none
def ltD : D → D → Option D := cmpD (fun i j => decide (i < j)) ltS
def leD : D → D → Option D := cmpD (fun i j => decide (i ≤ j)) fun i j => !ltS j i
def gtD : D → D → Option D := cmpD (fun i j => decide (j < i)) fun i j => ltS j i
def geD : D → D → Option D := cmpD (fun i j => decide (j ≤ i)) fun i j => !ltS i j
theorem rd2_cmp {K : PySem.W.Frag} {p : Int → Int → Bool} {r : Str → Str → Bool} : RD2 K (fun x y H Q => rCmpI p x y H Q ∨ rCmpS r x y H Q) (cmpD p r) := by
  intro x y dx dy dz B H e rx ry hg Q q
  cases dx <;> cases dy <;> first | (cases hg; done) | skip
  · cases hg
    exact .inl ⟨_, _, rep_int rx, rep_int ry, q _ B H (Pu.refl e) (.bl _)⟩
  · cases hg
    exact .inr ⟨_, _, rep_str rx, rep_str ry, q _ B H (Pu.refl e) (.bl _)⟩
section
variable {X : Cx}
abbrev rLtA : R2 := fun x y H Q => rCmpI (fun i j => decide (i < j)) x y H Q ∨ rCmpS ltS x y H Q
abbrev rLeA : R2 := fun x y H Q => rCmpI (fun i j => decide (i ≤ j)) x y H Q ∨ rCmpS (fun i j => !ltS j i) x y H Q
abbrev rGtA : R2 := fun x y H Q => rCmpI (fun i j => decide (j < i)) x y H Q ∨ rCmpS (fun i j => ltS j i) x y H Q
abbrev rGeA : R2 := fun x y H Q => rCmpI (fun i j => decide (j ≤ i)) x y H Q ∨ rCmpS (fun i j => !ltS i j) x y H Q
theorem op_ltA : OpR X (compareOp .Lt) rLtA := op_lt.or op_lt_str
theorem op_leA : OpR X (compareOp .LtE) rLeA := op_le.or op_le_str
theorem op_gtA : OpR X (compareOp .Gt) rGtA := op_gt.or op_gt_str
theorem op_geA : OpR X (compareOp .GtE) rGeA := op_ge.or op_ge_str
end

/-! ### equality -/
/-- plain kinds that == compares by a rule of their own -/
def scD : D → D → Bool
  | .none, .none => true | .none, .int _ => true | .int _, .none => true | .none, .bool _ => true | .bool _, .none => true | .none, .str _ => true | .str _, .none => true
  | .int _, .int _ => true | .bool _, .bool _ => true | .str _, .str _ => true
  | .int _, .str _ => true | .str _, .int _ => true | .bool _, .str _ => true | .str _, .bool _ => true
  | _, _ => false
def eqB (d e : D) : Option Bool := if scD d e = true ∨ (SeqAt.shaped d = true ∧ SeqAt.shaped e = true) then some (PyData.eqv d e) else none
def eqD (d e : D) : Option D := (eqB d e).map PyData.bool
def neD (d e : D) : Option D := (eqB d e).map fun b => .bool (!b)
mutual
theorem Rep.dp {K : PySem.W.Frag} {B : Hp} : ∀ {v : V} {d : D}, d.canLay0 = true → Rep K B v d → Dp K B v d
  | _, _, _, .non => .non
  | _, _, _, .bl b => .bl b
  | _, _, _, .int i => .int i
  | _, _, _, .str x => .str x
  | _, _, h, .lst r a => .lst (.inl r) (RepA.dp (by simpa [PyData.canLay0] using h) a)
  | _, _, h, .tup r a => .tup r (RepA.dp (by simpa [PyData.canLay0] using h) a)
  | _, _, h, .dct _ _ _ => nomatch h
theorem RepA.dp {K : PySem.W.Frag} {B : Hp} : ∀ {vs : List V} {ds : List D}, PyData.canLayAll0 ds = true → RepA K B vs ds → DpAll K B vs ds
  | _, _, _, .nil => .nil
  | _, _, h, .cons r a => .cons (Rep.dp (by simp only [PyData.canLayAll0, Bool.and_eq_true] at h; exact h.1) r) (RepA.dp (by simp only [PyData.canLayAll0, Bool.and_eq_true] at h; exact h.2) a)
end
theorem sc_eq {K : PySem.W.Frag} {B : Hp} {x y : V} {dx dy : D} (rx : Rep K B x dx) (ry : Rep K B y dy) (h : scD dx dy = true) : scal x y = true ∧ decide (x = y) = PyData.eqv dx dy := by
  cases rx <;> cases ry <;> first
    | exact absurd h Bool.false_ne_true
    | exact ⟨rfl, by rw [PyData.eqv]; exact dec_bl⟩
    | exact ⟨rfl, by rw [PyData.eqv]; exact dec_int⟩
    | exact ⟨rfl, by rw [PyData.eqv]; exact dec_str⟩
    | exact ⟨rfl, by simp [PyData.eqv]⟩
def rEqA (K : PySem.W.Frag) : R2 := fun x y H Q => rEq x y H Q ∨ rEqD K x y H Q
def rNeA (K : PySem.W.Frag) : R2 := fun x y H Q => rNe x y H Q ∨ rNeD K x y H Q
theorem op_eqA {X : Cx} (hu : X.A.units + 64 < cLine) : OpR X (compareOp .Eq) (rEqA X.K) := op_eq.or (op_eqD hu)
theorem op_neA {X : Cx} (hu : X.A.units + 64 < cLine) : OpR X (compareOp .NotEq) (rNeA X.K) := op_ne.or (op_neD hu)
section
variable {K : PySem.W.Frag}
theorem eqB_cases {d e : D} {b : Bool} (h : eqB d e = some b) : b = PyData.eqv d e ∧ (scD d e = true ∨ (SeqAt.shaped d = true ∧ SeqAt.shaped e = true)) := by
  obtain ⟨h1, rfl⟩ := opt_if h
  exact ⟨rfl, h1⟩
theorem dp_of {B H : Hp} (e : Ex B H) {x : V} {d : D} (r : Rep K B x d) (s : SeqAt.shaped d = true) : Dp K H x d := (r.mono e).dp (SeqAt.canLay_of_shaped s)
theorem rd2_eq : RD2 K (rEqA K) eqD := by
  intro x y dx dy dz B H e rx ry hg Q q
  obtain ⟨b, hb, rfl⟩ := Option.map_eq_some_iff.mp hg
  obtain ⟨rfl, h | ⟨h1, h2⟩⟩ := eqB_cases hb
  · obtain ⟨s1, s2⟩ := sc_eq rx ry h
    refine .inl ⟨s1, ?_⟩
    rw [s2]
    exact q _ B H (Pu.refl e) (.bl _)
  · exact .inr ⟨dx, dy, dp_of e rx h1, dp_of e ry h2, h1, h2, q _ B H (Pu.refl e) (.bl _)⟩
theorem rd2_ne : RD2 K (rNeA K) neD := by
  intro x y dx dy dz B H e rx ry hg Q q
  obtain ⟨b, hb, rfl⟩ := Option.map_eq_some_iff.mp hg
  obtain ⟨rfl, h | ⟨h1, h2⟩⟩ := eqB_cases hb
  · obtain ⟨s1, s2⟩ := sc_eq rx ry h
    refine .inl ⟨s1, ?_⟩
    rw [s2]
    exact q _ B H (Pu.refl e) (.bl _)
  · exact .inr ⟨dx, dy, dp_of e rx h1, dp_of e ry h2, h1, h2, q _ B H (Pu.refl e) (.bl _)⟩
end

/-! ### in, not in -/
def plD : D → Bool
  | .none => true
  | .bool _ => true
  | .int _ => true
  | .str _ => true
  | _ => false
theorem pl_flatV {K : PySem.W.Frag} {B : Hp} {x : V} {d : D} (r : Rep K B x d) (h : plD d = true) : flatV x = true := by
  cases r <;> first | rfl | exact absurd h Bool.false_ne_true
theorem pl_eqV {K : PySem.W.Frag} {B : Hp} {x y : V} {d e : D} (r : Rep K B x d) (s : Rep K B y e) (h : plD d = true) (h2 : plD e = true) : eqV x y = PyData.eqv d e := by
  cases r <;> cases s <;> first | exact absurd h Bool.false_ne_true | exact absurd h2 Bool.false_ne_true | simp [eqV, PyData.eqv]
theorem pl_all {K : PySem.W.Frag} {B : Hp} : ∀ {xs : List V} {ds : List D}, RepA K B xs ds → ds.all plD = true → xs.all flatV = true
  | _, _, .nil, _ => rfl
  | _, _, .cons r t, h => by
    rw [List.all_cons, Bool.and_eq_true] at h
    rw [List.all_cons, pl_flatV r h.1, pl_all t h.2]
    rfl
theorem pl_any {K : PySem.W.Frag} {B : Hp} {x : V} {d : D} (r : Rep K B x d) (hd : plD d = true) : ∀ {xs : List V} {ds : List D}, RepA K B xs ds → ds.all plD = true → inV x xs = ds.any fun z => PyData.eqv z d
  | _, _, .nil, _ => rfl
  | _, _, .cons s t, h => by
    rw [List.all_cons, Bool.and_eq_true] at h
    have e2 := pl_any r hd t h.2
    unfold inV at e2 ⊢
    rw [List.any_cons, List.any_cons, e2, pl_eqV s r h.1 hd]
def inB : D → D → Option Bool
  | d, .list ds => if (plD d = true ∧ ds.all plD = true) ∨ (SeqAt.shaped d = true ∧ SeqAt.shaped (.list ds) = true) then some (ds.any fun z => PyData.eqv z d) else none
  | d, .tuple ds => if plD d = true ∧ ds.all plD = true then some (ds.any fun z => PyData.eqv z d) else none
  | .str c, .str z => if c.length = 1 then some (decide (c.cps.getD 0 0 ∈ z.cps.toList)) else none
  | _, _ => none
def inD (d e : D) : Option D := (inB d e).map PyData.bool
def notInD (d e : D) : Option D := (inB d e).map fun b => .bool (!b)
abbrev rInSign : R2 := fun x y H Q => ∃ (c : Nat) (z : Str), x = .str ⟨#[c]⟩ ∧ y = .str z ∧ Q (.bl (decide (c ∈ z.cps.toList))) H
abbrev rNotInSign : R2 := fun x y H Q => ∃ (c : Nat) (z : Str), x = .str ⟨#[c]⟩ ∧ y = .str z ∧ Q (.bl (!decide (c ∈ z.cps.toList))) H
def rInA (K : PySem.W.Frag) : R2 := fun x y H Q => rIn K false x y H Q ∨ (rInSign x y H Q ∨ rInD K x y H Q)
def rNotInA (K : PySem.W.Frag) : R2 := fun x y H Q => rIn K true x y H Q ∨ (rNotInSign x y H Q ∨ rNotInD K x y H Q)
theorem op_inA {X : Cx} (hu : X.A.units + 65 < cLine) : OpR X (compareOp .In) (rInA X.K) := op_in_seq.or (op_in_sign.or (op_inD hu))
theorem op_notInA {X : Cx} (hu : X.A.units + 65 < cLine) : OpR X (compareOp .NotIn) (rNotInA X.K) := op_notIn_seq.or (op_notIn_sign.or (op_notInD hu))
theorem sign_of {c : Str} (h : c.length = 1) : c = ⟨#[c.cps.getD 0 0]⟩ := by
  obtain ⟨a⟩ := c
  have e : a.size = 1 := h
  have e2 : a = #[a.getD 0 0] := by
    refine Array.ext (by simp [e]) fun i h1 h2 => ?_
    have e3 : i = 0 := by omega
    subst e3
    simp [Array.getD, e]
  show (⟨a⟩ : Str) = ⟨#[a.getD 0 0]⟩
  rw [← e2]
section
variable {K : PySem.W.Frag}
theorem rd2_in : RD2 K (rInA K) inD := by
  intro x y dx dy dz B H e rx ry hg Q q
  obtain ⟨b, hb, rfl⟩ := Option.map_eq_some_iff.mp hg
  cases dy with
  | list ds =>
    have hb1 : (if (plD dx = true ∧ ds.all plD = true) ∨ (SeqAt.shaped dx = true ∧ SeqAt.shaped (.list ds) = true) then some (ds.any fun z => PyData.eqv z dx) else none) = some b := by
      cases dx <;> exact hb
    obtain ⟨h | ⟨h1, h2⟩, rfl⟩ := opt_if hb1
    · obtain ⟨a, vs, rfl, ha, ra⟩ := rep_lst ry
      refine .inl ⟨a, vs, rfl, .inl (.inl (ex_rd e ha)), pl_flatV rx h.1, pl_all ra h.2, ?_⟩
      rw [pl_any rx h.1 ra h.2]
      exact q _ B H (Pu.refl e) (.bl _)
    · exact .inr (.inr ⟨dx, ds, dp_of e rx h1, dp_of e ry h2, h1, h2, q _ B H (Pu.refl e) (.bl _)⟩)
  | tuple ds =>
    have hb1 : (if plD dx = true ∧ ds.all plD = true then some (ds.any fun z => PyData.eqv z dx) else none) = some b := by
      cases dx <;> exact hb
    obtain ⟨h, rfl⟩ := opt_if hb1
    obtain ⟨a, vs, rfl, ha, ra⟩ := rep_tup ry
    refine .inl ⟨a, vs, rfl, .inr (ex_t e ha), pl_flatV rx h.1, pl_all ra h.2, ?_⟩
    rw [pl_any rx h.1 ra h.2]
    exact q _ B H (Pu.refl e) (.bl _)
  | str z =>
    cases dx with
    | str c =>
      obtain ⟨h, rfl⟩ := opt_if (show (if c.length = 1 then some (decide (c.cps.getD 0 0 ∈ z.cps.toList)) else none) = some b from hb)
      exact .inr (.inl ⟨c.cps.getD 0 0, z, (rep_str rx).trans (congrArg V.str (sign_of h)), rep_str ry, q _ B H (Pu.refl e) (.bl _)⟩)
    | _ => cases hb
  | _ => cases dx <;> cases hb
theorem rd2_notIn : RD2 K (rNotInA K) notInD := by
  intro x y dx dy dz B H e rx ry hg Q q
  obtain ⟨b, hb, rfl⟩ := Option.map_eq_some_iff.mp hg
  cases dy with
  | list ds =>
    have hb1 : (if (plD dx = true ∧ ds.all plD = true) ∨ (SeqAt.shaped dx = true ∧ SeqAt.shaped (.list ds) = true) then some (ds.any fun z => PyData.eqv z dx) else none) = some b := by
      cases dx <;> exact hb
    obtain ⟨h | ⟨h1, h2⟩, rfl⟩ := opt_if hb1
    · obtain ⟨a, vs, rfl, ha, ra⟩ := rep_lst ry
      refine .inl ⟨a, vs, rfl, .inl (.inl (ex_rd e ha)), pl_flatV rx h.1, pl_all ra h.2, ?_⟩
      rw [pl_any rx h.1 ra h.2]
      exact q _ B H (Pu.refl e) (.bl _)
    · exact .inr (.inr ⟨dx, ds, dp_of e rx h1, dp_of e ry h2, h1, h2, q _ B H (Pu.refl e) (.bl _)⟩)
  | tuple ds =>
    have hb1 : (if plD dx = true ∧ ds.all plD = true then some (ds.any fun z => PyData.eqv z dx) else none) = some b := by
      cases dx <;> exact hb
    obtain ⟨h, rfl⟩ := opt_if hb1
    obtain ⟨a, vs, rfl, ha, ra⟩ := rep_tup ry
    refine .inl ⟨a, vs, rfl, .inr (ex_t e ha), pl_flatV rx h.1, pl_all ra h.2, ?_⟩
    rw [pl_any rx h.1 ra h.2]
    exact q _ B H (Pu.refl e) (.bl _)
  | str z =>
    cases dx with
    | str c =>
      obtain ⟨h, rfl⟩ := opt_if (show (if c.length = 1 then some (decide (c.cps.getD 0 0 ∈ z.cps.toList)) else none) = some b from hb)
      exact .inr (.inl ⟨c.cps.getD 0 0, z, (rep_str rx).trans (congrArg V.str (sign_of h)), rep_str ry, q _ B H (Pu.refl e) (.bl _)⟩)
    | _ => cases hb
  | _ => cases dx <;> cases hb
end

/-! ### places and slices -/
def ixD : D → D → Option D
  | .list ds, .int i => atI ds i
  | .tuple ds, .int i => atI ds i
  | .str z, .int i => if z.length ≤ sizeLine then (atI z.cps.toList i).map fun c => .str ⟨#[c]⟩ else none
  | _, _ => none
theorem RepA.atI {K : PySem.W.Frag} {B : Hp} {vs : List V} {ds : List D} {i : Int} {d : D} (r : RepA K B vs ds) (h : L2.atI ds i = some d) : ∃ v, L2.atI vs i = some v ∧ Rep K B v d := by
  unfold L2.atI at h ⊢
  rw [r.length]
  cases e : ixN ds.length i with
  | none =>
    rw [e] at h
    cases h
  | some j =>
    rw [e] at h
    exact r.get h
theorem rd2_ix {K : PySem.W.Frag} : RD2 K (rIx K) ixD := by
  intro x y dx dy dz B H e rx ry hg Q q
  cases dx <;> cases dy <;> first | (cases hg; done) | skip
  · rename_i z i
    simp only [ixD] at hg
    split at hg
    · rename_i hl
      obtain ⟨c, hc, rfl⟩ := Option.map_eq_some_iff.mp hg
      exact .inr (.inr ⟨z, i, c, rep_str rx, rep_int ry, hl, hc, q _ B H (Pu.refl e) (.str _)⟩)
    · cases hg
  · rename_i ds i
    simp only [ixD] at hg
    obtain ⟨a, vs, rfl, ha, ra⟩ := rep_lst rx
    obtain ⟨v, h1, h2⟩ := ra.atI hg
    exact .inl ⟨a, vs, i, v, rfl, rep_int ry, .inl (ex_rd e ha), h1, q _ B H (Pu.refl e) h2⟩
  · rename_i ds i
    simp only [ixD] at hg
    obtain ⟨a, vs, rfl, ha, ra⟩ := rep_tup rx
    obtain ⟨v, h1, h2⟩ := ra.atI hg
    exact .inr (.inl ⟨a, vs, i, v, rfl, rep_int ry, ex_t e ha, h1, q _ B H (Pu.refl e) h2⟩)
def cutL {α : Type} (xs : List α) (lo hi : Option Int) : List α := (xs.drop (HT.sIx xs.length 0 lo)).take (HT.sIx xs.length xs.length hi - HT.sIx xs.length 0 lo)
def sliceD (d : D) (lo hi : Option Int) : Option D := match d with
  | .list ds => some (.list (cutL ds lo hi))
  | .tuple ds => some (.tuple (cutL ds lo hi))
  | .str z => if z.length ≤ sizeLine then some (.str (cutS z lo hi)) else none
  | _ => none
def rSlAny (K : PySem.W.Frag) : V → Option Int → Option Int → Hp → VK → Prop := fun x lo hi H Q => rSlL K x lo hi H Q ∨ (rSlA K x lo hi H Q ∨ rSlS x lo hi H Q)
theorem sl_any {X : Cx} : SlR X (rSlAny X.K) := sl_list.or (sl_tupA.or sl_str)
theorem RepA.cut' {K : PySem.W.Frag} {B : Hp} {vs : List V} {ds : List D} (r : RepA K B vs ds) (lo hi : Option Int) : RepA K B (cutV vs lo hi) (cutL ds lo hi) := by
  unfold cutV cutL
  rw [r.length]
  exact (r.drop _).take _
theorem rd_slice {K : PySem.W.Frag} {x : V} {dx dz : D} {lo hi : Option Int} {B H : Hp} (e : Ex B H) (rx : Rep K B x dx) (hg : sliceD dx lo hi = some dz) (Q : VK) (q : ∀ v B' H', Pu B H B' H' → Rep K B' v dz → Q v H') : rSlAny K x lo hi H Q := by
  cases dx <;> first | (cases hg; done) | skip
  · rename_i z
    simp only [sliceD] at hg
    obtain ⟨hl, rfl⟩ := opt_if hg
    exact .inr (.inr ⟨z, rep_str rx, hl, q _ B H (Pu.refl e) (.str _)⟩)
  · rename_i ds
    cases hg
    obtain ⟨a, vs, rfl, ha, ra⟩ := rep_lst rx
    refine .inl ⟨a, vs, rfl, .inl (ex_rd e ha), fun p hp => ?_⟩
    have pu := Pu.mk1 (o := .lst (cutV vs lo hi)) e hp
    exact q _ _ _ pu (.lst (.inl upd_same) ((ra.cut' lo hi).mono pu.ext))
  · rename_i ds
    cases hg
    obtain ⟨a, vs, rfl, ha, ra⟩ := rep_tup rx
    refine .inr (.inl ⟨a, vs, rfl, ex_t e ha, fun hw => ?_, fun hw p hp => ?_⟩)
    · have e1 : cutL ds lo hi = ds := by
        rw [ra.length] at hw
        unfold cutL
        rw [hw.1, hw.2]
        simp
      rw [e1] at q
      exact q _ B H (Pu.refl e) (.tup ha ra)
    · have pu := Pu.mk1 (o := .tup (cutV vs lo hi)) e hp
      exact q _ _ _ pu (.tup (SqT.of upd_same) ((ra.cut' lo hi).mono pu.ext))
def intO : D → Option Int
  | .int i => some i
  | _ => none
def dpart (fa : DM D) : DM (Option Int) := fa.bind fun d => DM.opt ((intO d).map some)
def dnopart : DM (Option Int) := DM.pure none
def dslice (fa : DM D) (fl fh : DM (Option Int)) : DM D := fa.bind fun x => fl.bind fun lo => fh.bind fun hi => DM.opt (sliceD x lo hi)
section
variable {X : Cx} {c : Cf} {K : PySem.W.Frag} {ta tb : TE} {fa fb : DM D} {a b : Expr} {lo hi : Option Expr} {tl th : TO} {fl fh : DM (Option Int)} {pos p2 : Pos}
theorem pdo_none : PDO X c none tNoPart dnopart := ⟨po_none, EvP.pure fun _ _ => rfl⟩
theorem pdo_some (ha : PD X c a ta fa) : PDO X c (some a) (tPart ta) (dpart fa) :=
  ⟨po_some ha.pe, EvP.bind (relA := Rep X.K) (tk := fun x _ H Q => ∃ i, x = .int i ∧ Q (some i) H) mono_true ha.ev fun x d => EvP.val (t := fun H Q => ∃ i, x = .int i ∧ Q (some i) H) fun B H o e p h Q q => by
    cases d <;> first | (cases h; done) | skip
    rename_i i
    cases h
    exact ⟨i, rep_int p.2, q _ B H (Pu.refl e) rfl⟩⟩
theorem pd_slice (ha : PD X c a ta fa) (hl : PDO X c lo tl fl) (hh : PDO X c hi th fh) : PD X c (.Subscript a (.Slice lo hi none p2) pos) (tSl (rSlAny X.K) ta tl th) (dslice fa fl fh) :=
  ⟨pe_slice sl_any ha.pe hl.po hh.po, EvP.bind (relA := Rep X.K) (tk := fun x σ H Q => tl σ H fun l H2 => th σ H2 fun u H3 => rSlAny X.K x l u H3 Q) mono_true ha.ev fun x d =>
    EvP.bind (relA := eqR) (tk := fun l σ H Q => th σ H fun u H3 => rSlAny X.K x l u H3 Q) (mono_true.and (monoR_rep x d)) (hl.ev.weak fun _ _ => True.intro) fun l l' =>
    EvP.bind (relA := eqR) (tk := fun u _ H Q => rSlAny X.K x l u H Q) ((mono_true.and (monoR_rep x d)).and (monoR_eq l l')) (hh.ev.weak fun _ _ => True.intro) fun u u' =>
    EvP.val (t := fun H Q => rSlAny X.K x l u H Q) fun B H dz e p h Q q => by
      have e1 : l = l' := p.1.2
      have e2 : u = u' := p.2
      subst e1 e2
      exact rd_slice e p.1.1.2 h Q q⟩
theorem pd_ix (ha : PD X c a ta fa) (hb : PD X c b tb fb) (hs : PlainIx b := by exact fun _ _ => rfl) : PD X c (.Subscript a b pos) (tOp (rIx X.K) ta tb) (dop ixD fa fb) := ⟨pe_ix ix_seq ha.pe hb.pe hs, ev_op rd2_ix ha.ev hb.ev⟩
end

/-! ### arguments, displays -/
def dnil : DM (List D) := DM.pure []
def dcons (fa : DM D) (fr : DM (List D)) : DM (List D) := fa.bind fun x => fr.bind fun xs => DM.pure (x :: xs)
def dtup (fs : DM (List D)) : DM D := fs.bind fun ds => DM.opt (if ds.length ≤ sizeLine then some (.tuple ds) else none)
def dlst (fs : DM (List D)) : DM D := fs.bind fun ds => DM.opt (if ds.length ≤ sizeLine then some (.list ds) else none)
def RDC (K : PySem.W.Frag) (r : List V → Hp → VK → Prop) (g : List D → Option D) : Prop := ∀ (vs : List V) (ds : List D) (dz : D) (B H : Hp), Ex B H → RepA K B vs ds → g ds = some dz →
  ∀ Q : VK, (∀ v B' H', Pu B H B' H' → Rep K B' v dz → Q v H') → r vs H Q
def dcb (g : List D → Option D) (fs : DM (List D)) : DM D := fs.bind fun ds => DM.opt (g ds)
section
variable {X : Cx} {c : Cf} {K : PySem.W.Frag} {te : TE} {fe : DM D} {e : Expr} {es : List Expr} {t : TA} {f : DM (List D)} {pos : Pos}
theorem pda_nil : PDA X c [] tNil dnil := ⟨pa_nil, EvP.pure fun _ _ => .nil⟩
theorem ev_cons (h : EvD K c te fe) (hr : EvA K c t f) : EvA K c (tCons te t) (dcons fe f) :=
  EvP.bind (relA := Rep K) (tk := fun x σ H Q => t σ H fun xs H2 => Q (x :: xs) H2) mono_true h fun x d =>
    EvP.bind (relA := RepA K) (tk := fun xs _ H Q => Q (x :: xs) H) (mono_true.and (monoR_rep x d)) (hr.weak fun _ _ => True.intro) fun xs ds => EvP.pure fun B p => .cons p.1.2 p.2
theorem pda_cons (h : PD X c e te fe) (hr : PDA X c es t f) (hs : starEach (e :: es) X.env = (false, eval e X.env) :: starEach es X.env := by rfl) : PDA X c (e :: es) (tCons te t) (dcons fe f) := ⟨pa_cons h.pe hr.pa hs, ev_cons h.ev hr.ev⟩
theorem pd_tup {x1} (h : PDA X c es t f) : PD X c (.Tuple es x1 pos) (tTup t) (dtup f) :=
  ⟨pe_tup h.pa, EvP.bind (relA := RepA X.K) (tk := fun xs _ H Q => xs.length ≤ sizeLine ∧ ∀ p, H p = none → Q (V.ref p) (upd H p (HO.tup xs))) mono_true h.ev fun xs ds =>
    EvP.val (t := fun H Q => xs.length ≤ sizeLine ∧ ∀ p, H p = none → Q (V.ref p) (upd H p (HO.tup xs))) fun B H dz e p hg Q q => by
      obtain ⟨hl, rfl⟩ := opt_if hg
      refine ⟨by rw [p.2.length]; exact hl, fun a ha => ?_⟩
      have pu := Pu.mk1 (o := .tup xs) e ha
      exact q _ _ _ pu (.tup (SqT.of upd_same) (p.2.mono pu.ext))⟩
theorem pd_lst (h : PDA X c es t f) : PD X c (.List es pos) (tLst t) (dlst f) :=
  ⟨pe_lst h.pa, EvP.bind (relA := RepA X.K) (tk := fun xs _ H Q => xs.length ≤ sizeLine ∧ ∀ p, H p = none → Q (V.ref p) (upd H p (HO.lst xs))) mono_true h.ev fun xs ds =>
    EvP.val (t := fun H Q => xs.length ≤ sizeLine ∧ ∀ p, H p = none → Q (V.ref p) (upd H p (HO.lst xs))) fun B H dz e p hg Q q => by
      obtain ⟨hl, rfl⟩ := opt_if hg
      refine ⟨by rw [p.2.length]; exact hl, fun a ha => ?_⟩
      have pu := Pu.mk1 (o := .lst xs) e ha
      exact q _ _ _ pu (.lst (.inl upd_same) (p.2.mono pu.ext))⟩
theorem ev_cb {r : List V → Hp → VK → Prop} {g : List D → Option D} (hr : RDC K r g) (h : EvA K c t f) : EvD K c (tCB r t) (dcb g f) :=
  EvP.bind (relA := RepA K) (tk := fun xs _ H Q => r xs H Q) mono_true h fun xs ds => EvP.val (t := fun H Q => r xs H Q) fun B H dz e p hg Q q => hr xs ds dz B H e p.2 hg Q q
theorem pd_callB {id : String} {r : List V → Hp → VK → Prop} {g : List D → Option D} {x : Str} {p : Pos} (hc : CallR X (.builtin id) r) (hr : RDC X.K r g) (hg : Gl X x) (hm : X.mg x = none) (hv : bootBuiltins x = some (.builtin id)) (ha : PDA X c (e :: es) t f)
    (hn : x ≠ "__name__" := by decide) (hdb : (x == ("__debug__" : Str)) = false := by decide) (he : starEach (e :: es) X.env = (false, eval e X.env) :: starEach es X.env := by rfl)
    (hpl : (backTo pos (starEach es X.env)).any (·.1) = false := by rfl) : PD X c (.Call (.Name x p) (e :: es) [] pos) (tCB r t) (dcb g f) := ⟨pe_callB hc hg hm hv ha.pa hn hdb he hpl, ev_cb hr ha.ev⟩
theorem pd_callTy {T : String} {r : List V → Hp → VK → Prop} {g : List D → Option D} {x : Str} {p : Pos} (hc : CallR X (.type T) r) (hr : RDC X.K r g) (hg : Gl X x) (hm : X.mg x = none) (hv : bootBuiltins x = some (.type T)) (ha : PDA X c (e :: es) t f)
    (hn : x ≠ "__name__" := by decide) (hdb : (x == ("__debug__" : Str)) = false := by decide) (he : starEach (e :: es) X.env = (false, eval e X.env) :: starEach es X.env := by rfl)
    (hpl : (backTo pos (starEach es X.env)).any (·.1) = false := by rfl) : PD X c (.Call (.Name x p) (e :: es) [] pos) (tCB r t) (dcb g f) := ⟨pe_callTy hc hg hm hv ha.pa hn hdb he hpl, ev_cb hr ha.ev⟩
end
end DR

set_option maxRecDepth 100000
set_option maxHeartbeats 1000000
namespace DR
open PySem PySem.Spec L2
open PyProof.Rows hiding St
open Evl (Ex ex_l ex_t ex_rd)

/-! ### built-in functions -/
def lenD : List D → Option D
  | [.list ds] => some (.int ds.length)
  | [.tuple ds] => some (.int ds.length)
  | [.str z] => if z.length ≤ sizeLine then some (.int z.length) else none
  | _ => none
def absD : List D → Option D
  | [.int i] => some (.int (if i < 0 then -i else i))
  | _ => none
def intD : List D → Option D
  | [.int i] => some (.int i)
  | [.bool b] => some (.int (if b then 1 else 0))
  | _ => none
def min2D : List D → Option D
  | [.int i, .int j] => some (.int (if j < i then j else i))
  | _ => none
def max2D : List D → Option D
  | [.int i, .int j] => some (.int (if j > i then j else i))
  | _ => none
def allD : List D → Option D
  | [.list ds] => (blsD ds).map fun bs => .bool (bs.all id)
  | _ => none
def anyD : List D → Option D
  | [.list ds] => (blsD ds).map fun bs => .bool (bs.any id)
  | _ => none
def sumD : List D → Option D
  | [.list ds] => (intsD ds).map fun ns => .int ns.sum
  | _ => none
def listD : List D → Option D
  | [.list ds] => some (.list ds)
  | [.tuple ds] => some (.list ds)
  | _ => none
def tupleD : List D → Option D
  | [.list ds] => some (.tuple ds)
  | [.tuple ds] => some (.tuple ds)
  | _ => none
section
variable {K : PySem.W.Frag} {B : Hp}
theorem repA1 {vs : List V} {d : D} (h : RepA K B vs [d]) : ∃ v, vs = [v] ∧ Rep K B v d := by
  cases h with
  | cons r t =>
    cases t
    exact ⟨_, rfl, r⟩
theorem repA2 {vs : List V} {d e : D} (h : RepA K B vs [d, e]) : ∃ v w, vs = [v, w] ∧ Rep K B v d ∧ Rep K B w e := by
  cases h with
  | cons r t =>
    obtain ⟨w, rfl, s⟩ := repA1 t
    exact ⟨_, w, rfl, r, s⟩
end
abbrev rLenA (K : PySem.W.Frag) : List V → Hp → VK → Prop := fun xs H Q => ∃ x n, xs = [x] ∧ LenV K x H n ∧ Q (.int n) H
section
variable {K : PySem.W.Frag}
theorem rdc_len : RDC K (rLenA K) lenD := by
  intro vs ds dz B H e r hg Q q
  match ds, hg with
  | [.list xs], hg =>
    cases hg
    obtain ⟨v, rfl, rv⟩ := repA1 r
    obtain ⟨a, ws, rfl, ha, ra⟩ := rep_lst rv
    refine ⟨.ref a, ws.length, rfl, .inl ⟨ws, .inl (ex_rd e ha), rfl⟩, ?_⟩
    rw [ra.length]
    exact q _ B H (Pu.refl e) (.int _)
  | [.tuple xs], hg =>
    cases hg
    obtain ⟨v, rfl, rv⟩ := repA1 r
    obtain ⟨a, ws, rfl, ha, ra⟩ := rep_tup rv
    refine ⟨.ref a, ws.length, rfl, .inr ⟨ws, ex_t e ha, rfl⟩, ?_⟩
    rw [ra.length]
    exact q _ B H (Pu.refl e) (.int _)
  | [.str z], hg =>
    obtain ⟨hl, rfl⟩ := opt_if (show (if z.length ≤ sizeLine then some (PyData.int z.length) else none) = some dz from hg)
    obtain ⟨v, rfl, rv⟩ := repA1 r
    exact ⟨v, z.length, rfl, by rw [rep_str rv]; exact ⟨hl, rfl⟩, q _ B H (Pu.refl e) (.int _)⟩
theorem rdc_abs : RDC K (fun xs H Q => ∃ i, xs = [.int i] ∧ Q (.int (if i < 0 then -i else i)) H) absD := by
  intro vs ds dz B H e r hg Q q
  match ds, hg with
  | [.int i], hg =>
    cases hg
    obtain ⟨v, rfl, rv⟩ := repA1 r
    exact ⟨i, by rw [rep_int rv], q _ B H (Pu.refl e) (.int _)⟩
theorem rdc_int : RDC K (fun xs H Q => (∃ i, xs = [.int i] ∧ Q (.int i) H) ∨ ∃ k, xs = [.bl k] ∧ Q (.int (if k then 1 else 0)) H) intD := by
  intro vs ds dz B H e r hg Q q
  match ds, hg with
  | [.int i], hg =>
    cases hg
    obtain ⟨v, rfl, rv⟩ := repA1 r
    exact .inl ⟨i, by rw [rep_int rv], q _ B H (Pu.refl e) (.int _)⟩
  | [.bool i], hg =>
    cases hg
    obtain ⟨v, rfl, rv⟩ := repA1 r
    exact .inr ⟨i, by rw [rep_bl rv], q _ B H (Pu.refl e) (.int _)⟩
theorem rdc_min2 : RDC K (fun xs H Q => ∃ i j, xs = [.int i, .int j] ∧ Q (.int (if j < i then j else i)) H) min2D := by
  intro vs ds dz B H e r hg Q q
  match ds, hg with
  | [.int i, .int j], hg =>
    cases hg
    obtain ⟨v, w, rfl, rv, rw'⟩ := repA2 r
    exact ⟨i, j, by rw [rep_int rv, rep_int rw'], q _ B H (Pu.refl e) (.int _)⟩
theorem rdc_max2 : RDC K (fun xs H Q => ∃ i j, xs = [.int i, .int j] ∧ Q (.int (if j > i then j else i)) H) max2D := by
  intro vs ds dz B H e r hg Q q
  match ds, hg with
  | [.int i, .int j], hg =>
    cases hg
    obtain ⟨v, w, rfl, rv, rw'⟩ := repA2 r
    exact ⟨i, j, by rw [rep_int rv, rep_int rw'], q _ B H (Pu.refl e) (.int _)⟩
theorem rdc_all : RDC K (rAll K) allD := by
  intro vs ds dz B H e r hg Q q
  match ds, hg with
  | [.list xs], hg =>
    obtain ⟨bs, hb, rfl⟩ := Option.map_eq_some_iff.mp (show (blsD xs).map (fun bs => PyData.bool (bs.all id)) = some dz from hg)
    obtain ⟨v, rfl, rv⟩ := repA1 r
    obtain ⟨a, ws, rfl, ha, ra⟩ := rep_lst rv
    rw [blsD_eq hb] at ra
    rw [repA_bls_of ra] at ha
    exact ⟨a, bs, rfl, .inl (ex_rd e ha), q _ B H (Pu.refl e) (.bl _)⟩
theorem rdc_any : RDC K (rAny K) anyD := by
  intro vs ds dz B H e r hg Q q
  match ds, hg with
  | [.list xs], hg =>
    obtain ⟨bs, hb, rfl⟩ := Option.map_eq_some_iff.mp (show (blsD xs).map (fun bs => PyData.bool (bs.any id)) = some dz from hg)
    obtain ⟨v, rfl, rv⟩ := repA1 r
    obtain ⟨a, ws, rfl, ha, ra⟩ := rep_lst rv
    rw [blsD_eq hb] at ra
    rw [repA_bls_of ra] at ha
    exact ⟨a, bs, rfl, .inl (ex_rd e ha), q _ B H (Pu.refl e) (.bl _)⟩
theorem rdc_sum : RDC K (rSum K) sumD := by
  intro vs ds dz B H e r hg Q q
  match ds, hg with
  | [.list xs], hg =>
    obtain ⟨bs, hb, rfl⟩ := Option.map_eq_some_iff.mp (show (intsD xs).map (fun bs => PyData.int bs.sum) = some dz from hg)
    obtain ⟨v, rfl, rv⟩ := repA1 r
    obtain ⟨a, ws, rfl, ha, ra⟩ := rep_lst rv
    rw [intsD_eq hb] at ra
    rw [repA_ints_of ra] at ha
    exact ⟨a, bs, rfl, .inl (ex_rd e ha), q _ B H (Pu.refl e) (.int _)⟩
theorem rdc_list : RDC K (fun xs H Q => ∃ p ys, xs = [.ref p] ∧ (SqL K H p ys ∨ SqT K H p ys) ∧ ∀ l, H l = none → Q (.ref l) (upd H l (.lst ys))) listD := by
  intro vs ds dz B H e r hg Q q
  match ds, hg with
  | [.list xs], hg =>
    cases hg
    obtain ⟨v, rfl, rv⟩ := repA1 r
    obtain ⟨a, ws, rfl, ha, ra⟩ := rep_lst rv
    refine ⟨a, ws, rfl, .inl (.inl (ex_rd e ha)), fun p hp => ?_⟩
    have pu := Pu.mk1 (o := .lst ws) e hp
    exact q _ _ _ pu (.lst (.inl upd_same) (ra.mono pu.ext))
  | [.tuple xs], hg =>
    cases hg
    obtain ⟨v, rfl, rv⟩ := repA1 r
    obtain ⟨a, ws, rfl, ha, ra⟩ := rep_tup rv
    refine ⟨a, ws, rfl, .inr (ex_t e ha), fun p hp => ?_⟩
    have pu := Pu.mk1 (o := .lst ws) e hp
    exact q _ _ _ pu (.lst (.inl upd_same) (ra.mono pu.ext))
theorem rdc_tuple : RDC K (fun xs H Q => ∃ p ys, xs = [.ref p] ∧ ((SqL K H p ys ∧ ∀ l, H l = none → Q (.ref l) (upd H l (.tup ys))) ∨ (SqT K H p ys ∧ Q (.ref p) H))) tupleD := by
  intro vs ds dz B H e r hg Q q
  match ds, hg with
  | [.list xs], hg =>
    cases hg
    obtain ⟨v, rfl, rv⟩ := repA1 r
    obtain ⟨a, ws, rfl, ha, ra⟩ := rep_lst rv
    refine ⟨a, ws, rfl, .inl ⟨.inl (ex_rd e ha), fun p hp => ?_⟩⟩
    have pu := Pu.mk1 (o := .tup ws) e hp
    exact q _ _ _ pu (.tup (SqT.of upd_same) (ra.mono pu.ext))
  | [.tuple xs], hg =>
    cases hg
    obtain ⟨v, rfl, rv⟩ := repA1 r
    obtain ⟨a, ws, rfl, ha, ra⟩ := rep_tup rv
    exact ⟨a, ws, rfl, .inr ⟨ex_t e ha, q _ B H (Pu.refl e) (.tup ha ra)⟩⟩
end

/-! ### isinstance -/
def tyN : D → String
  | .none => "NoneType"
  | .bool _ => "bool"
  | .int _ => "int"
  | .str _ => "str"
  | .list _ => "list"
  | .tuple _ => "tuple"
  | .dict _ => "dict"
def insN (T a : String) : Bool := a == T || (T == "int" && a == "bool")
def kitT (T : String) : Bool := ["NoneType", "bool", "int", "str", "list", "tuple", "dict"].all fun a => decide (kitB a T = some (insN T a))
theorem tyN_mem (d : D) : tyN d ∈ ["NoneType", "bool", "int", "str", "list", "tuple", "dict"] := by cases d <;> simp [tyN]
theorem rep_tyx {K : PySem.W.Frag} {B : Hp} {v : V} {d : D} (r : Rep K B v d) : TyX K B v (.type (tyN d)) := by
  cases r with
  | non => exact .base .non
  | bl b => exact .base (.bl b)
  | int b => exact .base (.int b)
  | str b => exact .base (.str b)
  | lst h _ =>
    rcases h with h | ⟨o, h⟩
    · exact .base (.lst h)
    · exact .base (.frz h)
  | tup h _ =>
    rcases h with (h | ⟨o, h⟩) | ⟨o, its, n, h1, h2, _⟩
    · exact .base (.tup h)
    · exact .fTuple h
    · exact .kTuple h1 h2
  | dct h _ _ => exact .base (.dK h)
theorem kit_isi {K : PySem.W.Frag} {T : String} (h : kitT T = true) (d : D) : PySem.W.kitOne K (.type (tyN d)) (.type T) = some (insN T (tyN d)) :=
  kit_ty (of_decide_eq_true (List.all_eq_true.mp h _ (tyN_mem d)))
def disi (T : String) (fa : DM D) : DM D := fa.bind fun d => DM.pure (.bool (insN T (tyN d)))
def disi2 (T U : String) (fa : DM D) : DM D := fa.bind fun d => DM.pure (.bool (insN T (tyN d) || insN U (tyN d)))
section
variable {X : Cx} {c : Cf} {te : TE} {fe : DM D} {e : Expr} {p pt pt2 pos : Pos} {T U : String} {x y : Str}
theorem pd_isi (hg : Gl X "isinstance") (hm : X.mg "isinstance" = none) (hgT : Gl X x) (hmT : X.mg x = none) (hvT : bootBuiltins x = some (.type T)) (hk : kitT T = true) (he : PD X c e te fe)
    (hnT : x ≠ "__name__" := by decide) (hdT : (x == ("__debug__" : Str)) = false := by decide)
    (hs : starEach [e, .Name x pt] X.env = (false, eval e X.env) :: starEach [.Name x pt] X.env := by rfl) (hs2 : starEach [.Name x pt] X.env = (false, eval (.Name x pt) X.env) :: starEach [] X.env := by rfl)
    (hpl : (backTo pos (starEach [Expr.Name x pt] X.env)).any (·.1) = false := by rfl) :
    PD X c (.Call (.Name "isinstance" p) [e, .Name x pt] [] pos) (tCB (rIsi X.K) (tCons te (tCons (tC (.ty T)) tNil))) (disi T fe) :=
  ⟨pe_callB call_isi hg hm (by decide +kernel) (pa_cons he.pe (pa_cons (pe_bltn hgT hmT hvT rfl hnT hdT) pa_nil hs2) hs) (he := hs) (hpl := hpl),
   EvP.bind (relA := Rep X.K) (relC := Rep X.K) (tk := fun x _ H Q => rIsi X.K [x, .ty T] H Q) mono_true he.ev fun x d => by
    intro A Z B σ H st r er pr hf Q hok hex
    cases hf
    exact ⟨x, .ty T, .type (tyN d), .type T, _, rfl, .ty T, rep_tyx (pr.2.mono er.bh), kit_isi hk d, hok _ st rfl _ B H er Adv.refl (.bl _)⟩⟩
theorem pd_isi2 {k : Nat} (hg : Gl X "isinstance") (hm : X.mg "isinstance" = none) (hgT : Gl X x) (hmT : X.mg x = none) (hvT : bootBuiltins x = some (.type T)) (hk : kitT T = true)
    (hgU : Gl X y) (hmU : X.mg y = none) (hvU : bootBuiltins y = some (.type U)) (hkU : kitT U = true) (he : PD X c e te fe)
    (hnT : x ≠ "__name__" := by decide) (hdT : (x == ("__debug__" : Str)) = false := by decide) (hnU : y ≠ "__name__" := by decide) (hdU : (y == ("__debug__" : Str)) = false := by decide)
    (hs : starEach [e, .Tuple [.Name x pt, .Name y pt2] k p] X.env = (false, eval e X.env) :: starEach [.Tuple [.Name x pt, .Name y pt2] k p] X.env := by rfl)
    (hs2 : starEach [.Tuple [.Name x pt, .Name y pt2] k p] X.env = (false, eval (.Tuple [.Name x pt, .Name y pt2] k p) X.env) :: starEach [] X.env := by rfl)
    (hs3 : starEach [.Name x pt, .Name y pt2] X.env = (false, eval (.Name x pt) X.env) :: starEach [.Name y pt2] X.env := by rfl)
    (hs4 : starEach [.Name y pt2] X.env = (false, eval (.Name y pt2) X.env) :: starEach [] X.env := by rfl)
    (hpl : (backTo pos (starEach [Expr.Tuple [.Name x pt, .Name y pt2] k p] X.env)).any (·.1) = false := by rfl) {p0 : Pos} :
    PD X c (.Call (.Name "isinstance" p0) [e, .Tuple [.Name x pt, .Name y pt2] k p] [] pos) (tCB (rIsiT X.K) (tCons te (tCons (tTup (tCons (tC (.ty T)) (tCons (tC (.ty U)) tNil))) tNil))) (disi2 T U fe) :=
  ⟨pe_callB call_isiT hg hm (by decide +kernel) (pa_cons he.pe (pa_cons (pe_tup (pa_cons (pe_bltn hgT hmT hvT rfl hnT hdT) (pa_cons (pe_bltn hgU hmU hvU rfl hnU hdU) pa_nil hs4) hs3)) pa_nil hs2) hs) (he := hs) (hpl := hpl),
   EvP.bind (relA := Rep X.K) (relC := Rep X.K) (tk := fun x _ H Q => [V.ty T, V.ty U].length ≤ sizeLine ∧ ∀ p, H p = none → rIsiT X.K [x, .ref p] (upd H p (.tup [.ty T, .ty U])) Q) mono_true he.ev fun x d => by
    intro A Z B σ H st r er pr hf Q hok hex
    cases hf
    refine ⟨by show 2 ≤ sizeLine; decide, fun q hq => ?_⟩
    have pu := Pu.mk0 (o := .tup [.ty T, .ty U]) er.bh hq
    refine ⟨x, q, [.ty T, .ty U], .type (tyN d), [.type T, .type U], _, rfl, upd_same, .cons (.ty T) (.cons (.ty U) .nil), rep_tyx (pr.2.mono pu.bh), kitAny_cons (b := insN T (tyN d)) (r := (insN T (tyN d) || insN U (tyN d))) (kit_isi hk d) (fun h1 => ?_) (fun h1 => by rw [h1]; rfl), hok _ st rfl _ B _ (er.pu pu) pu.adv (.bl _)⟩
    rw [h1]
    exact kitAny_cons (b := insN U (tyN d)) (kit_isi hkU d) (fun h2 => by rw [h2]; exact kitAny_nil) (fun h2 => by rw [h2]; rfl)⟩
end

/-! ### a text's method of one argument -/
def asS : D → Option Str
  | .str z => some z
  | _ => none
def RDM1 (K : PySem.W.Frag) (r : V → List V → Hp → VK → Prop) (g : Str → D → Option D) : Prop := ∀ (a : Str) (y : V) (dy dz : D) (B H : Hp), Ex B H → Rep K B y dy → g a dy = some dz →
  ∀ Q : VK, (∀ v B' H', Pu B H B' H' → Rep K B' v dz → Q v H') → r (.str a) [y] H Q
def dm1 (g : Str → D → Option D) (fo fe : DM D) : DM D := fo.bind fun x => (DM.opt (asS x)).bind fun a => fe.bind fun y => DM.opt (g a y)
def joinD (a : Str) : D → Option D
  | .list ds => match strsD ds with
    | some ys => if (ys.map (·.length)).sum + ys.length * a.length ≤ 16777216 then some (.str (Txt.join a ys)) else none
    | none => none
  | .tuple ds => match strsD ds with
    | some ys => if (ys.map (·.length)).sum + ys.length * a.length ≤ 16777216 then some (.str (Txt.join a ys)) else none
    | none => none
  | _ => none
abbrev rJoin (K : PySem.W.Frag) : V → List V → Hp → VK → Prop := fun x xs H Q => ∃ a p, ∃ ys : List Str, x = .str a ∧ xs = [.ref p] ∧ (SqL K H p (ys.map V.str) ∨ SqT K H p (ys.map V.str)) ∧
    (ys.map (·.length)).sum + ys.length * a.length ≤ 16777216 ∧ Q (.str (Txt.join a ys)) H
section
variable {X : Cx} {c : Cf} {K : PySem.W.Frag} {to te : TE} {fo fe : DM D} {o e : Expr} {apos pos : Pos}
theorem ev_m1 {r : V → List V → Hp → VK → Prop} {g : Str → D → Option D} (hr : RDM1 K r g) (ho : EvD K c to fo) (he : EvD K c te fe) : EvD K c (tM1 r to te) (dm1 g fo fe) :=
  EvP.bind (relA := Rep K) (relC := Rep K) (tk := fun x σ H Q => (∃ a, x = .str a) ∧ te σ H fun y H2 => r x [y] H2 Q) mono_true ho fun x d => by
    intro A Z B σ H st r' er pr hf Q hok hex
    cases d <;> first | (cases hf; done) | skip
    rename_i a
    have hf1 : (fe.bind fun y => DM.opt (g a y)) st = some r' := hf
    have hx := rep_str pr.2
    subst hx
    refine ⟨⟨a, rfl⟩, ?_⟩
    exact EvP.bind (relA := Rep K) (relC := Rep K) (tk := fun y _ H Q => r (.str a) [y] H Q) mono_true he (fun y dy => EvP.val (t := fun H Q => r (.str a) [y] H Q) fun B H dz e p hg Q q => hr a y dy dz B H e p.2 hg Q q) A Z B σ H st r' er True.intro hf1 Q hok hex
theorem rdm_join : RDM1 K (rJoin K) joinD := by
  intro a y dy dz B H e ry hg Q q
  cases dy <;> first | (cases hg; done) | skip
  · rename_i ds
    simp only [joinD] at hg
    split at hg
    · rename_i ys hy
      obtain ⟨hl, rfl⟩ := opt_if hg
      obtain ⟨p, vs, rfl, hp, ra⟩ := rep_lst ry
      rw [strsD_eq hy] at ra
      rw [repA_strs_of ra] at hp
      exact ⟨a, p, ys, rfl, rfl, .inl (.inl (ex_rd e hp)), hl, q _ B H (Pu.refl e) (.str _)⟩
    · cases hg
  · rename_i ds
    simp only [joinD] at hg
    split at hg
    · rename_i ys hy
      obtain ⟨hl, rfl⟩ := opt_if hg
      obtain ⟨p, vs, rfl, hp, ra⟩ := rep_tup ry
      rw [strsD_eq hy] at ra
      rw [repA_strs_of ra] at hp
      exact ⟨a, p, ys, rfl, rfl, .inr (ex_t e hp), hl, q _ B H (Pu.refl e) (.str _)⟩
    · cases hg
theorem pd_join (ho : PD X c o to fo) (he : PD X c e te fe) (hs : starEach [e] X.env = [(false, eval e X.env)] := by rfl) (hbase : attributeBase o "join" X.env (eval o X.env) = eval o X.env := by rfl) (hline : (apos.endLine == pos.line) = true := by rfl) :
    PD X c (.Call (.Attribute o "join" apos) [e] [] pos) (tM1 (rJoin X.K) to te) (dm1 joinD fo fe) := ⟨pe_join ho.pe he.pe hs hbase hline, ev_m1 rdm_join ho.ev he.ev⟩
end

/-! ### what a loop walks -/
def WalkD (K : PySem.W.Frag) (B : Hp) (J : It) (ds : List D) : Prop := ∃ (G : Hp → Prop) (Y : Nat → Hp → V → Hp → Prop), Walk J ds.length G Y ∧ (∀ H, Ex B H → G H) ∧
  ∀ i H x H', Y i H x H' → Ex B H → i < ds.length → ∀ B1, Ex B B1 → Ex B1 H → ∃ B1' d, Pu B1 H B1' H' ∧ ds[i]? = some d ∧ Rep K B1' x d
theorem monoR_walk {K : PySem.W.Frag} : MonoR (WalkD K) := fun J ds B B' e ⟨G, Y, w, g, y⟩ =>
  ⟨G, Y, w, fun H h => g H fun a o q => h a o (e a o q), fun i H x H' h1 h2 h3 B1 h4 h5 => y i H x H' h1 (fun a o q => h2 a o (e a o q)) h3 B1 (fun a o q => h4 a o (e a o q)) h5⟩
structure PDI (X : Cx) (c : Cf) (tg iter : Expr) (wi : TI) (f : DM (List D)) : Prop where
  pi : PI X tg iter wi
  ev : EvP X.K c (fun _ => True) (WalkD X.K) wi f
def iAny (K : PySem.W.Frag) (te : TE) : TI := fun σ H R => te σ H fun x H1 => (∃ a, x = .ref a ∧ (∃ xs, SqL K H1 a xs) ∧ R (Itl K a) H1) ∨ ((∃ a, x = .ref a ∧ (∃ xs, SqT K H1 a xs) ∧ R (Itt K a) H1) ∨ ∃ z, x = .str z ∧ R (Its z) H1)
theorem pi_any {X : Cx} {tg e : Expr} {te : TE} (he : PE X e te) : PI X tg e (iAny X.K te) := by
  refine ⟨fun pins s σ H R I h => ?_⟩
  refine thn (he.run pins s σ H _ I h) fun v s1 ⟨y, H1, I1, r1, q⟩ => ?_
  have h0 : ∀ {wi : TI}, (PI X tg e wi → True) := fun _ => True.intro
  rcases q with ⟨a, rfl, ⟨xs, hq⟩, q⟩ | ⟨a, rfl, ⟨xs, hq⟩, q⟩ | ⟨z, rfl, q⟩
  · cases r1
    obtain ⟨its, rv, p, hz⟩ := I1.list hq
    refine wpAny_pyIter_list p.isList ?_
    refine ⟨s1.heap.objs.size, [s1.heap.objs.size], _, _, H1, rfl, I1.kept (t' := s1.toks) fun b o e => Heap.get?_push_of_some _ e, turn_list a _, ⟨_, Heap.get?_push_size _ rfl, rfl, rfl⟩, fun b hb => ?_, q⟩
    have e : b = s1.heap.objs.size := by simpa using hb
    subst e
    exact I1.fpOk (Nat.le_refl _) (I1.hok.fresh (Nat.le_refl _))
  · cases r1
    obtain ⟨its, rv, p, hz⟩ := I1.tuple hq
    refine wpAny_pyIter_tuple (show s1.heap.IsTuple a its.toArray from p) ?_
    refine ⟨s1.heap.objs.size, [s1.heap.objs.size], _, _, H1, rfl, I1.kept (t' := s1.toks) fun b o e => Heap.get?_push_of_some _ e, turn_tuple a _, ⟨_, Heap.get?_push_size _ rfl, rfl, rfl⟩, fun b hb => ?_, q⟩
    have e : b = s1.heap.objs.size := by simpa using hb
    subst e
    exact I1.fpOk (Nat.le_refl _) (I1.hok.fresh (Nat.le_refl _))
  · obtain ⟨t, rfl⟩ := r1
    cases ha : z.cps.all (· < 128)
    · exact wpAny_pyIter_wide ha (pi_one (tk := s1.toks) I1 _ (turn_str _ z t "str_iterator" (.inr rfl)) ⟨_, Heap.get?_push_size _ rfl, rfl, rfl⟩ q)
    · exact wpAny_pyIter_ascii ha (pi_one (tk := s1.toks) I1 _ (turn_str _ z t "str_ascii_iterator" (.inl rfl)) ⟨_, Heap.get?_push_size _ rfl, rfl, rfl⟩ q)
def signs (z : Str) : List D := z.cps.toList.map fun c => .str ⟨#[c]⟩
def itemsD : D → Option (List D)
  | .list ds => some ds
  | .tuple ds => some ds
  | .str z => some (signs z)
  | _ => none
theorem walkD_seq {K : PySem.W.Frag} {B : Hp} {xs : List V} {ds : List D} {J : It} {G : Hp → Prop} (ra : RepA K B xs ds) (w : Walk J xs.length G (YAt xs)) (g : ∀ H, Ex B H → G H) : WalkD K B J ds := by
  refine ⟨G, YAt xs, by rw [← ra.length]; exact w, g, fun i H x H' y e hi B1 e1 e2 => ?_⟩
  obtain ⟨rfl, hx⟩ := y
  obtain ⟨d, hd, r⟩ := ra.getV hx
  exact ⟨B1, d, Pu.refl e2, hd, r.mono e1⟩
section
variable {X : Cx} {c : Cf} {K : PySem.W.Frag} {te : TE} {fe : DM D} {tg e : Expr} {pos p : Pos}
theorem pdi_any (he : PD X c e te fe) : PDI X c tg e (iAny X.K te) (fe.bind fun d => DM.opt (itemsD d)) :=
  ⟨pi_any he.pe, EvP.bind (relA := Rep X.K) (tk := fun x _ H1 R => (∃ a, x = .ref a ∧ (∃ xs, SqL X.K H1 a xs) ∧ R (Itl X.K a) H1) ∨ ((∃ a, x = .ref a ∧ (∃ xs, SqT X.K H1 a xs) ∧ R (Itt X.K a) H1) ∨ ∃ z, x = .str z ∧ R (Its z) H1)) mono_true he.ev fun x d =>
    EvP.val (t := fun H1 R => (∃ a, x = .ref a ∧ (∃ xs, SqL X.K H1 a xs) ∧ R (Itl X.K a) H1) ∨ ((∃ a, x = .ref a ∧ (∃ xs, SqT X.K H1 a xs) ∧ R (Itt X.K a) H1) ∨ ∃ z, x = .str z ∧ R (Its z) H1)) fun B H ds e p hg R q => by
      cases d <;> first | (cases hg; done) | skip
      · rename_i z
        cases hg
        refine .inr (.inr ⟨z, rep_str p.2, q _ B H (Pu.refl e) ⟨fun _ => True, _, (by have w := walk_str (z := z); rw [show (signs z).length = z.cps.size by simp [signs]]; exact w), fun _ _ => True.intro, fun i H x H' y e hi B1 e1 e2 => ?_⟩⟩)
        obtain ⟨rfl, c, hc, rfl⟩ := y
        refine ⟨B1, .str ⟨#[c]⟩, Pu.refl e2, ?_, .str _⟩
        unfold signs
        rw [List.getElem?_map, Array.getElem?_toList, hc]
        rfl
      · rename_i xs
        cases hg
        obtain ⟨a, vs, rfl, ha, ra⟩ := rep_lst p.2
        exact .inl ⟨a, rfl, ⟨vs, .inl (ex_rd e ha)⟩, q _ B H (Pu.refl e) (walkD_seq ra walk_list fun H h => .inl (ex_rd h ha))⟩
      · rename_i xs
        cases hg
        obtain ⟨a, vs, rfl, ha, ra⟩ := rep_tup p.2
        exact .inr (.inl ⟨a, rfl, ⟨vs, ex_t e ha⟩, q _ B H (Pu.refl e) (walkD_seq ra walk_tup fun H h => ex_t h ha)⟩)⟩
def rangeL (lo : Int) (n : Nat) : List D := (List.range n).map fun (k : Nat) => PyData.int (lo + k)
def range1D : List D → Option (List D)
  | [.int j] => if -100000000 ≤ j ∧ j ≤ 100000000 then some (rangeL 0 j.toNat) else none
  | _ => none
def range2D : List D → Option (List D)
  | [.int i, .int j] => if -100000000 ≤ i ∧ i ≤ 100000000 ∧ -100000000 ≤ j ∧ j ≤ 100000000 then some (rangeL i (j - i).toNat) else none
  | _ => none
theorem walkD_range {B : Hp} {lo : Int} {n : Nat} : WalkD K B (Itr lo n) (rangeL lo n) := by
  refine ⟨fun _ => True, _, (by rw [show (rangeL lo n).length = n by simp [rangeL]]; exact walk_range), fun _ _ => True.intro, fun i H x H' y e hi B1 e1 e2 => ?_⟩
  obtain ⟨rfl, rfl⟩ := y
  refine ⟨B1, .int (lo + i), Pu.refl e2, ?_, .int _⟩
  have hi2 : i < n := by simpa [rangeL] using hi
  unfold rangeL
  rw [List.getElem?_map, List.getElem?_range hi2]
  rfl
variable {a b : Expr} {t : TA} {f : DM (List D)}
theorem pdi_range1 (hg : Gl X "range") (hm : X.mg "range" = none) (ha : PDA X c [a] t f) (hs : starEach [a] X.env = [(false, eval a X.env)] := by rfl) : PDI X c tg (.Call (.Name "range" p) [a] [] pos) (iRng1 t) (f.bind fun ds => DM.opt (range1D ds)) :=
  ⟨pi_range1 hg hm ha.pa hs, EvP.bind (relA := RepA X.K) (tk := fun vs _ H1 R => ∃ j : Int, vs = [.int j] ∧ -(2 ^ 62) ≤ j ∧ j < 2 ^ 62 ∧ R (Itr 0 j.toNat) H1) mono_true ha.ev fun vs ds =>
    EvP.val (t := fun H1 R => ∃ j : Int, vs = [.int j] ∧ -(2 ^ 62) ≤ j ∧ j < 2 ^ 62 ∧ R (Itr 0 j.toNat) H1) fun B H l e p hg R q => by
      match ds, hg with
      | [.int j], hg =>
        obtain ⟨hl, rfl⟩ := opt_if (show (if -100000000 ≤ j ∧ j ≤ 100000000 then some (rangeL 0 j.toNat) else none) = some l from hg)
        obtain ⟨v, rfl, rv⟩ := repA1 p.2
        exact ⟨j, by rw [rep_int rv], by omega, by omega, q _ B H (Pu.refl e) walkD_range⟩⟩
theorem pdi_range2 (hg : Gl X "range") (hm : X.mg "range" = none) (ha : PDA X c [a, b] t f) (hs : starEach [a, b] X.env = [(false, eval a X.env), (false, eval b X.env)] := by rfl) (hs2 : starEach [b] X.env = [(false, eval b X.env)] := by rfl) :
    PDI X c tg (.Call (.Name "range" p) [a, b] [] pos) (iRng2 t) (f.bind fun ds => DM.opt (range2D ds)) :=
  ⟨pi_range2 hg hm ha.pa hs hs2, EvP.bind (relA := RepA X.K) (tk := fun vs _ H1 R => ∃ i j : Int, vs = [.int i, .int j] ∧ (-(2 ^ 62) ≤ i ∧ i < 2 ^ 62 ∧ -(2 ^ 62) ≤ j ∧ j < 2 ^ 62) ∧ R (Itr i (j - i).toNat) H1) mono_true ha.ev fun vs ds =>
    EvP.val (t := fun H1 R => ∃ i j : Int, vs = [.int i, .int j] ∧ (-(2 ^ 62) ≤ i ∧ i < 2 ^ 62 ∧ -(2 ^ 62) ≤ j ∧ j < 2 ^ 62) ∧ R (Itr i (j - i).toNat) H1) fun B H l e p hg R q => by
      match ds, hg with
      | [.int i, .int j], hg =>
        obtain ⟨hl, rfl⟩ := opt_if (show (if -100000000 ≤ i ∧ i ≤ 100000000 ∧ -100000000 ≤ j ∧ j ≤ 100000000 then some (rangeL i (j - i).toNat) else none) = some l from hg)
        obtain ⟨v, w, rfl, rv, rw'⟩ := repA2 p.2
        exact ⟨i, j, by rw [rep_int rv, rep_int rw'], by omega, q _ B H (Pu.refl e) walkD_range⟩⟩
end
end DR

set_option maxRecDepth 100000
set_option maxHeartbeats 1000000
namespace DR
open PySem PySem.Spec L2
open PyProof.Rows hiding St
open Evl (Ex ex_l ex_t ex_rd)

/-! ### targets: a name, names of a tuple -/
def SameOff (vs : List Nat) {α : Type} (s t : List α) : Prop := t.length = s.length ∧ ∀ i, i ∉ vs → t[i]? = s[i]?
theorem SameOff.refl {vs : List Nat} {α : Type} {s : List α} : SameOff vs s s := ⟨rfl, fun _ _ => rfl⟩
theorem SameOff.trans {vs : List Nat} {α : Type} {s t u : List α} (a : SameOff vs s t) (b : SameOff vs t u) : SameOff vs s u := ⟨b.1.trans a.1, fun i h => (b.2 i h).trans (a.2 i h)⟩
theorem SameOff.set {vs : List Nat} {α : Type} {s : List α} {i : Nat} {x : α} (h : i ∈ vs) : SameOff vs s (s.set i x) :=
  ⟨List.length_set, fun j hj => List.getElem?_set_ne (show i ≠ j from fun e => hj (e ▸ h))⟩
abbrev DG := D → DS → Option DS
def EvG (K : PySem.W.Frag) (c : Cf) (vs : List Nat) (g : TG) (gd : DG) : Prop :=
  ∀ (A : Nat → Addr) (Z : Addr → Bool) (B : Hp) (σ : L2.St) (H : Hp) (st st' : DS) (x : V) (d : D), ER K c A Z B σ H st → Rep K B x d → gd d st = some st' →
    ∀ Q : L2.St → Hp → Prop, (∀ σ', ER K c A Z B σ' H st' → SameOff vs σ σ' → SameOff vs st st' → Q σ' H) → g x σ H Q
theorem ER.set {K : PySem.W.Frag} {c : Cf} {A : Nat → Addr} {Z : Addr → Bool} {B : Hp} {σ : L2.St} {H : Hp} {st : DS} {i : Nat} {x : V} {d : D} (e : ER K c A Z B σ H st) (hi : i ∉ c.ps) (r : Rep K B x d) : ER K c A Z B (σ.set i (some x)) H (st.set i (some d)) where
  len := by rw [List.length_set, List.length_set]; exact e.len
  bh := e.bh
  rd := fun j d' h1 h2 h => by
    by_cases hj : i = j
    · subst hj
      by_cases hl : i < st.length
      · rw [List.getElem?_set_self hl] at h
        cases h
        exact ⟨x, List.getElem?_set_self (by rw [← e.len]; exact hl), r⟩
      · rw [List.getElem?_eq_none (by rw [List.length_set]; omega)] at h
        cases h
    · rw [List.getElem?_set_ne hj] at h
      rw [List.getElem?_set_ne hj]
      exact e.rd j d' h1 h2 h
  pn := fun j hj => by
    have hne : i ≠ j := fun z => hi (z ▸ hj)
    rw [List.getElem?_set_ne hne, List.getElem?_set_ne hne]
    exact e.pn j hj
  ne := e.ne
  zx := e.zx
  zo := e.zo
def gdName (i : Nat) : DG := fun d st => some (st.set i (some d))
theorem evg_name {K : PySem.W.Frag} {c : Cf} {i : Nat} {vs : List Nat} (h1 : i ∈ vs) (h2 : i ∉ c.ps) : EvG K c vs (gName i) (gdName i) :=
  fun A Z B σ H st st' x d er r h Q q => by
    cases h
    exact q _ (er.set h2 r) (SameOff.set h1) (SameOff.set h1)
/-- several targets -/
abbrev DGs := List D → DS → Option DS
def gdNil : DGs := fun ds st => match ds with
  | [] => some st
  | _ => none
def gdCons (g : DG) (u : DGs) : DGs := fun ds st => match ds with
  | d :: r => match g d st with
    | some st1 => u r st1
    | none => none
  | _ => none
def EvGs (K : PySem.W.Frag) (c : Cf) (vs : List Nat) (g : TGs) (gd : DGs) : Prop :=
  ∀ (A : Nat → Addr) (Z : Addr → Bool) (B : Hp) (σ : L2.St) (H : Hp) (st st' : DS) (xs : List V) (ds : List D), ER K c A Z B σ H st → RepA K B xs ds → gd ds st = some st' →
    ∀ Q : L2.St → Hp → Prop, (∀ σ', ER K c A Z B σ' H st' → SameOff vs σ σ' → SameOff vs st st' → Q σ' H) → g xs σ H Q
theorem evgs_nil {K : PySem.W.Frag} {c : Cf} {vs : List Nat} : EvGs K c vs gNil gdNil := fun A Z B σ H st st' xs ds er r h Q q => by
  cases r with
  | nil =>
    cases h
    exact ⟨rfl, q σ er .refl .refl⟩
  | cons _ _ => cases h
theorem evgs_cons {K : PySem.W.Frag} {c : Cf} {vs : List Nat} {g : TG} {gd : DG} {u : TGs} {ud : DGs} (h1 : EvG K c vs g gd) (h2 : EvGs K c vs u ud) : EvGs K c vs (gCons g u) (gdCons gd ud) := fun A Z B σ H st st' xs ds er r h Q q => by
  cases r with
  | nil => cases h
  | @cons v vr d dr r rr =>
    unfold gdCons at h
    cases e1 : gd d st with
    | none =>
      simp only [e1] at h
      cases h
    | some st1 =>
      simp only [e1] at h
      exact ⟨v, vr, rfl, h1 A Z B σ H st st1 v d er r e1 _ fun σ1 er1 s1 s2 => h2 A Z B σ1 H st1 st' vr dr er1 rr h Q fun σ2 er2 s3 s4 => q σ2 er2 (s1.trans s3) (s2.trans s4)⟩
def gdTup (n : Nat) (u : DGs) : DG := fun d st => match d with
  | .tuple ds => if ds.length = n then u ds st else none
  | _ => none
theorem evg_tup {K : PySem.W.Frag} {c : Cf} {vs : List Nat} {n : Nat} {u : TGs} {ud : DGs} (h2 : EvGs K c vs u ud) : EvG K c vs (gTup K n u) (gdTup n ud) := fun A Z B σ H st st' x d er r h Q q => by
  cases d <;> first | (cases h; done) | skip
  rename_i ds
  unfold gdTup at h
  simp only at h
  split at h
  · rename_i hl
    obtain ⟨a, xs, rfl, ha, ra⟩ := rep_tup r
    exact ⟨a, xs, rfl, ex_t er.bh ha, by rw [ra.length]; exact hl, h2 A Z B σ H st st' xs ds er ra h Q q⟩
  · cases h
structure PDG (X : Cx) (c : Cf) (vs : List Nat) (tg : Expr) (g : TG) (gd : DG) : Prop where
  pg : PG X tg g
  ev : EvG X.K c vs g gd
structure PDGs (X : Cx) (c : Cf) (vs : List Nat) (tg : List Expr) (g : TGs) (gd : DGs) : Prop where
  pg : PGs X tg g
  ev : EvGs X.K c vs g gd
section
variable {X : Cx} {c : Cf} {vs : List Nat} {pos : Pos}
theorem pdg_name (i : Nat) {x : Str} (h1 : i ∈ vs := by decide) (h2 : i ∉ c.ps := by decide) (hN : X.N.Nodup := by assumption) (hi : X.N[i]? = some x := by rfl) (hx : Loc X.env.scope x := by first | exact Or.inl rfl | exact Or.inr rfl)
    (hf : X.fn x = true ∨ X.env.scope.names.lookup x = some .local := by first | exact .inl rfl | exact .inr rfl | assumption) : PDG X c vs (.Name x pos) (gName i) (gdName i) := ⟨pg_name hN hi hx hf, evg_name h1 h2⟩
theorem pdgs_nil : PDGs X c vs [] gNil gdNil := ⟨pgs_nil, evgs_nil⟩
theorem pdgs_cons {e : Expr} {es : List Expr} {g : TG} {gd : DG} {u : TGs} {ud : DGs} (h1 : PDG X c vs e g gd) (h2 : PDGs X c vs es u ud)
    (hs : (assignEach (e :: es) X.env).map (·.2) = assign e X.env :: (assignEach es X.env).map (·.2) := by rfl) : PDGs X c vs (e :: es) (gCons g u) (gdCons gd ud) := ⟨pgs_cons h1.pg h2.pg hs, evgs_cons h1.ev h2.ev⟩
theorem pdg_tup {es : List Expr} {k : Nat} {u : TGs} {ud : DGs} {n : Nat} (hc : X.calm = true) (h : PDGs X c vs es u ud)
    (hn : (assignEach es X.env).length = n := by rfl) (hst : (assignEach es X.env).findIdx? (·.1) = none := by rfl) : PDG X c vs (.Tuple es k pos) (gTup X.K n u) (gdTup n ud) := ⟨pg_tup hc h.pg hn hst, evg_tup h.ev⟩
end

/-! ### comprehensions -/
def wipeD (st : DS) : List Nat → DS
  | [] => st
  | v :: vs => (wipeD st vs).set v none
def backD (st s : DS) : List Nat → DS
  | [] => s
  | v :: vs => (backD st s vs).set v (st.getD v none)
theorem wipeD_len (st : DS) : ∀ vs : List Nat, (wipeD st vs).length = st.length
  | [] => rfl
  | v :: vs => by unfold wipeD; rw [List.length_set, wipeD_len st vs]
theorem wipeD_off {st : DS} {i : Nat} : ∀ {vs : List Nat}, i ∉ vs → (wipeD st vs)[i]? = st[i]?
  | [], _ => rfl
  | v :: vs, h => by
    unfold wipeD
    rw [List.getElem?_set_ne (show v ≠ i from fun e => h (e ▸ List.mem_cons_self)), wipeD_off (fun z => h (List.mem_cons_of_mem _ z))]
theorem wipeD_some {st : DS} {i : Nat} {d : D} : ∀ {vs : List Nat}, (wipeD st vs)[i]? = some (some d) → st[i]? = some (some d) ∧ i ∉ vs
  | [], h => ⟨h, by simp⟩
  | v :: vs, h => by
    unfold wipeD at h
    by_cases hi : v = i
    · subst hi
      by_cases hv : v < (wipeD st vs).length
      · rw [List.getElem?_set_self hv] at h; cases h
      · rw [List.getElem?_eq_none (by simpa using hv)] at h; cases h
    · rw [List.getElem?_set_ne hi] at h
      obtain ⟨h1, h2⟩ := wipeD_some h
      exact ⟨h1, by simp only [List.mem_cons, not_or]; exact ⟨fun e => hi e.symm, h2⟩⟩
theorem backD_len (st s : DS) : ∀ vs : List Nat, (backD st s vs).length = s.length
  | [] => rfl
  | v :: vs => by unfold backD; rw [List.length_set, backD_len st s vs]
theorem backD_off {st s : DS} {i : Nat} : ∀ {vs : List Nat}, i ∉ vs → (backD st s vs)[i]? = s[i]?
  | [], _ => rfl
  | v :: vs, h => by
    unfold backD
    rw [List.getElem?_set_ne (show v ≠ i from fun e => h (e ▸ List.mem_cons_self)), backD_off (fun z => h (List.mem_cons_of_mem _ z))]
theorem backD_on {st s : DS} {i : Nat} (hl : s.length = st.length) : ∀ {vs : List Nat}, i ∈ vs → (backD st s vs)[i]? = st[i]?
  | v :: vs, h => by
    unfold backD
    by_cases hv : v = i
    · subst hv
      by_cases h2 : v < st.length
      · rw [List.getElem?_set_self (by rw [backD_len, hl]; exact h2), List.getElem?_eq_getElem h2]
        simp [List.getD, h2]
      · rw [List.getElem?_eq_none (by rw [List.length_set, backD_len, hl]; omega), List.getElem?_eq_none (by omega)]
    · rw [List.getElem?_set_ne hv]
      rcases List.mem_cons.mp h with e | h
      · exact absurd e.symm hv
      · exact backD_on hl h
theorem wipe_off {σ : L2.St} {i : Nat} : ∀ {vs : List Nat}, i ∉ vs → (L2.wipe σ vs)[i]? = σ[i]?
  | [], _ => rfl
  | v :: vs, h => by
    unfold L2.wipe
    rw [List.getElem?_set_ne (show v ≠ i from fun e => h (e ▸ List.mem_cons_self)), wipe_off (fun z => h (List.mem_cons_of_mem _ z))]
theorem wipe_on {σ : L2.St} {i : Nat} : ∀ {vs : List Nat}, i ∈ vs → i < σ.length → (L2.wipe σ vs)[i]? = some none
  | v :: vs, h, hl => by
    unfold L2.wipe
    by_cases hv : v = i
    · subst hv
      rw [List.getElem?_set_self (by rw [wipe_length]; exact hl)]
    · rw [List.getElem?_set_ne hv]
      rcases List.mem_cons.mp h with e | h
      · exact absurd e.symm hv
      · exact wipe_on h hl
theorem wipe_eq {σ τ : L2.St} {vs : List Nat} (h : SameOff vs σ τ) : L2.wipe τ vs = L2.wipe σ vs := by
  refine List.ext_getElem? fun i => ?_
  by_cases hi : i ∈ vs
  · by_cases hl : i < σ.length
    · rw [wipe_on hi hl, wipe_on hi (by rw [h.1]; exact hl)]
    · rw [List.getElem?_eq_none (by rw [wipe_length, h.1]; omega), List.getElem?_eq_none (by rw [wipe_length]; omega)]
  · rw [wipe_off hi, wipe_off hi]
    exact h.2 i hi
theorem wipe_wipe {σ : L2.St} {vs : List Nat} : L2.wipe (L2.wipe σ vs) vs = L2.wipe σ vs := wipe_eq ⟨wipe_length _ _, fun i hi => wipe_off hi⟩
def dcompL (vs : List Nat) (g : DG) (tt : DM Bool) (te : DM D) : List D → DS → List D → Option (List D × DS)
  | [], st, acc => some (acc, st)
  | d :: r, st, acc => match g d (wipeD st vs) with
    | none => none
    | some st1 => match tt st1 with
      | some (.ok true, st2) => match te st2 with
        | some (.ok y, st3) => if acc.length < sizeLine then dcompL vs g tt te r (backD st st3 vs) (acc ++ [y]) else none
        | _ => none
      | some (.ok false, st2) => dcompL vs g tt te r (backD st st2 vs) acc
      | _ => none
def dcomp (vs : List Nat) (items : DM (List D)) (g : DG) (tt : DM Bool) (te : DM D) : DM D := items.bind fun ds => fun st => (dcompL vs g tt te ds st []).map fun r => (.ok (.list r.1), r.2)
section
variable {K : PySem.W.Frag} {c : Cf} {A : Nat → Addr} {Z : Addr → Bool} {B B' H H' : Hp} {σ : L2.St} {st st' : DS}
theorem ER.wipe {vs : List Nat} (e : ER K c A Z B σ H st) (hv : ∀ i ∈ vs, i ∉ c.ps) : ER K c A Z B (L2.wipe σ vs) H (wipeD st vs) where
  len := by rw [wipeD_len, wipe_length]; exact e.len
  bh := e.bh
  rd := fun i d h1 h2 h => by
    obtain ⟨h3, h4⟩ := wipeD_some h
    obtain ⟨v, q, r⟩ := e.rd i d h1 h2 h3
    exact ⟨v, by rw [wipe_off h4]; exact q, r⟩
  pn := fun i hi => by
    have hn : i ∉ vs := fun z => hv i z hi
    rw [wipeD_off hn, wipe_off hn]
    exact e.pn i hi
  ne := e.ne
  zx := e.zx
  zo := e.zo
/-- behind a block: the outer slots again -/
theorem ER.back {vs : List Nat} {B0 H0 : Hp} {σ2 : L2.St} {st1 : DS} (e0 : ER K c A Z B0 σ H0 st) (e : ER K c A Z B σ2 H st1) (ex : Ex B0 B) (hv : ∀ i ∈ vs, i ∉ c.ps) (hl : st1.length = st.length) (hs : ∀ i, i ∉ vs → i ∉ c.ps → st1[i]? = st[i]?) (hσ : ∀ i, i ∉ vs → σ2[i]? = σ[i]?) :
    ER K c A Z B σ H (backD st st1 vs) where
  len := by rw [backD_len, hl]; exact e0.len
  bh := e.bh
  rd := fun i d h1 h2 h => by
    have h3 : st[i]? = some (some d) := by
      by_cases hi : i ∈ vs
      · rw [backD_on hl hi] at h
        exact h
      · rw [backD_off hi, hs i hi h2] at h
        exact h
    obtain ⟨v, q, r⟩ := e0.rd i d h1 h2 h3
    exact ⟨v, q, r.mono ex⟩
  pn := fun i hi => by
    have hn : i ∉ vs := fun z => hv i z hi
    obtain ⟨d, o, q1, q2, q3⟩ := e.pn i hi
    rw [hσ i hn] at q2
    exact ⟨d, o, by rw [backD_off hn]; exact q1, q2, q3⟩
  ne := e.ne
  zx := e.zx
  zo := e.zo
end
/-- a new object, out of the base -/
def EvN (K : PySem.W.Frag) (c : Cf) (t : TE) (f : DM D) : Prop :=
  ∀ (A : Nat → Addr) (Z : Addr → Bool) (B : Hp) (σ : L2.St) (H : Hp) (st : DS) (r : Res D × DS), ER K c A Z B σ H st → f st = some r → ∀ Q : VK,
    (∀ d st', r = (.ok d, st') → ∀ p o B' H', ER K c A Z B' σ H' st' → Adv c.ps A B H st B' H' st' → B' p = none → H p = none → H' p = some o → RepO K B' o d → Q (.ref p) H') →
    (∀ x fl st', r = (.ex x fl, st') → ∀ dx B' H', ER K c A Z B' σ H' st' → Adv c.ps A B H st B' H' st' → Fld K B' H' dx fl → c.W (.ref x) dx H') → t σ H Q
section
variable {K : PySem.W.Frag} {c : Cf}
theorem ER.took {A : Nat → Addr} {Z : Addr → Bool} {B H : Hp} {σ : L2.St} {st : DS} {p : Addr} {o : HO} (e : ER K c A Z B σ H st) (hb : B p = none) (hh : H p = some o) (hz : Z p = false) (hp : ∀ i ∈ c.ps, p ≠ A i) : ER K c A Z (upd B p o) σ H st where
  len := e.len
  bh := fun a u q => by
    by_cases z : a = p
    · subst z
      rw [upd_same] at q
      rw [← q]
      exact hh
    · rw [upd_ne z] at q
      exact e.bh a u q
  rd := fun i d h1 h2 h => by
    obtain ⟨v, q, r⟩ := e.rd i d h1 h2 h
    exact ⟨v, q, r.mono fun a u z => by rw [upd_ne (ne_of_none z hb)]; exact z⟩
  pn := fun i hi => by
    obtain ⟨d, u, q1, q2, q3, q4, q5⟩ := e.pn i hi
    refine ⟨d, u, q1, q2, ?_, q4, q5.mono (cut_mono fun a u z => by rw [upd_ne (ne_of_none z hb)]; exact z)⟩
    rw [upd_ne (fun z => hp i hi z.symm)]
    exact q3
  ne := e.ne
  zx := e.zx
  zo := fun a h => by
    obtain ⟨u, h1, h2⟩ := e.zo a h
    exact ⟨u, by rw [upd_ne (ne_of_none h1 hb)]; exact h1, h2⟩
theorem Adv.took {ps : List Nat} {A : Nat → Addr} {B H B' H' : Hp} {st st' : DS} {p : Addr} {o : HO} (a : Adv ps A B H st B' H' st') (hb : B' p = none) (hn : H p = none) : Adv ps A B H st (L2.upd B' p o) H' st' where
  ext := fun x u q => by rw [upd_ne (ne_of_none (a.ext x u q) hb)]; exact a.ext x u q
  new := fun x u q => by
    by_cases z : x = p
    · subst z
      exact .inr hn
    · rw [upd_ne z] at q
      exact a.new x u q
  keep := a.keep
  there := a.there
  ln := a.ln
  upd := a.upd
  pst := a.pst
theorem ER.pen_there {A : Nat → Addr} {Z : Addr → Bool} {B H : Hp} {σ : L2.St} {st : DS} (e : ER K c A Z B σ H st) {p : Addr} (h : H p = none) : ∀ i ∈ c.ps, p ≠ A i := fun i hi z => by
  obtain ⟨d, o, _, _, _, q, _⟩ := e.pn i hi
  rw [← z, h] at q
  cases q
theorem ER.z_there {A : Nat → Addr} {Z : Addr → Bool} {B H : Hp} {σ : L2.St} {st : DS} (e : ER K c A Z B σ H st) {p : Addr} (h : H p = none) : Z p = false := by
  cases z : Z p with
  | false => rfl
  | true =>
    obtain ⟨o, q, _⟩ := e.zo p z
    rw [e.bh p o q] at h
    cases h
theorem EvN.ev {t : TE} {f : DM D} (h : EvN K c t f) : EvD K c t f := fun A Z B σ H st r er _ hf Q hok hex =>
  h A Z B σ H st r er hf Q (fun d st' e p o B' H' er' ad hb hn hp ro => hok d st' e _ _ _ (er'.took hb hp (er.z_there hn) (er.pen_there hn)) (ad.took hb hn) (ro.rep (fun a u q => by rw [upd_ne (ne_of_none q hb)]; exact q) upd_same)) hex
/-- the list that a comprehension builds: what stood stays -/
theorem Adv.upd_new {ps : List Nat} {A : Nat → Addr} {B H B' H' : Hp} {st st' : DS} {p : Addr} {o : HO} (a : Adv ps A B H st B' H' st') (hn : H p = none) (hb : B' p = none) : Adv ps A B H st B' (L2.upd H' p o) st' where
  ext := a.ext
  new := a.new
  keep := fun x u q n => by rw [upd_ne (ne_of_none q hn)]; exact a.keep x u q n
  there := fun x q => by
    by_cases z : x = p
    · subst z
      exact hn
    · rw [upd_ne z] at q
      exact a.there x q
  ln := a.ln
  upd := a.upd
  pst := a.pst
theorem ER.upd_new {A : Nat → Addr} {Z : Addr → Bool} {B H : Hp} {σ : L2.St} {st : DS} {p : Addr} {o : HO} (e : ER K c A Z B σ H st) (hb : B p = none) (hp : ∀ i ∈ c.ps, p ≠ A i) : ER K c A Z B σ (upd H p o) st where
  len := e.len
  bh := fun a u q => by rw [upd_ne (ne_of_none q hb)]; exact e.bh a u q
  rd := e.rd
  pn := fun i hi => by
    obtain ⟨d, u, q1, q2, q3, q4, q5⟩ := e.pn i hi
    exact ⟨d, u, q1, q2, q3, by rw [upd_ne (fun z => hp i hi z.symm)]; exact q4, q5⟩
  ne := e.ne
  zx := e.zx
  zo := e.zo
end
structure PDTs (X : Cx) (c : Cf) (ifs : List Expr) (t : TT) (f : DM Bool) : Prop where
  pt : PTs X ifs t
  ev : EvT X.K c t f
theorem pdts_nil {X : Cx} {c : Cf} : PDTs X c [] tYes (DM.pure true) := ⟨pts_nil, EvP.pure fun _ _ => rfl⟩
theorem pdts_one {X : Cx} {c : Cf} {e : Expr} {t : TT} {f : DM Bool} (h : PDT X c e t f) : PDTs X c [e] t f := ⟨pts_one h.pt, h.ev⟩
theorem ev_lc {K : PySem.W.Frag} {c : Cf} {vs : List Nat} {wi : TI} {fi : DM (List D)} {g : TG} {gd : DG} {tt : TT} {ft : DM Bool} {te : TE} {fe : DM D} (hv : ∀ i ∈ vs, i ∉ c.ps) (hi : EvP K c (fun _ => True) (WalkD K) wi fi) (hg : EvG K c vs g gd) (ht : EvT K c tt ft) (he : EvD K c te fe) :
    EvN K c (tLc wi g tt te vs) (dcomp vs fi gd ft fe) := by
  intro A Z B σ H st r er hf Q hok hex
  unfold dcomp at hf
  cases ei : fi st with
  | none =>
    unfold DM.bind at hf
    rw [ei] at hf
    cases hf
  | some ri =>
    obtain ⟨ri, st1⟩ := ri
    refine hi A Z B σ H st _ er True.intro ei _ (fun ds st1' e1 J B1 H1 er1 ad1 wd => ?_) (fun x fl st1' e1 dx B1 H1 er1 ad1 fl1 => ?_)
    · cases e1
      rw [bind_ok ei] at hf
      obtain ⟨fin, hfin, rfl⟩ := Option.map_eq_some_iff.mp hf
      intro Dd hD
      have hDps := er1.pen_there hD
      have hDB : B1 Dd = none := none_of er1.bh hD
      obtain ⟨G, Y, w, hG, hY⟩ := wd
      refine lc_it w (fun i H' => ∃ (Bi : Hp) (sti : DS) (av : List V) (ad : List D), ER K c A Z Bi σ H' sti ∧ Adv c.ps A B1 H1 st1 Bi H' sti ∧ Bi Dd = none ∧ H' Dd = some (.lst av) ∧ RepA K Bi av ad ∧ dcompL vs gd ft fe (ds.drop i) sti ad = some fin)
        ⟨B1, st1, [], [], er1.upd_new hDB hDps, Adv.refl.upd_new hD hDB, hDB, upd_same, .nil, hfin⟩ (fun i H' _ ⟨Bi, _, _, _, eri, adi, _⟩ => hG H' fun a o q => eri.bh a o (adi.ext a o q)) ?_ ?_
      · rintro i x H' H'' hilt ⟨Bi, sti, av, ad, eri, adi, hBi, hDi, rai, hrun⟩ y
        obtain ⟨Bi', d, pu, hd, rx⟩ := hY i H' x H'' y (fun a o q => eri.bh a o (adi.ext a o q)) hilt Bi adi.ext eri.bh
        have hds : ds.drop i = d :: ds.drop (i + 1) := by
          obtain ⟨h1, h2⟩ := List.getElem?_eq_some_iff.mp hd
          rw [← h2]
          exact List.drop_eq_getElem_cons h1
        rw [hds] at hrun
        unfold dcompL at hrun
        have eri' := eri.pu pu
        have adi' : Adv c.ps A B1 H1 st1 Bi' H'' sti := adi.trans pu.adv
        have hBi' : Bi' Dd = none := by
          cases q : Bi' Dd with
          | none => rfl
          | some u =>
            rcases pu.new Dd u q with z | z
            · rw [hBi] at z
              cases z
            · rw [hDi] at z
              cases z
        have hDi' : H'' Dd = some (.lst av) := pu.hx _ _ hDi
        cases eg : gd d (wipeD sti vs) with
        | none =>
          simp only [eg] at hrun
          cases hrun
        | some st2 =>
          simp only [eg] at hrun
          refine hg A Z Bi' (L2.wipe σ vs) H'' (wipeD sti vs) st2 x d (eri'.wipe hv) rx eg _ fun σ2 er2 so1 so2 => ⟨by rw [wipe_eq so1, wipe_wipe], ?_⟩
          have hσ2 : ∀ i, i ∉ vs → σ2[i]? = σ[i]? := fun i hi => (so1.2 i hi).trans (wipe_off hi)
          have hst2 : ∀ i, i ∉ vs → st2[i]? = sti[i]? := fun i hi => (so2.2 i hi).trans (wipeD_off hi)
          have hl2 : st2.length = sti.length := so2.1.trans (wipeD_len _ _)
          cases et : ft st2 with
          | none =>
            simp only [et] at hrun
            cases hrun
          | some rt =>
            obtain ⟨rt, st3⟩ := rt
            refine ht A Z Bi' σ2 H'' st2 _ er2 True.intro et _ (fun b st3' e3 b' B3 H3 er3 ad3 eb => ?_) (fun x fl st3' e3 dx B3 H3 er3 ad3 fl3 => ?_)
            · cases e3
              have eb' : b' = b := eb
              subst eb'
              have hD3 : H3 Dd = some (.lst av) := ad3.keep _ _ hDi' hDps
              have hB3 : B3 Dd = none := by
                cases q : B3 Dd with
                | none => rfl
                | some u =>
                  rcases ad3.new Dd u q with z | z
                  · rw [hBi'] at z
                    cases z
                  · rw [hDi'] at z
                    cases z
              cases b' with
              | true =>
                rw [if_pos rfl]
                simp only [et] at hrun
                cases ee : fe st3 with
                | none =>
                  simp only [ee] at hrun
                  cases hrun
                | some re =>
                  obtain ⟨re, st4⟩ := re
                  refine he A Z B3 σ2 H3 st3 _ er3 True.intro ee _ (fun y st4' e4 v B4 H4 er4 ad4 ry => ?_) (fun x fl st4' e4 dx B4 H4 er4 ad4 fl4 => ?_)
                  · cases e4
                    simp only [ee] at hrun
                    split at hrun
                    · rename_i hsz
                      have hD4 : H4 Dd = some (.lst av) := ad4.keep _ _ hD3 hDps
                      have hB4 : B4 Dd = none := by
                        cases q : B4 Dd with
                        | none => rfl
                        | some u =>
                          rcases ad4.new Dd u q with z | z
                          · rw [hB3] at z
                            cases z
                          · rw [hD3] at z
                            cases z
                      have h34 := ad3.trans ad4
                      have hl4 : st4.length = sti.length := h34.ln.trans hl2
                      have er5 := ER.back (vs := vs) eri' er4 h34.ext hv hl4 (fun i h1 h2 => (h34.upd i h2).trans (hst2 i h1)) hσ2
                      have ad5 : Adv c.ps A B1 H1 st1 B4 H4 (backD sti st4 vs) := {
                        ext := fun a o q => h34.ext a o (adi'.ext a o q)
                        new := fun a o q => by
                          rcases h34.new a o q with z | z
                          · exact adi'.new a o z
                          · exact .inr (adi'.there a z)
                        keep := fun a o q n => h34.keep a o (adi'.keep a o q n) n
                        there := fun a q => adi'.there a (h34.there a q)
                        ln := by rw [backD_len, hl4, adi'.ln]
                        upd := fun i h => by
                          by_cases hi : i ∈ vs
                          · rw [backD_on hl4 hi]
                            exact adi'.upd i h
                          · rw [backD_off hi, h34.upd i h, hst2 i hi]
                            exact adi'.upd i h
                        pst := fun i d h => by
                          by_cases hi : i ∈ vs
                          · rw [backD_on hl4 hi] at h
                            exact adi'.pst i d h
                          · rw [backD_off hi] at h
                            obtain ⟨d2, h2⟩ := h34.pst i d h
                            rw [hst2 i hi] at h2
                            exact adi'.pst i d2 h2 }
                      exact ⟨av, hD4, by rw [rai.length]; exact hsz, B4, backD sti st4 vs, av ++ [v], ad ++ [y], er5.upd_new hB4 hDps, ad5.upd_new hD hB4, hB4, upd_same, (rai.mono fun a o q => h34.ext a o (pu.ext a o q)).append (.cons ry .nil), hrun⟩
                    · cases hrun
                  · cases e4
                    simp only [ee] at hrun
                    cases hrun
              | false =>
                rw [if_neg Bool.false_ne_true]
                simp only [et] at hrun
                have hl4 : st3.length = sti.length := ad3.ln.trans hl2
                have er5 := ER.back (vs := vs) eri' er3 ad3.ext hv hl4 (fun i h1 h2 => (ad3.upd i h2).trans (hst2 i h1)) hσ2
                have ad5 : Adv c.ps A B1 H1 st1 B3 H3 (backD sti st3 vs) := {
                  ext := fun a o q => ad3.ext a o (adi'.ext a o q)
                  new := fun a o q => by
                    rcases ad3.new a o q with z | z
                    · exact adi'.new a o z
                    · exact .inr (adi'.there a z)
                  keep := fun a o q n => ad3.keep a o (adi'.keep a o q n) n
                  there := fun a q => adi'.there a (ad3.there a q)
                  ln := by rw [backD_len, hl4, adi'.ln]
                  upd := fun i h => by
                    by_cases hi : i ∈ vs
                    · rw [backD_on hl4 hi]
                      exact adi'.upd i h
                    · rw [backD_off hi, ad3.upd i h, hst2 i hi]
                      exact adi'.upd i h
                  pst := fun i d h => by
                    by_cases hi : i ∈ vs
                    · rw [backD_on hl4 hi] at h
                      exact adi'.pst i d h
                    · rw [backD_off hi] at h
                      obtain ⟨d2, h2⟩ := ad3.pst i d h
                      rw [hst2 i hi] at h2
                      exact adi'.pst i d2 h2 }
                exact ⟨B3, backD sti st3 vs, av, ad, er5, ad5, hB3, hD3, rai.mono fun a o q => ad3.ext a o (pu.ext a o q), hrun⟩
            · cases e3
              simp only [et] at hrun
              cases hrun
      · rintro H' ⟨Bi, sti, av, ad, eri, adi, hBi, hDi, rai, hrun⟩
        rw [List.drop_length] at hrun
        cases hrun
        exact hok _ _ rfl Dd _ Bi H' eri (ad1.trans adi) hBi (ad1.there _ hD) hDi (.lst rai)
    · cases e1
      rw [bind_ex ei] at hf
      exact hex x fl st1 (Option.some.inj hf).symm dx B1 H1 er1 ad1 fl1
structure PDN (X : Cx) (c : Cf) (e : Expr) (t : TE) (f : DM D) : Prop where
  pe : PE X e t
  ev : EvN X.K c t f
theorem PDN.pd {X : Cx} {c : Cf} {e : Expr} {t : TE} {f : DM D} (h : PDN X c e t f) : PD X c e t f := ⟨h.pe, h.ev.ev⟩
theorem pdn_lc {X : Cx} {c : Cf} {elt tg iter : Expr} {ifs : List Expr} {scope : Scope} (own : List (Str × Nat)) {pos : Pos} {wi : TI} {fi : DM (List D)} {g : TG} {gd : DG} {tt : TT} {ft : DM Bool} {te : TE} {fe : DM D} (hc : X.calm = true) (hN : X.N.Nodup) (hi : PDI X c tg iter wi fi) (ok : BlkOk X.N X.env.scope scope own)
    (hv : ∀ i ∈ own.map (·.2), i ∉ c.ps)
    (hg : ∀ (s : Shared) (H : Hp) (C : Addr) (cl : List (Str × Addr)) (fp : List Addr), PDG (X.blk s H scope (compEnvC scope cl C X.env) fp) c (own.map (·.2)) tg g gd) (ht : ∀ (s : Shared) (H : Hp) (C : Addr) (cl : List (Str × Addr)) (fp : List Addr), PDTs (X.blk s H scope (compEnvC scope cl C X.env) fp) c ifs tt ft)
    (he : ∀ (s : Shared) (H : Hp) (C : Addr) (cl : List (Str × Addr)) (fp : List Addr), PD (X.blk s H scope (compEnvC scope cl C X.env) fp) c elt te fe) (hs : ∀ x, foldedSetIterable iter X.env x = pure x := by intro _; rfl) :
    PDN X c (.ListComp elt [⟨tg, iter, ifs, 0⟩] scope pos) (tLc wi g tt te (own.map (·.2))) (dcomp (own.map (·.2)) fi gd ft fe) :=
  ⟨pe_lc hc hN hi.pi ok (fun s H C cl fp => (hg s H C cl fp).pg) (fun s H C cl fp => (ht s H C cl fp).pt) (fun s H C cl fp => (he s H C cl fp).pe) hs,
   ev_lc hv hi.ev (hg X.s_0 X.H_0 0 [] []).ev (ht X.s_0 X.H_0 0 [] []).ev (he X.s_0 X.H_0 0 [] []).ev⟩
end DR

set_option maxRecDepth 100000
set_option maxHeartbeats 1000000
namespace DR
open PySem PySem.Spec L2
open PyProof.Rows hiding St
open Evl (Ex ex_l ex_t ex_rd)

/-! ### defs: what they promise on data -/
/-- no pens, raises nothing -/
def spD (K : PySem.W.Frag) (n : Nat) (m : List D → Option D) : Sp := fun vs H Q _ => ∃ (B : Hp) (ds : List D) (d : D), vs.length = n ∧ Ex B H ∧ RepA K B vs ds ∧ m ds = some d ∧
  ∀ v B' H', Pu B H B' H' → Rep K B' v d → Q v H'
structure PuP (K : PySem.W.Frag) (l : Addr) (B H B' H' : Hp) (pd : D) : Prop where
  ext : Ex B B'
  new : ∀ a o, B' a = some o → B a = some o ∨ H a = none
  keep : ∀ a o, H a = some o → a ≠ l → H' a = some o
  there : ∀ a, H' a = none → H a = none
  bh : Ex B' H'
  no : B' l = none
  pen : ∃ o, H' l = some o ∧ RepO K B' o pd
/-- a pen is the first argument -/
def spP (K : PySem.W.Frag) (n : Nat) (m : D → List D → Option (D × D)) : Sp := fun vs H Q _ => ∃ (B : Hp) (l : Addr) (o : HO) (pd : D) (ws : List V) (ds : List D) (d pd' : D), vs = .ref l :: ws ∧ ws.length = n ∧ Ex B H ∧ B l = none ∧ H l = some o ∧ RepO K B o pd ∧ RepA K B ws ds ∧ m pd ds = some (d, pd') ∧
  ∀ v B' H', PuP K l B H B' H' pd' → Rep K B' v d → Q v H'
/-- may raise -/
def spX (K : PySem.W.Frag) (n : Nat) (m : List D → Option (Res D)) : Sp := fun vs H Q E => ∃ (B : Hp) (ds : List D) (r : Res D), vs.length = n ∧ Ex B H ∧ RepA K B vs ds ∧ m ds = some r ∧
  (∀ d, r = .ok d → ∀ v B' H', Pu B H B' H' → Rep K B' v d → Q v H') ∧ ∀ x fl, r = .ex x fl → ∀ dx B' H', Pu B H B' H' → Fld K B' H' dx fl → E (.ref x) dx H'
def dcall (m : List D → Option D) (fs : DM (List D)) : DM D := fs.bind fun ds => DM.opt (m ds)
def dcallX (m : List D → Option (Res D)) (fs : DM (List D)) : DM D := fs.bind fun ds => fun st => (m ds).map fun r => (r, st)
/-- the pen's content behind the arguments -/
def penOf (p : Nat) (st : DS) : Option D := match st[p]? with
  | some (some d) => some d
  | _ => none
def dcallP (mx : Bool) (p : Nat) (m : D → List D → Option (D × D)) (fs : DM (List D)) : DM D := fs.bind fun ds => fun st => match penOf p st with
  | some pd => if mx = true ∧ flatA ds = false then none else (m pd ds).map fun r => (.ok r.1, st.set p (some r.2))
  | none => none
section
variable {X : Cx} {c : Cf} {K : PySem.W.Frag} {t : TA} {fs : DM (List D)}
theorem ev_call {n : Nat} {m : List D → Option D} {E : XK} (hn : ∀ ds d, m ds = some d → ds.length = n) (h : EvA K c t fs) : EvD K c (tCall (spD K n m) [] E t) (dcall m fs) :=
  EvP.bind (relA := RepA K) (tk := fun vs _ H Q => spD K n m (vs ++ []) H Q E) mono_true h fun vs ds => EvP.val (t := fun H Q => spD K n m (vs ++ []) H Q E) fun B H dz e p hg Q q => by
    rw [List.append_nil]
    exact ⟨B, ds, dz, by rw [p.2.length]; exact hn _ _ hg, e, p.2, hg, q⟩
theorem pd_call {k : Nat} {f : Addr} {fd : FuncData} {ps : List Str} {CX : CXT} {n : Nat} {m : List D → Option D} {x : Str} {p pos : Pos} {e : Expr} {es : List Expr} (F : FnOk X.prog X.w X.K X.mg X.base CX k f fd ps (spD X.K n m)) (hn : ∀ ds d, m ds = some d → ds.length = n) (hr : Room k X.A) (hg : Gl X x) (hm : X.mg x = some (.ref f)) (hk : PySem.W.keepIn X.K (.ref f) = true) (hb : Binds X.K fd ps [])
    (hx : Passes CX X E0) (ha : PDA X c (e :: es) t fs) (hdb : (x == ("__debug__" : Str)) = false := by decide) (he : starEach (e :: es) X.env = (false, eval e X.env) :: starEach es X.env := by rfl) (hpl : (backTo pos (starEach es X.env)).any (·.1) = false := by rfl) :
    PD X c (.Call (.Name x p) (e :: es) [] pos) (tCall (spD X.K n m) [] E0 t) (dcall m fs) := ⟨pe_call F hr hg hm hk hb .nil hx ha.pa hdb he hpl, ev_call hn ha.ev⟩
theorem pd_call0 {k : Nat} {f : Addr} {fd : FuncData} {ps : List Str} {CX : CXT} {m : List D → Option D} {x : Str} {p pos : Pos} (F : FnOk X.prog X.w X.K X.mg X.base CX k f fd ps (spD X.K 0 m)) (hn : ∀ ds d, m ds = some d → ds.length = 0) (hr : Room k X.A) (hg : Gl X x) (hm : X.mg x = some (.ref f)) (hk : PySem.W.keepIn X.K (.ref f) = true) (hb : Binds X.K fd ps [])
    (hx : Passes CX X E0) (hdb : (x == ("__debug__" : Str)) = false := by decide) :
    PD X c (.Call (.Name x p) [] [] pos) (tCall (spD X.K 0 m) [] E0 tNil) (dcall m dnil) := ⟨pe_call0 F hr hg hm hk hb .nil hx hdb, ev_call hn (EvP.pure fun _ _ => .nil)⟩
/-- a def that may raise -/
theorem ev_callX {n : Nat} {m : List D → Option (Res D)} (hn : ∀ ds d, m ds = some d → ds.length = n) (h : EvA K c t fs) : EvD K c (tCall (spX K n m) [] c.W t) (dcallX m fs) :=
  EvP.bind (relA := RepA K) (relC := Rep K) (tk := fun vs _ H Q => spX K n m (vs ++ []) H Q c.W) mono_true h fun vs ds => by
    intro A Z B σ H st r er p hf Q hok hex
    obtain ⟨r0, h0, rfl⟩ := Option.map_eq_some_iff.mp hf
    show spX K n m (vs ++ []) H Q c.W
    rw [List.append_nil]
    exact ⟨B, ds, r0, by rw [p.2.length]; exact hn _ _ h0, er.bh, p.2, h0, fun d e v B' H' pu rv => hok d st (by rw [e]) v B' H' (er.pu pu) pu.adv rv, fun x fl e dx B' H' pu fl' => hex x fl st (by rw [e]) dx B' H' (er.pu pu) pu.adv fl'⟩
theorem pd_callX {k : Nat} {f : Addr} {fd : FuncData} {ps : List Str} {CX : CXT} {n : Nat} {m : List D → Option (Res D)} {x : Str} {p pos : Pos} {e : Expr} {es : List Expr} (F : FnOk X.prog X.w X.K X.mg X.base CX k f fd ps (spX X.K n m)) (hn : ∀ ds d, m ds = some d → ds.length = n) (hr : Room k X.A) (hg : Gl X x) (hm : X.mg x = some (.ref f)) (hk : PySem.W.keepIn X.K (.ref f) = true) (hb : Binds X.K fd ps [])
    (hx : Passes CX X c.W) (ha : PDA X c (e :: es) t fs) (hdb : (x == ("__debug__" : Str)) = false := by decide) (he : starEach (e :: es) X.env = (false, eval e X.env) :: starEach es X.env := by rfl) (hpl : (backTo pos (starEach es X.env)).any (·.1) = false := by rfl) :
    PD X c (.Call (.Name x p) (e :: es) [] pos) (tCall (spX X.K n m) [] c.W t) (dcallX m fs) := ⟨pe_call F hr hg hm hk hb .nil hx ha.pa hdb he hpl, ev_callX hn ha.ev⟩

/-! ### pens: read by place, handed on -/
theorem penOf_some {p : Nat} {st : DS} {d : D} (h : penOf p st = some d) : st[p]? = some (some d) := by
  unfold penOf at h
  split at h
  · rename_i d' e
    cases h
    exact e
  · cases h
def dpix (i : Nat) (fb : DM D) : DM D := fb.bind fun y => fun st => match penOf i st with
  | some (.list ds) => (ixD (.list ds) y).map fun d => (.ok d, st)
  | _ => none
theorem penOf_eq {p : Nat} {st : DS} {d : D} (h : st[p]? = some (some d)) : penOf p st = some d := by
  unfold penOf
  rw [h]
theorem repO_list {K : PySem.W.Frag} {B : Hp} {o : HO} {ds : List D} (h : RepO K B o (.list ds)) : ∃ xs, o = .lst xs ∧ RepA K B xs ds := by
  cases h with
  | lst a => exact ⟨_, rfl, a⟩
theorem ev_pix {i : Nat} (hi : i ∈ c.ps) {tb : TE} {fb : DM D} (hb : EvD K c tb fb) : EvD K c (tOp (rIx K) (tVar i) tb) (dpix i fb) := by
  intro A Z B σ H st r er _ hf Q hok hex
  obtain ⟨d0, o0, q1, q2, q3, q4, q5⟩ := er.pn i hi
  refine ⟨_, q2, ?_⟩
  unfold dpix at hf
  cases eb : fb st with
  | none =>
    unfold DM.bind at hf
    rw [eb] at hf
    cases hf
  | some rb =>
    obtain ⟨rb, st1⟩ := rb
    refine hb A Z B σ H st _ er True.intro eb _ (fun dy st1' e1 y B1 H1 er1 ad1 ry => ?_) (fun x fl st1' e1 dx B1 H1 er1 ad1 fl1 => ?_)
    · cases e1
      rw [bind_ok eb] at hf
      obtain ⟨d1, o1, p1, p2, p3, p4, p5⟩ := er1.pn i hi
      simp only [penOf_eq p1] at hf
      cases d1 <;> first | (cases hf; done) | skip
      rename_i ds
      obtain ⟨d, hd, rfl⟩ := Option.map_eq_some_iff.mp (show (ixD (.list ds) dy).map (fun d => (Res.ok d, st1)) = some r from hf)
      obtain ⟨xs, rfl, ra⟩ := repO_list p5
      cases dy <;> first | (cases hd; done) | skip
      rename_i iy
      obtain ⟨v, h1, h2⟩ := ra.atI (show L2.atI ds iy = some d from hd)
      exact .inl ⟨A i, xs, iy, v, rfl, rep_int ry, SqL.of p4, h1, hok d st1 rfl v B1 H1 er1 ad1 (h2.mono cut_ex)⟩
    · cases e1
      rw [bind_ex eb] at hf
      exact hex x fl st1 (Option.some.inj hf).symm dx B1 H1 er1 ad1 fl1
theorem pd_pix (i : Nat) {x : Str} {b : Expr} {tb : TE} {fb : DM D} {pos p : Pos} (hb : PD X c b tb fb) (hi : i ∈ c.ps := by decide) (hN : X.N[i]? = some x := by rfl) (hv : Vis X.env.scope x := by first | exact Or.inl rfl | exact Or.inr (Or.inl rfl) | exact Or.inr (Or.inr rfl))
    (hs : PlainIx b := by exact fun _ _ => rfl) (hd : (x == ("__debug__" : Str)) = false := by decide) (hcd : (x == ("__classdict__" : Str)) = false := by decide) : PD X c (.Subscript (.Name x p) b pos) (tOp (rIx X.K) (tVar i) tb) (dpix i fb) := ⟨pe_ix ix_seq (pv i hN hv hd hcd) hb.pe hs, ev_pix hi hb.ev⟩
/-- the pen handed on to a def -/
theorem ER.pens {A : Nat → Addr} {Z : Addr → Bool} {B H B2 H2 : Hp} {σ : L2.St} {st : DS} {p : Nat} {pd : D} (er : ER K c A Z B σ H st) (hp : p ∈ c.ps) (pu : PuP K (A p) (cut B Z) H B2 H2 pd) :
    ER K c A Z (fun a => if Z a = true then B a else B2 a) σ H2 (st.set p (some pd)) ∧ Adv c.ps A B H st (fun a => if Z a = true then B a else B2 a) H2 (st.set p (some pd)) ∧ Ex B2 (fun a => if Z a = true then B a else B2 a) := by
  have hZ : ∀ a, Z a = true → B2 a = none := fun a h => by
    cases q : B2 a with
    | none => rfl
    | some u =>
      rcases pu.new a u q with z | z
      · unfold cut at z
        rw [if_pos h] at z
        cases z
      · obtain ⟨o, h1, _⟩ := er.zo a h
        rw [er.bh a o h1] at z
        cases z
  have hB : Ex B (fun a => if Z a = true then B a else B2 a) := fun a o h => by
    show (if Z a = true then B a else B2 a) = some o
    by_cases hz : Z a = true
    · rw [if_pos hz]
      exact h
    · rw [if_neg hz]
      refine pu.ext a o ?_
      unfold cut
      rw [if_neg hz]
      exact h
  have hB2 : Ex B2 (fun a => if Z a = true then B a else B2 a) := fun a o h => by
    show (if Z a = true then B a else B2 a) = some o
    by_cases hz : Z a = true
    · rw [hZ a hz] at h
      cases h
    · rw [if_neg hz]
      exact h
  have hcut : Ex B2 (cut (fun a => if Z a = true then B a else B2 a) Z) := fun a o h => by
    unfold cut
    by_cases hz : Z a = true
    · rw [hZ a hz] at h
      cases h
    · rw [if_neg hz]
      show (if Z a = true then B a else B2 a) = some o
      rw [if_neg hz]
      exact h
  have hbh : Ex (fun a => if Z a = true then B a else B2 a) H2 := fun a o h => by
    have h' : (if Z a = true then B a else B2 a) = some o := h
    by_cases hz : Z a = true
    · rw [if_pos hz] at h'
      refine pu.keep a o (er.bh a o h') fun e => ?_
      obtain ⟨_, _, _, _, q3, _⟩ := er.pn p hp
      rw [← e, h'] at q3
      cases q3
    · rw [if_neg hz] at h'
      exact pu.bh a o h'
  obtain ⟨d0, o0, q1, q2, q3, q4, q5⟩ := er.pn p hp
  have hpl : p < st.length := by
    by_cases hl : p < st.length
    · exact hl
    · rw [List.getElem?_eq_none (by omega)] at q1
      cases q1
  have hnew : ∀ a o, (if Z a = true then B a else B2 a) = some o → B a = some o ∨ H a = none := fun a o h => by
    by_cases hz : Z a = true
    · rw [if_pos hz] at h
      exact .inl h
    · rw [if_neg hz] at h
      rcases pu.new a o h with z | z
      · exact .inl (cut_ex a o z)
      · exact .inr z
  refine ⟨⟨?_, hbh, fun i d h1 h2 h => ?_, fun i hi => ?_, er.ne, er.zx, fun a h => ?_⟩, ⟨hB, hnew, fun a o h n => pu.keep a o h (n p hp), pu.there, List.length_set, fun i h => ?_, fun i d h => ?_⟩, hB2⟩
  · rw [List.length_set]
    exact er.len
  · have hne : p ≠ i := fun e => h2 (e ▸ hp)
    rw [List.getElem?_set_ne hne] at h
    obtain ⟨v, s1, s2⟩ := er.rd i d h1 h2 h
    exact ⟨v, s1, s2.mono hB⟩
  · by_cases hpi : p = i
    · subst hpi
      obtain ⟨o, h1, h2⟩ := pu.pen
      refine ⟨pd, o, List.getElem?_set_self hpl, q2, ?_, h1, h2.mono hcut⟩
      show (if Z (A p) = true then B (A p) else B2 (A p)) = none
      split
      · exact q3
      · exact pu.no
    · obtain ⟨d, o, s1, s2, s3, s4, s5⟩ := er.pn i hi
      refine ⟨d, o, by rw [List.getElem?_set_ne hpi]; exact s1, s2, ?_, pu.keep _ _ s4 (er.ne i hi p hp (Ne.symm hpi)), s5.mono fun a u h => hcut a u (pu.ext a u h)⟩
      show (if Z (A i) = true then B (A i) else B2 (A i)) = none
      split
      · exact s3
      · cases q : B2 (A i) with
        | none => rfl
        | some u =>
          rcases pu.new _ u q with z | z
          · rw [cut_ex _ _ z] at s3
            cases s3
          · rw [s4] at z
            cases z
  · obtain ⟨o, h1, h2⟩ := er.zo a h
    exact ⟨o, hB a o h1, h2⟩
  · exact List.getElem?_set_ne (show p ≠ i from fun e => h (e ▸ hp))
  · by_cases hpi : p = i
    · subst hpi
      exact ⟨d0, q1⟩
    · rw [List.getElem?_set_ne hpi] at h
      exact ⟨d, h⟩
theorem ev_callP {p : Nat} (hp : p ∈ c.ps) {n : Nat} {m : D → List D → Option (D × D)} {E : XK} (hn : ∀ pd ds d, m pd ds = some d → ds.length = n) (h : EvA K c t fs) : EvD K c (tCall (spP K n m) [] E (tCons (tVar p) t)) (dcallP c.mx p m fs) := by
  intro A Z B σ H st r er _ hf Q hok hex
  obtain ⟨d0, o0, q1, q2, q3, q4, q5⟩ := er.pn p hp
  refine ⟨_, q2, ?_⟩
  unfold dcallP at hf
  cases eb : fs st with
  | none =>
    unfold DM.bind at hf
    rw [eb] at hf
    cases hf
  | some rb =>
    obtain ⟨rb, st1⟩ := rb
    refine h A Z B σ H st _ er True.intro eb _ (fun ds st1' e1 ws B1 H1 er1 ad1 ra => ?_) (fun x fl st1' e1 dx B1 H1 er1 ad1 fl1 => ?_)
    · cases e1
      rw [bind_ok eb] at hf
      obtain ⟨pd, o1, p1, p2, p3, p4, p5⟩ := er1.pn p hp
      simp only [penOf_eq p1] at hf
      split at hf
      · cases hf
      · rename_i hfl
        obtain ⟨rd, hm, rfl⟩ := Option.map_eq_some_iff.mp hf
        rw [List.append_nil]
        have hcb : Ex (cut B1 Z) H1 := fun a o z => er1.bh a o (cut_ex a o z)
        have rac : RepA K (cut B1 Z) ws ds := by
          cases hmx : c.mx with
          | false =>
            rw [cut_none (er1.zx hmx)]
            exact ra
          | true =>
            refine ra.cut er1.zo ?_
            cases hff : flatA ds with
            | true => rfl
            | false => exact absurd ⟨hmx, hff⟩ hfl
        have hno : cut B1 Z (A p) = none := by
          unfold cut
          split
          · rfl
          · exact p3
        refine ⟨cut B1 Z, A p, o1, pd, ws, ds, rd.1, rd.2, rfl, by rw [ra.length]; exact hn _ _ _ hm, hcb, hno, p4, p5, rac, hm, fun v B2 H2 pu rv => ?_⟩
        obtain ⟨er2, ad2, ex2⟩ := er1.pens hp pu
        exact hok rd.1 _ rfl v _ H2 er2 (ad1.trans ad2) (rv.mono ex2)
    · cases e1
      rw [bind_ex eb] at hf
      exact hex x fl st1 (Option.some.inj hf).symm dx B1 H1 er1 ad1 fl1
theorem pd_callP (i : Nat) {k : Nat} {f : Addr} {fd : FuncData} {ps : List Str} {CX : CXT} {n : Nat} {m : D → List D → Option (D × D)} {x y : Str} {p pos pp : Pos} {es : List Expr} (F : FnOk X.prog X.w X.K X.mg X.base CX k f fd ps (spP X.K n m)) (hn : ∀ pd ds d, m pd ds = some d → ds.length = n) (hr : Room k X.A) (hg : Gl X x) (hm : X.mg x = some (.ref f)) (hk : PySem.W.keepIn X.K (.ref f) = true) (hb : Binds X.K fd ps [])
    (hx : Passes CX X E0) (ha : PDA X c es t fs) (hi : i ∈ c.ps := by decide) (hN : X.N[i]? = some y := by rfl) (hv : Vis X.env.scope y := by first | exact Or.inl rfl | exact Or.inr (Or.inl rfl) | exact Or.inr (Or.inr rfl)) (hd : (y == ("__debug__" : Str)) = false := by decide) (hcd : (y == ("__classdict__" : Str)) = false := by decide)
    (hdb : (x == ("__debug__" : Str)) = false := by decide) (he : starEach (.Name y pp :: es) X.env = (false, eval (.Name y pp) X.env) :: starEach es X.env := by rfl) (hpl : (backTo pos (starEach es X.env)).any (·.1) = false := by rfl) :
    PD X c (.Call (.Name x p) (.Name y pp :: es) [] pos) (tCall (spP X.K n m) [] E0 (tCons (tVar i) t)) (dcallP c.mx i m fs) := ⟨pe_call F hr hg hm hk hb .nil hx (pa_cons (pv i hN hv hd hcd) ha.pa he) hdb he hpl, ev_callP hi hn ha.ev⟩
end
end DR

set_option maxRecDepth 100000
set_option maxHeartbeats 1000000
namespace DR
open PySem PySem.Spec L2
open PyProof.Rows hiding St
open Evl (Ex ex_l ex_t ex_rd)

/-! ### statements: the state -/
structure Cs where
  cl : List Nat
  ps : List Nat
  pa : List Nat
  W : XK
abbrev Cs.m (c : Cs) : Cf := ⟨false, c.cl, c.ps, c.W⟩
abbrev Cs.a (c : Cs) : Cf := ⟨true, [], c.ps, c.W⟩
abbrev noZ : Addr → Bool := fun _ => false
structure En (pa : List Nat) (A0 : Nat → Addr) (B0 H0 B H : Hp) : Prop where
  ext : Ex B0 B
  new : ∀ a o, B a = some o → B0 a = some o ∨ H0 a = none
  keep : ∀ a o, H0 a = some o → (∀ i ∈ pa, a ≠ A0 i) → H a = some o
  there : ∀ a, H a = none → H0 a = none
def live (st : DS) (i : Nat) : Prop := ∃ d, st[i]? = some (some d)
structure SR (K : PySem.W.Frag) (c : Cs) (A A0 : Nat → Addr) (B0 H0 B : Hp) (σ : L2.St) (H : Hp) (st : DS) : Prop where
  er : ER K c.m A noZ B σ H st
  cl : ∀ i ∈ c.cl, ∀ d, st[i]? = some (some d) → ∃ l o, σ[i]? = some (some (.ref l)) ∧ B l = none ∧ H l = some o ∧ RepO K B o d ∧ H0 l = none ∧ ∀ j ∈ c.ps, l ≠ A j
  cn : ∀ i ∈ c.cl, ∀ j ∈ c.cl, i ≠ j → ∀ l, live st i → live st j → σ[i]? = some (some (.ref l)) → σ[j]? = some (some (.ref l)) → False
  cp : ∀ i ∈ c.cl, i ∉ c.ps
  en : En c.pa A0 B0 H0 B H
  pe : ∀ i ∈ c.ps, (i ∈ c.pa ∧ A i = A0 i) ∨ H0 (A i) = none
  pf : ∀ i ∈ c.pa, i ∈ c.ps ∧ A i = A0 i
structure Fin (K : PySem.W.Frag) (c : Cs) (A0 : Nat → Addr) (B0 H0 B H : Hp) (st : DS) : Prop where
  en : En c.pa A0 B0 H0 B H
  bh : Ex B H
  pn : ∀ i ∈ c.pa, ∃ d o, st[i]? = some (some d) ∧ B (A0 i) = none ∧ H (A0 i) = some o ∧ RepO K B o d
inductive Out where
  | nx (st : DS)
  | bk (st : DS)
  | ct (st : DS)
  | rt (d : D) (st : DS)
  | ex (c : Addr) (fl : Option (Str × D)) (st : DS)
abbrev DT := DS → Option Out
def EvS (K : PySem.W.Frag) (c : Cs) (t : TS) (f : DT) : Prop :=
  ∀ (A A0 : Nat → Addr) (B0 H0 B : Hp) (σ : L2.St) (H : Hp) (st : DS) (r : Out), SR K c A A0 B0 H0 B σ H st → f st = some r → ∀ De : Ends,
    (∀ st' B' σ' H', r = .nx st' → SR K c A A0 B0 H0 B' σ' H' st' → De.nx σ' H') →
    (∀ st' B' σ' H', r = .bk st' → SR K c A A0 B0 H0 B' σ' H' st' → De.bk σ' H') →
    (∀ st' B' σ' H', r = .ct st' → SR K c A A0 B0 H0 B' σ' H' st' → De.ct σ' H') →
    (∀ d st' v B' H', r = .rt d st' → Fin K c A0 B0 H0 B' H' st' → Rep K B' v d → De.rt v H') →
    (∀ x fl st' dx B' H', r = .ex x fl st' → Fin K c A0 B0 H0 B' H' st' → Fld K B' H' dx fl → c.W (.ref x) dx H') → t De σ H
section
variable {K : PySem.W.Frag} {c : Cs} {A A0 : Nat → Addr} {B0 H0 B B' H H' : Hp} {σ : L2.St} {st st' : DS}
theorem cut_noZ {B : Hp} : cut B noZ = B := cut_none fun _ => rfl
theorem SR.penne (s : SR K c A A0 B0 H0 B σ H st) {a : Addr} {o : HO} (h : H0 a = some o) (n : ∀ i ∈ c.pa, a ≠ A0 i) : ∀ i ∈ c.ps, a ≠ A i := fun i hi z => by
  rcases s.pe i hi with ⟨h1, h2⟩ | h1
  · exact n i h1 (z.trans h2)
  · rw [← z, h] at h1
    cases h1
theorem En.adv {pa : List Nat} {ps : List Nat} (e : En pa A0 B0 H0 B H) (hp : ∀ a o, H0 a = some o → (∀ i ∈ pa, a ≠ A0 i) → ∀ i ∈ ps, a ≠ A i) (ad : Adv ps A B H st B' H' st') : En pa A0 B0 H0 B' H' where
  ext := fun a o h => ad.ext a o (e.ext a o h)
  new := fun a o h => by
    rcases ad.new a o h with z | z
    · exact e.new a o z
    · exact .inr (e.there a z)
  keep := fun a o h n => ad.keep a o (e.keep a o h n) (hp a o h n)
  there := fun a h => e.there a (ad.there a h)
theorem SR.fresh (s : SR K c A A0 B0 H0 B σ H st) (ad : Adv c.ps A B H st B' H' st') {l : Addr} {o : HO} (hb : B l = none) (hh : H l = some o) : B' l = none := by
  cases q : B' l with
  | none => rfl
  | some u =>
    rcases ad.new l u q with z | z
    · rw [hb] at z
      cases z
    · rw [hh] at z
      cases z
theorem SR.adv (s : SR K c A A0 B0 H0 B σ H st) (er' : ER K c.m A noZ B' σ H' st') (ad : Adv c.ps A B H st B' H' st') : SR K c A A0 B0 H0 B' σ H' st' where
  er := er'
  cl := fun i hi d h => by
    rw [ad.upd i (s.cp i hi)] at h
    obtain ⟨l, o, q1, q2, q3, q4, q5, q6⟩ := s.cl i hi d h
    exact ⟨l, o, q1, s.fresh ad q2 q3, ad.keep l o q3 q6, q4.mono ad.ext, q5, q6⟩
  cn := fun i hi j hj hne l ⟨d, h1⟩ ⟨e, h2⟩ h3 h4 => by
    rw [ad.upd i (s.cp i hi)] at h1
    rw [ad.upd j (s.cp j hj)] at h2
    exact s.cn i hi j hj hne l ⟨d, h1⟩ ⟨e, h2⟩ h3 h4
  cp := s.cp
  en := s.en.adv (fun a o h n => s.penne h n) ad
  pe := s.pe
  pf := s.pf
theorem SR.fin (s : SR K c A A0 B0 H0 B σ H st) : Fin K c A0 B0 H0 B H st where
  en := s.en
  bh := s.er.bh
  pn := fun i hi => by
    obtain ⟨h1, h2⟩ := s.pf i hi
    obtain ⟨d, o, q1, q2, q3, q4, q5⟩ := s.er.pn i h1
    rw [h2] at q3 q4
    rw [cut_noZ] at q5
    exact ⟨d, o, q1, q3, q4, q5⟩
theorem SR.set (s : SR K c A A0 B0 H0 B σ H st) {i : Nat} {x : V} {d : D} (h1 : i ∉ c.cl) (h2 : i ∉ c.ps) (r : Rep K B x d) : SR K c A A0 B0 H0 B (σ.set i (some x)) H (st.set i (some d)) where
  er := s.er.set h2 r
  cl := fun j hj e h => by
    have hne : i ≠ j := fun z => h1 (z ▸ hj)
    rw [List.getElem?_set_ne hne] at h
    rw [List.getElem?_set_ne hne]
    exact s.cl j hj e h
  cn := fun j hj k hk hne l ⟨d1, h3⟩ ⟨d2, h4⟩ h5 h6 => by
    have n1 : i ≠ j := fun z => h1 (z ▸ hj)
    have n2 : i ≠ k := fun z => h1 (z ▸ hk)
    rw [List.getElem?_set_ne n1] at h3 h5
    rw [List.getElem?_set_ne n2] at h4 h6
    exact s.cn j hj k hk hne l ⟨d1, h3⟩ ⟨d2, h4⟩ h5 h6
  cp := s.cp
  en := s.en
  pe := s.pe
  pf := s.pf
/-- slots off the cells and pens have changed -/
theorem SR.off {vs : List Nat} {σ' : L2.St} (s : SR K c A A0 B0 H0 B σ H st) (er' : ER K c.m A noZ B σ' H st') (hv : ∀ i ∈ vs, i ∉ c.cl) (h1 : SameOff vs σ σ') (h2 : SameOff vs st st') : SR K c A A0 B0 H0 B σ' H st' where
  er := er'
  cl := fun j hj e h => by
    have n : j ∉ vs := fun z => hv j z hj
    rw [h2.2 j n] at h
    rw [h1.2 j n]
    exact s.cl j hj e h
  cn := fun j hj k hk hne l ⟨d1, h3⟩ ⟨d2, h4⟩ h5 h6 => by
    have n : j ∉ vs := fun z => hv j z hj
    have n' : k ∉ vs := fun z => hv k z hk
    rw [h2.2 j n] at h3
    rw [h1.2 j n] at h5
    rw [h2.2 k n'] at h4
    rw [h1.2 k n'] at h6
    exact s.cn j hj k hk hne l ⟨d1, h3⟩ ⟨d2, h4⟩ h5 h6
  cp := s.cp
  en := s.en
  pe := s.pe
  pf := s.pf

/-! ### the cells read: all is there -/
def zone (c : Cs) (σ : L2.St) (st : DS) : Addr → Bool := fun a => c.cl.any fun i => (match st[i]? with | some (some _) => true | _ => false) && decide (σ[i]? = some (some (V.ref a)))
theorem zone_iff {a : Addr} : zone c σ st a = true ↔ ∃ i ∈ c.cl, live st i ∧ σ[i]? = some (some (V.ref a)) := by
  unfold zone
  rw [List.any_eq_true]
  constructor
  · rintro ⟨i, hi, h⟩
    obtain ⟨h1, h2⟩ := Bool.and_eq_true_iff.mp h
    refine ⟨i, hi, ?_, of_decide_eq_true h2⟩
    split at h1
    · rename_i d e
      exact ⟨d, e⟩
    · cases h1
  · rintro ⟨i, hi, ⟨d, hd⟩, h⟩
    refine ⟨i, hi, ?_⟩
    rw [hd, decide_eq_true h]
    rfl
def full (c : Cs) (σ : L2.St) (st : DS) (B H : Hp) : Hp := fun a => if zone c σ st a = true then H a else B a
theorem SR.all (s : SR K c A A0 B0 H0 B σ H st) : ER K c.a A (zone c σ st) (full c σ st B H) σ H st ∧ cut (full c σ st B H) (zone c σ st) = B ∧ Ex B (full c σ st B H) := by
  have hz : ∀ a, zone c σ st a = true → B a = none ∧ ∃ o, H a = some o ∧ isCell o = true ∧ ∀ j ∈ c.ps, a ≠ A j := fun a h => by
    obtain ⟨i, hi, ⟨d, hd⟩, hs⟩ := zone_iff.mp h
    obtain ⟨l, o, q1, q2, q3, q4, q5, q6⟩ := s.cl i hi d hd
    rw [q1] at hs
    cases hs
    exact ⟨q2, o, q3, q4.isCell, q6⟩
  have hB : Ex B (full c σ st B H) := fun a o h => by
    show (if zone c σ st a = true then H a else B a) = some o
    split
    · rename_i z
      rw [(hz a z).1] at h
      cases h
    · exact h
  have hcut : cut (full c σ st B H) (zone c σ st) = B := by
    funext a
    unfold cut full
    split
    · rename_i z
      exact (hz a z).1.symm
    · rfl
  refine ⟨⟨s.er.len, fun a o h => ?_, fun i d _ h2 h => ?_, fun i hi => ?_, s.er.ne, (fun z => nomatch z), fun a h => ?_⟩, hcut, hB⟩
  · have h' : (if zone c σ st a = true then H a else B a) = some o := h
    split at h'
    · exact h'
    · exact s.er.bh a o h'
  · by_cases hi : i ∈ c.cl
    · obtain ⟨l, o, q1, q2, q3, q4, q5, q6⟩ := s.cl i hi d h
      refine ⟨_, q1, q4.rep hB ?_⟩
      show (if zone c σ st l = true then H l else B l) = some o
      rw [if_pos (zone_iff.mpr ⟨i, hi, ⟨d, h⟩, q1⟩)]
      exact q3
    · obtain ⟨v, q, r⟩ := s.er.rd i d hi h2 h
      exact ⟨v, q, r.mono hB⟩
  · obtain ⟨d, o, q1, q2, q3, q4, q5⟩ := s.er.pn i hi
    refine ⟨d, o, q1, q2, ?_, q4, ?_⟩
    · show (if zone c σ st (A i) = true then H (A i) else B (A i)) = none
      split
      · rename_i z
        obtain ⟨_, _, _, _, n⟩ := hz _ z
        exact absurd rfl (n i hi)
      · exact q3
    · rw [hcut]
      rw [cut_noZ] at q5
      exact q5
  · obtain ⟨h1, o, h2, h3, _⟩ := hz a h
    refine ⟨o, ?_, h3⟩
    show (if zone c σ st a = true then H a else B a) = some o
    rw [if_pos h]
    exact h2
/-- behind an evaluation with the cells read: the base without them -/
theorem SR.advAll (s : SR K c A A0 B0 H0 B σ H st) (er' : ER K c.a A (zone c σ st) B' σ H' st') (ad : Adv c.ps A (full c σ st B H) H st B' H' st') : SR K c A A0 B0 H0 (cut B' (zone c σ st)) σ H' st' := by
  obtain ⟨e0, ecut, eB⟩ := s.all
  have hz : ∀ a, zone c σ st a = true → B a = none ∧ ∃ o, H a = some o := fun a h => by
    obtain ⟨i, hi, ⟨d, hd⟩, hs⟩ := zone_iff.mp h
    obtain ⟨l, o, q1, q2, q3, q4, q5, q6⟩ := s.cl i hi d hd
    rw [q1] at hs
    cases hs
    exact ⟨q2, o, q3⟩
  have exB : Ex B (cut B' (zone c σ st)) := fun a o h => by
    have h1 : cut (full c σ st B H) (zone c σ st) a = some o := by rw [ecut]; exact h
    exact cut_mono ad.ext a o h1
  have ad2 : Adv c.ps A B H st (cut B' (zone c σ st)) H' st' := {
    ext := exB
    new := fun a o h => by
      have hnz : ¬ zone c σ st a = true := fun z => by
        unfold cut at h
        rw [if_pos z] at h
        cases h
      rcases ad.new a o (cut_ex a o h) with z | z
      · have z' : (if zone c σ st a = true then H a else B a) = some o := z
        rw [if_neg hnz] at z'
        exact .inl z'
      · exact .inr z
    keep := ad.keep
    there := ad.there
    ln := ad.ln
    upd := ad.upd
    pst := ad.pst }
  refine s.adv ⟨er'.len, fun a o h => er'.bh a o (cut_ex a o h), fun i d h1 h2 h => ?_, fun i hi => ?_, er'.ne, fun _ _ => rfl, (fun a h => nomatch h)⟩ ad2
  · rw [ad.upd i h2] at h
    obtain ⟨v, q, r⟩ := s.er.rd i d h1 h2 h
    exact ⟨v, q, r.mono exB⟩
  · obtain ⟨d, o, q1, q2, q3, q4, q5⟩ := er'.pn i hi
    refine ⟨d, o, q1, q2, ?_, q4, by rw [cut_noZ]; exact q5⟩
    unfold cut
    split
    · rfl
    · exact q3
end

/-! ### small statements -/
def dseq (f g : DT) : DT := fun st => match f st with
  | some (.nx st1) => g st1
  | r => r
def dnext : DT := fun st => some (.nx st)
def dexp {β : Type} (fe : DM β) (k : β → DS → Option Out) : DT := fun st => match fe st with
  | none => none
  | some (.ok b, st1) => k b st1
  | some (.ex x fl, st1) => some (.ex x fl st1)
theorem dexp_ok {β : Type} {fe : DM β} {k : β → DS → Option Out} {st st1 : DS} {b : β} (h : fe st = some (.ok b, st1)) : dexp fe k st = k b st1 := by
  unfold dexp
  rw [h]
theorem dseq_nx {f g : DT} {st st1 : DS} (h : f st = some (.nx st1)) : dseq f g st = g st1 := by
  unfold dseq
  rw [h]
section
variable {K : PySem.W.Frag} {c : Cs}
theorem ev_next : EvS K c tNext dnext := fun A A0 B0 H0 B σ H st r s h De n b k t x => by
  cases h
  exact n st B σ H rfl s
theorem ev_break : EvS K c tBreak (fun st => some (.bk st)) := fun A A0 B0 H0 B σ H st r s h De n b k t x => by
  cases h
  exact b st B σ H rfl s
theorem ev_cont : EvS K c tCont (fun st => some (.ct st)) := fun A A0 B0 H0 B σ H st r s h De n b k t x => by
  cases h
  exact k st B σ H rfl s
theorem ev_seq {t u : TS} {f g : DT} (h1 : EvS K c t f) (h2 : EvS K c u g) : EvS K c (tSeq t u) (dseq f g) := fun A A0 B0 H0 B σ H st r s h De n b k t x => by
  cases ef : f st with
  | none =>
    unfold dseq at h
    rw [ef] at h
    cases h
  | some o =>
    refine h1 A A0 B0 H0 B σ H st o s ef { De with nx := u De } (fun st' B' σ' H' e s' => ?_) (fun st' B' σ' H' e s' => ?_) (fun st' B' σ' H' e s' => ?_) (fun d st' v B' H' e fi rv => ?_) (fun y fl st' dx B' H' e fi fl' => ?_)
    · subst e
      rw [dseq_nx ef] at h
      exact h2 A A0 B0 H0 B' σ' H' st' r s' h De n b k t x
    · subst e
      unfold dseq at h
      rw [ef] at h
      exact b st' B' σ' H' (Option.some.inj h).symm s'
    · subst e
      unfold dseq at h
      rw [ef] at h
      exact k st' B' σ' H' (Option.some.inj h).symm s'
    · subst e
      unfold dseq at h
      rw [ef] at h
      exact t d st' v B' H' (Option.some.inj h).symm fi rv
    · subst e
      unfold dseq at h
      rw [ef] at h
      exact x y fl st' dx B' H' (Option.some.inj h).symm fi fl'
/-- what an expression with the cells read gives leaves the def -/
theorem SR.finAll {A A0 : Nat → Addr} {B0 H0 B B1 H H1 : Hp} {σ : L2.St} {st st1 : DS} (s : SR K c A A0 B0 H0 B σ H st) (er1 : ER K c.a A (zone c σ st) B1 σ H1 st1) (ad1 : Adv c.ps A (full c σ st B H) H st B1 H1 st1) : Fin K c A0 B0 H0 B1 H1 st1 := by
  have fi := (s.advAll er1 ad1).fin
  refine ⟨⟨fun a o q => cut_ex a o (fi.en.ext a o q), fun a o q => ?_, fi.en.keep, fi.en.there⟩, er1.bh, fun i hi => ?_⟩
  · rcases ad1.new a o q with z | z
    · have z' : (if zone c σ st a = true then H a else B a) = some o := z
      split at z'
      · rename_i hz
        obtain ⟨i, hi, ⟨d, hd⟩, hs⟩ := zone_iff.mp hz
        obtain ⟨l, o', q1, q2, q3, q4, q5, q6⟩ := s.cl i hi d hd
        rw [q1] at hs
        cases hs
        exact .inr q5
      · exact s.en.new a o z'
    · exact .inr (s.en.there a z)
  · obtain ⟨h1, h2⟩ := s.pf i hi
    obtain ⟨d, o, q1, q2, q3, q4, q5⟩ := er1.pn i h1
    rw [h2] at q3 q4
    exact ⟨d, o, q1, q3, q4, q5.mono cut_ex⟩
/-- an expression of any kind, at a statement -/
def EvE {α β : Type} (K : PySem.W.Frag) (c : Cs) (rel : Hp → α → β → Prop) (te : TG0 α) (fe : DM β) : Prop :=
  ∀ (A A0 : Nat → Addr) (B0 H0 B : Hp) (σ : L2.St) (H : Hp) (st : DS) (r : Res β × DS), SR K c A A0 B0 H0 B σ H st → fe st = some r → ∀ Q : α → Hp → Prop,
    (∀ b st' v B' H', r = (.ok b, st') → SR K c A A0 B0 H0 B' σ H' st' → rel B' v b → Q v H') →
    (∀ x fl st' dx B' H', r = (.ex x fl, st') → Fin K c A0 B0 H0 B' H' st' → Fld K B' H' dx fl → c.W (.ref x) dx H') → te σ H Q
theorem EvE.m {α β : Type} {rel : Hp → α → β → Prop} {te : TG0 α} {fe : DM β} (he : EvP K c.m (fun _ => True) rel te fe) : EvE K c rel te fe := fun A A0 B0 H0 B σ H st r s h Q q x =>
  he A noZ B σ H st r s.er True.intro h Q (fun b st' e v B' H' er' ad rv => q b st' v B' H' e (s.adv er' ad) rv) fun y fl st' e dx B' H' er' ad fl' => x y fl st' dx B' H' e (s.adv er' ad).fin fl'
/-- with the cells read: the value is flat -/
def dflat (fe : DM D) : DM D := fun st => match fe st with
  | some (.ok d, st1) => if flat d = true then some (.ok d, st1) else none
  | r => r
theorem EvE.a {te : TE} {fe : DM D} (he : EvD K c.a te fe) : EvE K c (Rep K) te (dflat fe) := fun A A0 B0 H0 B σ H st r s h Q q x => by
  cases ef : fe st with
  | none =>
    unfold dflat at h
    rw [ef] at h
    cases h
  | some ro =>
    obtain ⟨e0, ecut, eB⟩ := s.all
    refine he A _ _ σ H st ro e0 True.intro ef _ (fun b0 st1 e1 v B1 H1 er1 ad1 rv => ?_) (fun y fl st1 e1 dx B1 H1 er1 ad1 fl1 => ?_)
    · subst e1
      unfold dflat at h
      simp only [ef] at h
      split at h
      · rename_i hfl
        cases h
        exact q b0 st1 v _ H1 rfl (s.advAll er1 ad1) (rv.cut er1.zo hfl)
      · cases h
    · subst e1
      unfold dflat at h
      simp only [ef] at h
      cases h
      exact x y fl st1 dx B1 H1 rfl (s.finAll er1 ad1) fl1
theorem EvE.at {tt : TT} {ft : DM Bool} (ht : EvT K c.a tt ft) : EvE K c eqR tt ft := fun A A0 B0 H0 B σ H st r s h Q q x => by
  obtain ⟨e0, ecut, eB⟩ := s.all
  exact ht A _ _ σ H st r e0 True.intro h _ (fun b st1 e v B1 H1 er1 ad1 rv => q b st1 v _ H1 e (s.advAll er1 ad1) rv) fun y fl st1 e1 dx B1 H1 er1 ad1 fl1 => x y fl st1 dx B1 H1 e1 (s.finAll er1 ad1) fl1
theorem ev_exp {α β : Type} {rel : Hp → α → β → Prop} {te : TG0 α} {fe : DM β} {tk : α → TS} {k : β → DS → Option Out} (he : EvE K c rel te fe)
    (hk : ∀ (x : α) (b : β) (A A0 : Nat → Addr) (B0 H0 B : Hp) (σ : L2.St) (H : Hp) (st : DS) (r : Out), SR K c A A0 B0 H0 B σ H st → rel B x b → k b st = some r → ∀ De : Ends,
      (∀ st' B' σ' H', r = .nx st' → SR K c A A0 B0 H0 B' σ' H' st' → De.nx σ' H') →
      (∀ st' B' σ' H', r = .bk st' → SR K c A A0 B0 H0 B' σ' H' st' → De.bk σ' H') →
      (∀ st' B' σ' H', r = .ct st' → SR K c A A0 B0 H0 B' σ' H' st' → De.ct σ' H') →
      (∀ d st' v B' H', r = .rt d st' → Fin K c A0 B0 H0 B' H' st' → Rep K B' v d → De.rt v H') →
      (∀ x fl st' dx B' H', r = .ex x fl st' → Fin K c A0 B0 H0 B' H' st' → Fld K B' H' dx fl → c.W (.ref x) dx H') → tk x De σ H) :
    EvS K c (fun De σ H => te σ H fun x H1 => tk x De σ H1) (dexp fe k) := fun A A0 B0 H0 B σ H st r s h De n b kk t x => by
  cases ef : fe st with
  | none =>
    unfold dexp at h
    rw [ef] at h
    cases h
  | some ro =>
    refine he A A0 B0 H0 B σ H st ro s ef _ (fun b0 st1 v B1 H1 e1 s1 rv => ?_) (fun y fl st1 dx B1 H1 e1 fi1 fl1 => ?_)
    · subst e1
      rw [dexp_ok ef] at h
      exact hk v b0 A A0 B0 H0 B1 σ H1 st1 r s1 rv h De n b kk t x
    · subst e1
      unfold dexp at h
      rw [ef] at h
      exact x y fl st1 dx B1 H1 (Option.some.inj h).symm fi1 fl1
def dset (i : Nat) (fe : DM D) : DT := dexp fe fun d st => some (.nx (st.set i (some d)))
theorem ev_set {i : Nat} {te : TE} {fe : DM D} (h1 : i ∉ c.cl) (h2 : i ∉ c.ps) (he : EvE K c (Rep K) te fe) : EvS K c (tAsg te (gName i)) (dset i fe) :=
  ev_exp (tk := fun x De σ H => gName i x σ H De.nx) he fun x b A A0 B0 H0 B σ H st r s rv h De n _ _ _ _ => by
    cases h
    exact n _ _ _ _ rfl (s.set h1 h2 rv)
def ddrop (fe : DM D) : DT := dexp fe fun _ st => some (.nx st)
theorem ev_drop {te : TE} {fe : DM D} (he : EvE K c (Rep K) te fe) : EvS K c (tDrop te) (ddrop fe) :=
  ev_exp (tk := fun _ De σ H => De.nx σ H) he fun x b A A0 B0 H0 B σ H st r s rv h De n _ _ _ _ => by
    cases h
    exact n _ _ _ _ rfl s
/-- targets -/
def dasg (fe : DM D) (gd : DG) : DT := dexp fe fun d st => (gd d st).map Out.nx
theorem ev_asg {vs : List Nat} {te : TE} {fe : DM D} {g : TG} {gd : DG} (hv : ∀ i ∈ vs, i ∉ c.cl) (he : EvE K c (Rep K) te fe) (hg : EvG K c.m vs g gd) : EvS K c (tAsg te g) (dasg fe gd) :=
  ev_exp (tk := fun x De σ H => g x σ H De.nx) he fun x b A A0 B0 H0 B σ H st r s rv h De n _ _ _ _ => by
    obtain ⟨st', h1, rfl⟩ := Option.map_eq_some_iff.mp h
    exact hg A noZ B σ H st st' x b s.er rv h1 _ fun σ' er' s1 s2 => n _ _ _ _ rfl (s.off er' hv s1 s2)
/-- a test -/
def dif (ft : DM Bool) (f g : DT) : DT := dexp ft fun b => if b = true then f else g
theorem ev_if {tt : TT} {ft : DM Bool} {t u : TS} {f g : DT} (ht : EvE K c eqR tt ft) (h1 : EvS K c t f) (h2 : EvS K c u g) : EvS K c (tIfS tt t u) (dif ft f g) :=
  ev_exp (tk := fun b De σ H => if b = true then t De σ H else u De σ H) ht fun x b A A0 B0 H0 B σ H st r s rv h De n b' k t' x' => by
    have e : x = b := rv
    subst e
    cases x with
    | true => exact h1 A A0 B0 H0 B σ H st r s h De n b' k t' x'
    | false => exact h2 A A0 B0 H0 B σ H st r s h De n b' k t' x'
def dret (fe : DM D) : DT := dexp fe fun d st => some (.rt d st)
theorem ev_ret {te : TE} {fe : DM D} (he : EvD K c.a te fe) : EvS K c (tRet te) (dret fe) := fun A A0 B0 H0 B σ H st r s h De n b kk t x => by
  unfold dret at h
  cases ef : fe st with
  | none =>
    unfold dexp at h
    rw [ef] at h
    cases h
  | some ro =>
    obtain ⟨e0, ecut, eB⟩ := s.all
    refine he A _ _ σ H st ro e0 True.intro ef _ (fun b0 st1 e1 v B1 H1 er1 ad1 rv => ?_) (fun y fl st1 e1 dx B1 H1 er1 ad1 fl1 => ?_)
    · subst e1
      rw [dexp_ok ef] at h
      cases h
      exact t _ _ v B1 H1 rfl (s.finAll er1 ad1) rv
    · subst e1
      unfold dexp at h
      rw [ef] at h
      cases h
      exact x _ _ _ dx B1 H1 rfl (s.finAll er1 ad1) fl1
theorem ev_retM {te : TE} {fe : DM D} (he : EvD K c.m te fe) : EvS K c (tRet te) (dret fe) :=
  ev_exp (tk := fun x De _ H => De.rt x H) (EvE.m he) fun x b A A0 B0 H0 B σ H st r s rv h De n _ _ t _ => by
    cases h
    exact t _ _ x B H rfl s.fin rv
theorem ev_retN : EvS K c tRetN (fun st => some (.rt .none st)) := fun A A0 B0 H0 B σ H st r s h De n b k t x => by
  cases h
  exact t _ _ .non B H rfl s.fin .non

/-! ### another entry base -/
theorem En.rebase {pa : List Nat} {A0 : Nat → Addr} {B0 H0 B B1 H1 : Hp} (e : En pa A0 B0 H0 B1 H1) (h1 : Ex B0 B) (h2 : Ex B B1) : En pa A0 B H0 B1 H1 where
  ext := h2
  new := fun a o q => by
    rcases e.new a o q with z | z
    · exact .inl (h1 a o z)
    · exact .inr z
  keep := e.keep
  there := e.there
theorem En.unbase {pa : List Nat} {A0 : Nat → Addr} {B0 H0 B B1 H1 : Hp} (e : En pa A0 B H0 B1 H1) (h1 : Ex B0 B) (h2 : ∀ a o, B a = some o → B0 a = some o ∨ H0 a = none) : En pa A0 B0 H0 B1 H1 where
  ext := fun a o q => e.ext a o (h1 a o q)
  new := fun a o q => by
    rcases e.new a o q with z | z
    · exact h2 a o z
    · exact .inr z
  keep := e.keep
  there := e.there
theorem SR.rebase {A A0 : Nat → Addr} {B0 H0 B B1 H1 : Hp} {σ : L2.St} {st : DS} (s : SR K c A A0 B0 H0 B1 σ H1 st) (h1 : Ex B0 B) (h2 : Ex B B1) : SR K c A A0 B H0 B1 σ H1 st := ⟨s.er, s.cl, s.cn, s.cp, s.en.rebase h1 h2, s.pe, s.pf⟩
theorem SR.unbase {A A0 : Nat → Addr} {B0 H0 B B1 H1 : Hp} {σ : L2.St} {st : DS} (s : SR K c A A0 B H0 B1 σ H1 st) (h1 : Ex B0 B) (h2 : ∀ a o, B a = some o → B0 a = some o ∨ H0 a = none) : SR K c A A0 B0 H0 B1 σ H1 st := ⟨s.er, s.cl, s.cn, s.cp, s.en.unbase h1 h2, s.pe, s.pf⟩
theorem Fin.unbase {A0 : Nat → Addr} {B0 H0 B B1 H1 : Hp} {st : DS} (s : Fin K c A0 B H0 B1 H1 st) (h1 : Ex B0 B) (h2 : ∀ a o, B a = some o → B0 a = some o ∨ H0 a = none) : Fin K c A0 B0 H0 B1 H1 st := ⟨s.en.unbase h1 h2, s.bh, s.pn⟩
/-! ### for -/
def dforL (gd : DG) (f : DT) : List D → DS → Option Out
  | [], st => some (.nx st)
  | d :: r, st => match gd d st with
    | none => none
    | some st1 => match f st1 with
      | some (.nx st2) => dforL gd f r st2
      | some (.ct st2) => dforL gd f r st2
      | some (.bk st2) => some (.nx st2)
      | o => o
def dfor (fi : DM (List D)) (gd : DG) (f : DT) : DT := dexp fi fun ds st => dforL gd f ds st
/-- a turn of a for -/
theorem for_turn {vs : List Nat} {g : TG} {gd : DG} {tb : TS} {f : DT} (hv : ∀ i ∈ vs, i ∉ c.cl) (hg : EvG K c.m vs g gd) (hb : EvS K c tb f) {A A0 : Nat → Addr} {B0 H0 B : Hp} {σ : L2.St} {H : Hp} {st : DS} {x : V} {d : D} {rs : List D} {r : Out} (s : SR K c A A0 B0 H0 B σ H st) (rx : Rep K B x d)
    (hrun : dforL gd f (d :: rs) st = some r) (De : Ends) (N : L2.St → Hp → Prop) (hN : ∀ st' B' σ' H', SR K c A A0 B0 H0 B' σ' H' st' → dforL gd f rs st' = some r → N σ' H')
    (n : ∀ st' B' σ' H', r = .nx st' → SR K c A A0 B0 H0 B' σ' H' st' → De.nx σ' H') (t : ∀ d st' v B' H', r = .rt d st' → Fin K c A0 B0 H0 B' H' st' → Rep K B' v d → De.rt v H')
    (xx : ∀ x fl st' dx B' H', r = .ex x fl st' → Fin K c A0 B0 H0 B' H' st' → Fld K B' H' dx fl → c.W (.ref x) dx H') : g x σ H fun σ2 H2 => tb { De with nx := N, ct := N, bk := De.nx } σ2 H2 := by
  unfold dforL at hrun
  cases eg : gd d st with
  | none =>
    simp only [eg] at hrun
    cases hrun
  | some st1 =>
    simp only [eg] at hrun
    refine hg A noZ B σ H st st1 x d s.er rx eg _ fun σ1 er1 s1 s2 => ?_
    have sr1 := s.off er1 hv s1 s2
    cases ef : f st1 with
    | none =>
      simp only [ef] at hrun
      cases hrun
    | some o =>
      refine hb A A0 B0 H0 B σ1 H st1 o sr1 ef _ (fun st' B' σ' H' e sr => ?_) (fun st' B' σ' H' e sr => ?_) (fun st' B' σ' H' e sr => ?_) (fun d' st' v B' H' e fi rv => ?_) (fun y fl st' dx B' H' e fi fl' => ?_)
      · subst e
        simp only [ef] at hrun
        exact hN st' B' σ' H' sr hrun
      · subst e
        simp only [ef] at hrun
        exact n st' B' σ' H' (Option.some.inj hrun).symm sr
      · subst e
        simp only [ef] at hrun
        exact hN st' B' σ' H' sr hrun
      · subst e
        simp only [ef] at hrun
        exact t d' st' v B' H' (Option.some.inj hrun).symm fi rv
      · subst e
        simp only [ef] at hrun
        exact xx y fl st' dx B' H' (Option.some.inj hrun).symm fi fl'
theorem ev_forE {vs : List Nat} {wi : TI} {fi : DM (List D)} {g : TG} {gd : DG} {tb : TS} {f : DT} (hv : ∀ i ∈ vs, i ∉ c.cl) (hi : EvE K c (WalkD K) wi fi) (hg : EvG K c.m vs g gd) (hb : EvS K c tb f) : EvS K c (tFor wi g tb) (dfor fi gd f) :=
  ev_exp (rel := WalkD K) (te := wi) (tk := fun J De σ H1 => ∃ W : Nat → Nat → L2.St → Hp → Prop, (∃ m, W 0 m σ H1) ∧ ∀ i m σ H, W i m σ H →
    (J.stop i H ∧ De.nx σ H) ∨ (J.go i H ∧ ∃ N : L2.St → Hp → Prop, (∀ σ' H', N σ' H' → ∃ m', m' < m ∧ W (i + 1) m' σ' H') ∧ ∀ x H', J.yld i H x H' → g x σ H' fun σ2 H2 => tb { De with nx := N, ct := N, bk := De.nx } σ2 H2))
    hi fun J ds A A0 B0 H0 B σ H st r s wd h De n b k t xx => by
      obtain ⟨G, Y, w, hG, hY⟩ := wd
      have e1 := s.en.ext
      have e2 := s.en.new
      refine for_it w (fun i σ' H' => ∃ (Bi : Hp) (sti : DS), SR K c A A0 B H0 Bi σ' H' sti ∧ dforL gd f (ds.drop i) sti = some r) ⟨B, st, s.rebase e1 (fun _ _ q => q), h⟩ (fun i σ' H' _ ⟨Bi, sti, si, _⟩ => hG H' fun a o q => si.er.bh a o (si.en.ext a o q)) ?_ ?_
      · rintro i x σ' H' H'' hi' ⟨Bi, sti, si, hrun⟩ y
        obtain ⟨Bi', d, pu, hd, rx⟩ := hY i H' x H'' y (fun a o q => si.er.bh a o (si.en.ext a o q)) hi' Bi si.en.ext si.er.bh
        have hds : ds.drop i = d :: ds.drop (i + 1) := by
          obtain ⟨h1, h2⟩ := List.getElem?_eq_some_iff.mp hd
          rw [← h2]
          exact List.drop_eq_getElem_cons h1
        rw [hds] at hrun
        exact for_turn hv hg hb (si.adv (si.er.pu pu) pu.adv) rx hrun De _ (fun st' B' σ1 H1 sr hr => ⟨B', st', sr, hr⟩) (fun st' B' σ1 H1 e sr => n st' B' σ1 H1 e (sr.unbase e1 e2)) (fun d' st' v B' H1 e fi rv => t d' st' v B' H1 e (fi.unbase e1 e2) rv)
          fun y fl st' dx B' H1 e fi fl' => xx y fl st' dx B' H1 e (fi.unbase e1 e2) fl'
      · rintro σ' H' ⟨Bi, sti, si, hrun⟩
        rw [List.drop_length] at hrun
        cases hrun
        exact n _ _ _ _ rfl (si.unbase e1 e2)
theorem ev_for {vs : List Nat} {wi : TI} {fi : DM (List D)} {g : TG} {gd : DG} {tb : TS} {f : DT} (hv : ∀ i ∈ vs, i ∉ c.cl) (hi : EvP K c.m (fun _ => True) (WalkD K) wi fi) (hg : EvG K c.m vs g gd) (hb : EvS K c tb f) : EvS K c (tFor wi g tb) (dfor fi gd f) := ev_forE hv (EvE.m hi) hg hb

/-! ### while: n bounds its turns -/
def dwhile (ft : DM Bool) (f : DT) : Nat → DT
  | 0 => fun _ => none
  | n + 1 => dexp ft fun b => if b = true then (fun st => match f st with
    | some (.nx st2) => dwhile ft f n st2
    | some (.ct st2) => dwhile ft f n st2
    | some (.bk st2) => some (.nx st2)
    | o => o) else fun st => some (.nx st)
theorem ev_while {tt : TT} {ft : DM Bool} {tb : TS} {f : DT} (n : Nat) (ht : EvE K c eqR tt ft) (hb : EvS K c tb f) : EvS K c (tWhile tt tb) (dwhile ft f n) := fun A A0 B0 H0 B σ H st r s h De nx b k t xx => by
  refine ⟨fun m σ' H' => ∃ (Bi : Hp) (sti : DS), SR K c A A0 B0 H0 Bi σ' H' sti ∧ dwhile ft f m sti = some r, ⟨n, B, st, s, h⟩, ?_⟩
  rintro m σ' H' ⟨Bi, sti, si, hrun⟩
  cases m with
  | zero => cases hrun
  | succ m =>
    unfold dwhile at hrun
    cases et : ft sti with
    | none =>
      unfold dexp at hrun
      rw [et] at hrun
      cases hrun
    | some rt =>
      refine ht A A0 B0 H0 Bi σ' H' sti rt si et _ (fun b0 st1 v B1 H1 e1 s1 rv => ?_) (fun y fl st1 dx B1 H1 e1 fi1 fl1 => ?_)
      · subst e1
        have e : v = b0 := rv
        subst e
        rw [dexp_ok et] at hrun
        cases v with
        | true =>
          rw [if_pos rfl]
          rw [if_pos rfl] at hrun
          refine ⟨fun σ2 H2 => ∃ (B2 : Hp) (st2 : DS), SR K c A A0 B0 H0 B2 σ2 H2 st2 ∧ dwhile ft f m st2 = some r, fun σ2 H2 ⟨B2, st2, s2, h2⟩ => ⟨m, Nat.lt_succ_self m, B2, st2, s2, h2⟩, ?_⟩
          cases ef : f st1 with
          | none =>
            simp only [ef] at hrun
            cases hrun
          | some o =>
            refine hb A A0 B0 H0 B1 σ' H1 st1 o s1 ef _ (fun st' B' σ1 H2 e sr => ?_) (fun st' B' σ1 H2 e sr => ?_) (fun st' B' σ1 H2 e sr => ?_) (fun d' st' v B' H2 e fi rv => ?_) (fun y fl st' dx B' H2 e fi fl' => ?_)
            · subst e
              simp only [ef] at hrun
              exact ⟨B', st', sr, hrun⟩
            · subst e
              simp only [ef] at hrun
              exact nx st' B' σ1 H2 (Option.some.inj hrun).symm sr
            · subst e
              simp only [ef] at hrun
              exact ⟨B', st', sr, hrun⟩
            · subst e
              simp only [ef] at hrun
              exact t d' st' v B' H2 (Option.some.inj hrun).symm fi rv
            · subst e
              simp only [ef] at hrun
              exact xx y fl st' dx B' H2 (Option.some.inj hrun).symm fi fl'
        | false =>
          rw [if_neg Bool.false_ne_true]
          rw [if_neg Bool.false_ne_true] at hrun
          cases hrun
          exact nx _ _ _ _ rfl s1
      · subst e1
        unfold dexp at hrun
        rw [et] at hrun
        exact xx y fl st1 dx B1 H1 (Option.some.inj hrun).symm fi1 fl1
end
end DR

set_option maxRecDepth 100000
set_option maxHeartbeats 1000000
namespace DR
open PySem PySem.Spec L2
open PyProof.Rows hiding St
open Evl (Ex ex_l ex_t ex_rd)

/-! ### cells and pens change -/
section
variable {K : PySem.W.Frag} {c : Cs} {A A0 : Nat → Addr} {B0 H0 B H : Hp} {σ : L2.St} {st : DS}
theorem lt_of_some {α : Type} {l : List α} {i : Nat} {x : α} (h : l[i]? = some x) : i < l.length := (List.getElem?_eq_some_iff.mp h).1
/-- a cell's slot gets a new object -/
theorem SR.setCell (s : SR K c A A0 B0 H0 B σ H st) {i : Nat} {p : Addr} {o : HO} {d : D} (hi : i ∈ c.cl) (hb : B p = none) (hh : H p = some o) (ro : RepO K B o d) (h0 : H0 p = none) (hp : ∀ j ∈ c.ps, p ≠ A j)
    (hn : ∀ j ∈ c.cl, live st j → σ[j]? ≠ some (some (.ref p))) : SR K c A A0 B0 H0 B (σ.set i (some (.ref p))) H (st.set i (some d)) where
  er := {
    len := by rw [List.length_set, List.length_set]; exact s.er.len
    bh := s.er.bh
    rd := fun j e h1 h2 h => by
      have hne : i ≠ j := fun z => h1 (z ▸ hi)
      rw [List.getElem?_set_ne hne] at h
      rw [List.getElem?_set_ne hne]
      exact s.er.rd j e h1 h2 h
    pn := fun j hj => by
      have hne : i ≠ j := fun z => s.cp i hi (z ▸ hj)
      rw [List.getElem?_set_ne hne, List.getElem?_set_ne hne]
      exact s.er.pn j hj
    ne := s.er.ne
    zx := s.er.zx
    zo := s.er.zo }
  cl := fun j hj e h => by
    by_cases hij : i = j
    · subst hij
      have hl : i < st.length := by
        have := lt_of_some h
        rwa [List.length_set] at this
      rw [List.getElem?_set_self hl] at h
      cases h
      exact ⟨p, o, List.getElem?_set_self (by rw [← s.er.len]; exact hl), hb, hh, ro, h0, hp⟩
    · rw [List.getElem?_set_ne hij] at h
      rw [List.getElem?_set_ne hij]
      exact s.cl j hj e h
  cn := fun j hj k hk hne l h1 h2 h3 h4 => by
    by_cases hij : i = j
    · subst hij
      obtain ⟨d2, h2⟩ := h2
      rw [List.getElem?_set_ne hne] at h2 h4
      have e : (σ.set i (some (V.ref p)))[i]? = some (some (V.ref p)) := by
        refine List.getElem?_set_self ?_
        have := lt_of_some h3
        rwa [List.length_set] at this
      rw [e] at h3
      cases h3
      exact hn k hk ⟨d2, h2⟩ h4
    · by_cases hik : i = k
      · subst hik
        obtain ⟨d1, h1⟩ := h1
        rw [List.getElem?_set_ne hij] at h1 h3
        have e : (σ.set i (some (V.ref p)))[i]? = some (some (V.ref p)) := by
          refine List.getElem?_set_self ?_
          have := lt_of_some h4
          rwa [List.length_set] at this
        rw [e] at h4
        cases h4
        exact hn j hj ⟨d1, h1⟩ h3
      · obtain ⟨d1, h1⟩ := h1
        obtain ⟨d2, h2⟩ := h2
        rw [List.getElem?_set_ne hij] at h1 h3
        rw [List.getElem?_set_ne hik] at h2 h4
        exact s.cn j hj k hk hne l ⟨d1, h1⟩ ⟨d2, h2⟩ h3 h4
  cp := s.cp
  en := s.en
  pe := s.pe
  pf := s.pf
theorem En.updAt {pa : List Nat} (e : En pa A0 B0 H0 B H) {l : Addr} {o : HO} (h : H0 l = none ∨ ∃ i ∈ pa, l = A0 i) : En pa A0 B0 H0 B (upd H l o) where
  ext := e.ext
  new := e.new
  keep := fun a u q n => by
    have hne : a ≠ l := fun z => by
      rcases h with h | ⟨i, hi, h⟩
      · rw [z, h] at q
        cases q
      · exact n i hi (z.trans h)
    rw [upd_ne hne]
    exact e.keep a u q n
  there := fun a q => by
    by_cases z : a = l
    · subst z
      rw [upd_same] at q
      cases q
    · rw [upd_ne z] at q
      exact e.there a q
/-- a cell's content changes -/
theorem SR.updCell (s : SR K c A A0 B0 H0 B σ H st) {i : Nat} {l : Addr} {o : HO} {d e : D} (hi : i ∈ c.cl) (hd : st[i]? = some (some e)) (hs : σ[i]? = some (some (.ref l))) (ro : RepO K B o d) : SR K c A A0 B0 H0 B σ (upd H l o) (st.set i (some d)) := by
  obtain ⟨l', o', q1, q2, q3, q4, q5, q6⟩ := s.cl i hi e hd
  rw [q1] at hs
  cases hs
  have hlt := lt_of_some hd
  refine ⟨⟨?_, fun a u h => ?_, fun j e' h1 h2 h => ?_, fun j hj => ?_, s.er.ne, s.er.zx, s.er.zo⟩, fun j hj e' h => ?_, fun j hj k hk hne a h1 h2 h3 h4 => ?_, s.cp, s.en.updAt (.inl q5), s.pe, s.pf⟩
  · rw [List.length_set]
    exact s.er.len
  · have hne : a ≠ l := ne_of_none h q2
    rw [upd_ne hne]
    exact s.er.bh a u h
  · have hne : i ≠ j := fun z => h1 (z ▸ hi)
    rw [List.getElem?_set_ne hne] at h
    exact s.er.rd j e' h1 h2 h
  · have hne : i ≠ j := fun z => s.cp i hi (z ▸ hj)
    obtain ⟨d', u, p1, p2, p3, p4, p5⟩ := s.er.pn j hj
    exact ⟨d', u, by rw [List.getElem?_set_ne hne]; exact p1, p2, p3, by rw [upd_ne (Ne.symm (q6 j hj))]; exact p4, p5⟩
  · by_cases hij : i = j
    · subst hij
      rw [List.getElem?_set_self hlt] at h
      cases h
      exact ⟨l, o, q1, q2, upd_same, ro, q5, q6⟩
    · rw [List.getElem?_set_ne hij] at h
      obtain ⟨l2, o2, p1, p2, p3, p4, p5, p6⟩ := s.cl j hj e' h
      have hne : l2 ≠ l := fun z => s.cn i hi j hj hij l ⟨e, hd⟩ ⟨e', h⟩ q1 (z ▸ p1)
      exact ⟨l2, o2, p1, p2, by rw [upd_ne hne]; exact p3, p4, p5, p6⟩
  · have lv : ∀ {m : Nat}, live (st.set i (some d)) m → live st m := fun {m} ⟨x, hx⟩ => by
      by_cases him : i = m
      · subst him
        exact ⟨e, hd⟩
      · rw [List.getElem?_set_ne him] at hx
        exact ⟨x, hx⟩
    exact s.cn j hj k hk hne a (lv h1) (lv h2) h3 h4
/-- a pen's content changes -/
theorem SR.updPen (s : SR K c A A0 B0 H0 B σ H st) {i : Nat} {o : HO} {d : D} (hi : i ∈ c.ps) (ro : RepO K B o d) : SR K c A A0 B0 H0 B σ (upd H (A i) o) (st.set i (some d)) := by
  obtain ⟨d0, o0, q1, q2, q3, q4, q5⟩ := s.er.pn i hi
  have hlt := lt_of_some q1
  refine ⟨⟨?_, fun a u h => ?_, fun j e' h1 h2 h => ?_, fun j hj => ?_, s.er.ne, s.er.zx, s.er.zo⟩, fun j hj e' h => ?_, fun j hj k hk hne a h1 h2 h3 h4 => ?_, s.cp, s.en.updAt ?_, s.pe, s.pf⟩
  · rw [List.length_set]
    exact s.er.len
  · rw [upd_ne (ne_of_none h q3)]
    exact s.er.bh a u h
  · have hne : i ≠ j := fun z => h2 (z ▸ hi)
    rw [List.getElem?_set_ne hne] at h
    exact s.er.rd j e' h1 h2 h
  · by_cases hij : i = j
    · subst hij
      exact ⟨d, o, List.getElem?_set_self hlt, q2, q3, upd_same, by rw [cut_noZ]; exact ro⟩
    · obtain ⟨d', u, p1, p2, p3, p4, p5⟩ := s.er.pn j hj
      exact ⟨d', u, by rw [List.getElem?_set_ne hij]; exact p1, p2, p3, by rw [upd_ne (s.er.ne j hj i hi (Ne.symm hij))]; exact p4, p5⟩
  · have hne : i ≠ j := fun z => s.cp j hj (z ▸ hi)
    rw [List.getElem?_set_ne hne] at h
    obtain ⟨l2, o2, p1, p2, p3, p4, p5, p6⟩ := s.cl j hj e' h
    exact ⟨l2, o2, p1, p2, by rw [upd_ne (p6 i hi)]; exact p3, p4, p5, p6⟩
  · obtain ⟨d1, h1⟩ := h1
    obtain ⟨d2, h2⟩ := h2
    rw [List.getElem?_set_ne (show i ≠ j from fun z => s.cp j hj (z ▸ hi))] at h1
    rw [List.getElem?_set_ne (show i ≠ k from fun z => s.cp k hk (z ▸ hi))] at h2
    exact s.cn j hj k hk hne a ⟨d1, h1⟩ ⟨d2, h2⟩ h3 h4
  · rcases s.pe i hi with ⟨h1, h2⟩ | h1
    · exact .inr ⟨i, h1, h2⟩
    · exact .inl h1
theorem ev_setC {i : Nat} {te : TE} {fe : DM D} (hi : i ∈ c.cl) (he : EvN K c.m te fe) : EvS K c (tAsg te (gName i)) (dset i fe) := fun A A0 B0 H0 B σ H st r s h De n b kk t x => by
  unfold dset at h
  cases ef : fe st with
  | none =>
    unfold dexp at h
    rw [ef] at h
    cases h
  | some ro =>
    refine he A noZ B σ H st ro s.er ef _ (fun d st1 e1 p o B1 H1 er1 ad1 hb hn hp ro1 => ?_) (fun y fl st1 e1 dx B1 H1 er1 ad1 fl1 => ?_)
    · subst e1
      rw [dexp_ok ef] at h
      cases h
      refine n _ B1 _ H1 rfl ((s.adv er1 ad1).setCell hi hb hp ro1 (s.en.there p hn) (s.er.pen_there hn) fun j hj ⟨e, he1⟩ hs => ?_)
      rw [ad1.upd j (s.cp j hj)] at he1
      obtain ⟨l, u, q1, q2, q3, _⟩ := s.cl j hj e he1
      rw [q1] at hs
      cases hs
      rw [hn] at q3
      cases q3
    · subst e1
      unfold dexp at h
      rw [ef] at h
      exact x y fl st1 dx B1 H1 (Option.some.inj h).symm (s.adv er1 ad1).fin fl1
def cellOf (i : Nat) (st : DS) : Option (List D) := match st[i]? with
  | some (some (.list ds)) => some ds
  | _ => none
theorem cellOf_some {i : Nat} {ds : List D} (h : cellOf i st = some ds) : st[i]? = some (some (.list ds)) := by
  unfold cellOf at h
  split at h
  · rename_i e
    cases h
    exact e
  · cases h
def dapp (i : Nat) (fe : DM D) : DT := fun st => match cellOf i st with
  | none => none
  | some _ => dexp fe (fun d st1 => match cellOf i st1 with
    | none => none
    | some ds => if ds.length < sizeLine then some (.nx (st1.set i (some (.list (ds ++ [d]))))) else none) st
theorem SR.cellList (s : SR K c A A0 B0 H0 B σ H st) {i : Nat} {ds : List D} (hi : i ∈ c.cl) (h : cellOf i st = some ds) : ∃ l xs, σ[i]? = some (some (.ref l)) ∧ H l = some (.lst xs) ∧ RepA K B xs ds := by
  obtain ⟨l, o, q1, q2, q3, q4, _⟩ := s.cl i hi _ (cellOf_some h)
  obtain ⟨xs, rfl, ra⟩ := repO_list q4
  exact ⟨l, xs, q1, q3, ra⟩
theorem ev_app {i : Nat} {te : TE} {fe : DM D} (hi : i ∈ c.cl) (he : EvE K c (Rep K) te fe) : EvS K c (tDrop (tBM K "list" rAppend (tVar i) (tCons te tNil))) (dapp i fe) := fun A A0 B0 H0 B σ H st r s h De n b kk t x => by
  unfold dapp at h
  cases e0 : cellOf i st with
  | none =>
    simp only [e0] at h
    cases h
  | some ds0 =>
    simp only [e0] at h
    obtain ⟨l, xs0, hs, hl0, _⟩ := s.cellList hi e0
    refine ⟨_, hs, .inl ⟨rfl, xs0, SqL.of hl0⟩, ?_⟩
    cases ef : fe st with
    | none =>
      unfold dexp at h
      rw [ef] at h
      cases h
    | some ro =>
      refine he A A0 B0 H0 B σ H st ro s ef _ (fun d st1 v B1 H1 e1 s1 rv => ?_) (fun y fl st1 dx B1 H1 e1 fi1 fl1 => ?_)
      · subst e1
        rw [dexp_ok ef] at h
        cases e1 : cellOf i st1 with
        | none =>
          simp only [e1] at h
          cases h
        | some ds =>
          simp only [e1] at h
          obtain ⟨hz, rfl⟩ := opt_if h
          obtain ⟨l1, xs, hs1, hl1, ra⟩ := s1.cellList hi e1
          rw [hs] at hs1
          cases hs1
          exact ⟨l, xs, v, rfl, rfl, hl1, by rw [ra.length]; exact hz, n _ B1 _ _ rfl (s1.updCell hi (cellOf_some e1) hs (.lst (ra.append (.cons rv .nil))))⟩
      · subst e1
        unfold dexp at h
        rw [ef] at h
        exact x y fl st1 dx B1 H1 (Option.some.inj h).symm fi1 fl1
/-- xs.extend(e): e a list -/
def rExtendL : V → List V → Hp → VK → Prop := fun x vs H Q => ∃ l b xs zs, x = .ref l ∧ vs = [.ref b] ∧ H l = some (.lst xs) ∧ Rd H b (.lst zs) ∧ xs.length + zs.length ≤ sizeLine ∧ Q .non (upd H l (.lst (xs ++ zs)))
theorem mt_extendL {X : Cx} : MtM X "list.extend" rExtendL := by
  intro pins s σ H x vs v us Q I rx rv h
  obtain ⟨l, b, xs, zs, rfl, rfl, hH, hB, hz, q⟩ := h
  cases rx
  obtain ⟨u, rfl, ru⟩ := rv.one
  cases ru
  obtain ⟨z, its, n, r, hl, e⟩ := I.lstM hH
  obtain ⟨z2, its2, n2, r2, hl2, e2⟩ := rd_lstM I hB
  have hsz : its.toArray.size + its2.toArray.size ≤ sizeLine := by rw [List.size_toArray, List.size_toArray]; omega
  have hlong : ¬ (!its.toArray.isEmpty && Builtin.List.listTooLong (its.toArray.size + its2.toArray.size)) = true := by
    rw [notLongL hsz, Bool.and_false]
    exact Bool.false_ne_true
  refine call_meets F.slot_list_extend ⟨_, e, rfl⟩ F.entry_list_extend (F.args_list_extend_2 _ _)
    (AutoSeq1.list_extend_list_list_0 l its.toArray n b its2.toArray n2 hlong (by rw [List.size_toArray]; omega) (by omega)) ⟨e, e2, ?_⟩
  refine ⟨.non, _, I.lset (its' := its ++ its2) hH e (by simp) (r.append r2) ?_, rfl, q⟩
  rw [List.length_append]
  omega
def dext (i : Nat) (fe : DM D) : DT := fun st => match cellOf i st with
  | none => none
  | some _ => dexp fe (fun d st1 => match cellOf i st1, d with
    | some ds, .list es => if ds.length + es.length ≤ sizeLine then some (.nx (st1.set i (some (.list (ds ++ es))))) else none
    | _, _ => none) st
theorem ev_ext {i : Nat} {te : TE} {fe : DM D} (hi : i ∈ c.cl) (he : EvE K c (Rep K) te fe) : EvS K c (tDrop (tBM K "list" rExtendL (tVar i) (tCons te tNil))) (dext i fe) := fun A A0 B0 H0 B σ H st r s h De n b kk t x => by
  unfold dext at h
  cases e0 : cellOf i st with
  | none =>
    simp only [e0] at h
    cases h
  | some ds0 =>
    simp only [e0] at h
    obtain ⟨l, xs0, hs, hl0, _⟩ := s.cellList hi e0
    refine ⟨_, hs, .inl ⟨rfl, xs0, SqL.of hl0⟩, ?_⟩
    cases ef : fe st with
    | none =>
      unfold dexp at h
      rw [ef] at h
      cases h
    | some ro =>
      refine he A A0 B0 H0 B σ H st ro s ef _ (fun d st1 v B1 H1 e1 s1 rv => ?_) (fun y fl st1 dx B1 H1 e1 fi1 fl1 => ?_)
      · subst e1
        rw [dexp_ok ef] at h
        cases e1 : cellOf i st1 with
        | none =>
          simp only [e1] at h
          cases h
        | some ds =>
          simp only [e1] at h
          cases d <;> first | (cases h; done) | skip
          rename_i es
          obtain ⟨hz, rfl⟩ := opt_if (show (if ds.length + es.length ≤ sizeLine then some (Out.nx (st1.set i (some (.list (ds ++ es))))) else none) = some r from h)
          obtain ⟨l1, xs, hs1, hl1, ra⟩ := s1.cellList hi e1
          rw [hs] at hs1
          cases hs1
          obtain ⟨b1, zs, rfl, hb1, rb⟩ := rep_lst rv
          exact ⟨l, b1, xs, zs, rfl, rfl, hl1, ex_rd s1.er.bh hb1, by rw [ra.length, rb.length]; exact hz, n _ B1 _ _ rfl (s1.updCell hi (cellOf_some e1) hs (.lst (ra.append rb)))⟩
      · subst e1
        unfold dexp at h
        rw [ef] at h
        exact x y fl st1 dx B1 H1 (Option.some.inj h).symm fi1 fl1
/-- x[k] = e: a list's item; x a cell or a pen -/
def dput (i : Nat) (fe fk : DM D) : DT := dexp fe fun d => dexp fk fun k st => match cellOf i st, k with
  | some ds, .int z => (ixN ds.length z).map fun j => .nx (st.set i (some (.list (ds.set j d))))
  | _, _ => none
theorem ev_putP {i : Nat} {te tk : TE} {fe fk : DM D} (hi : i ∈ c.ps) (he : EvE K c (Rep K) te fe) (hk : EvE K c (Rep K) tk fk) : EvS K c (tAsg te (gSub (tVar i) tk rSetL)) (dput i fe fk) := fun A A0 B0 H0 B σ H st r s h De n b kk t x => by
  unfold dput at h
  cases ef : fe st with
  | none =>
    unfold dexp at h
    rw [ef] at h
    cases h
  | some ro =>
    refine he A A0 B0 H0 B σ H st ro s ef _ (fun d st1 v B1 H1 e1 s1 rv => ?_) (fun y fl st1 dx B1 H1 e1 fi1 fl1 => ?_)
    · subst e1
      rw [dexp_ok ef] at h
      obtain ⟨d0, o0, q1, q2, q3, q4, q5⟩ := s1.er.pn i hi
      refine ⟨_, q2, ?_⟩
      cases ek : fk st1 with
      | none =>
        unfold dexp at h
        rw [ek] at h
        cases h
      | some rk =>
        have hB1 := s1.rebase s1.en.ext (fun _ _ q => q)
        refine hk A A0 B1 H0 B1 σ H1 st1 rk hB1 ek _ (fun k st2 w B2 H2 e2 s2 rw' => ?_) (fun y fl st2 dx B2 H2 e2 fi2 fl2 => ?_)
        · subst e2
          rw [dexp_ok ek] at h
          have s2' := s2.unbase s1.en.ext s1.en.new
          cases ec : cellOf i st2 with
          | none =>
            simp only [ec] at h
            cases h
          | some ds =>
            simp only [ec] at h
            cases k <;> first | (cases h; done) | skip
            rename_i z
            obtain ⟨j, hj, rfl⟩ := Option.map_eq_some_iff.mp (show (ixN ds.length z).map (fun j => Out.nx (st2.set i (some (.list (ds.set j d))))) = some r from h)
            obtain ⟨d2, o2, p1, p2, p3, p4, p5⟩ := s2.er.pn i hi
            rw [cellOf_some ec] at p1
            cases p1
            rw [cut_noZ] at p5
            obtain ⟨xs, rfl, ra⟩ := repO_list p5
            exact ⟨A i, xs, z, j, rfl, rep_int rw', p4, by rw [ra.length]; exact hj, n _ B2 _ _ rfl (s2'.updPen hi (.lst (ra.set (rv.mono s2.en.ext) j)))⟩
        · subst e2
          unfold dexp at h
          rw [ek] at h
          exact x y fl st2 dx B2 H2 (Option.some.inj h).symm (fi2.unbase s1.en.ext s1.en.new) fl2
    · subst e1
      unfold dexp at h
      rw [ef] at h
      exact x y fl st1 dx B1 H1 (Option.some.inj h).symm fi1 fl1
theorem ev_putC {i : Nat} {te tk : TE} {fe fk : DM D} (hi : i ∈ c.cl) (he : EvE K c (Rep K) te fe) (hk : EvE K c (Rep K) tk fk) : EvS K c (tAsg te (gSub (tVar i) tk rSetL)) (fun st => match cellOf i st with | none => none | some _ => dput i fe fk st) := fun A A0 B0 H0 B σ H st r s h De n b kk t x => by
  cases e0 : cellOf i st with
  | none =>
    simp only [e0] at h
    cases h
  | some ds0 =>
  simp only [e0] at h
  obtain ⟨l, xs0, hs, hl0, _⟩ := s.cellList hi e0
  unfold dput at h
  cases ef : fe st with
  | none =>
    unfold dexp at h
    rw [ef] at h
    cases h
  | some ro =>
    refine he A A0 B0 H0 B σ H st ro s ef _ (fun d st1 v B1 H1 e1 s1 rv => ?_) (fun y fl st1 dx B1 H1 e1 fi1 fl1 => ?_)
    · subst e1
      rw [dexp_ok ef] at h
      refine ⟨_, hs, ?_⟩
      cases ek : fk st1 with
      | none =>
        unfold dexp at h
        rw [ek] at h
        cases h
      | some rk =>
        have hB1 := s1.rebase s1.en.ext (fun _ _ q => q)
        refine hk A A0 B1 H0 B1 σ H1 st1 rk hB1 ek _ (fun k st2 w B2 H2 e2 s2 rw' => ?_) (fun y fl st2 dx B2 H2 e2 fi2 fl2 => ?_)
        · subst e2
          rw [dexp_ok ek] at h
          have s2' := s2.unbase s1.en.ext s1.en.new
          cases ec : cellOf i st2 with
          | none =>
            simp only [ec] at h
            cases h
          | some ds =>
            simp only [ec] at h
            cases k <;> first | (cases h; done) | skip
            rename_i z
            obtain ⟨j, hj, rfl⟩ := Option.map_eq_some_iff.mp (show (ixN ds.length z).map (fun j => Out.nx (st2.set i (some (.list (ds.set j d))))) = some r from h)
            obtain ⟨l1, xs, hs1, hl1, ra⟩ := s2.cellList hi ec
            rw [hs] at hs1
            cases hs1
            exact ⟨l, xs, z, j, rfl, rep_int rw', hl1, by rw [ra.length]; exact hj, n _ B2 _ _ rfl (s2'.updCell hi (cellOf_some ec) hs (.lst (ra.set (rv.mono s2.en.ext) j)))⟩
        · subst e2
          unfold dexp at h
          rw [ek] at h
          exact x y fl st2 dx B2 H2 (Option.some.inj h).symm (fi2.unbase s1.en.ext s1.en.new) fl2
    · subst e1
      unfold dexp at h
      rw [ef] at h
      exact x y fl st1 dx B1 H1 (Option.some.inj h).symm fi1 fl1
end

/-! ### a def's body keeps its promise -/
def startD (n : Nat) (ds : List D) : DS := ds.map some ++ List.replicate (n - ds.length) none
def mOf (n k : Nat) (g : DT) (ds : List D) : Option D := if ds.length = k then match g (startD n ds) with
  | some (.rt d _) => some d
  | some (.nx _) => some .none
  | _ => none else none
def mOfP (n k : Nat) (g : DT) (pd : D) (ds : List D) : Option (D × D) := if ds.length = k then match g (startD n (pd :: ds)) with
  | some (.rt d st) => (penOf 0 st).map fun p => (d, p)
  | some (.nx st) => (penOf 0 st).map fun p => (.none, p)
  | _ => none else none
theorem mOf_len {n k : Nat} {g : DT} : ∀ ds d, mOf n k g ds = some d → ds.length = k := fun ds d h => (by
  unfold mOf at h
  split at h
  · assumption
  · cases h)
theorem mOfP_len {n k : Nat} {g : DT} : ∀ pd ds d, mOfP n k g pd ds = some d → ds.length = k := fun pd ds d h => (by
  unfold mOfP at h
  split at h
  · assumption
  · cases h)
theorem start_get {vs : List V} {N : List Str} {i : Nat} : (start N vs)[i]? = if i < vs.length then (vs[i]?).map some else if i < vs.length + (N.length - vs.length) then some none else none := by
  unfold L2.start
  rw [List.getElem?_append]
  rw [List.length_map]
  split
  · rw [List.getElem?_map]
  · rename_i h
    rw [List.getElem?_replicate]
    split
    · rename_i h2
      rw [if_pos (by omega)]
    · rename_i h2
      rw [if_neg (by omega)]
theorem startD_get {n : Nat} {ds : List D} {i : Nat} {d : D} (h : (startD n ds)[i]? = some (some d)) : ds[i]? = some d := by
  unfold startD at h
  rw [List.getElem?_append] at h
  split at h
  · rw [List.getElem?_map] at h
    cases e : ds[i]? with
    | none =>
      rw [e] at h
      cases h
    | some u =>
      rw [e] at h
      cases h
      rfl
  · rw [List.getElem?_replicate] at h
    split at h <;> cases h
theorem start_some {vs : List V} {N : List Str} {i : Nat} {v : V} (h : vs[i]? = some v) : (start N vs)[i]? = some (some v) := by
  rw [start_get, if_pos (lt_of_some h), h]
  rfl
/-- the state at the entry: no pens -/
theorem sr_start {K : PySem.W.Frag} {c : Cs} (hps : c.ps = []) (hpa : c.pa = []) {N : List Str} {vs : List V} {ds : List D} {B H : Hp} (e : Ex B H) (r : RepA K B vs ds) (hl : ds.length ≤ N.length) (hc : ∀ i ∈ c.cl, ds.length ≤ i) :
    SR K c (fun _ => 0) (fun _ => 0) B H B (start N vs) H (startD N.length ds) where
  er := {
    len := by
      unfold startD L2.start
      rw [List.length_append, List.length_append, List.length_map, List.length_map, List.length_replicate, List.length_replicate, r.length]
    bh := e
    rd := fun i d _ _ h => by
      obtain ⟨v, h1, h2⟩ := r.get (startD_get h)
      exact ⟨v, start_some h1, h2⟩
    pn := fun i hi => by
      have hi' : i ∈ c.ps := hi
      rw [hps] at hi'
      cases hi'
    ne := fun i hi => by
      have hi' : i ∈ c.ps := hi
      rw [hps] at hi'
      cases hi'
    zx := fun _ _ => rfl
    zo := fun _ h => nomatch h }
  cl := fun i hi d h => by
    have := lt_of_some (startD_get h)
    have := hc i hi
    omega
  cn := fun i hi j hj hne l ⟨d, h⟩ => by
    have := lt_of_some (startD_get h)
    have := hc i hi
    omega
  cp := fun i _ h => by
    rw [hps] at h
    cases h
  en := ⟨fun _ _ h => h, fun _ _ h => .inl h, fun _ _ h _ => h, fun _ h => h⟩
  pe := fun i h => by
    rw [hps] at h
    cases h
  pf := fun i h => by
    rw [hpa] at h
    cases h
/-- .. one pen, the first parameter -/
theorem sr_startP {K : PySem.W.Frag} {c : Cs} (hps : c.ps = [0]) (hpa : c.pa = [0]) {N : List Str} {vs : List V} {pd : D} {ds : List D} {B H : Hp} {l : Addr} {o : HO} (e : Ex B H) (hb : B l = none) (hh : H l = some o) (ro : RepO K B o pd) (r : RepA K B vs ds) (hl : ds.length + 1 ≤ N.length) (hc : ∀ i ∈ c.cl, ds.length + 1 ≤ i) :
    SR K c (fun _ => l) (fun _ => l) B H B (start N (.ref l :: vs)) H (startD N.length (pd :: ds)) where
  er := {
    len := by
      unfold startD L2.start
      rw [List.length_append, List.length_append, List.length_map, List.length_map, List.length_replicate, List.length_replicate, List.length_cons, List.length_cons, r.length]
    bh := e
    rd := fun i d _ h1 h => by
      have h1' : i ∉ c.ps := h1
      rw [hps] at h1'
      have h2 := startD_get h
      cases i with
      | zero => exact absurd (List.mem_singleton.mpr rfl) h1'
      | succ i =>
        obtain ⟨v, h3, h4⟩ := r.get (show ds[i]? = some d from h2)
        exact ⟨v, start_some (show (V.ref l :: vs)[i + 1]? = some v from h3), h4⟩
    pn := fun i hi => by
      have hi' : i ∈ c.ps := hi
      rw [hps] at hi'
      have e0 : i = 0 := List.mem_singleton.mp hi'
      subst e0
      refine ⟨pd, o, rfl, start_some rfl, hb, hh, by rw [cut_noZ]; exact ro⟩
    ne := fun i hi j hj hne => by
      have hi' : i ∈ c.ps := hi
      have hj' : j ∈ c.ps := hj
      rw [hps] at hi' hj'
      exact absurd ((List.mem_singleton.mp hi').trans (List.mem_singleton.mp hj').symm) hne
    zx := fun _ _ => rfl
    zo := fun _ h => nomatch h }
  cl := fun i hi d h => by
    have h1 := lt_of_some (startD_get h)
    have := hc i hi
    rw [List.length_cons] at h1
    omega
  cn := fun i hi j hj hne l ⟨d, h⟩ => by
    have h1 := lt_of_some (startD_get h)
    have := hc i hi
    rw [List.length_cons] at h1
    omega
  cp := fun i hi h => by
    rw [hps] at h
    have e0 : i = 0 := List.mem_singleton.mp h
    have := hc i hi
    omega
  en := ⟨fun _ _ h => h, fun _ _ h => .inl h, fun _ _ h _ => h, fun _ h => h⟩
  pe := fun i h => by
    rw [hps] at h
    exact .inl ⟨by rw [hpa]; exact h, rfl⟩
  pf := fun i h => by
    rw [hpa] at h
    exact ⟨by rw [hps]; exact h, rfl⟩
structure PDSs (X : Cx) (c : Cs) (b : List Stmt) (t : TS) (f : DT) : Prop where
  ps : PSs X b t
  ev : EvS X.K c t f
structure PDS (X : Cx) (c : Cs) (b : Stmt) (t : TS) (f : DT) : Prop where
  ps : PS X b t
  ev : EvS X.K c t f
abbrev W0 : XK := fun _ _ _ => False
section
variable {P : Program} {w : World} {K : PySem.W.Frag} {mg : Str → Option Value} {base : Heap} {x qual : Str} {params : Arguments} {body : List Stmt} {scope : Scope} {f : Addr} {fd : FuncData}
/-- a def without pens that raises nothing -/
theorem def_ok {N ps : List Str} {k n : Nat} {cl : List Nat} {g : DT} (F : FunD K x qual params body scope [] [] f fd) (S : FnScope N ps scope) (hn : ps.length = n) (hl : n ≤ N.length) (hc : ∀ i ∈ cl, n ≤ i)
    (hbody : ∀ (cdv : Value) (A : Around) (outer : List Env) (s : Shared) (H : Hp) (E : XK), Room k (A.deeper (envOfC qual scope s.heap.objs.size f cdv)) →
      ∃ t, PDSs (cxOf CX0 P w K mg base N qual scope f cdv A outer s H E).nox ⟨cl, [], [], W0⟩ body t g) : FnOk P w K mg base CX0 (k + 1) f fd ps (spD K n (mOf N.length n g)) := by
  refine F.ok S (fun vs H Q E h => ?_) (fun cdv A outer s H vs Q E hr h => ?_)
  · obtain ⟨B, ds, d, hlen, _⟩ := h
    exact hlen.trans hn.symm
  · obtain ⟨B, ds, d, hlen, e, r, hm, q⟩ := h
    obtain ⟨t, ht⟩ := hbody cdv A outer s H E hr
    refine ⟨t, ht.ps.nox, ?_⟩
    have hds : ds.length = n := mOf_len ds d hm
    unfold mOf at hm
    rw [if_pos hds] at hm
    have s0 := sr_start (K := K) (c := ⟨cl, [], [], W0⟩) rfl rfl (N := N) e r (by rw [hds]; exact hl) (by rw [hds]; exact hc)
    cases eg : g (startD N.length ds) with
    | none =>
      rw [eg] at hm
      cases hm
    | some o =>
      refine ht.ev _ _ B H B _ H _ o s0 eg _ (fun st' B' σ' H' e1 s1 => ?_) (fun st' B' σ' H' e1 s1 => ?_) (fun st' B' σ' H' e1 s1 => ?_) (fun d' st' v B' H' e1 fi rv => ?_) (fun y fl st' dx B' H' e1 fi fl1 => ?_)
      · subst e1
        rw [eg] at hm
        cases hm
        have fi := s1.fin
        exact q .non B' H' ⟨fi.en.ext, fun a o h => fi.en.keep a o h (fun _ z => nomatch z), fi.bh, fi.en.new⟩ .non
      · subst e1
        rw [eg] at hm
        cases hm
      · subst e1
        rw [eg] at hm
        cases hm
      · subst e1
        rw [eg] at hm
        cases hm
        exact q v B' H' ⟨fi.en.ext, fun a o h => fi.en.keep a o h (fun _ z => nomatch z), fi.bh, fi.en.new⟩ rv
      · subst e1
        rw [eg] at hm
        cases hm
/-- a def whose first parameter is a pen -/
theorem def_okP {N ps : List Str} {k n : Nat} {cl : List Nat} {g : DT} (F : FunD K x qual params body scope [] [] f fd) (S : FnScope N ps scope) (hn : ps.length = n + 1) (hl : n + 1 ≤ N.length) (hc : ∀ i ∈ cl, n + 1 ≤ i)
    (hbody : ∀ (cdv : Value) (A : Around) (outer : List Env) (s : Shared) (H : Hp) (E : XK), Room k (A.deeper (envOfC qual scope s.heap.objs.size f cdv)) →
      ∃ t, PDSs (cxOf CX0 P w K mg base N qual scope f cdv A outer s H E).nox ⟨cl, [0], [0], W0⟩ body t g) : FnOk P w K mg base CX0 (k + 1) f fd ps (spP K n (mOfP N.length n g)) := by
  refine F.ok S (fun vs H Q E h => ?_) (fun cdv A outer s H vs Q E hr h => ?_)
  · obtain ⟨B, l, o, pd, ws, ds, d, pd', rfl, hlen, _⟩ := h
    rw [List.length_cons, hlen, hn]
  · obtain ⟨B, l, o, pd, ws, ds, d, pd', rfl, hlen, e, hb, hh, ro, r, hm, q⟩ := h
    obtain ⟨t, ht⟩ := hbody cdv A outer s H E hr
    refine ⟨t, ht.ps.nox, ?_⟩
    have hds : ds.length = n := mOfP_len pd ds _ hm
    unfold mOfP at hm
    rw [if_pos hds] at hm
    have s0 := sr_startP (K := K) (c := ⟨cl, [0], [0], W0⟩) rfl rfl (N := N) e hb hh ro r (by rw [hds]; exact hl) (by rw [hds]; exact hc)
    have fin : ∀ {B' H' : Hp} {st' : DS} {p1 : D}, Fin K ⟨cl, [0], [0], W0⟩ (fun _ => l) B H B' H' st' → penOf 0 st' = some p1 → PuP K l B H B' H' p1 := fun {B' H' st' p1} fi hp => by
      obtain ⟨d1, o1, q1, q2, q3, q4⟩ := fi.pn 0 (List.mem_singleton.mpr rfl)
      rw [penOf_some hp] at q1
      cases q1
      exact ⟨fi.en.ext, fi.en.new, fun a o h n => fi.en.keep a o h fun _ _ => n, fi.en.there, fi.bh, q2, o1, q3, q4⟩
    cases eg : g (startD N.length (pd :: ds)) with
    | none =>
      rw [eg] at hm
      cases hm
    | some o =>
      refine ht.ev _ _ B H B _ H _ o s0 eg _ (fun st' B' σ' H' e1 s1 => ?_) (fun st' B' σ' H' e1 s1 => ?_) (fun st' B' σ' H' e1 s1 => ?_) (fun d' st' v B' H' e1 fi rv => ?_) (fun y fl st' dx B' H' e1 fi fl1 => ?_)
      · subst e1
        rw [eg] at hm
        obtain ⟨p1, hp, e2⟩ := Option.map_eq_some_iff.mp (show (penOf 0 st').map (fun p => (PyData.none, p)) = some (d, pd') from hm)
        cases e2
        exact q .non B' H' (fin s1.fin hp) .non
      · subst e1
        rw [eg] at hm
        cases hm
      · subst e1
        rw [eg] at hm
        cases hm
      · subst e1
        rw [eg] at hm
        obtain ⟨p1, hp, e2⟩ := Option.map_eq_some_iff.mp (show (penOf 0 st').map (fun p => (d', p)) = some (d, pd') from hm)
        cases e2
        exact q v B' H' (fin fi hp) rv
      · subst e1
        rw [eg] at hm
        cases hm
end
end DR

set_option maxRecDepth 100000
set_option maxHeartbeats 1000000
namespace DR
open PySem PySem.Spec L2
open PyProof.Rows hiding St
open Evl (Ex ex_l ex_t ex_rd)

section
variable {X : Cx} {c : Cs} {st : Stmt} {rest : List Stmt} {t u : TS} {f g : DT} {e : Expr} {te : TE} {fe : DM D} {pos : Pos}
theorem pdss_nil : PDSs X c [] tNext dnext := ⟨pss_nil, ev_next⟩
theorem pdss_cons (h1 : PDS X c st t f) (h2 : PDSs X c rest u g) : PDSs X c (st :: rest) (tSeq t u) (dseq f g) := ⟨pss_cons h1.ps h2.ps, ev_seq h1.ev h2.ev⟩
theorem pdss_one (h1 : PDS X c st t f) : PDSs X c [st] t f := ⟨pss_one h1.ps, h1.ev⟩
theorem pds_pass : PDS X c (.Pass pos) tNext dnext := ⟨ps_pass, ev_next⟩
theorem pds_break : PDS X c (.Break pos) tBreak (fun st => some (.bk st)) := ⟨ps_break, ev_break⟩
theorem pds_continue : PDS X c (.Continue pos) tCont (fun st => some (.ct st)) := ⟨ps_continue, ev_cont⟩
/-- an expression at a statement: without the cells, or with them and flat -/
structure PDE (X : Cx) (c : Cs) (e : Expr) (t : TE) (f : DM D) : Prop where
  pe : PE X e t
  ev : EvE X.K c (Rep X.K) t f
theorem PD.em (h : PD X c.m e te fe) : PDE X c e te fe := ⟨h.pe, .m h.ev⟩
theorem PD.ea (h : PD X c.a e te fe) : PDE X c e te (dflat fe) := ⟨h.pe, .a h.ev⟩
structure PDTE (X : Cx) (c : Cs) (e : Expr) (t : TT) (f : DM Bool) : Prop where
  pt : PT X e t
  ev : EvE X.K c eqR t f
theorem PDT.em {tt : TT} {ft : DM Bool} (h : PDT X c.m e tt ft) : PDTE X c e tt ft := ⟨h.pt, .m h.ev⟩
theorem PDT.ea {tt : TT} {ft : DM Bool} (h : PDT X c.a e tt ft) : PDTE X c e tt ft := ⟨h.pt, .at h.ev⟩
theorem pds_set (i : Nat) {x : Str} {pos' : Pos} (he : PDE X c e te fe) (h1 : i ∉ c.cl := by decide) (h2 : i ∉ c.ps := by decide) (hN : X.N.Nodup := by assumption) (hi : X.N[i]? = some x := by rfl) (hx : Loc X.env.scope x := by first | exact Or.inl rfl | exact Or.inr rfl)
    (hs : swapsWith e (some (.Name x pos')) pos.line X.env = pure false := by rfl) (hf : X.fn x = true ∨ X.env.scope.names.lookup x = some .local := by first | exact .inl rfl | exact .inr rfl | assumption) : PDS X c (.Assign [.Name x pos'] e pos) (tAsg te (gName i)) (dset i fe) :=
  ⟨ps_set hN hi hx he.pe hs hf, ev_set h1 h2 he.ev⟩
/-- x = [..], a comprehension: the name a local -/
theorem pds_setLc {i : Nat} {y : Str} {py : Pos} {elt tg iter : Expr} {ifs : List Expr} {scope : Scope} {own : List (Str × Nat)} {pos0 spos : Pos} {wi : TI} {fi : DM (List D)} {g' : TG} {gd : DG} {tt : TT} {ft : DM Bool} (hN : X.N.Nodup) (hc : X.calm = true) (hy : X.N[i]? = some y) (hyl : X.env.scope.names.lookup y = some .local)
    (hsw : swapsWith (.ListComp elt [⟨tg, iter, ifs, 0⟩] scope pos0) (some (.Name y py)) spos.line X.env = pure true) (hi : PDI X c.m tg iter wi fi) (ok : BlkOk X.N X.env.scope scope own) (hv : ∀ i ∈ own.map (·.2), i ∉ c.ps)
    (hg : ∀ (s : Shared) (H : Hp) (C : Addr) (cl : List (Str × Addr)) (fp : List Addr), PDG (X.blk s H scope (compEnvC scope cl C X.env) fp) c.m (own.map (·.2)) tg g' gd) (ht : ∀ (s : Shared) (H : Hp) (C : Addr) (cl : List (Str × Addr)) (fp : List Addr), PDTs (X.blk s H scope (compEnvC scope cl C X.env) fp) c.m ifs tt ft)
    (he : ∀ (s : Shared) (H : Hp) (C : Addr) (cl : List (Str × Addr)) (fp : List Addr), PD (X.blk s H scope (compEnvC scope cl C X.env) fp) c.m elt te fe) (h1 : i ∉ c.cl) (h2 : i ∉ c.ps) (hs : ∀ x, foldedSetIterable iter X.env x = pure x := by intro _; rfl) :
    PDS X c (.Assign [.Name y py] (.ListComp elt [⟨tg, iter, ifs, 0⟩] scope pos0) spos) (tAsg (tLc wi g' tt te (own.map (·.2))) (gName i)) (dset i (dcomp (own.map (·.2)) fi gd ft fe)) :=
  ⟨ps_setLc hc hN hy hyl hsw hi.pi ok (fun s H C cl fp => (hg s H C cl fp).pg) (fun s H C cl fp => (ht s H C cl fp).pt) (fun s H C cl fp => (he s H C cl fp).pe) hs,
   ev_set h1 h2 (.m (ev_lc hv hi.ev (hg X.s_0 X.H_0 0 [] []).ev (ht X.s_0 X.H_0 0 [] []).ev (he X.s_0 X.H_0 0 [] []).ev).ev)⟩
/-- .. a cell -/
theorem pds_setLcC {i : Nat} {y : Str} {py : Pos} {elt tg iter : Expr} {ifs : List Expr} {scope : Scope} {own : List (Str × Nat)} {pos0 spos : Pos} {wi : TI} {fi : DM (List D)} {g' : TG} {gd : DG} {tt : TT} {ft : DM Bool} (hN : X.N.Nodup) (hc : X.calm = true) (hy : X.N[i]? = some y) (hyl : X.env.scope.names.lookup y = some .local)
    (hsw : swapsWith (.ListComp elt [⟨tg, iter, ifs, 0⟩] scope pos0) (some (.Name y py)) spos.line X.env = pure true) (hi : PDI X c.m tg iter wi fi) (ok : BlkOk X.N X.env.scope scope own) (hv : ∀ i ∈ own.map (·.2), i ∉ c.ps)
    (hg : ∀ (s : Shared) (H : Hp) (C : Addr) (cl : List (Str × Addr)) (fp : List Addr), PDG (X.blk s H scope (compEnvC scope cl C X.env) fp) c.m (own.map (·.2)) tg g' gd) (ht : ∀ (s : Shared) (H : Hp) (C : Addr) (cl : List (Str × Addr)) (fp : List Addr), PDTs (X.blk s H scope (compEnvC scope cl C X.env) fp) c.m ifs tt ft)
    (he : ∀ (s : Shared) (H : Hp) (C : Addr) (cl : List (Str × Addr)) (fp : List Addr), PD (X.blk s H scope (compEnvC scope cl C X.env) fp) c.m elt te fe) (h1 : i ∈ c.cl) (hs : ∀ x, foldedSetIterable iter X.env x = pure x := by intro _; rfl) :
    PDS X c (.Assign [.Name y py] (.ListComp elt [⟨tg, iter, ifs, 0⟩] scope pos0) spos) (tAsg (tLc wi g' tt te (own.map (·.2))) (gName i)) (dset i (dcomp (own.map (·.2)) fi gd ft fe)) :=
  ⟨ps_setLc hc hN hy hyl hsw hi.pi ok (fun s H C cl fp => (hg s H C cl fp).pg) (fun s H C cl fp => (ht s H C cl fp).pt) (fun s H C cl fp => (he s H C cl fp).pe) hs,
   ev_setC h1 (ev_lc hv hi.ev (hg X.s_0 X.H_0 0 [] []).ev (ht X.s_0 X.H_0 0 [] []).ev (he X.s_0 X.H_0 0 [] []).ev)⟩
/-- x = a new object: x a cell -/
theorem pds_setC (i : Nat) {x : Str} {pos' : Pos} (he : PDN X c.m e te fe) (h1 : i ∈ c.cl := by decide) (hN : X.N.Nodup := by assumption) (hi : X.N[i]? = some x := by rfl) (hx : Loc X.env.scope x := by first | exact Or.inl rfl | exact Or.inr rfl)
    (hs : swapsWith e (some (.Name x pos')) pos.line X.env = pure false := by rfl) (hf : X.fn x = true ∨ X.env.scope.names.lookup x = some .local := by first | exact .inl rfl | exact .inr rfl | assumption) : PDS X c (.Assign [.Name x pos'] e pos) (tAsg te (gName i)) (dset i fe) :=
  ⟨ps_set hN hi hx he.pe hs hf, ev_setC h1 he.ev⟩
theorem pdn_lst {es : List Expr} {t : TA} {f : DM (List D)} {cf : Cf} (h : PDA X cf es t f) : PDN X cf (.List es pos) (tLst t) (dlst f) :=
  ⟨pe_lst h.pa, fun A Z B σ H st r er hf Q hok hex => by
    have hf' : (f.bind fun ds => DM.opt (if ds.length ≤ sizeLine then some (PyData.list ds) else none)) st = some r := hf
    cases ef : f st with
    | none =>
      unfold DM.bind at hf'
      rw [ef] at hf'
      cases hf'
    | some ro =>
      obtain ⟨ro, st1⟩ := ro
      refine h.ev A Z B σ H st _ er True.intro ef _ (fun ds st1' e1 xs B1 H1 er1 ad1 ra => ?_) (fun y fl st1' e1 dx B1 H1 er1 ad1 fl1 => ?_)
      · cases e1
        rw [bind_ok ef] at hf'
        obtain ⟨d, h1, rfl⟩ := Option.map_eq_some_iff.mp hf'
        obtain ⟨hl, rfl⟩ := opt_if h1
        refine ⟨by rw [ra.length]; exact hl, fun p hp => ?_⟩
        have pu := Pu.mk0 (o := .lst xs) er1.bh hp
        exact hok _ st1 rfl p _ B1 _ (er1.pu pu) (ad1.trans pu.adv) (none_of er1.bh hp) (ad1.there p hp) upd_same (.lst ra)
      · cases e1
        rw [bind_ex ef] at hf'
        exact hex y fl st1 (Option.some.inj hf').symm dx B1 H1 er1 ad1 fl1⟩
/-- targets of a tuple -/
theorem pds_asg {vs : List Nat} {tg : Expr} {gt : TG} {gd : DG} (he : PDE X c e te fe) (hg : PDG X c.m vs tg gt gd) (hv : ∀ i ∈ vs, i ∉ c.cl := by decide) (hs : swapsWithSole [tg] e pos.line X.env = pure false := by rfl) (hw : swappedStores [tg] e X.env = pure none := by rfl)
    (h1 : (assignEach [tg] X.env).map (·.2) = [assign tg X.env] := by rfl) : PDS X c (.Assign [tg] e pos) (tAsg te gt) (dasg fe gd) := ⟨ps_asg he.pe hg.pg hs hw h1, ev_asg hv he.ev hg.ev⟩
/-- a, b = x, y -/
def dpar (i j : Nat) (fs : DM (List D)) : DT := dexp fs fun ds st => match ds with
  | [d, e] => some (.nx ((st.set i (some d)).set j (some e)))
  | _ => none
theorem pds_par (i j : Nat) {x y : Str} {a b : Expr} {ta : TA} {fs : DM (List D)} {px py pt : Pos} {kt k2 pt2} (ha : PDA X c.m [a, b] ta fs) (h1 : i ∉ c.cl := by decide) (h2 : i ∉ c.ps := by decide) (h3 : j ∉ c.cl := by decide) (h4 : j ∉ c.ps := by decide) (hc : X.calm = true := by rfl) (hN : X.N.Nodup := by assumption) (hi : X.N[i]? = some x := by rfl) (hj : X.N[j]? = some y := by rfl) (hij : i ≠ j := by decide)
    (hx : X.env.scope.names.lookup x = some .local := by rfl) (hy : X.env.scope.names.lookup y = some .local := by rfl)
    (hw : swappedStores [.Tuple [.Name x px, .Name y py] kt pt] (.Tuple [a, b] k2 pt2) X.env = pure (some [x, y]) := by rfl)
    (hs : swapsWithSole [.Tuple [.Name x px, .Name y py] kt pt] (.Tuple [a, b] k2 pt2) pos.line X.env = pure false := by rfl) :
    PDS X c (.Assign [.Tuple [.Name x px, .Name y py] kt pt] (.Tuple [a, b] k2 pt2) pos) (tPar i j ta) (dpar i j fs) :=
  ⟨ps_par hc hN hi hj hij hx hy ha.pa hw hs, ev_exp (tk := fun vs De σ H => ∃ v w, vs = [v, w] ∧ De.nx ((σ.set i (some v)).set j (some w)) H) (EvE.m ha.ev) fun vs ds A A0 B0 H0 B σ H st r s ra h De n _ _ _ _ => by
    match ds, h with
    | [d, e], h =>
      cases h
      obtain ⟨v, w, rfl, rv, rw'⟩ := repA2 ra
      exact ⟨v, w, rfl, n _ _ _ _ rfl ((s.set h1 h2 rv).set h3 h4 rw')⟩⟩
theorem pds_expr (he : PDE X c e te fe) (hs : swapsWith e none pos.line X.env = pure false := by rfl) : PDS X c (.Expr e pos) (tDrop te) (ddrop fe) := ⟨ps_expr he.pe hs, ev_drop he.ev⟩
theorem pds_app (i : Nat) {x : Str} {px apos cpos : Pos} (he : PDE X c e te fe) (h1 : i ∈ c.cl := by decide) (hN : X.N[i]? = some x := by rfl) (hv : Vis X.env.scope x := by first | exact Or.inl rfl | exact Or.inr (Or.inl rfl) | exact Or.inr (Or.inr rfl))
    (hd : (x == ("__debug__" : Str)) = false := by decide) (hcd : (x == ("__classdict__" : Str)) = false := by decide)
    (hbase : attributeBase (.Name x px) "append" X.env (eval (.Name x px) X.env) = eval (.Name x px) X.env := by rfl)
    (hfew : ((backTo cpos (starEach [e] X.env)).all (fun x => !x.1) && (backToKw cpos (keywordEach [] X.env)).all (fun x => x.1.isSome)
      && decide (([e] : List Expr).length + ([] : List Keyword).length + (if ([] : List Keyword).isEmpty then 0 else 1) < 30)) = true := by rfl)
    (hline : (apos.endLine == cpos.line) = true := by rfl) (hse : starEach [e] X.env = (false, eval e X.env) :: starEach [] X.env := by rfl) (hplain : (backTo cpos (starEach [] X.env)).any (·.1) = false := by rfl)
    (hs : swapsWith (.Call (.Attribute (.Name x px) "append" apos) [e] [] cpos) none pos.line X.env = pure false := by rfl) :
    PDS X c (.Expr (.Call (.Attribute (.Name x px) "append" apos) [e] [] cpos) pos) (tDrop (tBM X.K "list" rAppend (tVar i) (tCons te tNil))) (dapp i fe) :=
  ⟨ps_expr (pe_bm PySem.F.plainAttrs_list PySem.F.slot_list_append PySem.F.type_list_append mt_append (pv i hN hv hd hcd) (pa_cons he.pe pa_nil hse) hbase hfew hline hse hplain) hs, ev_app h1 he.ev⟩
theorem pds_ext (i : Nat) {x : Str} {px apos cpos : Pos} (he : PDE X c e te fe) (h1 : i ∈ c.cl := by decide) (hN : X.N[i]? = some x := by rfl) (hv : Vis X.env.scope x := by first | exact Or.inl rfl | exact Or.inr (Or.inl rfl) | exact Or.inr (Or.inr rfl))
    (hd : (x == ("__debug__" : Str)) = false := by decide) (hcd : (x == ("__classdict__" : Str)) = false := by decide)
    (hbase : attributeBase (.Name x px) "extend" X.env (eval (.Name x px) X.env) = eval (.Name x px) X.env := by rfl)
    (hfew : ((backTo cpos (starEach [e] X.env)).all (fun x => !x.1) && (backToKw cpos (keywordEach [] X.env)).all (fun x => x.1.isSome)
      && decide (([e] : List Expr).length + ([] : List Keyword).length + (if ([] : List Keyword).isEmpty then 0 else 1) < 30)) = true := by rfl)
    (hline : (apos.endLine == cpos.line) = true := by rfl) (hse : starEach [e] X.env = (false, eval e X.env) :: starEach [] X.env := by rfl) (hplain : (backTo cpos (starEach [] X.env)).any (·.1) = false := by rfl)
    (hs : swapsWith (.Call (.Attribute (.Name x px) "extend" apos) [e] [] cpos) none pos.line X.env = pure false := by rfl) :
    PDS X c (.Expr (.Call (.Attribute (.Name x px) "extend" apos) [e] [] cpos) pos) (tDrop (tBM X.K "list" rExtendL (tVar i) (tCons te tNil))) (dext i fe) :=
  ⟨ps_expr (pe_bm PySem.F.plainAttrs_list PySem.F.slot_list_extend PySem.F.type_list_extend mt_extendL (pv i hN hv hd hcd) (pa_cons he.pe pa_nil hse) hbase hfew hline hse hplain) hs, ev_ext h1 he.ev⟩
theorem pds_putP (i : Nat) {x : Str} {k : Expr} {tk : TE} {fk : DM D} {px pos' : Pos} (he : PDE X c e te fe) (hk : PDE X c k tk fk) (h1 : i ∈ c.ps := by decide) (hN : X.N[i]? = some x := by rfl) (hv : Vis X.env.scope x := by first | exact Or.inl rfl | exact Or.inr (Or.inl rfl) | exact Or.inr (Or.inr rfl))
    (hd : (x == ("__debug__" : Str)) = false := by decide) (hcd : (x == ("__classdict__" : Str)) = false := by decide)
    (ha : ∀ v, assign (.Subscript (.Name x px) k pos') X.env v = (do
      let ov ← holding [v] (eval (.Name x px) X.env)
      let iv ← holding [v, ov] (eval k X.env)
      standAt pos'
      holding [v, ov, iv] (setItem ov iv v)
      release [v, ov, iv] []) := by intro _; rfl) (hs : swapsWithSole [.Subscript (.Name x px) k pos'] e pos.line X.env = pure false := by rfl) (hw : swappedStores [.Subscript (.Name x px) k pos'] e X.env = pure none := by rfl)
    (h2 : (assignEach [.Subscript (.Name x px) k pos'] X.env).map (·.2) = [assign (.Subscript (.Name x px) k pos') X.env] := by rfl) : PDS X c (.Assign [.Subscript (.Name x px) k pos'] e pos) (tAsg te (gSub (tVar i) tk rSetL)) (dput i fe fk) :=
  ⟨ps_asg he.pe (pg_sub (pv i hN hv hd hcd) hk.pe set_list ha) hs hw h2, ev_putP h1 he.ev hk.ev⟩
theorem pds_putC (i : Nat) {x : Str} {k : Expr} {tk : TE} {fk : DM D} {px pos' : Pos} (he : PDE X c e te fe) (hk : PDE X c k tk fk) (h1 : i ∈ c.cl := by decide) (hN : X.N[i]? = some x := by rfl) (hv : Vis X.env.scope x := by first | exact Or.inl rfl | exact Or.inr (Or.inl rfl) | exact Or.inr (Or.inr rfl))
    (hd : (x == ("__debug__" : Str)) = false := by decide) (hcd : (x == ("__classdict__" : Str)) = false := by decide)
    (ha : ∀ v, assign (.Subscript (.Name x px) k pos') X.env v = (do
      let ov ← holding [v] (eval (.Name x px) X.env)
      let iv ← holding [v, ov] (eval k X.env)
      standAt pos'
      holding [v, ov, iv] (setItem ov iv v)
      release [v, ov, iv] []) := by intro _; rfl) (hs : swapsWithSole [.Subscript (.Name x px) k pos'] e pos.line X.env = pure false := by rfl) (hw : swappedStores [.Subscript (.Name x px) k pos'] e X.env = pure none := by rfl)
    (h2 : (assignEach [.Subscript (.Name x px) k pos'] X.env).map (·.2) = [assign (.Subscript (.Name x px) k pos') X.env] := by rfl) : PDS X c (.Assign [.Subscript (.Name x px) k pos'] e pos) (tAsg te (gSub (tVar i) tk rSetL)) (fun st => match cellOf i st with | none => none | some _ => dput i fe fk st) :=
  ⟨ps_asg he.pe (pg_sub (pv i hN hv hd hcd) hk.pe set_list ha) hs hw h2, ev_putC h1 he.ev hk.ev⟩
theorem pds_if {a b : List Stmt} {tt : TT} {ft : DM Bool} (ht : PDTE X c e tt ft) (ha : PDSs X c a t f) (hb : PDSs X c b u g) : PDS X c (.If e a b pos) (tIfS tt t u) (dif ft f g) := ⟨ps_if ht.pt ha.ps hb.ps, ev_if ht.ev ha.ev hb.ev⟩
theorem pds_for {vs : List Nat} {tg iter : Expr} {body : List Stmt} {wi : TI} {fi : DM (List D)} {gt : TG} {gd : DG} (hp : PassesOwn (model X.prog X.w) X.A X.env X.xe) (hc : X.calm = true) (hi : PDI X c.m tg iter wi fi) (hg : PDG X c.m vs tg gt gd) (hb : PDSs X c body t f) (hv : ∀ i ∈ vs, i ∉ c.cl := by decide)
    (hs : ∀ x, foldedSetIterable iter X.env x = pure x := by intro _; rfl) : PDS X c (.For tg iter body [] pos) (tFor wi gt t) (dfor fi gd f) := ⟨ps_for hp hc hi.pi hg.pg hb.ps hs, ev_for hv hi.ev hg.ev hb.ev⟩
theorem pds_while (n : Nat) {body : List Stmt} {tt : TT} {ft : DM Bool} (hp : PassesOwn (model X.prog X.w) X.A X.env X.xe) (ht : PDTE X c e tt ft) (hb : PDSs X c body t f) : PDS X c (.While e body [] pos) (tWhile tt t) (dwhile ft f n) := ⟨ps_while hp ht.pt hb.ps, ev_while n ht.ev hb.ev⟩
theorem pds_ret (he : PD X c.m e te fe) : PDS X c (.Return (some e) pos) (tRet te) (dret fe) := ⟨ps_ret he.pe, ev_retM he.ev⟩
theorem pds_retA (he : PD X c.a e te fe) : PDS X c (.Return (some e) pos) (tRet te) (dret fe) := ⟨ps_ret he.pe, ev_ret he.ev⟩
theorem pds_retN : PDS X c (.Return none pos) tRetN (fun st => some (.rt .none st)) := ⟨ps_retN, ev_retN⟩
end

/-! ### the law -/
def spLaw (K : PySem.W.Frag) : Sp := fun vs H Q _ => ∃ (a : Addr) (ns : List Int), vs = [.ref a] ∧ Rd H a (.lst (ns.map V.int)) ∧ ns.length ≤ 63 ∧ ∀ H', Q (.bl true) H'
def penL (ns : List Int) : D := .list [.list (ns.map PyData.int), .int 0, .int 0]
def startL (n : Nat) (ns : List Int) : DS := some (.list (ns.map PyData.int)) :: some (penL ns) :: List.replicate (n - 2) none
section
variable {P : Program} {w : World} {K : PySem.W.Frag} {mg : Str → Option Value} {base : Heap} {x qual : Str} {params : Arguments} {st0 : Stmt} {body : List Stmt} {scope : Scope} {f : Addr} {fd : FuncData}
theorem law_ok {N : List Str} {s0 : Str} {k : Nat} {cl : List Nat} {g : DT} (F : FunD K x qual params (st0 :: body) scope [] [] f fd) (S : FnScope N [s0] scope) (hl : 2 ≤ N.length) (hc : ∀ i ∈ cl, 2 ≤ i)
    (hbody : ∀ (cdv : Value) (A : Around) (outer : List Env) (s : Shared) (H : Hp) (E : XK), Room k (A.deeper (envOfC qual scope s.heap.objs.size f cdv)) →
      PS (cxOf CX0 P w K mg base N qual scope f cdv A outer s H E).nox st0 (tAsg (tLst (tCons (tVar 0) (tCons (tC (.int 0)) (tCons (tC (.int 0)) tNil)))) (gName 1)) ∧
      ∃ t, PDSs (cxOf CX0 P w K mg base N qual scope f cdv A outer s H E).nox ⟨cl, [1], [], W0⟩ body t g)
    (math : ∀ ns : List Int, ns.length ≤ 63 → ∃ st', g (startL N.length ns) = some (.rt (.bool true) st')) : FnOk P w K mg base CX0 (k + 1) f fd [s0] (spLaw K) := by
  refine F.ok S (fun vs H Q E h => ?_) (fun cdv A outer s H vs Q E hr h => ?_)
  · obtain ⟨a, ns, rfl, _⟩ := h
    rfl
  · obtain ⟨a, ns, rfl, hS, hlen, q⟩ := h
    obtain ⟨h0, t, ht⟩ := hbody cdv A outer s H E hr
    refine ⟨_, PSs.nox (pss_cons h0 ht.ps), ?_⟩
    obtain ⟨st', hm⟩ := math ns hlen
    refine ⟨_, start_some rfl, by show 3 ≤ sizeLine; decide, fun p hp => ?_⟩
    obtain ⟨m, hNm⟩ : ∃ m, N.length = m + 2 := ⟨N.length - 2, by omega⟩
    have hσ : (L2.start N [V.ref a]).set 1 (some (.ref p)) = some (.ref a) :: some (.ref p) :: List.replicate (N.length - 2) none := by
      unfold L2.start
      rw [hNm, List.length_singleton, show m + 2 - 1 = m + 1 by omega, List.replicate_succ]
      rfl
    have rs : Rep K H (.ref a) (.list (ns.map PyData.int)) := .lst hS (repA_ints ns)
    have s1 : SR K ⟨cl, [1], [], W0⟩ (fun _ => p) (fun _ => p) H H H ((L2.start N [V.ref a]).set 1 (some (.ref p))) (upd H p (.lst [.ref a, .int 0, .int 0])) (startL N.length ns) := by
      rw [hσ]
      refine ⟨⟨?_, fun b o h => by rw [upd_ne (ne_of_none h hp)]; exact h, fun i d _ h2 h => ?_, fun i hi => ?_, fun i hi j hj hne => ?_, fun _ _ => rfl, fun _ h => nomatch h⟩, fun i hi d h => ?_, fun i hi j hj hne l ⟨d, h⟩ => ?_, fun i hi h => ?_, ⟨fun _ _ h => h, fun _ _ h => .inl h, fun b o h _ => by rw [upd_ne (ne_of_none h hp)]; exact h, fun b h => ?_⟩, fun i hi => .inr hp, fun i hi => nomatch hi⟩
      · unfold startL
        simp
      · match i with
        | 0 =>
          cases h
          exact ⟨_, rfl, rs⟩
        | 1 => exact absurd (List.mem_singleton.mpr rfl) h2
        | i + 2 =>
          have h' : (List.replicate (N.length - 2) (none : Option D))[i]? = some (some d) := h
          rw [List.getElem?_replicate] at h'
          split at h' <;> cases h'
      · have e0 : i = 1 := List.mem_singleton.mp hi
        subst e0
        refine ⟨penL ns, _, rfl, rfl, hp, upd_same, ?_⟩
        rw [cut_noZ]
        exact .lst (.cons rs (.cons (.int 0) (.cons (.int 0) .nil)))
      · exact absurd ((List.mem_singleton.mp hi).trans (List.mem_singleton.mp hj).symm) hne
      · have := hc i hi
        match i, this with
        | i + 2, _ =>
          have h' : (List.replicate (N.length - 2) (none : Option D))[i]? = some (some d) := h
          rw [List.getElem?_replicate] at h'
          split at h' <;> cases h'
      · have := hc i hi
        match i, this with
        | i + 2, _ =>
          have h' : (List.replicate (N.length - 2) (none : Option D))[i]? = some (some d) := h
          rw [List.getElem?_replicate] at h'
          split at h' <;> cases h'
      · have e0 : i = 1 := List.mem_singleton.mp h
        have := hc i hi
        omega
      · by_cases z : b = p
        · subst z
          exact hp
        · rw [upd_ne z] at h
          exact h
    exact ht.ev _ _ H H H _ _ _ _ s1 hm _ (fun st1 B' σ' H' e _ => nomatch e) (fun st1 B' σ' H' e _ => nomatch e) (fun st1 B' σ' H' e _ => nomatch e) (fun d st1 v B' H' e fi rv => by
      cases e
      rw [rep_bl rv]
      exact q H') fun y fl st1 dx B' H' e _ _ => nomatch e
end
end DR

set_option maxRecDepth 100000
set_option maxHeartbeats 1000000
namespace DR
open PySem PySem.Spec L2
open PyProof.Rows hiding St
open Evl (Ex ex_l ex_t ex_rd)

theorem hu65 {k : Nat} {A : Around} (hr : Room k A) : A.units + 65 < cLine := by
  have := hr.un
  omega
/-! ### chains of two comparisons -/
def dchain (g g' : D → D → Option D) (fa fb fc : DM D) : DM D := fa.bind fun x => fb.bind fun y => (DM.opt ((g x y).bind asB)).bind fun b => if b = true then fc.bind fun w => DM.opt (g' y w) else DM.pure (.bool false)
section
variable {X : Cx} {c : Cf} {K : PySem.W.Frag} {ta tb tc : TE} {fa fb fc : DM D} {r r' : R2} {g g' : D → D → Option D} {op op' : CmpOp} {a b e : Expr} {pos : Pos}
theorem ev_chain (hr : RD2 K r g) (hr' : RD2 K r' g') (ha : EvD K c ta fa) (hb : EvD K c tb fb) (hc : EvD K c tc fc) : EvD K c (tChain r r' ta tb tc) (dchain g g' fa fb fc) :=
  EvP.bind (relA := Rep K) (relC := Rep K) (tk := fun x σ H Q => tb σ H fun y H2 => r x y H2 fun z H3 => ∃ k, z = .bl k ∧ (if k = true then tc σ H3 fun w' H4 => r' y w' H4 Q else Q (.bl false) H3)) mono_true ha fun x dx =>
  EvP.bind (relA := Rep K) (relC := Rep K) (tk := fun y σ H Q => r x y H fun z H3 => ∃ k, z = .bl k ∧ (if k = true then tc σ H3 fun w' H4 => r' y w' H4 Q else Q (.bl false) H3)) (mono_true.and (monoR_rep x dx)) (hb.weak fun _ _ => True.intro) fun y dy => by
    intro A Z B σ H st ro er p hf Q hok hex
    cases eg : (g dx dy).bind asB with
    | none =>
      have hf' : (DM.opt ((g dx dy).bind asB)).bind (fun b => if b = true then fc.bind fun w => DM.opt (g' dy w) else DM.pure (PyData.bool false)) st = some ro := hf
      unfold DM.bind DM.opt at hf'
      rw [eg] at hf'
      cases hf'
    | some k =>
      have hf' : (DM.opt ((g dx dy).bind asB)).bind (fun b => if b = true then fc.bind fun w => DM.opt (g' dy w) else DM.pure (PyData.bool false)) st = some ro := hf
      have eo : (DM.opt ((g dx dy).bind asB)) st = some (.ok k, st) := by
        unfold DM.opt
        rw [eg]
        rfl
      rw [bind_ok eo] at hf'
      obtain ⟨dz, h1, h2⟩ := Option.bind_eq_some_iff.mp eg
      refine hr x y dx dy dz B H er.bh p.1.2 p.2 h1 _ fun v B1 H1 pu rv => ⟨k, asB_ok rv h2, ?_⟩
      cases k with
      | true =>
        rw [if_pos rfl]
        rw [if_pos rfl] at hf'
        exact EvP.bind (relA := Rep K) (relC := Rep K) (P := fun B => Rep K B y dy) (tk := fun w' _ H Q => r' y w' H Q) (monoR_rep y dy) (hc.weak fun _ _ => True.intro)
          (fun w dw => EvP.val (t := fun H Q => r' y w H Q) fun B H dz e p h Q q => hr' y w dy dw dz B H e p.1 p.2 h Q q) A Z B1 σ H1 st ro (er.pu pu) (p.2.mono pu.ext) hf' Q
          (fun b2 st2 e2 v2 B2 H2 er2 ad2 rv2 => hok b2 st2 e2 v2 B2 H2 er2 (pu.adv.trans ad2) rv2) fun x fl st2 e2 dx B2 H2 er2 ad2 fl2 => hex x fl st2 e2 dx B2 H2 er2 (pu.adv.trans ad2) fl2
      | false =>
        rw [if_neg Bool.false_ne_true]
        rw [if_neg Bool.false_ne_true] at hf'
        cases hf'
        exact hok _ st rfl _ B1 H1 (er.pu pu) pu.adv (.bl false)
theorem pd_chain (ho : OpR X (compareOp op) r) (ho' : OpR X (compareOp op') r') (hr : RD2 X.K r g) (hr' : RD2 X.K r' g') (ha : PD X c a ta fa) (hb : PD X c b tb fb) (hc : PD X c e tc fc)
    (hm : lastMarks [op, op'] [b, e] = false := by with_unfolding_all rfl) : PD X c (.Compare a [op, op'] [b, e] pos) (tChain r r' ta tb tc) (dchain g g' fa fb fc) := ⟨pe_chain ho ho' ha.pe hb.pe hc.pe hm, ev_chain hr hr' ha.ev hb.ev hc.ev⟩
theorem pdt_chain (ho : OpR X (compareOp op) r) (ho' : OpR X (compareOp op') r') (hr : RD2 X.K r g) (hr' : RD2 X.K r' g') (ha : PD X c a ta fa) (hb : PD X c b tb fb) (hc : PD X c e tc fc)
    (hm : lastMarks [op, op'] [b, e] = false := by with_unfolding_all rfl) : PDT X c (.Compare a [op, op'] [b, e] pos) (tTest (tChain r r' ta tb tc)) (dtest (dchain g g' fa fb fc)) := ⟨pt_chain ho ho' ha.pe hb.pe hc.pe hm, ev_test (ev_chain hr hr' ha.ev hb.ev hc.ev)⟩
/-! ### xs[::-1] -/
def revD : D → Option D
  | .list ds => some (.list ds.reverse)
  | _ => none
theorem pd_revL {k : Nat} {p1 p2 p3 : Pos} (ha : PD X c a ta fa) : PD X c (.Subscript a (.Slice none none (some (.UnaryOp .USub (.Constant (.int 1) k p1) p2)) p3) pos) (tRevL X.K ta) (dun revD fa) :=
  ⟨pe_revL ha.pe, EvP.bind (relA := Rep X.K) (tk := fun x _ H1 Q => ∃ a xs, x = V.ref a ∧ SqL X.K H1 a xs ∧ ∀ p, H1 p = none → Q (V.ref p) (upd H1 p (HO.lst xs.reverse))) mono_true ha.ev fun x dx =>
    EvP.val (t := fun H1 Q => ∃ a xs, x = V.ref a ∧ SqL X.K H1 a xs ∧ ∀ p, H1 p = none → Q (V.ref p) (upd H1 p (HO.lst xs.reverse))) fun B H dz e p h Q q => by
      cases dx <;> first | (cases h; done) | skip
      cases h
      obtain ⟨l, vs, rfl, hl, ra⟩ := rep_lst p.2
      refine ⟨l, vs, rfl, .inl (ex_rd e hl), fun p hp => ?_⟩
      have pu := Pu.mk1 (o := .lst vs.reverse) e hp
      exact q _ _ _ pu (.lst (.inl upd_same) (ra.reverse.mono pu.ext))⟩
end

/-! ### a def by its name -/
def CallOk (P : Program) (w : World) (K : PySem.W.Frag) (mg : Str → Option Value) (base : Heap) (x : Str) (k : Nat) (ps : List Str) (sp : Sp) : Prop :=
  ∃ (f : Addr) (fd : FuncData), FnOk P w K mg base CX0 k f fd ps sp ∧ mg x = some (.ref f) ∧ PySem.W.keepIn K (.ref f) = true ∧ Binds K fd ps []
section
variable {X : Cx} {c : Cf} {t : TA} {fs : DM (List D)} {x y : Str} {k j n : Nat} {ps : List Str} {e : Expr} {es : List Expr} {p pos pp : Pos}
theorem pd_fn {m : List D → Option D} (C : CallOk X.prog X.w X.K X.mg X.base x j ps (spD X.K n m)) (hn : ∀ ds d, m ds = some d → ds.length = n) (hr : Room k X.A) (ha : PDA X c (e :: es) t fs) (hjk : j ≤ k := by decide) (hg : Gl X x := by rfl)
    (hdb : (x == ("__debug__" : Str)) = false := by decide) (he : starEach (e :: es) X.env = (false, eval e X.env) :: starEach es X.env := by rfl) (hpl : (backTo pos (starEach es X.env)).any (·.1) = false := by rfl) :
    PD X c (.Call (.Name x p) (e :: es) [] pos) (tCall (spD X.K n m) [] E0 t) (dcall m fs) := by
  obtain ⟨f, fd, F, hm, hk, hb⟩ := C
  exact pd_call F hn (hr.mono hjk) hg hm hk hb pass0 ha hdb he hpl
theorem pd_fnP (i : Nat) {m : D → List D → Option (D × D)} (C : CallOk X.prog X.w X.K X.mg X.base x j ps (spP X.K n m)) (hn : ∀ pd ds d, m pd ds = some d → ds.length = n) (hr : Room k X.A) (ha : PDA X c es t fs) (hjk : j ≤ k := by decide) (hg : Gl X x := by rfl) (hi : i ∈ c.ps := by decide) (hN : X.N[i]? = some y := by rfl) (hv : Vis X.env.scope y := by first | exact Or.inl rfl | exact Or.inr (Or.inl rfl) | exact Or.inr (Or.inr rfl)) (hd : (y == ("__debug__" : Str)) = false := by decide) (hcd : (y == ("__classdict__" : Str)) = false := by decide)
    (hdb : (x == ("__debug__" : Str)) = false := by decide) (he : starEach (.Name y pp :: es) X.env = (false, eval (.Name y pp) X.env) :: starEach es X.env := by rfl) (hpl : (backTo pos (starEach es X.env)).any (·.1) = false := by rfl) :
    PD X c (.Call (.Name x p) (.Name y pp :: es) [] pos) (tCall (spP X.K n m) [] E0 (tCons (tVar i) t)) (dcallP c.mx i m fs) := by
  obtain ⟨f, fd, F, hm, hk, hb⟩ := C
  exact pd_callP i F hn (hr.mono hjk) hg hm hk hb pass0 ha hi hN hv hd hcd hdb he hpl
end
/-- no list stands in the written part -/
def noLists (K : PySem.W.Frag) : Bool := K.all fun q => !(q.2.cls == .type "list")
theorem noLists_rd {K : PySem.W.Frag} (h : noLists K = true) {H : Hp} {a : Addr} {xs : List V} (s : SqL K H a xs) : Rd H a (.lst xs) := by
  rcases s with s | ⟨o, its, n, hk, hc, _⟩
  · exact s
  · have hm := He.lookup_mem hk
    have h1 := List.all_eq_true.mp h _ hm
    rw [hc] at h1
    exact absurd h1 (by decide)
end DR

set_option maxRecDepth 100000
set_option maxHeartbeats 1000000
namespace DR
open PySem PySem.Spec L2
open PyProof.Rows hiding St
open Evl (Ex ex_l ex_t ex_rd)

/-! ### new objects by an operator -/
def RD2N (K : PySem.W.Frag) (r : R2) (g : D → D → Option D) : Prop := ∀ (x y : V) (dx dy dz : D) (B H : Hp), Ex B H → Rep K B x dx → Rep K B y dy → g dx dy = some dz →
  ∀ Q : VK, (∀ p o, H p = none → RepO K B o dz → Q (.ref p) (upd H p o)) → r x y H Q
def addL : D → D → Option D
  | .list xs, .list ys => if xs.length + ys.length ≤ sizeLine then some (.list (xs ++ ys)) else none
  | _, _ => none
section
variable {X : Cx} {c : Cf} {K : PySem.W.Frag} {ta tb : TE} {fa fb : DM D} {a b : Expr} {pos : Pos}
theorem rd2n_add : RD2N K (rAddA K) addL := by
  intro x y dx dy dz B H e rx ry hg Q q
  cases dx <;> cases dy <;> first | (cases hg; done) | skip
  rename_i xs ys
  simp only [addL] at hg
  obtain ⟨hl, rfl⟩ := opt_if hg
  obtain ⟨a, vs, rfl, ha, ra⟩ := rep_lst rx
  obtain ⟨b, ws, rfl, hb, rb⟩ := rep_lst ry
  exact .inr (.inr (.inl ⟨a, b, vs, ws, rfl, rfl, ex_rd e ha, ex_rd e hb, by rw [ra.length, rb.length]; exact hl, fun p hp => q p _ hp (.lst (ra.append rb))⟩))
theorem ev_opN {r : R2} {g : D → D → Option D} (hr : RD2N K r g) (ha : EvD K c ta fa) (hb : EvD K c tb fb) : EvN K c (tOp r ta tb) (dop g fa fb) := by
  intro A Z B σ H st ro er hf Q hok hex
  have hf' : (fa.bind fun x => fb.bind fun y => DM.opt (g x y)) st = some ro := hf
  cases ea : fa st with
  | none =>
    unfold DM.bind at hf'
    rw [ea] at hf'
    cases hf'
  | some ra =>
    obtain ⟨ra, st1⟩ := ra
    refine ha A Z B σ H st _ er True.intro ea _ (fun dx st1' e1 x B1 H1 er1 ad1 rx => ?_) (fun y fl st1' e1 dx B1 H1 er1 ad1 fl1 => ?_)
    · cases e1
      rw [bind_ok ea] at hf'
      cases eb : fb st1 with
      | none =>
        unfold DM.bind at hf'
        rw [eb] at hf'
        cases hf'
      | some rb =>
        obtain ⟨rb, st2⟩ := rb
        refine hb A Z B1 σ H1 st1 _ er1 True.intro eb _ (fun dy st2' e2 y B2 H2 er2 ad2 ry => ?_) (fun y fl st2' e2 dx B2 H2 er2 ad2 fl2 => ?_)
        · cases e2
          rw [bind_ok eb] at hf'
          obtain ⟨dz, h1, rfl⟩ := Option.map_eq_some_iff.mp hf'
          refine hr x y dx dy dz B2 H2 er2.bh (rx.mono ad2.ext) ry h1 Q fun p o hp ho => ?_
          have pu := Pu.mk0 (o := o) er2.bh hp
          exact hok _ st2 rfl p o B2 _ (er2.pu pu) ((ad1.trans ad2).trans pu.adv) (none_of er2.bh hp) ((ad1.trans ad2).there p hp) upd_same ho
        · cases e2
          rw [bind_ex eb] at hf'
          exact hex y fl st2 (Option.some.inj hf').symm dx B2 H2 er2 (ad1.trans ad2) fl2
    · cases e1
      rw [bind_ex ea] at hf'
      exact hex y fl st1 (Option.some.inj hf').symm dx B1 H1 er1 ad1 fl1
theorem pdn_add (ha : PD X c a ta fa) (hb : PD X c b tb fb) : PDN X c (.BinOp a .Add b pos) (tOp (rAddA X.K) ta tb) (dop addL fa fb) := ⟨pe_op op_addA ha.pe hb.pe, ev_opN rd2n_add ha.ev hb.ev⟩
end

/-! ### dicts -/
def keyD : D → Option Key
  | .int i => some (.inl i)
  | .str x => some (.inr x)
  | _ => none
def putD : List (D × D) → D → D → List (D × D)
  | [], k, v => [(k, v)]
  | (j, w) :: r, k, v => if PyData.eqv j k = true then (j, v) :: r else (j, w) :: putD r k v
def mergeD (kvs more : List (D × D)) : List (D × D) := more.foldl (fun acc kv => putD acc kv.1 kv.2) kvs
theorem eqv_key (i j : Key) : PyData.eqv (kD i) (kD j) = decide (i = j) := by
  cases i <;> cases j <;> simp [kD, PyData.eqv]
  · rename_i a b; exact Bool.eq_iff_iff.mpr (by simp)
  · rename_i a b; exact Bool.eq_iff_iff.mpr (by simp)
section
variable {K : PySem.W.Frag} {H : Hp}
theorem putK_nil (k : Key) (v : V) : putK ([] : List (Key × V)) k v = [(k, v)] := rfl
theorem map_ne {k : Key} {v : V} : ∀ {r : List (Key × V)}, k ∉ r.map (·.1) → r.map (fun kv => if kv.1 = k then (kv.1, v) else kv) = r
  | [], _ => rfl
  | (j, w) :: r, h => by
    rw [List.map_cons, List.mem_cons, not_or] at h
    rw [List.map_cons, if_neg fun e => h.1 e.symm, map_ne h.2]
theorem any_ne {k : Key} : ∀ {r : List (Key × V)}, k ∉ r.map (·.1) → (r.any fun kv => decide (kv.1 = k)) = false
  | [], _ => rfl
  | (j, w) :: r, h => by
    rw [List.map_cons, List.mem_cons, not_or] at h
    rw [List.any_cons, any_ne h.2, decide_eq_false fun e => h.1 e.symm]
    rfl
theorem putK_cons (j : Key) (w : V) (r : List (Key × V)) (k : Key) (v : V) (hn : ((j, w) :: r).map (·.1) |>.Nodup) : putK ((j, w) :: r) k v = if j = k then (j, v) :: r else (j, w) :: putK r k v := by
  have hn' := List.nodup_cons.mp (show (j :: r.map (·.1)).Nodup from hn)
  unfold putK
  by_cases e : j = k
  · subst e
    rw [if_pos rfl, List.any_cons, decide_eq_true rfl, Bool.true_or, if_pos rfl, List.map_cons, if_pos rfl, map_ne hn'.1]
  · rw [if_neg e, List.any_cons, decide_eq_false e, Bool.false_or]
    split
    · rw [List.map_cons, if_neg e]
    · rfl
theorem keys_putK (k : Key) (v : V) : ∀ (kvs : List (Key × V)), (kvs.map (·.1)).Nodup → ∀ j, j ∈ (putK kvs k v).map (·.1) ↔ j = k ∨ j ∈ kvs.map (·.1)
  | [], _, j => by simp [putK_nil]
  | (i, w) :: r, hn, j => by
    rw [putK_cons _ _ _ _ _ hn]
    have hn' := List.nodup_cons.mp (show (i :: r.map (·.1)).Nodup from hn)
    by_cases e : i = k
    · subst e
      rw [if_pos rfl]
      simp
    · rw [if_neg e, List.map_cons, List.mem_cons, keys_putK k v r hn'.2 j]
      simp only [List.map_cons, List.mem_cons]
      constructor
      · rintro (h | h | h) <;> simp [h]
      · rintro (h | h | h) <;> simp [h]
theorem nd_put (k : Key) (v : V) : ∀ (kvs : List (Key × V)), (kvs.map (·.1)).Nodup → ((putK kvs k v).map (·.1)).Nodup
  | [], _ => by simp [putK_nil]
  | (i, w) :: r, hn => by
    rw [putK_cons _ _ _ _ _ hn]
    have hn' := List.nodup_cons.mp (show (i :: r.map (·.1)).Nodup from hn)
    by_cases e : i = k
    · subst e
      rw [if_pos rfl]
      exact hn
    · rw [if_neg e, List.map_cons]
      refine List.nodup_cons.mpr ⟨fun h => ?_, nd_put k v r hn'.2⟩
      rcases (keys_putK k v r hn'.2 i).mp h with h | h
      · exact e h
      · exact hn'.1 h
theorem RepK.put {k : Key} {v : V} {d : D} (rv : Rep K H v d) : ∀ {kvs : List (Key × V)} {ds : List (D × D)}, (kvs.map (·.1)).Nodup → RepK K H kvs ds → RepK K H (putK kvs k v) (putD ds (kD k) d)
  | _, _, _, .nil => .cons rv .nil
  | (j, w) :: r, _, hn, .cons (ds := ds) r1 t => by
    rw [putK_cons _ _ _ _ _ hn]
    have hn' := List.nodup_cons.mp (show (j :: r.map (·.1)).Nodup from hn)
    unfold putD
    rw [eqv_key]
    by_cases e : j = k
    · rw [if_pos e, if_pos (decide_eq_true e)]
      exact .cons rv t
    · rw [if_neg e, if_neg (fun z => e (of_decide_eq_true z))]
      exact .cons r1 (RepK.put rv hn'.2 t)
theorem RepK.merge : ∀ {more : List (Key × V)} {ms : List (D × D)} {kvs : List (Key × V)} {ds : List (D × D)}, RepK K H more ms → (kvs.map (·.1)).Nodup → RepK K H kvs ds → RepK K H (mergeK kvs more) (mergeD ds ms) ∧ ((mergeK kvs more).map (·.1)).Nodup
  | _, _, _, _, .nil, hn, r => ⟨r, hn⟩
  | _, _, kvs, ds, .cons (k := k) (v := v) (d := d) (vs := vs) (ds := es) rv t, hn, r => RepK.merge (more := vs) (ms := es) (kvs := putK kvs k v) (ds := putD ds (kD k) d) t (nd_put k v kvs hn) (RepK.put rv hn r)
theorem rep_key {v : V} {d : D} {k : Key} (r : Rep K H v d) (h : keyD d = some k) : v = kV k ∧ d = kD k := by
  cases r <;> first | (cases h; done) | skip
  · cases h
    exact ⟨rfl, rfl⟩
  · cases h
    exact ⟨rfl, rfl⟩
end
/-- the pairs of a display -/
def dpnil : DM (List (D × D)) := DM.pure []
def dpcons (fk fv : DM D) (fr : DM (List (D × D))) : DM (List (D × D)) := fk.bind fun k => fv.bind fun v => fr.bind fun r => DM.pure ((k, v) :: r)
def dispD (ps : List (D × D)) : Option D := if ps.all (fun p => (keyD p.1).isSome) = true ∧ ps.length ≤ 15 then some (.dict (mergeD [] ps)) else none
def ddisp (fs : DM (List (D × D))) : DM D := fs.bind fun ps => DM.opt (dispD ps)
inductive RepP (K : PySem.W.Frag) (H : Hp) : List (V × V) → List (D × D) → Prop
  | nil : RepP K H [] []
  | cons {k v : V} {vs : List (V × V)} {d e : D} {ds : List (D × D)} : Rep K H k d → Rep K H v e → RepP K H vs ds → RepP K H ((k, v) :: vs) ((d, e) :: ds)
theorem RepP.mono {K : PySem.W.Frag} {H H' : Hp} (e : Ex H H') : ∀ {vs : List (V × V)} {ds : List (D × D)}, RepP K H vs ds → RepP K H' vs ds
  | _, _, .nil => .nil
  | _, _, .cons h j t => .cons (h.mono e) (j.mono e) (RepP.mono e t)
theorem RepP.keys {K : PySem.W.Frag} {H : Hp} : ∀ {vs : List (V × V)} {ds : List (D × D)}, RepP K H vs ds → ds.all (fun p => (keyD p.1).isSome) = true → ∃ kvs : List (Key × V), vs = kvs.map (fun kv => (kV kv.1, kv.2)) ∧ kvs.length = ds.length ∧ RepK K H kvs ds
  | _, _, .nil, _ => ⟨[], rfl, rfl, .nil⟩
  | _, _, .cons (d := d) (v := v) h j t, hk => by
    rw [List.all_cons, Bool.and_eq_true] at hk
    obtain ⟨kvs, h1, h2, h3⟩ := RepP.keys t hk.2
    obtain ⟨k, ek⟩ := Option.isSome_iff_exists.mp hk.1
    obtain ⟨e1, e2⟩ := rep_key h ek
    refine ⟨(k, v) :: kvs, ?_, ?_, ?_⟩
    · rw [List.map_cons, h1, e1]
    · rw [List.length_cons, List.length_cons, h2]
    · rw [show d = kD k from e2]
      exact .cons j h3
structure PDP (X : Cx) (c : Cf) (pos : Pos) (keys : List (Option Expr)) (values : List Expr) (trs : List (TE × TE)) (f : DM (List (D × D))) : Prop where
  pp : PPs X pos keys values trs
  ev : EvP X.K c (fun _ => True) (RepP X.K) (fun σ H Q => tPairs trs σ H Q) f
section
variable {X : Cx} {c : Cf} {K : PySem.W.Frag} {pos : Pos} {k v : Expr} {ks : List (Option Expr)} {vs : List Expr} {tk tv : TE} {trs : List (TE × TE)} {fk fv : DM D} {fr : DM (List (D × D))}
theorem monoR_repP : MonoR (RepP K) := fun v d B B' e h => h.mono e
theorem pdp_nil : PDP X c pos [] [] [] dpnil := ⟨pps_nil, EvP.pure fun _ _ => .nil⟩
theorem pdp_cons (hk : PD X c k tk fk) (hv : PD X c v tv fv) (hr : PDP X c pos ks vs trs fr) : PDP X c pos (some k :: ks) (v :: vs) ((tk, tv) :: trs) (dpcons fk fv fr) :=
  ⟨pps_cons hk.pe hv.pe hr.pp, EvP.bind (relA := Rep X.K) (relC := RepP X.K) (tk := fun x σ H Q => tv σ H fun y H2 => tPairs trs σ H2 fun ps H3 => Q ((x, y) :: ps) H3) mono_true hk.ev fun x dx =>
    EvP.bind (relA := Rep X.K) (relC := RepP X.K) (tk := fun y σ H Q => tPairs trs σ H fun ps H3 => Q ((x, y) :: ps) H3) (mono_true.and (monoR_rep x dx)) (hv.ev.weak fun _ _ => True.intro) fun y dy =>
    EvP.bind (relA := RepP X.K) (relC := RepP X.K) (tk := fun ps _ H Q => Q ((x, y) :: ps) H) ((mono_true.and (monoR_rep x dx)).and (monoR_rep y dy)) (hr.ev.weak fun _ _ => True.intro) fun ps ds =>
    EvP.pure fun B p => .cons p.1.1.2 p.1.2 p.2⟩
theorem ev_disp (h : EvP K c (fun _ => True) (RepP K) (fun σ H Q => tPairs trs σ H Q) fr) : EvN K c (tDisp trs) (ddisp fr) := by
  intro A Z B σ H st ro er hf Q hok hex p hp
  have hf' : (fr.bind fun ps => DM.opt (dispD ps)) st = some ro := hf
  have pu := Pu.mk0 (o := .dK []) er.bh hp
  cases ef : fr st with
  | none =>
    unfold DM.bind at hf'
    rw [ef] at hf'
    cases hf'
  | some rf =>
    obtain ⟨rf, st1⟩ := rf
    refine h A Z B σ _ st _ (er.pu pu) True.intro ef _ (fun ds st1' e1 vs B1 H1 er1 ad1 ra => ?_) (fun y fl st1' e1 dx B1 H1 er1 ad1 fl1 => ?_)
    · cases e1
      rw [bind_ok ef] at hf'
      obtain ⟨d, h1, rfl⟩ := Option.map_eq_some_iff.mp hf'
      obtain ⟨hl, rfl⟩ := opt_if h1
      have hpen := er.pen_there hp
      have hb0 := none_of er.bh hp
      have hk : H1 p = some (.dK []) := ad1.keep p _ upd_same hpen
      obtain ⟨kvs, e1, e2, e3⟩ := ra.keys hl.1
      refine ⟨hk, kvs, e1, by omega, ?_⟩
      have hb1 : B1 p = none := by
        cases q : B1 p with
        | none => rfl
        | some u =>
          rcases ad1.new p u q with z | z
          · rw [hb0] at z
            cases z
          · rw [upd_same] at z
            cases z
      obtain ⟨m1, m2⟩ := RepK.merge e3 (kvs := []) (ds := []) List.nodup_nil .nil
      have ad := pu.adv.trans ad1
      exact hok _ st1 rfl p (.dK (mergeK [] kvs)) B1 _ (er1.upd_new hb1 hpen) (ad.upd_new hp hb1) hb1 hp upd_same (.dct m2 m1)
    · cases e1
      rw [bind_ex ef] at hf'
      exact hex y fl st1 (Option.some.inj hf').symm dx B1 H1 er1 (pu.adv.trans ad1) fl1
theorem pdn_disp (h : PDP X c pos ks vs trs fr) (hall : ks.all (·.isSome) = true := by rfl) (hl : ks.length = vs.length := by rfl) (h0 : ks ≠ [] := by exact List.cons_ne_nil _ _) (h15 : ks.length ≤ 15 := by decide) : PDN X c (.Dict ks vs pos) (tDisp trs) (ddisp fr) :=
  ⟨pe_disp h.pp hall hl h0 h15, ev_disp h.ev⟩
theorem pdn_dnew : PDN X c (.Dict [] [] pos) tDNewK (DM.pure (.dict [])) :=
  ⟨pe_dnewK, fun A Z B σ H st ro er hf Q hok hex p hp => by
    cases hf
    have pu := Pu.mk0 (o := .dK []) er.bh hp
    exact hok _ st rfl p _ B _ (er.pu pu) pu.adv (none_of er.bh hp) hp upd_same (.dct List.nodup_nil .nil)⟩
end
/-! ### comprehensions whose readings may speak of the place -/
abbrev Bl (α : Type) := Shared → Hp → Addr → List (Str × Addr) → List Addr → α
abbrev Bl.at {α : Type} (X : Cx) (g : Bl α) : α := g X.s_0 X.H_0 0 [] []
section
variable {X : Cx} {c : Cs} {te : TE} {fe : DM D}
theorem pdn_lcV {X : Cx} {c : Cf} {elt tg iter : Expr} {ifs : List Expr} {scope : Scope} (own : List (Str × Nat)) {pos : Pos} {wi : TI} {fi : DM (List D)} {g0 : Bl TG} {gd : DG} {tt0 : Bl TT} {ft : DM Bool} {te0 : Bl TE} {fe : DM D} (hc : X.calm = true) (hN : X.N.Nodup) (hi : PDI X c tg iter wi fi) (ok : BlkOk X.N X.env.scope scope own)
    (hv : ∀ i ∈ own.map (·.2), i ∉ c.ps)
    (hg : ∀ (s : Shared) (H : Hp) (C : Addr) (cl : List (Str × Addr)) (fp : List Addr), PDG (X.blk s H scope (compEnvC scope cl C X.env) fp) c (own.map (·.2)) tg (g0 s H C cl fp) gd) (ht : ∀ (s : Shared) (H : Hp) (C : Addr) (cl : List (Str × Addr)) (fp : List Addr), PDTs (X.blk s H scope (compEnvC scope cl C X.env) fp) c ifs (tt0 s H C cl fp) ft)
    (he : ∀ (s : Shared) (H : Hp) (C : Addr) (cl : List (Str × Addr)) (fp : List Addr), PD (X.blk s H scope (compEnvC scope cl C X.env) fp) c elt (te0 s H C cl fp) fe) (eg : ∀ s H C cl fp, g0 s H C cl fp = Bl.at X g0 := by intros; rfl) (et : ∀ s H C cl fp, tt0 s H C cl fp = Bl.at X tt0 := by intros; rfl) (ee : ∀ s H C cl fp, te0 s H C cl fp = Bl.at X te0 := by intros; rfl) (hs : ∀ x, foldedSetIterable iter X.env x = pure x := by intro _; rfl) :
    PDN X c (.ListComp elt [⟨tg, iter, ifs, 0⟩] scope pos) (tLc wi (Bl.at X g0) (Bl.at X tt0) (Bl.at X te0) (own.map (·.2))) (dcomp (own.map (·.2)) fi gd ft fe) := pdn_lc own hc hN hi ok hv (fun s H C cl fp => eg s H C cl fp ▸ hg s H C cl fp) (fun s H C cl fp => et s H C cl fp ▸ ht s H C cl fp) (fun s H C cl fp => ee s H C cl fp ▸ he s H C cl fp) hs
theorem pds_setLcV {i : Nat} {y : Str} {py : Pos} {elt tg iter : Expr} {ifs : List Expr} {scope : Scope} {own : List (Str × Nat)} {pos0 spos : Pos} {wi : TI} {fi : DM (List D)} {g0 : Bl TG} {te0 : Bl TE} {gd : DG} {tt0 : Bl TT} {ft : DM Bool} (hN : X.N.Nodup) (hc : X.calm = true) (hy : X.N[i]? = some y) (hyl : X.env.scope.names.lookup y = some .local)
    (hsw : swapsWith (.ListComp elt [⟨tg, iter, ifs, 0⟩] scope pos0) (some (.Name y py)) spos.line X.env = pure true) (hi : PDI X c.m tg iter wi fi) (ok : BlkOk X.N X.env.scope scope own) (hv : ∀ i ∈ own.map (·.2), i ∉ c.ps)
    (hg : ∀ (s : Shared) (H : Hp) (C : Addr) (cl : List (Str × Addr)) (fp : List Addr), PDG (X.blk s H scope (compEnvC scope cl C X.env) fp) c.m (own.map (·.2)) tg (g0 s H C cl fp) gd) (ht : ∀ (s : Shared) (H : Hp) (C : Addr) (cl : List (Str × Addr)) (fp : List Addr), PDTs (X.blk s H scope (compEnvC scope cl C X.env) fp) c.m ifs (tt0 s H C cl fp) ft)
    (he : ∀ (s : Shared) (H : Hp) (C : Addr) (cl : List (Str × Addr)) (fp : List Addr), PD (X.blk s H scope (compEnvC scope cl C X.env) fp) c.m elt (te0 s H C cl fp) fe) (h1 : i ∉ c.cl) (h2 : i ∉ c.ps) (eg : ∀ s H C cl fp, g0 s H C cl fp = Bl.at X g0 := by intros; rfl) (et : ∀ s H C cl fp, tt0 s H C cl fp = Bl.at X tt0 := by intros; rfl) (ee : ∀ s H C cl fp, te0 s H C cl fp = Bl.at X te0 := by intros; rfl) (hs : ∀ x, foldedSetIterable iter X.env x = pure x := by intro _; rfl) :
    PDS X c (.Assign [.Name y py] (.ListComp elt [⟨tg, iter, ifs, 0⟩] scope pos0) spos) (tAsg (tLc wi (Bl.at X g0) (Bl.at X tt0) (Bl.at X te0) (own.map (·.2))) (gName i)) (dset i (dcomp (own.map (·.2)) fi gd ft fe)) := pds_setLc hN hc hy hyl hsw hi ok hv (fun s H C cl fp => eg s H C cl fp ▸ hg s H C cl fp) (fun s H C cl fp => et s H C cl fp ▸ ht s H C cl fp) (fun s H C cl fp => ee s H C cl fp ▸ he s H C cl fp) h1 h2 hs
theorem pds_setLcCV {i : Nat} {y : Str} {py : Pos} {elt tg iter : Expr} {ifs : List Expr} {scope : Scope} {own : List (Str × Nat)} {pos0 spos : Pos} {wi : TI} {fi : DM (List D)} {g0 : Bl TG} {te0 : Bl TE} {gd : DG} {tt0 : Bl TT} {ft : DM Bool} (hN : X.N.Nodup) (hc : X.calm = true) (hy : X.N[i]? = some y) (hyl : X.env.scope.names.lookup y = some .local)
    (hsw : swapsWith (.ListComp elt [⟨tg, iter, ifs, 0⟩] scope pos0) (some (.Name y py)) spos.line X.env = pure true) (hi : PDI X c.m tg iter wi fi) (ok : BlkOk X.N X.env.scope scope own) (hv : ∀ i ∈ own.map (·.2), i ∉ c.ps)
    (hg : ∀ (s : Shared) (H : Hp) (C : Addr) (cl : List (Str × Addr)) (fp : List Addr), PDG (X.blk s H scope (compEnvC scope cl C X.env) fp) c.m (own.map (·.2)) tg (g0 s H C cl fp) gd) (ht : ∀ (s : Shared) (H : Hp) (C : Addr) (cl : List (Str × Addr)) (fp : List Addr), PDTs (X.blk s H scope (compEnvC scope cl C X.env) fp) c.m ifs (tt0 s H C cl fp) ft)
    (he : ∀ (s : Shared) (H : Hp) (C : Addr) (cl : List (Str × Addr)) (fp : List Addr), PD (X.blk s H scope (compEnvC scope cl C X.env) fp) c.m elt (te0 s H C cl fp) fe) (h1 : i ∈ c.cl) (eg : ∀ s H C cl fp, g0 s H C cl fp = Bl.at X g0 := by intros; rfl) (et : ∀ s H C cl fp, tt0 s H C cl fp = Bl.at X tt0 := by intros; rfl) (ee : ∀ s H C cl fp, te0 s H C cl fp = Bl.at X te0 := by intros; rfl) (hs : ∀ x, foldedSetIterable iter X.env x = pure x := by intro _; rfl) :
    PDS X c (.Assign [.Name y py] (.ListComp elt [⟨tg, iter, ifs, 0⟩] scope pos0) spos) (tAsg (tLc wi (Bl.at X g0) (Bl.at X tt0) (Bl.at X te0) (own.map (·.2))) (gName i)) (dset i (dcomp (own.map (·.2)) fi gd ft fe)) := pds_setLcC hN hc hy hyl hsw hi ok hv (fun s H C cl fp => eg s H C cl fp ▸ hg s H C cl fp) (fun s H C cl fp => et s H C cl fp ▸ ht s H C cl fp) (fun s H C cl fp => ee s H C cl fp ▸ he s H C cl fp) h1 hs
end
end DR

set_option maxRecDepth 100000
set_option maxHeartbeats 1000000
namespace DR
open PySem PySem.Spec L2
open PyProof.Rows hiding St

/-! ### what a data function comes to -/
def Wp {β : Type} (f : DM β) (st : DS) (Q : β → DS → Prop) : Prop := ∃ b st', f st = some (.ok b, st') ∧ Q b st'
def Out.calm : Out → Prop
  | .ex _ _ _ => False
  | _ => True
/-- a statement that raises nothing -/
def Sp2 (g : DT) (st : DS) (Q : Out → Prop) : Prop := ∃ o, g st = some o ∧ o.calm ∧ Q o
def MD (m : List D → Option D) (ds : List D) (Q : D → Prop) : Prop := ∃ d, m ds = some d ∧ Q d
def MP (m : D → List D → Option (D × D)) (p : D) (ds : List D) (Q : D → D → Prop) : Prop := ∃ d p', m p ds = some (d, p') ∧ Q d p'
theorem Wp.mono {β : Type} {f : DM β} {st : DS} {Q R : β → DS → Prop} (h : Wp f st Q) (k : ∀ b s, Q b s → R b s) : Wp f st R := by
  obtain ⟨b, s, e, q⟩ := h
  exact ⟨b, s, e, k b s q⟩
theorem Sp2.mono {f : DT} {st : DS} {Q R : Out → Prop} (h : Sp2 f st Q) (k : ∀ o, Q o → R o) : Sp2 f st R := by
  obtain ⟨o, e, c, q⟩ := h
  exact ⟨o, e, c, k o q⟩
/-! ### answers that must be there; evaluated from outside in (simp lemmas for use with the arrow) -/
def onS {α : Type} (o : Option α) (k : α → Prop) : Prop := ∃ a, o = some a ∧ k a
def lk (st : DS) (i : Nat) : Option D := penOf i st
def onB (d : D) (k : Bool → Prop) : Prop := ∃ b, d = .bool b ∧ k b
def onI (d : D) (k : Int → Prop) : Prop := ∃ b, d = .int b ∧ k b
def onStr (d : D) (k : Str → Prop) : Prop := ∃ b, d = .str b ∧ k b
def onL (d : D) (k : List D → Prop) : Prop := ∃ b, d = .list b ∧ k b
def onPut (s : List D) (i : Nat) (d : D) (k : List D → Prop) : Prop := k (s.set i d)
def onSet (s : DS) (i : Nat) (d : D) (k : DS → Prop) : Prop := k (s.set i (some d))
section
variable {α : Type} {k : α → Prop}
theorem onS_some {a : α} : onS (some a) k ↔ k a := ⟨fun ⟨_, e, q⟩ => by cases e; exact q, fun q => ⟨_, rfl, q⟩⟩
theorem onS_if {c : Prop} [Decidable c] {a : α} : onS (if c then some a else none) k ↔ c ∧ k a := ⟨fun ⟨_, e, q⟩ => by obtain ⟨h, rfl⟩ := opt_if e; exact ⟨h, q⟩, fun ⟨h, q⟩ => ⟨a, if_pos h, q⟩⟩
theorem onS_map {β : Type} {o : Option β} {f : β → α} : onS (o.map f) k ↔ onS o fun a => k (f a) := by
  cases o with
  | none => exact ⟨fun ⟨_, e, _⟩ => (nomatch e), fun ⟨_, e, _⟩ => (nomatch e)⟩
  | some b => exact ⟨fun ⟨_, e, q⟩ => by cases e; exact ⟨b, rfl, q⟩, fun ⟨_, e, q⟩ => by cases e; exact ⟨_, rfl, q⟩⟩
theorem onB_b {b : Bool} {k : Bool → Prop} : onB (.bool b) k ↔ k b := ⟨fun ⟨_, e, q⟩ => by cases e; exact q, fun q => ⟨_, rfl, q⟩⟩
theorem onI_i {b : Int} {k : Int → Prop} : onI (.int b) k ↔ k b := ⟨fun ⟨_, e, q⟩ => by cases e; exact q, fun q => ⟨_, rfl, q⟩⟩
theorem onStr_s {b : Str} {k : Str → Prop} : onStr (.str b) k ↔ k b := ⟨fun ⟨_, e, q⟩ => by cases e; exact q, fun q => ⟨_, rfl, q⟩⟩
theorem onL_l {b : List D} {k : List D → Prop} : onL (.list b) k ↔ k b := ⟨fun ⟨_, e, q⟩ => by cases e; exact q, fun q => ⟨_, rfl, q⟩⟩
theorem lk_0 {d : D} {r : DS} {k : D → Prop} : onS (lk (some d :: r) 0) k ↔ k d := onS_some
theorem lk_S {x : Option D} {r : DS} {n : Nat} {k : D → Prop} : onS (lk (x :: r) (n + 1)) k ↔ onS (lk r n) k := Iff.rfl
theorem onSet_0 {x : Option D} {r : DS} {d : D} {k : DS → Prop} : onSet (x :: r) 0 d k ↔ k (some d :: r) := Iff.rfl
theorem onSet_S {x : Option D} {r : DS} {n : Nat} {d : D} {k : DS → Prop} : onSet (x :: r) (n + 1) d k ↔ onSet r n d fun s => k (x :: s) := Iff.rfl
theorem onPut_0 {x : D} {r : List D} {d : D} {k : List D → Prop} : onPut (x :: r) 0 d k ↔ k (d :: r) := Iff.rfl
theorem onPut_S {x : D} {r : List D} {n : Nat} {d : D} {k : List D → Prop} : onPut (x :: r) (n + 1) d k ↔ onPut r n d fun s => k (x :: s) := Iff.rfl
theorem ite_dec {c : Prop} [Decidable c] {p q : Prop} : (if decide c = true then p else q) ↔ if c then p else q := by simp only [decide_eq_true_eq]
theorem ite_ndec {c : Prop} [Decidable c] {p q : Prop} : (if (!decide c) = true then p else q) ↔ if c then q else p := by
  by_cases h : c
  · simp [h]
  · simp [h]
theorem ite_tt {p q : Prop} : (if true = true then p else q) ↔ p := by simp
theorem ite_ff {p q : Prop} : (if false = true then p else q) ↔ q := by simp
theorem ite_nt {p q : Prop} : (if (!true) = true then p else q) ↔ q := by simp
theorem ite_nf {p q : Prop} : (if (!false) = true then p else q) ↔ p := by simp
end
section
variable {k : D → Prop} {i j : Int} {x y : Str} {ds es : List D} {d0 d1 : D}
theorem v_gt : onS (gtD (.int i) (.int j)) k ↔ k (.bool (decide (j < i))) := onS_some
theorem v_lt : onS (ltD (.int i) (.int j)) k ↔ k (.bool (decide (i < j))) := onS_some
theorem v_le : onS (leD (.int i) (.int j)) k ↔ k (.bool (decide (i ≤ j))) := onS_some
theorem v_ge : onS (geD (.int i) (.int j)) k ↔ k (.bool (decide (j ≤ i))) := onS_some
theorem v_ltS : onS (ltD (.str x) (.str y)) k ↔ k (.bool (ltS x y)) := onS_some
theorem v_add : onS (addD (.int i) (.int j)) k ↔ k (.int (i + j)) := onS_some
theorem v_addS : onS (addD (.str x) (.str y)) k ↔ x.length + y.length ≤ sizeLine ∧ k (.str (x ++ y)) := onS_if
theorem v_addL : onS (addD (.list ds) (.list es)) k ↔ ds.length + es.length ≤ sizeLine ∧ k (.list (ds ++ es)) := onS_if
theorem v_addT : onS (addD (.tuple ds) (.tuple es)) k ↔ ds.length + es.length ≤ sizeLine ∧ k (.tuple (ds ++ es)) := onS_if
theorem v_addN : onS (addL (.list ds) (.list es)) k ↔ ds.length + es.length ≤ sizeLine ∧ k (.list (ds ++ es)) := onS_if
theorem v_sub : onS (subD (.int i) (.int j)) k ↔ k (.int (i - j)) := onS_some
theorem v_mul : onS (mulD (.int i) (.int j)) k ↔ ((-18446744073709551616 < i ∧ i < 18446744073709551616) ∨ (-18446744073709551616 < j ∧ j < 18446744073709551616)) ∧ k (.int (i * j)) := onS_if
theorem v_mulS : onS (mulD (.str x) (.int i)) k ↔ (i ≤ 100000 ∧ -100000 ≤ i ∧ x.length ≤ 100) ∧ k (.str (strTimes x i)) := onS_if
theorem v_mod : onS (modD (.int i) (.int j)) k ↔ 0 < j ∧ k (.int (i % j)) := onS_if
theorem v_fdiv : onS (fdivD (.int i) (.int j)) k ↔ (0 < j ∧ j < 18446744073709551616) ∧ k (.int (i / j)) := onS_if
theorem v_pow : onS (powD (.int i) (.int j)) k ↔ (0 ≤ j ∧ j ≤ 1000 ∧ -18446744073709551616 < i ∧ i < 18446744073709551616) ∧ k (.int (i ^ j.toNat)) := onS_if
theorem v_neg : onS (negD (.int i)) k ↔ k (.int (-i)) := onS_some
theorem v_lenL : onS (lenD [.list ds]) k ↔ k (.int ds.length) := onS_some
theorem v_lenT : onS (lenD [.tuple ds]) k ↔ k (.int ds.length) := onS_some
theorem v_lenS : onS (lenD [.str x]) k ↔ x.length ≤ sizeLine ∧ k (.int x.length) := onS_if
theorem v_abs : onS (absD [.int i]) k ↔ k (.int (if i < 0 then -i else i)) := onS_some
theorem v_rev : onS (revD (.list ds)) k ↔ k (.list ds.reverse) := onS_some
theorem v_ixL : onS (ixD (.list ds) (.int i)) k ↔ onS (L2.atI ds i) k := Iff.rfl
theorem v_ixT : onS (ixD (.tuple ds) (.int i)) k ↔ onS (L2.atI ds i) k := Iff.rfl
theorem v_all : onS (allD [.list ds]) k ↔ onS (blsD ds) fun bs => k (.bool (bs.all id)) := onS_map
theorem v_any : onS (anyD [.list ds]) k ↔ onS (blsD ds) fun bs => k (.bool (bs.any id)) := onS_map
theorem v_sum : onS (sumD [.list ds]) k ↔ onS (intsD ds) fun bs => k (.int bs.sum) := onS_map
theorem v_eq : onS (eqD d0 d1) k ↔ onS (eqB d0 d1) fun b => k (.bool b) := onS_map
theorem v_ne : onS (neD d0 d1) k ↔ onS (eqB d0 d1) fun b => k (.bool (!b)) := onS_map
theorem v_in : onS (inD d0 d1) k ↔ onS (inB d0 d1) fun b => k (.bool b) := onS_map
theorem v_notIn : onS (notInD d0 d1) k ↔ onS (inB d0 d1) fun b => k (.bool (!b)) := onS_map
theorem eqB_ii : eqB (.int i) (.int j) = some (decide (i = j)) := by
  unfold eqB
  rw [if_pos (by exact Or.inl rfl), PyData.eqv]
  exact congrArg some (Bool.eq_iff_iff.mpr (by simp))
theorem eqB_ss : eqB (.str x) (.str y) = some (decide (x = y)) := by
  unfold eqB
  rw [if_pos (by exact Or.inl rfl), PyData.eqv]
  exact congrArg some (Bool.eq_iff_iff.mpr (by simp))
theorem q_ii {k : Bool → Prop} : onS (eqB (.int i) (.int j)) k ↔ k (decide (i = j)) := by rw [eqB_ii, onS_some]
theorem q_ss {k : Bool → Prop} : onS (eqB (.str x) (.str y)) k ↔ k (decide (x = y)) := by rw [eqB_ss, onS_some]
theorem items_l {k : List D → Prop} : onS (itemsD (.list ds)) k ↔ k ds := onS_some
theorem items_t {k : List D → Prop} : onS (itemsD (.tuple ds)) k ↔ k ds := onS_some
theorem items_s {k : List D → Prop} : onS (itemsD (.str x)) k ↔ k (signs x) := onS_some
theorem items_r1 {k : List D → Prop} : onS (range1D [.int j]) k ↔ (-100000000 ≤ j ∧ j ≤ 100000000) ∧ k (rangeL 0 j.toNat) := onS_if
theorem items_r2 {k : List D → Prop} : onS (range2D [.int i, .int j]) k ↔ (-100000000 ≤ i ∧ i ≤ 100000000 ∧ -100000000 ≤ j ∧ j ≤ 100000000) ∧ k (rangeL i (j - i).toNat) := onS_if
theorem sl_l {lo hi : Option Int} : onS (sliceD (.list ds) lo hi) k ↔ k (.list (cutL ds lo hi)) := onS_some
theorem sl_t {lo hi : Option Int} : onS (sliceD (.tuple ds) lo hi) k ↔ k (.tuple (cutL ds lo hi)) := onS_some
theorem sl_s {lo hi : Option Int} : onS (sliceD (.str x) lo hi) k ↔ x.length ≤ sizeLine ∧ k (.str (cutS x lo hi)) := onS_if
theorem put_1 {a b c : D} {k : Nat → Prop} : onS (ixN [a, b, c].length 1) k ↔ k 1 := onS_some
theorem put_2 {a b c : D} {k : Nat → Prop} : onS (ixN [a, b, c].length 2) k ↔ k 2 := onS_some
theorem pen_0 {a b c : D} : onS (L2.atI [a, b, c] 0) k ↔ k a := onS_some
theorem pen_1 {a b c : D} : onS (L2.atI [a, b, c] 1) k ↔ k b := onS_some
theorem pen_2 {a b c : D} : onS (L2.atI [a, b, c] 2) k ↔ k c := onS_some
end
section
variable {β γ : Type} {st : DS} {Q : β → DS → Prop}
@[simp] theorem Wp_pure {b : β} : Wp (DM.pure b) st Q ↔ Q b st := ⟨fun ⟨_, _, e, q⟩ => by cases e; exact q, fun q => ⟨_, _, rfl, q⟩⟩
@[simp] theorem Wp_opt {o : Option β} : Wp (DM.opt o) st Q ↔ onS o fun b => Q b st := by
  constructor
  · rintro ⟨b, s, e, q⟩
    cases o with
    | none => cases e
    | some b => cases e; exact ⟨_, rfl, q⟩
  · rintro ⟨b, rfl, q⟩
    exact ⟨b, st, rfl, q⟩
@[simp] theorem Wp_bind {m : DM γ} {k : γ → DM β} : Wp (m.bind k) st Q ↔ Wp m st fun b s => Wp (k b) s Q := by
  constructor
  · rintro ⟨b, s, e, q⟩
    unfold DM.bind at e
    split at e
    · cases e
    · rename_i b1 s1 e1
      exact ⟨b1, s1, e1, b, s, e, q⟩
    · cases e
  · rintro ⟨b1, s1, e1, b, s, e, q⟩
    exact ⟨b, s, by rw [bind_ok e1]; exact e, q⟩
@[simp] theorem Wp_ite {c : Prop} [Decidable c] {f g : DM β} : Wp (if c then f else g) st Q ↔ if c then Wp f st Q else Wp g st Q := by
  split <;> exact Iff.rfl
end
section
variable {st : DS} {Q : D → DS → Prop} {QB : Bool → DS → Prop} {QA : List D → DS → Prop} {fa fb fc : DM D} {fs : DM (List D)} {ft fu : DM Bool}
theorem lk_iff {i : Nat} {d : D} : lk st i = some d ↔ st[i]? = some (some d) := by
  unfold lk penOf
  constructor
  · intro h
    split at h
    · rename_i d' hd
      cases h
      exact hd
    · cases h
  · intro h
    rw [h]
@[simp] theorem Wp_var {i : Nat} : Wp (dvar i) st Q ↔ onS (lk st i) fun d => Q d st := by
  constructor
  · rintro ⟨b, s, e, q⟩
    unfold dvar at e
    split at e
    · rename_i d hd
      cases e
      exact ⟨_, lk_iff.mpr hd, q⟩
    · cases e
  · rintro ⟨d, h, q⟩
    exact ⟨d, st, by unfold dvar; rw [lk_iff.mp h], q⟩
@[simp] theorem Wp_op {g : D → D → Option D} : Wp (dop g fa fb) st Q ↔ Wp fa st fun x s => Wp fb s fun y s2 => onS (g x y) fun z => Q z s2 := by unfold dop; simp only [Wp_bind, Wp_opt]
@[simp] theorem Wp_un {g : D → Option D} : Wp (dun g fa) st Q ↔ Wp fa st fun x s => onS (g x) fun z => Q z s := by unfold dun; simp only [Wp_bind, Wp_opt]
@[simp] theorem Wp_test : Wp (dtest fa) st QB ↔ Wp fa st fun x s => onB x fun b => QB b s := by
  unfold dtest
  simp only [Wp_bind, Wp_opt]
  refine ⟨fun h => h.mono fun d s ⟨b, e, q⟩ => ?_, fun h => h.mono fun d s ⟨b, e, q⟩ => ⟨b, by rw [e]; rfl, q⟩⟩
  cases d <;> first | (cases e; done) | skip
  cases e
  exact ⟨_, rfl, q⟩
@[simp] theorem Wp_dand : Wp (dand ft fu) st QB ↔ Wp ft st fun b s => if b = true then Wp fu s QB else QB false s := by unfold dand; simp only [Wp_bind, Wp_ite, Wp_pure]
@[simp] theorem Wp_dor : Wp (dor ft fu) st QB ↔ Wp ft st fun b s => if b = true then QB true s else Wp fu s QB := by unfold dor; simp only [Wp_bind, Wp_ite, Wp_pure]
@[simp] theorem Wp_dnot : Wp (dnot ft) st QB ↔ Wp ft st fun b s => QB (!b) s := by unfold dnot; simp only [Wp_bind, Wp_pure]
@[simp] theorem Wp_dandV : Wp (dandV fa fb) st Q ↔ Wp fa st fun x s => onB x fun b => if b = true then Wp fb s Q else Q (.bool false) s := by unfold dandV; simp only [Wp_bind, Wp_ite, Wp_pure, Wp_test]
@[simp] theorem Wp_dorV : Wp (dorV fa fb) st Q ↔ Wp fa st fun x s => onB x fun b => if b = true then Q (.bool true) s else Wp fb s Q := by unfold dorV; simp only [Wp_bind, Wp_ite, Wp_pure, Wp_test]
@[simp] theorem Wp_dnotV : Wp (dnotV fa) st Q ↔ Wp fa st fun x s => onB x fun b => Q (.bool (!b)) s := by unfold dnotV; simp only [Wp_bind, Wp_pure, Wp_test]
@[simp] theorem Wp_chain {g g' : D → D → Option D} : Wp (dchain g g' fa fb fc) st Q ↔ Wp fa st fun x s => Wp fb s fun y s2 => onS (g x y) fun z => onB z fun b => if b = true then Wp fc s2 fun w s3 => onS (g' y w) fun z => Q z s3 else Q (.bool false) s2 := by
  unfold dchain
  simp only [Wp_bind, Wp_ite, Wp_pure, Wp_opt]
  refine ⟨fun h => h.mono fun x s h => h.mono fun y s2 ⟨b, e, q⟩ => ?_, fun h => h.mono fun x s h => h.mono fun y s2 ⟨z, e, b, e2, q⟩ => ⟨b, by rw [e, e2]; rfl, q⟩⟩
  obtain ⟨z, e1, e2⟩ := Option.bind_eq_some_iff.mp e
  cases z <;> first | (cases e2; done) | skip
  cases e2
  exact ⟨_, e1, _, rfl, q⟩
@[simp] theorem Wp_cb {g : List D → Option D} : Wp (dcb g fs) st Q ↔ Wp fs st fun x s => onS (g x) fun z => Q z s := by unfold dcb; simp only [Wp_bind, Wp_opt]
@[simp] theorem Wp_cons : Wp (dcons fa fs) st QA ↔ Wp fa st fun x s => Wp fs s fun xs s2 => QA (x :: xs) s2 := by unfold dcons; simp only [Wp_bind, Wp_pure]
@[simp] theorem Wp_nil : Wp dnil st QA ↔ QA [] st := Wp_pure
@[simp] theorem Wp_tup : Wp (dtup fs) st Q ↔ Wp fs st fun xs s => xs.length ≤ sizeLine ∧ Q (.tuple xs) s := by
  unfold dtup
  simp only [Wp_bind, Wp_opt]
  exact ⟨fun h => h.mono fun d s ⟨b, e, q⟩ => by obtain ⟨h1, rfl⟩ := opt_if e; exact ⟨h1, q⟩, fun h => h.mono fun d s ⟨e, q⟩ => ⟨_, if_pos e, q⟩⟩
@[simp] theorem Wp_lst : Wp (dlst fs) st Q ↔ Wp fs st fun xs s => xs.length ≤ sizeLine ∧ Q (.list xs) s := by
  unfold dlst
  simp only [Wp_bind, Wp_opt]
  exact ⟨fun h => h.mono fun d s ⟨b, e, q⟩ => by obtain ⟨h1, rfl⟩ := opt_if e; exact ⟨h1, q⟩, fun h => h.mono fun d s ⟨e, q⟩ => ⟨_, if_pos e, q⟩⟩
@[simp] theorem Wp_part {QO : Option Int → DS → Prop} : Wp (dpart fa) st QO ↔ Wp fa st fun x s => onI x fun i => QO (some i) s := by
  unfold dpart
  simp only [Wp_bind, Wp_opt]
  refine ⟨fun h => h.mono fun d s ⟨b, e, q⟩ => ?_, fun h => h.mono fun d s ⟨b, e, q⟩ => ⟨_, by rw [e]; rfl, q⟩⟩
  cases d <;> first | (cases e; done) | skip
  cases e
  exact ⟨_, rfl, q⟩
@[simp] theorem Wp_nopart {QO : Option Int → DS → Prop} : Wp dnopart st QO ↔ QO none st := Wp_pure
@[simp] theorem Wp_slice {fl fh : DM (Option Int)} : Wp (dslice fa fl fh) st Q ↔ Wp fa st fun x s => Wp fl s fun l s2 => Wp fh s2 fun u s3 => onS (sliceD x l u) fun z => Q z s3 := by unfold dslice; simp only [Wp_bind, Wp_opt]
@[simp] theorem Wp_isi {T : String} : Wp (disi T fa) st Q ↔ Wp fa st fun x s => Q (.bool (insN T (tyN x))) s := by unfold disi; simp only [Wp_bind, Wp_pure]
@[simp] theorem Wp_isi2 {T U : String} : Wp (disi2 T U fa) st Q ↔ Wp fa st fun x s => Q (.bool (insN T (tyN x) || insN U (tyN x))) s := by unfold disi2; simp only [Wp_bind, Wp_pure]
@[simp] theorem Wp_m1 {g : Str → D → Option D} : Wp (dm1 g fa fb) st Q ↔ Wp fa st fun x s => onStr x fun a => Wp fb s fun y s2 => onS (g a y) fun z => Q z s2 := by
  unfold dm1
  simp only [Wp_bind, Wp_opt]
  refine ⟨fun h => h.mono fun d s ⟨b, e, q⟩ => ?_, fun h => h.mono fun d s ⟨b, e, q⟩ => ⟨_, by rw [e]; rfl, q⟩⟩
  cases d <;> first | (cases e; done) | skip
  cases e
  exact ⟨_, rfl, q⟩
@[simp] theorem Wp_call {m : List D → Option D} : Wp (dcall m fs) st Q ↔ Wp fs st fun x s => MD m x fun z => Q z s := by unfold dcall; simp only [Wp_bind, Wp_opt]; exact Iff.rfl
@[simp] theorem Wp_pix {i : Nat} : Wp (dpix i fb) st Q ↔ Wp fb st fun y s => onS (lk s i) fun p => onL p fun ds => onS (ixD (.list ds) y) fun d => Q d s := by
  unfold dpix
  simp only [Wp_bind]
  refine ⟨fun h => h.mono fun y s ⟨b, s', e, q⟩ => ?_, fun h => h.mono fun y s ⟨p, e1, ds, e3, d, e2, q⟩ => ⟨d, s, by dsimp only; rw [show penOf i s = some p from e1, e3]; show (ixD (.list ds) y).map _ = _; rw [e2]; rfl, q⟩⟩
  dsimp only at e
  split at e
  · rename_i ds hd
    obtain ⟨d, h1, h2⟩ := Option.map_eq_some_iff.mp e
    cases h2
    exact ⟨_, hd, ds, rfl, _, h1, q⟩
  · cases e
@[simp] theorem Wp_callP {mx : Bool} {p : Nat} {m : D → List D → Option (D × D)} : Wp (dcallP mx p m fs) st Q ↔ Wp fs st fun ds s => onS (lk s p) fun pd => (if mx = true then flatA ds = true else True) ∧ MP m pd ds fun d p' => onSet s p p' fun s' => Q d s' := by
  unfold dcallP MP
  simp only [Wp_bind]
  refine ⟨fun h => h.mono fun y s ⟨b, s', e, q⟩ => ?_, fun h => h.mono fun y s ⟨pd, e1, n, d, p', e2, q⟩ => ⟨d, _, by
    dsimp only
    rw [show penOf p s = some pd from e1]
    show (if _ then _ else _) = _
    rw [if_neg (fun z => by rw [if_pos z.1, z.2] at n; exact Bool.false_ne_true n), e2]
    rfl, q⟩⟩
  dsimp only at e
  split at e
  · rename_i pd hd
    split at e
    · cases e
    · rename_i n
      obtain ⟨⟨d, p'⟩, h1, h2⟩ := Option.map_eq_some_iff.mp e
      cases h2
      refine ⟨pd, hd, ?_, d, p', h1, q⟩
      split
      · rename_i hm
        cases hf : flatA y with
        | true => rfl
        | false => exact absurd ⟨hm, hf⟩ n
      · exact True.intro
  · cases e
theorem Wp_callP0 {p : Nat} {m : D → List D → Option (D × D)} : Wp (dcallP false p m fs) st Q ↔ Wp fs st fun ds s => onS (lk s p) fun pd => MP m pd ds fun d p' => onSet s p p' fun s' => Q d s' := by
  rw [Wp_callP]
  simp only [Bool.false_eq_true, if_false, true_and]
theorem Wp_callP1 {p : Nat} {m : D → List D → Option (D × D)} : Wp (dcallP true p m fs) st Q ↔ Wp fs st fun ds s => onS (lk s p) fun pd => flatA ds = true ∧ MP m pd ds fun d p' => onSet s p p' fun s' => Q d s' := by
  rw [Wp_callP]
  simp only [if_true]
def Cp (vs : List Nat) (g : DG) (tt : DM Bool) (te : DM D) (ds : List D) (st : DS) (acc : List D) (Q : List D → DS → Prop) : Prop := ∃ r s, dcompL vs g tt te ds st acc = some (r, s) ∧ Q r s
@[simp] theorem Wp_comp {vs : List Nat} {items : DM (List D)} {g : DG} {tt : DM Bool} {te : DM D} : Wp (dcomp vs items g tt te) st Q ↔ Wp items st fun ds s => Cp vs g tt te ds s [] fun r s' => Q (.list r) s' := by
  unfold dcomp Cp
  simp only [Wp_bind]
  refine ⟨fun h => h.mono fun y s ⟨b, s', e, q⟩ => ?_, fun h => h.mono fun y s ⟨r, s', e, q⟩ => ⟨_, s', by dsimp only; rw [e]; rfl, q⟩⟩
  obtain ⟨⟨d, p'⟩, h1, h2⟩ := Option.map_eq_some_iff.mp e
  cases h2
  exact ⟨_, _, h1, q⟩
@[simp] theorem Wp_disp {fr : DM (List (D × D))} : Wp (ddisp fr) st Q ↔ Wp fr st fun ps s => onS (dispD ps) fun d => Q d s := by unfold ddisp; simp only [Wp_bind, Wp_opt]
@[simp] theorem Wp_dpnil {QP : List (D × D) → DS → Prop} : Wp dpnil st QP ↔ QP [] st := Wp_pure
@[simp] theorem Wp_dpcons {QP : List (D × D) → DS → Prop} {fr : DM (List (D × D))} : Wp (dpcons fa fb fr) st QP ↔ Wp fa st fun k s => Wp fb s fun v s2 => Wp fr s2 fun r s3 => QP ((k, v) :: r) s3 := by unfold dpcons; simp only [Wp_bind, Wp_pure]
@[simp] theorem Wp_flat : Wp (dflat fa) st Q ↔ Wp fa st fun d s => flat d = true ∧ Q d s := by
  unfold dflat
  constructor
  · rintro ⟨b, s, e, q⟩
    dsimp only at e
    split at e
    · rename_i d s1 e1
      split at e
      · rename_i hfl
        cases e
        exact ⟨_, _, e1, hfl, q⟩
      · cases e
    · rename_i hno
      exact absurd e (hno b s)
  · rintro ⟨d, s, e, hfl, q⟩
    exact ⟨d, s, by simp only [e, hfl, if_true], q⟩
end
/-! ### comprehensions -/
section
variable {vs : List Nat} {g : DG} {tt : DM Bool} {te : DM D}
theorem Cp_inv (I : DS → Prop) (P : D → Prop) : ∀ {ds : List D} {st : DS} {acc : List D} {Q : List D → DS → Prop}, I st → (∀ a ∈ acc, P a) → acc.length + ds.length ≤ sizeLine →
    (∀ d ∈ ds, ∀ s, I s → ∃ s1, g d (wipeD s vs) = some s1 ∧ Wp tt s1 fun b s2 => b = true ∧ Wp te s2 fun y s3 => P y ∧ I (backD s s3 vs)) →
    (∀ r s', I s' → (∀ a ∈ r, P a) → r.length = acc.length + ds.length → Q r s') → Cp vs g tt te ds st acc Q
  | [], st, acc, Q, hI, ha, _, _, q => ⟨acc, st, rfl, q _ _ hI ha rfl⟩
  | d :: ds, st, acc, Q, hI, ha, hl, h, q => by
    obtain ⟨s1, e1, b, s2, e2, rfl, y, s3, e3, hp, hI2⟩ := h d List.mem_cons_self st hI
    rw [List.length_cons] at hl
    obtain ⟨r, s', e4, hq⟩ := Cp_inv I P (ds := ds) (st := backD st s3 vs) (acc := acc ++ [y]) (Q := Q) hI2 (fun a h => by
      rcases List.mem_append.mp h with h | h
      · exact ha a h
      · rw [List.mem_singleton.mp h]; exact hp) (by rw [List.length_append, List.length_singleton]; omega) (fun d hd => h d (List.mem_cons_of_mem _ hd)) (fun r s' a b c => q r s' a b (by rw [c, List.length_append, List.length_singleton, List.length_cons]; omega))
    refine ⟨r, s', ?_, hq⟩
    rw [dcompL, e1]
    dsimp only
    rw [e2]
    dsimp only
    rw [e3]
    dsimp only
    rw [if_pos (by omega)]
    exact e4
theorem Cp_fm (f : D → Bool) (h : D → D) {st : DS} : ∀ {ds : List D} {acc : List D} {Q : List D → DS → Prop}, acc.length + ds.length ≤ sizeLine →
    (∀ d ∈ ds, ∃ s1, g d (wipeD st vs) = some s1 ∧ Wp tt s1 fun b s2 => b = f d ∧ (if f d = true then Wp te s2 fun y s3 => y = h d ∧ backD st s3 vs = st else backD st s2 vs = st)) →
    Q (acc ++ (ds.filter f).map h) st → Cp vs g tt te ds st acc Q
  | [], acc, Q, _, _, q => ⟨acc, st, rfl, by simpa using q⟩
  | d :: ds, acc, Q, hl, hh, q => by
    obtain ⟨s1, e1, b, s2, e2, rfl, hd⟩ := hh d List.mem_cons_self
    rw [List.length_cons] at hl
    by_cases hf : f d = true
    · rw [if_pos hf] at hd
      obtain ⟨y, s3, e3, rfl, e5⟩ := hd
      obtain ⟨r, s', e4, hq⟩ := Cp_fm f h (st := st) (ds := ds) (acc := acc ++ [h d]) (Q := Q) (by rw [List.length_append, List.length_singleton]; omega) (fun d hd => hh d (List.mem_cons_of_mem _ hd)) (by
        rw [List.filter_cons_of_pos hf, List.map_cons] at q
        rw [List.append_assoc]
        exact q)
      refine ⟨r, s', ?_, hq⟩
      rw [dcompL, e1]
      dsimp only
      rw [e2, hf]
      dsimp only
      rw [e3]
      dsimp only
      rw [if_pos (by omega), e5]
      exact e4
    · rw [if_neg hf] at hd
      obtain ⟨r, s', e4, hq⟩ := Cp_fm f h (st := st) (ds := ds) (acc := acc) (Q := Q) (by omega) (fun d hd => hh d (List.mem_cons_of_mem _ hd)) (by
        rw [List.filter_cons_of_neg hf] at q
        exact q)
      refine ⟨r, s', ?_, hq⟩
      rw [dcompL, e1]
      dsimp only
      rw [e2, Bool.eq_false_iff.mpr hf]
      dsimp only
      rw [hd]
      exact e4
theorem Cp_map (h : D → D) {st : DS} {ds : List D} {Q : List D → DS → Prop} (hl : ds.length ≤ sizeLine) (hh : ∀ d ∈ ds, ∃ s1, g d (wipeD st vs) = some s1 ∧ Wp tt s1 fun b s2 => b = true ∧ Wp te s2 fun y s3 => y = h d ∧ backD st s3 vs = st)
    (q : Q (ds.map h) st) : Cp vs g tt te ds st [] Q := Cp_fm (fun _ => true) h (by rw [List.length_nil]; omega) (fun d hd => by simpa using hh d hd) (by rw [List.nil_append, List.filter_eq_self.mpr fun _ _ => rfl]; exact q)
end
/-! ### statements -/
def onNx (k : DS → Prop) (Q : Out → Prop) : Out → Prop
  | .nx s => k s
  | o => Q o
section
variable {k : DS → Prop} {Q : Out → Prop} {st : DS} {f g : DT} {fe fk : DM D} {ft : DM Bool} {i : Nat}
@[simp] theorem onNx_nx {s : DS} : onNx k Q (.nx s) ↔ k s := Iff.rfl
@[simp] theorem onNx_bk {s : DS} : onNx k Q (.bk s) ↔ Q (.bk s) := Iff.rfl
@[simp] theorem onNx_ct {s : DS} : onNx k Q (.ct s) ↔ Q (.ct s) := Iff.rfl
@[simp] theorem onNx_rt {d : D} {s : DS} : onNx k Q (.rt d s) ↔ Q (.rt d s) := Iff.rfl
@[simp] theorem onNx_ex {c : Addr} {fl : Option (Str × D)} {s : DS} : onNx k Q (.ex c fl s) ↔ Q (.ex c fl s) := Iff.rfl
@[simp] theorem S_next : Sp2 dnext st Q ↔ Q (.nx st) := ⟨fun ⟨_, e, _, q⟩ => by cases e; exact q, fun q => ⟨_, rfl, True.intro, q⟩⟩
@[simp] theorem S_seq : Sp2 (dseq f g) st Q ↔ Sp2 f st (onNx (fun s => Sp2 g s Q) Q) := by
  unfold Sp2 dseq
  constructor
  · rintro ⟨o, e, c, q⟩
    split at e
    · rename_i s1 e1
      exact ⟨.nx s1, e1, True.intro, o, e, c, q⟩
    · rename_i hno
      refine ⟨o, e, c, ?_⟩
      cases o with
      | nx s => exact absurd e (hno s)
      | _ => exact q
  · rintro ⟨o, e, c, q⟩
    cases o with
    | nx s =>
      obtain ⟨o', e', c', q'⟩ := q
      exact ⟨o', by rw [e]; exact e', c', q'⟩
    | _ => exact ⟨_, by rw [e], c, q⟩
/-- an expression that raises nothing -/
@[simp] theorem S_exp {β : Type} {fx : DM β} {kk : β → DS → Option Out} : Sp2 (dexp fx kk) st Q ↔ Wp fx st fun b s => Sp2 (kk b) s Q := by
  constructor
  · rintro ⟨o, e, c, q⟩
    unfold dexp at e
    split at e
    · cases e
    · rename_i b s e1
      exact ⟨b, s, e1, o, e, c, q⟩
    · cases e
      exact c.elim
  · rintro ⟨b, s, e, o, e2, c, q⟩
    exact ⟨o, by rw [dexp_ok e]; exact e2, c, q⟩
@[simp] theorem S_nx {s : DS → DS} : Sp2 (fun st => some (.nx (s st))) st Q ↔ Q (.nx (s st)) := ⟨fun ⟨_, e, _, q⟩ => by cases e; exact q, fun q => ⟨_, rfl, True.intro, q⟩⟩
@[simp] theorem S_bk : Sp2 (fun st => some (.bk st)) st Q ↔ Q (.bk st) := ⟨fun ⟨_, e, _, q⟩ => by cases e; exact q, fun q => ⟨_, rfl, True.intro, q⟩⟩
@[simp] theorem S_ct : Sp2 (fun st => some (.ct st)) st Q ↔ Q (.ct st) := ⟨fun ⟨_, e, _, q⟩ => by cases e; exact q, fun q => ⟨_, rfl, True.intro, q⟩⟩
@[simp] theorem S_rtd {d : D} : Sp2 (fun st => some (.rt d st)) st Q ↔ Q (.rt d st) := ⟨fun ⟨_, e, _, q⟩ => by cases e; exact q, fun q => ⟨_, rfl, True.intro, q⟩⟩
@[simp] theorem S_ite {c : Prop} [Decidable c] : Sp2 (if c then f else g) st Q ↔ if c then Sp2 f st Q else Sp2 g st Q := by
  split <;> exact Iff.rfl
@[simp] theorem S_set : Sp2 (dset i fe) st Q ↔ Wp fe st fun d s => onSet s i d fun s' => Q (.nx s') := by unfold dset; simp only [S_exp, S_nx]; exact Iff.rfl
@[simp] theorem S_drop : Sp2 (ddrop fe) st Q ↔ Wp fe st fun d s => Q (.nx s) := by unfold ddrop; simp only [S_exp]; exact ⟨fun h => h.mono fun _ _ ⟨_, e, _, q⟩ => by cases e; exact q, fun h => h.mono fun _ _ q => ⟨_, rfl, True.intro, q⟩⟩
@[simp] theorem S_ret : Sp2 (dret fe) st Q ↔ Wp fe st fun d s => Q (.rt d s) := by unfold dret; simp only [S_exp, S_rtd]
@[simp] theorem S_if : Sp2 (dif ft f g) st Q ↔ Wp ft st fun b s => if b = true then Sp2 f s Q else Sp2 g s Q := by unfold dif; simp only [S_exp, S_ite]
@[simp] theorem S_asg {gd : DG} : Sp2 (dasg fe gd) st Q ↔ Wp fe st fun d s => onS (gd d s) fun s' => Q (.nx s') := by
  unfold dasg
  simp only [S_exp]
  refine ⟨fun h => h.mono fun _ _ ⟨o, e, _, q⟩ => ?_, fun h => h.mono fun _ _ ⟨s', e, q⟩ => ⟨.nx s', by dsimp only; rw [e]; rfl, True.intro, q⟩⟩
  obtain ⟨s', e1, rfl⟩ := Option.map_eq_some_iff.mp e
  exact ⟨s', e1, q⟩
theorem cell_on {s : DS} {k : List D → Prop} : (∃ ds, cellOf i s = some ds ∧ k ds) ↔ onS (lk s i) fun p => onL p k := by
  constructor
  · rintro ⟨ds, e, q⟩
    exact ⟨_, penOf_eq (cellOf_some e), ds, rfl, q⟩
  · rintro ⟨p, e, ds, rfl, q⟩
    refine ⟨ds, ?_, q⟩
    unfold lk penOf at e
    unfold cellOf
    split at e
    · rename_i d hd
      cases e
      rw [hd]
    · cases e
@[simp] theorem S_put : Sp2 (dput i fe fk) st Q ↔ Wp fe st fun d s => Wp fk s fun z s2 => onS (lk s2 i) fun p => onL p fun ds => onI z fun j => onS (ixN ds.length j) fun n => onPut ds n d fun ds' => onSet s2 i (.list ds') fun s' => Q (.nx s') := by
  unfold dput
  simp only [S_exp]
  refine ⟨fun h => h.mono fun d s h => ?_, fun h => h.mono fun d s h => h.mono fun z s2 h => ?_⟩
  · refine h.mono fun z s2 ⟨o, e, _, q⟩ => cell_on.mp ?_
    dsimp only at e
    split at e
    · rename_i x y ds j e1
      obtain ⟨n, e2, rfl⟩ := Option.map_eq_some_iff.mp e
      exact ⟨_, by assumption, _, rfl, n, e2, q⟩
    · cases e
  · obtain ⟨ds, e1, j, e2, n, e3, q⟩ := cell_on.mpr h
    exact ⟨.nx (s2.set i (some (.list (ds.set n d)))), by dsimp only; rw [e1, e2]; show (ixN ds.length j).map _ = _; rw [e3]; rfl, True.intro, q⟩
@[simp] theorem S_app : Sp2 (dapp i fe) st Q ↔ onS (lk st i) fun p => onL p fun _ => Wp fe st fun d s => onS (lk s i) fun p => onL p fun ds => ds.length < sizeLine ∧ onSet s i (.list (ds ++ [d])) fun s' => Q (.nx s') := by
  rw [← cell_on]
  constructor
  · rintro ⟨o, e, c, q⟩
    unfold dapp at e
    split at e
    · cases e
    · rename_i ds0 e0
      refine ⟨ds0, e0, (S_exp.mp ⟨o, e, c, q⟩).mono fun d s ⟨o, e, _, q⟩ => cell_on.mp ?_⟩
      dsimp only at e
      split at e
      · cases e
      · rename_i ds e1
        obtain ⟨h1, rfl⟩ := opt_if e
        exact ⟨ds, e1, h1, q⟩
  · rintro ⟨ds0, e0, h⟩
    unfold dapp Sp2
    dsimp only
    rw [e0]
    refine S_exp.mpr (h.mono fun d s h => ?_)
    obtain ⟨ds, e1, e2, q⟩ := cell_on.mpr h
    exact ⟨.nx (s.set i (some (.list (ds ++ [d])))), by dsimp only; rw [e1]; show (if _ then _ else _) = _; rw [if_pos e2], True.intro, q⟩
@[simp] theorem S_ext : Sp2 (dext i fe) st Q ↔ onS (lk st i) fun p => onL p fun _ => Wp fe st fun d s => onS (lk s i) fun p => onL p fun ds => onL d fun es => ds.length + es.length ≤ sizeLine ∧ onSet s i (.list (ds ++ es)) fun s' => Q (.nx s') := by
  rw [← cell_on]
  constructor
  · rintro ⟨o, e, c, q⟩
    unfold dext at e
    split at e
    · cases e
    · rename_i ds0 e0
      refine ⟨ds0, e0, (S_exp.mp ⟨o, e, c, q⟩).mono fun d s ⟨o, e, _, q⟩ => cell_on.mp ?_⟩
      dsimp only at e
      split at e
      · rename_i x y ds es e1
        obtain ⟨h1, rfl⟩ := opt_if e
        exact ⟨_, by assumption, _, rfl, h1, q⟩
      · cases e
  · rintro ⟨ds0, e0, h⟩
    unfold dext Sp2
    dsimp only
    rw [e0]
    refine S_exp.mpr (h.mono fun d s h => ?_)
    obtain ⟨ds, e1, es, e2, e3, q⟩ := cell_on.mpr h
    exact ⟨.nx (s.set i (some (.list (ds ++ es)))), by dsimp only; rw [e1, e2]; show (if _ then _ else _) = _; rw [if_pos e3], True.intro, q⟩
def Fl (gd : DG) (f : DT) (ds : List D) (st : DS) (Q : Out → Prop) : Prop := Sp2 (dforL gd f ds) st Q
@[simp] theorem S_for {fi : DM (List D)} {gd : DG} : Sp2 (dfor fi gd f) st Q ↔ Wp fi st fun ds s => Fl gd f ds s Q := S_exp
theorem Fl_inv {gd : DG} (I : List D → DS → Prop) : ∀ {ds : List D} {st : DS}, I ds st → (∀ d r s, I (d :: r) s → ∃ s1, gd d s = some s1 ∧ Sp2 f s1 fun o => match o with
    | .nx s2 => I r s2
    | .ct s2 => I r s2
    | .bk s2 => Q (.nx s2)
    | o => Q o) → (∀ s, I [] s → Q (.nx s)) → Fl gd f ds st Q
  | [], st, hI, _, q => ⟨_, rfl, True.intro, q _ hI⟩
  | d :: r, st, hI, h, q => by
    obtain ⟨s1, e1, o, e2, c2, hq⟩ := h d r st hI
    cases o with
    | nx s2 =>
      obtain ⟨o, e3, c3, q3⟩ := Fl_inv I (ds := r) (st := s2) hq h q
      exact ⟨o, by rw [dforL, e1]; dsimp only; rw [e2]; exact e3, c3, q3⟩
    | ct s2 =>
      obtain ⟨o, e3, c3, q3⟩ := Fl_inv I (ds := r) (st := s2) hq h q
      exact ⟨o, by rw [dforL, e1]; dsimp only; rw [e2]; exact e3, c3, q3⟩
    | bk s2 => exact ⟨.nx s2, by rw [dforL, e1]; dsimp only; rw [e2], True.intro, hq⟩
    | rt d s2 => exact ⟨_, by rw [dforL, e1]; dsimp only; rw [e2], c2, hq⟩
    | ex c fl s2 => exact ⟨_, by rw [dforL, e1]; dsimp only; rw [e2], c2, hq⟩
end
/-! ### defs -/
def onRt (Q : D → DS → Prop) : Out → Prop
  | .rt d s => Q d s
  | .nx s => Q .none s
  | _ => False
@[simp] theorem onRt_rt {Q : D → DS → Prop} {d : D} {s : DS} : onRt Q (.rt d s) ↔ Q d s := Iff.rfl
@[simp] theorem onRt_nx {Q : D → DS → Prop} {s : DS} : onRt Q (.nx s) ↔ Q .none s := Iff.rfl
theorem MD_of {n k : Nat} {g : DT} {ds : List D} {Q : D → Prop} (hl : ds.length = k) (h : Sp2 g (startD n ds) (onRt fun d _ => Q d)) : MD (mOf n k g) ds Q := by
  obtain ⟨o, e, _, q⟩ := h
  unfold MD mOf
  rw [if_pos hl, e]
  cases o with
  | rt d s => exact ⟨d, rfl, q⟩
  | nx s => exact ⟨_, rfl, q⟩
  | _ => exact q.elim
theorem MP_of {n k : Nat} {g : DT} {p : D} {ds : List D} {Q : D → D → Prop} (hl : ds.length = k) (h : Sp2 g (startD n (p :: ds)) (onRt fun d s => onS (lk s 0) fun p' => Q d p')) : MP (mOfP n k g) p ds Q := by
  obtain ⟨o, e, _, q⟩ := h
  unfold MP mOfP
  rw [if_pos hl, e]
  cases o with
  | rt d s =>
    obtain ⟨p', e2, q⟩ := q
    exact ⟨d, p', by show (penOf 0 s).map _ = _; rw [show penOf 0 s = some p' from e2]; rfl, q⟩
  | nx s =>
    obtain ⟨p', e2, q⟩ := q
    exact ⟨_, p', by show (penOf 0 s).map _ = _; rw [show penOf 0 s = some p' from e2]; rfl, q⟩
  | _ => exact q.elim
theorem MD.mono {m : List D → Option D} {ds : List D} {Q R : D → Prop} (h : MD m ds Q) (k : ∀ d, Q d → R d) : MD m ds R := by
  obtain ⟨d, e, q⟩ := h
  exact ⟨d, e, k d q⟩
theorem MP.mono {m : D → List D → Option (D × D)} {p : D} {ds : List D} {Q R : D → D → Prop} (h : MP m p ds Q) (k : ∀ d p', Q d p' → R d p') : MP m p ds R := by
  obtain ⟨d, p', e, q⟩ := h
  exact ⟨d, p', e, k d p' q⟩
theorem MD.eq {m : List D → Option D} {ds : List D} {d : D} (h : m ds = some d) {Q : D → Prop} : MD m ds Q ↔ Q d := ⟨fun ⟨_, e, q⟩ => by rw [h] at e; cases e; exact q, fun q => ⟨d, h, q⟩⟩

/-! ### the pen of a law -/
def Pen (p : D) : Prop := ∃ (ns : List Int) (at_ great : Int), p = .list [.list (ns.map PyData.int), .int at_, .int great] ∧ ns.length ≤ 63 ∧ 0 ≤ at_ ∧ 0 ≤ great
theorem Pen.start {ns : List Int} (h : ns.length ≤ 63) : Pen (penL ns) := ⟨ns, 0, 0, rfl, h, by omega, by omega⟩
/-! ### kinds -/
theorem ins_NoneType_none  : insN "NoneType" (tyN .none) = true := (by decide : insN "NoneType" "NoneType" = true)
theorem ins_NoneType_bool {x : Bool} : insN "NoneType" (tyN (.bool x)) = false := (by decide : insN "NoneType" "bool" = false)
theorem ins_NoneType_int {x : Int} : insN "NoneType" (tyN (.int x)) = false := (by decide : insN "NoneType" "int" = false)
theorem ins_NoneType_str {x : Str} : insN "NoneType" (tyN (.str x)) = false := (by decide : insN "NoneType" "str" = false)
theorem ins_NoneType_list {x : List D} : insN "NoneType" (tyN (.list x)) = false := (by decide : insN "NoneType" "list" = false)
theorem ins_NoneType_tuple {x : List D} : insN "NoneType" (tyN (.tuple x)) = false := (by decide : insN "NoneType" "tuple" = false)
theorem ins_NoneType_dict {x : List (D × D)} : insN "NoneType" (tyN (.dict x)) = false := (by decide : insN "NoneType" "dict" = false)
theorem ins_bool_none  : insN "bool" (tyN .none) = false := (by decide : insN "bool" "NoneType" = false)
theorem ins_bool_bool {x : Bool} : insN "bool" (tyN (.bool x)) = true := (by decide : insN "bool" "bool" = true)
theorem ins_bool_int {x : Int} : insN "bool" (tyN (.int x)) = false := (by decide : insN "bool" "int" = false)
theorem ins_bool_str {x : Str} : insN "bool" (tyN (.str x)) = false := (by decide : insN "bool" "str" = false)
theorem ins_bool_list {x : List D} : insN "bool" (tyN (.list x)) = false := (by decide : insN "bool" "list" = false)
theorem ins_bool_tuple {x : List D} : insN "bool" (tyN (.tuple x)) = false := (by decide : insN "bool" "tuple" = false)
theorem ins_bool_dict {x : List (D × D)} : insN "bool" (tyN (.dict x)) = false := (by decide : insN "bool" "dict" = false)
theorem ins_int_none  : insN "int" (tyN .none) = false := (by decide : insN "int" "NoneType" = false)
theorem ins_int_bool {x : Bool} : insN "int" (tyN (.bool x)) = true := (by decide : insN "int" "bool" = true)
theorem ins_int_int {x : Int} : insN "int" (tyN (.int x)) = true := (by decide : insN "int" "int" = true)
theorem ins_int_str {x : Str} : insN "int" (tyN (.str x)) = false := (by decide : insN "int" "str" = false)
theorem ins_int_list {x : List D} : insN "int" (tyN (.list x)) = false := (by decide : insN "int" "list" = false)
theorem ins_int_tuple {x : List D} : insN "int" (tyN (.tuple x)) = false := (by decide : insN "int" "tuple" = false)
theorem ins_int_dict {x : List (D × D)} : insN "int" (tyN (.dict x)) = false := (by decide : insN "int" "dict" = false)
theorem ins_str_none  : insN "str" (tyN .none) = false := (by decide : insN "str" "NoneType" = false)
theorem ins_str_bool {x : Bool} : insN "str" (tyN (.bool x)) = false := (by decide : insN "str" "bool" = false)
theorem ins_str_int {x : Int} : insN "str" (tyN (.int x)) = false := (by decide : insN "str" "int" = false)
theorem ins_str_str {x : Str} : insN "str" (tyN (.str x)) = true := (by decide : insN "str" "str" = true)
theorem ins_str_list {x : List D} : insN "str" (tyN (.list x)) = false := (by decide : insN "str" "list" = false)
theorem ins_str_tuple {x : List D} : insN "str" (tyN (.tuple x)) = false := (by decide : insN "str" "tuple" = false)
theorem ins_str_dict {x : List (D × D)} : insN "str" (tyN (.dict x)) = false := (by decide : insN "str" "dict" = false)
theorem ins_list_none  : insN "list" (tyN .none) = false := (by decide : insN "list" "NoneType" = false)
theorem ins_list_bool {x : Bool} : insN "list" (tyN (.bool x)) = false := (by decide : insN "list" "bool" = false)
theorem ins_list_int {x : Int} : insN "list" (tyN (.int x)) = false := (by decide : insN "list" "int" = false)
theorem ins_list_str {x : Str} : insN "list" (tyN (.str x)) = false := (by decide : insN "list" "str" = false)
theorem ins_list_list {x : List D} : insN "list" (tyN (.list x)) = true := (by decide : insN "list" "list" = true)
theorem ins_list_tuple {x : List D} : insN "list" (tyN (.tuple x)) = false := (by decide : insN "list" "tuple" = false)
theorem ins_list_dict {x : List (D × D)} : insN "list" (tyN (.dict x)) = false := (by decide : insN "list" "dict" = false)
theorem ins_tuple_none  : insN "tuple" (tyN .none) = false := (by decide : insN "tuple" "NoneType" = false)
theorem ins_tuple_bool {x : Bool} : insN "tuple" (tyN (.bool x)) = false := (by decide : insN "tuple" "bool" = false)
theorem ins_tuple_int {x : Int} : insN "tuple" (tyN (.int x)) = false := (by decide : insN "tuple" "int" = false)
theorem ins_tuple_str {x : Str} : insN "tuple" (tyN (.str x)) = false := (by decide : insN "tuple" "str" = false)
theorem ins_tuple_list {x : List D} : insN "tuple" (tyN (.list x)) = false := (by decide : insN "tuple" "list" = false)
theorem ins_tuple_tuple {x : List D} : insN "tuple" (tyN (.tuple x)) = true := (by decide : insN "tuple" "tuple" = true)
theorem ins_tuple_dict {x : List (D × D)} : insN "tuple" (tyN (.dict x)) = false := (by decide : insN "tuple" "dict" = false)
theorem ins_dict_none  : insN "dict" (tyN .none) = false := (by decide : insN "dict" "NoneType" = false)
theorem ins_dict_bool {x : Bool} : insN "dict" (tyN (.bool x)) = false := (by decide : insN "dict" "bool" = false)
theorem ins_dict_int {x : Int} : insN "dict" (tyN (.int x)) = false := (by decide : insN "dict" "int" = false)
theorem ins_dict_str {x : Str} : insN "dict" (tyN (.str x)) = false := (by decide : insN "dict" "str" = false)
theorem ins_dict_list {x : List D} : insN "dict" (tyN (.list x)) = false := (by decide : insN "dict" "list" = false)
theorem ins_dict_tuple {x : List D} : insN "dict" (tyN (.tuple x)) = false := (by decide : insN "dict" "tuple" = false)
theorem ins_dict_dict {x : List (D × D)} : insN "dict" (tyN (.dict x)) = true := (by decide : insN "dict" "dict" = true)
theorem MD.get {m : List D → Option D} {ds : List D} {r : D} (h : MD m ds fun d => d = r) : m ds = some r := by
  obtain ⟨d, e, rfl⟩ := h
  exact e
theorem lineB {n : Nat} (h : n ≤ 10000) : n ≤ sizeLine := by
  rw [sizeLine_eq]
  omega
theorem inB_sign (c : Nat) (z : Str) : inB (.str ⟨#[c]⟩) (.str z) = some (decide (c ∈ z.cps.toList)) := by
  show (if (⟨#[c]⟩ : Str).length = 1 then some (decide ((⟨#[c]⟩ : Str).cps.getD 0 0 ∈ z.cps.toList)) else none) = _
  exact if_pos (show (⟨#[c]⟩ : Str).length = 1 from rfl)
theorem in_sign {c : Nat} {z : Str} {k : Bool → Prop} : onS (inB (.str ⟨#[c]⟩) (.str z)) k ↔ k (decide (c ∈ z.cps.toList)) := by rw [inB_sign, onS_some]
theorem signs_len (z : Str) : (signs z).length = z.length := by
  unfold signs
  rw [List.length_map]
  rfl
theorem ite_i {c : Prop} [Decidable c] {p q : Prop} (h1 : c → p) (h2 : ¬c → q) : if c then p else q := by
  by_cases h : c
  · rw [if_pos h]
    exact h1 h
  · rw [if_neg h]
    exact h2 h
theorem Pen.mk {ns : List Int} {a gr : Int} (hl : ns.length ≤ 63) (ha : 0 ≤ a) (hg : 0 ≤ gr) : Pen (.list [.list (ns.map PyData.int), .int a, .int gr]) := ⟨ns, a, gr, rfl, hl, ha, hg⟩
theorem at_in {ds : List D} {i : Int} (h0 : 0 ≤ i) (h1 : i < ds.length) : ∃ d, L2.atI ds i = some d ∧ d ∈ ds := by
  have h : i.toNat < ds.length := by omega
  refine ⟨ds[i.toNat], ?_, List.getElem_mem h⟩
  unfold L2.atI ixN
  rw [if_pos h0, if_pos h1]
  exact List.getElem?_eq_getElem h
theorem at_ints {ns : List Int} {i : Int} (h0 : 0 ≤ i) (h1 : i < (ns.map PyData.int).length) : ∃ x, L2.atI (ns.map PyData.int) i = some (.int x) := by
  obtain ⟨d, e, m⟩ := at_in h0 h1
  obtain ⟨x, _, rfl⟩ := List.mem_map.mp m
  exact ⟨x, e⟩
theorem at_str {z : Str} {i : Int} (h0 : 0 ≤ i) (h1 : i < z.length) (h2 : z.length ≤ 10000) : ∃ c, ixD (.str z) (.int i) = some (.str ⟨#[c]⟩) ∧ c ∈ z.cps.toList := by
  have h : i.toNat < z.cps.toList.length := by
    have : z.cps.toList.length = z.length := Array.length_toList
    omega
  refine ⟨z.cps.toList[i.toNat], ?_, List.getElem_mem h⟩
  show (if z.length ≤ sizeLine then (L2.atI z.cps.toList i).map fun c => PyData.str ⟨#[c]⟩ else none) = _
  rw [if_pos (lineB h2)]
  unfold L2.atI ixN
  rw [if_pos h0, if_pos (by rw [Array.length_toList]; exact h1)]
  show (z.cps.toList[i.toNat]?).map _ = _
  rw [List.getElem?_eq_getElem h]
  rfl
theorem cutS_len (z : Str) (lo hi : Option Int) : (cutS z lo hi).length ≤ z.length := by
  unfold cutS
  show (List.toArray _).size ≤ z.cps.size
  rw [List.size_toArray, List.length_take, List.length_drop, Array.length_toList]
  omega
theorem app_len (x y : Str) : (x ++ y).length = x.length + y.length := Array.size_append
theorem rangeL_len (lo : Int) (n : Nat) : (rangeL lo n).length = n := by simp [rangeL]
theorem strsD_len : ∀ {ds : List D} {ys : List Str}, strsD ds = some ys → ys.length = ds.length
  | [], ys, h => by
    cases h
    rfl
  | .str i :: r, ys, h => by
    obtain ⟨zs, e, rfl⟩ := Option.map_eq_some_iff.mp h
    rw [List.length_cons, List.length_cons, strsD_len e]
/-- texts of one sign each -/
theorem strs_of {P : Nat → Prop} : ∀ {ds : List D}, (∀ d ∈ ds, ∃ c, d = .str ⟨#[c]⟩ ∧ P c) → ∃ cs : List Nat, ds = cs.map (fun c => PyData.str ⟨#[c]⟩) ∧ ∀ c ∈ cs, P c
  | [], _ => ⟨[], rfl, fun _ h => nomatch h⟩
  | d :: r, h => by
    obtain ⟨c, rfl, hc⟩ := h d List.mem_cons_self
    obtain ⟨cs, rfl, h2⟩ := strs_of (fun d hd => h d (List.mem_cons_of_mem _ hd))
    exact ⟨c :: cs, rfl, fun a ha => by
      rcases List.mem_cons.mp ha with rfl | ha
      · exact hc
      · exact h2 a ha⟩
end DR

set_option maxRecDepth 100000
set_option maxHeartbeats 1000000
namespace DR
open PySem PySem.Spec L2
open PyProof.Rows hiding St
open Evl (Ex ex_l ex_t ex_rd)


/-! ### dicts with keys ints and texts: reading -/
theorem rep_dct {K : PySem.W.Frag} {H : Hp} {v : V} {ds : List (D × D)} (r : Rep K H v (.dict ds)) : ∃ a kvs, v = .ref a ∧ H a = some (.dK kvs) ∧ (kvs.map (·.1)).Nodup ∧ RepK K H kvs ds := by
  cases r with
  | dct h n a => exact ⟨_, _, rfl, h, n, a⟩
def lkD (ds : List (D × D)) (k : D) : Option D := match ds with
  | [] => none
  | (j, d) :: r => if PyData.eqv j k = true then some d else lkD r k
theorem RepK.look {K : PySem.W.Frag} {H : Hp} (k : Key) : ∀ {kvs : List (Key × V)} {ds : List (D × D)}, RepK K H kvs ds → (∀ d, lkD ds (kD k) = some d → ∃ v, valV kvs k = some v ∧ Rep K H v d) ∧ (lkD ds (kD k)).isSome = (valV kvs k).isSome
  | _, _, .nil => ⟨fun d h => (nomatch h), rfl⟩
  | _, _, .cons (k := j) (v := v) (d := d0) (vs := vs) (ds := ds) r t => by
    obtain ⟨h1, h2⟩ := RepK.look k t
    unfold lkD
    rw [eqv_key]
    by_cases e : j = k
    · rw [if_pos (decide_eq_true e), valV_pos (p := (j, v)) e]
      exact ⟨fun d h => by cases h; exact ⟨v, rfl, r⟩, rfl⟩
    · rw [if_neg (fun z => e (of_decide_eq_true z)), valV_neg (p := (j, v)) e]
      exact ⟨h1, h2⟩
def dgetD (ds : List (D × D)) (k : D) : Option D := if (keyD k).isSome = true then lkD ds k else none
def dinB (ds : List (D × D)) (k : D) : Option Bool := if (keyD k).isSome = true then some (lkD ds k).isSome else none
def ixA (d k : D) : Option D := match d with
  | .dict ds => dgetD ds k
  | d => ixD d k
def inA (k d : D) : Option D := match d with
  | .dict ds => (dinB ds k).map PyData.bool
  | d => inD k d
def notInA (k d : D) : Option D := match d with
  | .dict ds => (dinB ds k).map fun b => .bool (!b)
  | d => notInD k d
abbrev rDG : R2 := fun x y H Q => ∃ a v, x = .ref a ∧ DGet H a y (some v) ∧ Q v H
abbrev rDI : R2 := fun y x H Q => ∃ a o, x = .ref a ∧ DGet H a y o ∧ Q (.bl o.isSome) H
abbrev rDNI : R2 := fun y x H Q => ∃ a o, x = .ref a ∧ DGet H a y o ∧ Q (.bl (!o.isSome)) H
theorem ix_dict {X : Cx} (hu : X.A.units + 1 < cLine) : IxR X rDG := by
  intro value slice pins s σ H x y v u Q I rx ry h hs
  obtain ⟨a, w, rfl, g, q⟩ := h
  cases rx
  exact tail_any (dict_typeIs I g) slot_dict_getitem.lookup (d_getItem hu I g ry fun w' s3 I3 rw' => ⟨w, H, I3, rw', q⟩) hs
theorem op_din {X : Cx} (hu : X.A.units + 1 < cLine) : OpR X (compareOp .In) rDI := by
  intro pins s σ H y x u v Q I ry rx h
  obtain ⟨a, o, rfl, g, q⟩ := h
  cases rx
  exact d_in hu I g ry fun s3 I3 => ⟨.bl o.isSome, H, I3, rfl, q⟩
theorem op_dnotIn {X : Cx} (hu : X.A.units + 1 < cLine) : OpR X (compareOp .NotIn) rDNI := by
  intro pins s σ H y x u v Q I ry rx h
  obtain ⟨a, o, rfl, g, q⟩ := h
  cases rx
  exact d_notIn hu I g ry fun s3 I3 => ⟨.bl (!o.isSome), H, I3, rfl, q⟩
theorem hu1 {k : Nat} {A : Around} (hr : Room k A) : A.units + 1 < cLine := by
  have := hr.un
  omega
section
variable {K : PySem.W.Frag}
theorem dget_of {B H : Hp} (e : Ex B H) {a : Addr} {kvs : List (Key × V)} {k : Key} (h : B a = some (.dK kvs)) : DGet H a (kV k) (valV kvs k) := .k (e a _ h)
theorem key_of' {d : D} (h : (keyD d).isSome = true) : ∃ k, d = kD k := by
  cases d <;> first | (cases h; done) | exact ⟨.inl _, rfl⟩ | exact ⟨.inr _, rfl⟩
theorem rep_kD {H : Hp} {v : V} {k : Key} (r : Rep K H v (kD k)) : v = kV k := by
  cases k
  · exact rep_int r
  · exact rep_str r
theorem rd2_ixA : RD2 K (fun x y H Q => rIx K x y H Q ∨ rDG x y H Q) ixA := by
  intro x y dx dy dz B H e rx ry hg Q q
  cases dx with
  | dict ds =>
    obtain ⟨hk, hv⟩ : (keyD dy).isSome = true ∧ lkD ds dy = some dz := by
      have h : dgetD ds dy = some dz := hg
      unfold dgetD at h
      split at h
      · exact ⟨by assumption, h⟩
      · cases h
    obtain ⟨a, kvs, rfl, ha, _, rk⟩ := rep_dct rx
    obtain ⟨k, rfl⟩ := key_of' hk
    obtain ⟨v, h1, h2⟩ := (rk.look k).1 dz hv
    exact .inr ⟨a, v, rfl, by rw [rep_kD ry, ← h1]; exact dget_of e ha, q v B H (Pu.refl e) h2⟩
  | _ => exact .inl (rd2_ix x y _ dy dz B H e rx ry hg Q q)
theorem dinB_ok {ds : List (D × D)} {k : D} {b : Bool} (h : dinB ds k = some b) : (keyD k).isSome = true ∧ b = (lkD ds k).isSome := by
  obtain ⟨h1, h2⟩ := opt_if h
  exact ⟨h1, h2.symm⟩
theorem rd2_inA : RD2 K (fun x y H Q => rInA K x y H Q ∨ rDI x y H Q) inA := by
  intro x y dx dy dz B H e rx ry hg Q q
  cases dy with
  | dict ds =>
    obtain ⟨b, h1, rfl⟩ := Option.map_eq_some_iff.mp (show (dinB ds dx).map PyData.bool = some dz from hg)
    obtain ⟨hk, rfl⟩ := dinB_ok h1
    obtain ⟨a, kvs, rfl, ha, _, rk⟩ := rep_dct ry
    obtain ⟨k, rfl⟩ := key_of' hk
    refine .inr ⟨a, valV kvs k, rfl, by rw [rep_kD rx]; exact dget_of e ha, ?_⟩
    rw [← (rk.look k).2]
    exact q _ B H (Pu.refl e) (.bl _)
  | _ => exact .inl (rd2_in x y dx _ dz B H e rx ry hg Q q)
theorem rd2_notInA : RD2 K (fun x y H Q => rNotInA K x y H Q ∨ rDNI x y H Q) notInA := by
  intro x y dx dy dz B H e rx ry hg Q q
  cases dy with
  | dict ds =>
    obtain ⟨b, h1, rfl⟩ := Option.map_eq_some_iff.mp (show ((dinB ds dx).map fun b => PyData.bool (!b)) = some dz from hg)
    obtain ⟨hk, rfl⟩ := dinB_ok h1
    obtain ⟨a, kvs, rfl, ha, _, rk⟩ := rep_dct ry
    obtain ⟨k, rfl⟩ := key_of' hk
    refine .inr ⟨a, valV kvs k, rfl, by rw [rep_kD rx]; exact dget_of e ha, ?_⟩
    rw [← (rk.look k).2]
    exact q _ B H (Pu.refl e) (.bl _)
  | _ => exact .inl (rd2_notIn x y dx _ dz B H e rx ry hg Q q)
theorem op_inAA {X : Cx} (hu : X.A.units + 65 < cLine) : OpR X (compareOp .In) (fun x y H Q => rInA X.K x y H Q ∨ rDI x y H Q) := (op_inA hu).or (op_din (by omega))
theorem op_notInAA {X : Cx} (hu : X.A.units + 65 < cLine) : OpR X (compareOp .NotIn) (fun x y H Q => rNotInA X.K x y H Q ∨ rDNI x y H Q) := (op_notInA hu).or (op_dnotIn (by omega))
end
section
variable {X : Cx} {c : Cf} {ta tb : TE} {fa fb : DM D} {a b : Expr} {pos : Pos}
theorem pd_ixA (hu : X.A.units + 65 < cLine) (ha : PD X c a ta fa) (hb : PD X c b tb fb) (hs : PlainIx b := by exact fun _ _ => rfl) : PD X c (.Subscript a b pos) (tOp (fun x y H Q => rIx X.K x y H Q ∨ rDG x y H Q) ta tb) (dop ixA fa fb) := ⟨pe_ix (ix_seq.or (ix_dict (by omega))) ha.pe hb.pe hs, ev_op rd2_ixA ha.ev hb.ev⟩
end

/-! ### x.update(d): x a cell that is a dict -/
def rUpdK : V → List V → Hp → VK → Prop := fun x vs H Q => ∃ a b kvs more, x = .ref a ∧ vs = [.ref b] ∧ a ≠ b ∧ H a = some (.dK kvs) ∧ H b = some (.dK more) ∧ kvs.length + more.length ≤ sizeLine ∧ Q .non (upd H a (.dK (mergeK kvs more)))
theorem mt_update {X : Cx} : MtM X "dict.update" rUpdK := by
  intro pins s σ H x vs v us Q I rx rv h
  obtain ⟨a, b, kvs, more, rfl, rfl, hne, hA, hB, hz, q⟩ := h
  cases rx
  obtain ⟨u, rfl, ru⟩ := rv.one
  cases ru
  obtain ⟨z1, n1, ks, r1, d1⟩ := dk_of I.hok hA
  obtain ⟨z2, n2, ms, r2, d2⟩ := dk_of I.hok hB
  refine call_meetsIn PySem.F.slot_dict_update d1.typeIs PySem.F.entry_dict_update (PySem.F.args_dict_update_2 _ _) (meets_dict_update (mixKind X.prog X.w) a b hne n2)
    ⟨ks, ms, d1, d2, by rw [← r1.length, ← r2.length]; exact hz, fun h' dm _ hs => ?_⟩
  refine ⟨.non, _, ?_, rfl, q⟩
  have he : ∃ q, h'.get? a = some q := let ⟨q, _, _, hq, _⟩ := dm; ⟨q, hq⟩
  exact d_write (t' := s.toks) I (by rw [hA]; exact True.intro) hs he (dk_new (by have := length_mergeK more kvs; omega) n1 (r2.merge r1) dm)
def cellD (i : Nat) (st : DS) : Option (List (D × D)) := match st[i]? with
  | some (some (.dict ds)) => some ds
  | _ => none
def dupd (i : Nat) (fe : DM D) : DT := fun st => match cellD i st with
  | none => none
  | some _ => dexp fe (fun d st1 => match cellD i st1, d with
    | some ds, .dict es => if ds.length + es.length ≤ sizeLine then some (.nx (st1.set i (some (.dict (mergeD ds es))))) else none
    | _, _ => none) st
theorem cellD_some {st : DS} {i : Nat} {ds : List (D × D)} (h : cellD i st = some ds) : st[i]? = some (some (.dict ds)) := by
  unfold cellD at h
  split at h
  · rename_i e
    cases h
    exact e
  · cases h
theorem repO_dict {K : PySem.W.Frag} {B : Hp} {o : HO} {ds : List (D × D)} (h : RepO K B o (.dict ds)) : ∃ kvs, o = .dK kvs ∧ (kvs.map (·.1)).Nodup ∧ RepK K B kvs ds := by
  cases h with
  | dct n a => exact ⟨_, rfl, n, a⟩
theorem RepK.len {K : PySem.W.Frag} {H : Hp} : ∀ {kvs : List (Key × V)} {ds : List (D × D)}, RepK K H kvs ds → kvs.length = ds.length
  | _, _, .nil => rfl
  | _, _, .cons _ t => congrArg Nat.succ (RepK.len t)
section
variable {K : PySem.W.Frag} {c : Cs} {A A0 : Nat → Addr} {B0 H0 B : Hp} {σ : L2.St} {H : Hp} {st : DS}
theorem SR.cellDict (s : SR K c A A0 B0 H0 B σ H st) {i : Nat} {ds : List (D × D)} (hi : i ∈ c.cl) (h : cellD i st = some ds) : ∃ l kvs, σ[i]? = some (some (.ref l)) ∧ H l = some (.dK kvs) ∧ (kvs.map (·.1)).Nodup ∧ RepK K B kvs ds ∧ B l = none := by
  obtain ⟨l, o, q1, q2, q3, q4, _⟩ := s.cl i hi _ (cellD_some h)
  obtain ⟨kvs, rfl, n, ra⟩ := repO_dict q4
  exact ⟨l, kvs, q1, q3, n, ra, q2⟩
theorem ev_upd {i : Nat} {te : TE} {fe : DM D} (hi : i ∈ c.cl) (he : EvE K c (Rep K) te fe) : EvS K c (tDrop (tBM K "dict" rUpdK (tVar i) (tCons te tNil))) (dupd i fe) := fun A A0 B0 H0 B σ H st r s h De n b kk t x => by
  unfold dupd at h
  cases e0 : cellD i st with
  | none =>
    simp only [e0] at h
    cases h
  | some ds0 =>
    simp only [e0] at h
    obtain ⟨l, xs0, hs, hl0, _⟩ := s.cellDict hi e0
    refine ⟨_, hs, .inr (.inr (.inl ⟨rfl, .inl ⟨_, hl0⟩⟩)), ?_⟩
    cases ef : fe st with
    | none =>
      unfold dexp at h
      rw [ef] at h
      cases h
    | some ro =>
      refine he A A0 B0 H0 B σ H st ro s ef _ (fun d st1 v B1 H1 e1 s1 rv => ?_) (fun y fl st1 dx B1 H1 e1 fi1 fl1 => ?_)
      · subst e1
        rw [dexp_ok ef] at h
        cases e1 : cellD i st1 with
        | none =>
          simp only [e1] at h
          cases h
        | some ds =>
          simp only [e1] at h
          cases d <;> first | (cases h; done) | skip
          rename_i es
          obtain ⟨hz, rfl⟩ := opt_if (show (if ds.length + es.length ≤ sizeLine then some (Out.nx (st1.set i (some (.dict (mergeD ds es))))) else none) = some r from h)
          obtain ⟨l1, kvs, hs1, hl1, hn, ra, hbl⟩ := s1.cellDict hi e1
          rw [hs] at hs1
          cases hs1
          obtain ⟨b1, more, rfl, hb1, _, rb⟩ := rep_dct rv
          obtain ⟨m1, m2⟩ := RepK.merge rb hn ra
          exact ⟨l, b1, kvs, more, rfl, rfl, (fun z => by rw [← z, hbl] at hb1; cases hb1), hl1, s1.er.bh _ _ hb1, by rw [ra.len, rb.len]; exact hz, n _ B1 _ _ rfl (s1.updCell hi (cellD_some e1) hs (.dct m2 m1))⟩
      · subst e1
        unfold dexp at h
        rw [ef] at h
        exact x y fl st1 dx B1 H1 (Option.some.inj h).symm fi1 fl1
end
end DR

set_option maxRecDepth 100000
set_option maxHeartbeats 1000000
namespace DR
open PySem PySem.Spec L2
open PyProof.Rows hiding St
open Evl (Ex ex_l ex_t ex_rd)

theorem pds_upd {X : Cx} {c : Cs} {e : Expr} {te : TE} {fe : DM D} {pos : Pos} (i : Nat) {x : Str} {px apos cpos : Pos} (he : PDE X c e te fe) (h1 : i ∈ c.cl := by decide) (hN : X.N[i]? = some x := by rfl) (hv : Vis X.env.scope x := by first | exact Or.inl rfl | exact Or.inr (Or.inl rfl) | exact Or.inr (Or.inr rfl))
    (hd : (x == ("__debug__" : Str)) = false := by decide) (hcd : (x == ("__classdict__" : Str)) = false := by decide)
    (hbase : attributeBase (.Name x px) "update" X.env (eval (.Name x px) X.env) = eval (.Name x px) X.env := by rfl)
    (hfew : ((backTo cpos (starEach [e] X.env)).all (fun x => !x.1) && (backToKw cpos (keywordEach [] X.env)).all (fun x => x.1.isSome)
      && decide (([e] : List Expr).length + ([] : List Keyword).length + (if ([] : List Keyword).isEmpty then 0 else 1) < 30)) = true := by rfl)
    (hline : (apos.endLine == cpos.line) = true := by rfl) (hse : starEach [e] X.env = (false, eval e X.env) :: starEach [] X.env := by rfl) (hplain : (backTo cpos (starEach [] X.env)).any (·.1) = false := by rfl)
    (hs : swapsWith (.Call (.Attribute (.Name x px) "update" apos) [e] [] cpos) none pos.line X.env = pure false := by rfl) :
    PDS X c (.Expr (.Call (.Attribute (.Name x px) "update" apos) [e] [] cpos) pos) (tDrop (tBM X.K "dict" rUpdK (tVar i) (tCons te tNil))) (dupd i fe) :=
  ⟨ps_expr (pe_bm PySem.F.plainAttrs_dict PySem.F.slot_dict_update PySem.F.type_dict_update mt_update (pv i hN hv hd hcd) (pa_cons he.pe pa_nil hse) hbase hfew hline hse hplain) hs, ev_upd h1 he.ev⟩

/-! ### the module's own data: texts, numbers, tuples; a dict with text keys -/
mutual
def dataB (K : PySem.W.Frag) : D → Value → Bool
  | .none, .none => true
  | .bool b, .bool c => decide (b = c)
  | .int i, .int j _ => decide (i = j)
  | .str x, .str y _ => decide (x = y)
  | .tuple ds, .ref a => match K.lookup a with
    | some ⟨.type c, _, .seq its _, _⟩ => decide (c = "tuple") && (decide (its.size ≤ sizeLine) && dataAll K ds its.toList)
    | _ => false
  | _, _ => false
def dataAll (K : PySem.W.Frag) : List D → List Value → Bool
  | [], [] => true
  | d :: ds, u :: us => dataB K d u && dataAll K ds us
  | _, _ => false
end
theorem ba2 {a b : Bool} (h : (a && b) = true) : a = true ∧ b = true := Bool.and_eq_true_iff.mp h
mutual
theorem dataB_ok {K : PySem.W.Frag} : ∀ {d : D} {u : Value}, dataB K d u = true → ∃ v, RelV v u ∧ ∀ H, Rep K H v d
  | .none, u, h => by
    cases u <;> first | (cases h; done) | skip
    exact ⟨.non, rfl, fun _ => .non⟩
  | .bool b, u, h => by
    cases u <;> first | (cases h; done) | skip
    rename_i c
    have e : b = c := of_decide_eq_true h
    exact ⟨.bl b, by rw [e]; rfl, fun _ => .bl b⟩
  | .int b, u, h => by
    cases u <;> first | (cases h; done) | skip
    rename_i c t
    have e : b = c := of_decide_eq_true h
    exact ⟨.int b, ⟨t, by rw [e]⟩, fun _ => .int b⟩
  | .str b, u, h => by
    cases u <;> first | (cases h; done) | skip
    rename_i c t
    have e : b = c := of_decide_eq_true h
    exact ⟨.str b, ⟨t, by rw [e]⟩, fun _ => .str b⟩
  | .tuple ds, u, h => by
    cases u <;> first | (cases h; done) | skip
    rename_i a
    unfold dataB at h
    split at h
    · rename_i c od its n osl q
      obtain ⟨h1, h2⟩ := ba2 h
      obtain ⟨h3, h4⟩ := ba2 h2
      obtain ⟨vs, r, e⟩ := dataAll_ok h4
      exact ⟨.ref a, rfl, fun H => .tup (.inr ⟨_, its, n, q, congrArg Value.type (of_decide_eq_true h1), rfl, of_decide_eq_true h3, r⟩) (e H)⟩
    · cases h
  | .list _, u, h => by cases u <;> cases h
  | .dict _, u, h => by cases u <;> cases h
theorem dataAll_ok {K : PySem.W.Frag} : ∀ {ds : List D} {us : List Value}, dataAll K ds us = true → ∃ vs, Vals vs us ∧ ∀ H, RepA K H vs ds
  | [], [], _ => ⟨[], .nil, fun _ => .nil⟩
  | d :: ds, u :: us, h => by
    unfold dataAll at h
    obtain ⟨h1, h2⟩ := ba2 h
    obtain ⟨v, r, e⟩ := dataB_ok h1
    obtain ⟨vs, r2, e2⟩ := dataAll_ok h2
    exact ⟨v :: vs, .cons r r2, fun H => .cons (e H) (e2 H)⟩
  | [], _ :: _, h => by simp [dataAll] at h
  | _ :: _, [], h => by simp [dataAll] at h
end
/-- the module's name x is this datum -/
def gloB (K : PySem.W.Frag) (x : Str) (d : D) : Bool := match PySem.W.nsIn K mainGlobals x with
  | some (some u) => dataB K d u
  | _ => false
def gV (K : PySem.W.Frag) (x : Str) : D → V
  | .none => .non
  | .bool b => .bl b
  | .int i => .int i
  | .str z => .str z
  | _ => .ref (He.ga K x)
def GloD (K : PySem.W.Frag) (mg : Str → Option Value) (x : Str) (d : D) : Prop := ∃ u, mg x = some u ∧ RelV (gV K x d) u ∧ ∀ H, Rep K H (gV K x d) d
theorem gloB_ok {K : PySem.W.Frag} {h : Heap} {mg : Str → Option Value} {x : Str} {d : D} (X : K.In h) (G : h.Ns mainGlobals mg) (c : gloB K x d = true) : GloD K mg x d := by
  unfold gloB at c
  cases e : PySem.W.nsIn K mainGlobals x with
  | none =>
    rw [e] at c
    cases c
  | some r =>
    rw [e] at c
    cases r with
    | none => cases c
    | some u =>
      obtain ⟨v, r, q⟩ := dataB_ok c
      have ev : v = gV K x d := by
        have q0 := q fun _ => none
        cases q0 <;> first | rfl | skip
        · cases r
          simp [gV, He.ga, e]
        · cases r
          simp [gV, He.ga, e]
        · cases r
          simp [gV, He.ga, e]
      rw [ev] at r q
      exact ⟨u, PySem.W.mg_of X G e, r, q⟩
/-- .. a dict with these text keys and data, told at every text -/
def tabB (K : PySem.W.Frag) (x : Str) (tab : List (Str × D)) : Bool := eqOA (PySem.W.nsIn K mainGlobals x) (He.ga K x) && match K.lookup (He.ga K x) with
  | some ⟨_, _, .dict es _, _⟩ => tabE K es.toList tab
  | _ => false
where
  eqOA (o : Option (Option Value)) (a : Addr) : Bool := decide (o = some (some (.ref a)))
  tabE (K : PySem.W.Frag) : List DictEntry → List (Str × D) → Bool
    | [], [] => true
    | e :: es, (k, d) :: r => (match e.key with
      | .str y _ => decide (y = k)
      | _ => false) && dataB K d e.val && tabE K es r
    | _, _ => false
theorem tabE_ok {K : PySem.W.Frag} (z : Str) : ∀ {es : List DictEntry} {tab : List (Str × D)}, tabB.tabE K es tab = true →
    (match es.find? (·.key.isStr z) with
      | some e => some (some e.val)
      | none => if es.any (·.refKey) then none else some (none : Option Value)) = some none ∧ tab.lookup z = none ∨
    ∃ u d, (match es.find? (·.key.isStr z) with
      | some e => some (some e.val)
      | none => if es.any (·.refKey) then none else some (none : Option Value)) = some (some u) ∧ tab.lookup z = some d ∧ dataB K d u = true
  | [], [], _ => .inl ⟨rfl, rfl⟩
  | e :: es, (k, d) :: r, h => by
    unfold tabB.tabE at h
    obtain ⟨h1, h3⟩ := ba2 h
    obtain ⟨h1, h2⟩ := ba2 h1
    cases ek : e.key with
    | str y t =>
      rw [ek] at h1
      have ey : y = k := of_decide_eq_true h1
      subst ey
      by_cases ez : z = y
      · subst ez
        refine .inr ⟨e.val, d, ?_, ?_, h2⟩
        · rw [List.find?_cons, ek]
          have : (Value.str z t).isStr z = true := by simp [Value.isStr]
          rw [this]
        · rw [List.lookup_cons]
          simp
      · have e1 : (e.key.isStr z) = false := by
          rw [ek]
          simp [Value.isStr]
          exact fun h => ez h.symm
        have e2 : e.refKey = false := by
          unfold DictEntry.refKey
          rw [ek]
        rw [List.find?_cons, e1, List.any_cons, e2, Bool.false_or, List.lookup_cons]
        have e3 : (z == y) = false := by simpa using ez
        rw [e3]
        exact tabE_ok z h3
    | _ =>
      rw [ek] at h1
      cases h1
  | [], _ :: _, h => by simp [tabB.tabE] at h
  | _ :: _, [], h => by simp [tabB.tabE] at h
/-- the module's name x is a dict with these text keys -/
def TabD (K : PySem.W.Frag) (w : World) (mg : Str → Option Value) (x : Str) (tab : List (Str × D)) : Prop := ∃ (es : Array DictEntry) (n : Nat), mg x = some (.ref (He.ga K x)) ∧ KDict K w (He.ga K x) es n ∧
  ∀ z, (PySem.W.nsIn K (He.ga K x) z = some none ∧ tab.lookup z = none) ∨ ∃ u d, PySem.W.nsIn K (He.ga K x) z = some (some u) ∧ tab.lookup z = some d ∧ dataB K d u = true
theorem tabB_ok {K : PySem.W.Frag} {w : World} {h : Heap} {mg : Str → Option Value} {x : Str} {tab : List (Str × D)} {es : Array DictEntry} {n : Nat} (X : K.In h) (G : h.Ns mainGlobals mg) (c : tabB K x tab = true) (D : KDict K w (He.ga K x) es n) : TabD K w mg x tab := by
  unfold tabB at c
  obtain ⟨c1, c2⟩ := ba2 c
  refine ⟨es, n, PySem.W.mg_of X G (of_decide_eq_true c1), D, fun z => ?_⟩
  rw [D.at_] at c2
  have := tabE_ok z (K := K) c2
  unfold PySem.W.nsIn
  rw [D.at_]
  exact this
/-! the words -/
def gixD (tab : List (Str × D)) : D → Option D
  | .str z => tab.lookup z
  | _ => none
def ginD (tab : List (Str × D)) : D → Option D
  | .str z => some (.bool (tab.lookup z).isSome)
  | _ => none
def gnotInD (tab : List (Str × D)) : D → Option D
  | .str z => some (.bool (!(tab.lookup z).isSome))
  | _ => none
section
variable {X : Cx} {c : Cf} {tb : TE} {fb : DM D} {b : Expr} {pos p1 : Pos} {x : Str} {tab : List (Str × D)}
theorem pd_globD {d : D} (hg : Gl X x) (hm : GloD X.K X.mg x d) (hd : (x == ("__debug__" : Str)) = false := by decide) : PD X c (.Name x pos) (tC (gV X.K x d)) (DM.pure d) := by
  obtain ⟨u, h1, h2, h3⟩ := hm
  exact pd_glob hg h1 h2 (fun H => h3 H) hd
theorem pe_gtab (hg : Gl X x) (T : TabD X.K X.w X.mg x tab) (hd : (x == ("__debug__" : Str)) = false := by decide) : PE X (.Name x pos) (tC (.ref (He.ga X.K x))) := by
  obtain ⟨es, n, h1, _⟩ := T
  exact pe_glob hg h1 rfl hd
theorem ev_gix {K : PySem.W.Frag} {w : World} {mg : Str → Option Value} (T : TabD K w mg x tab) (hb : EvD K c tb fb) : EvD K c (tOp (rIxD K w) (tC (.ref (He.ga K x))) tb) (dun (gixD tab) fb) :=
  EvP.bind (relA := Rep K) (relC := Rep K) (tk := fun y _ H Q => rIxD K w (.ref (He.ga K x)) y H Q) mono_true hb fun y dy => EvP.val (t := fun H Q => rIxD K w (.ref (He.ga K x)) y H Q) fun B H dz e p h Q q => by
    obtain ⟨es, n, _, D, hT⟩ := T
    cases dy <;> first | (cases h; done) | skip
    rename_i z
    rcases hT z with ⟨_, h2⟩ | ⟨u, d, h1, h2, h3⟩
    · rw [show gixD tab (.str z) = tab.lookup z from rfl, h2] at h
      cases h
    · rw [show gixD tab (.str z) = tab.lookup z from rfl, h2] at h
      cases h
      obtain ⟨v, r, q3⟩ := dataB_ok h3
      exact ⟨_, z, v, rfl, rep_str p.2, ⟨es, n, u, D.at_, D.lit, h1, r⟩, q v B H (Pu.refl e) (q3 B)⟩
theorem pd_gix (hg : Gl X x) (T : TabD X.K X.w X.mg x tab) (hb : PD X c b tb fb) (hs : PlainIx b := by exact fun _ _ => rfl) (hd : (x == ("__debug__" : Str)) = false := by decide) : PD X c (.Subscript (.Name x p1) b pos) (tOp (rIxD X.K X.w) (tC (.ref (He.ga X.K x))) tb) (dun (gixD tab) fb) :=
  ⟨pe_ix ix_kdict (pe_gtab hg T hd) hb.pe hs, ev_gix T hb.ev⟩
abbrev rGin (K : PySem.W.Frag) (d : Addr) : R2 := fun x y H Q => ∃ (z : Str) (r : Option Value), x = .str z ∧ y = .ref d ∧ PySem.W.nsIn K d z = some r ∧ Q (.bl r.isSome) H
abbrev rGnin (K : PySem.W.Frag) (d : Addr) : R2 := fun x y H Q => ∃ (z : Str) (r : Option Value), x = .str z ∧ y = .ref d ∧ PySem.W.nsIn K d z = some r ∧ Q (.bl (!r.isSome)) H
theorem ev_gin {K : PySem.W.Frag} {w : World} {mg : Str → Option Value} (T : TabD K w mg x tab) (hb : EvD K c tb fb) : EvD K c (tOp (rGin K (He.ga K x)) tb (tC (.ref (He.ga K x)))) (dun (ginD tab) fb) :=
  EvP.bind (relA := Rep K) (relC := Rep K) (tk := fun y _ H Q => rGin K (He.ga K x) y (.ref (He.ga K x)) H Q) mono_true hb fun y dy => EvP.val (t := fun H Q => rGin K (He.ga K x) y (.ref (He.ga K x)) H Q) fun B H dz e p h Q q => by
    obtain ⟨es, n, _, D, hT⟩ := T
    cases dy <;> first | (cases h; done) | skip
    rename_i z
    cases h
    rcases hT z with ⟨h1, h2⟩ | ⟨u, d, h1, h2, h3⟩
    · exact ⟨z, none, rep_str p.2, rfl, h1, q _ B H (Pu.refl e) (by rw [h2]; exact .bl false)⟩
    · exact ⟨z, some u, rep_str p.2, rfl, h1, q _ B H (Pu.refl e) (by rw [h2]; exact .bl true)⟩
theorem ev_gnin {K : PySem.W.Frag} {w : World} {mg : Str → Option Value} (T : TabD K w mg x tab) (hb : EvD K c tb fb) : EvD K c (tOp (rGnin K (He.ga K x)) tb (tC (.ref (He.ga K x)))) (dun (gnotInD tab) fb) :=
  EvP.bind (relA := Rep K) (relC := Rep K) (tk := fun y _ H Q => rGnin K (He.ga K x) y (.ref (He.ga K x)) H Q) mono_true hb fun y dy => EvP.val (t := fun H Q => rGnin K (He.ga K x) y (.ref (He.ga K x)) H Q) fun B H dz e p h Q q => by
    obtain ⟨es, n, _, D, hT⟩ := T
    cases dy <;> first | (cases h; done) | skip
    rename_i z
    cases h
    rcases hT z with ⟨h1, h2⟩ | ⟨u, d, h1, h2, h3⟩
    · exact ⟨z, none, rep_str p.2, rfl, h1, q _ B H (Pu.refl e) (by rw [h2]; exact .bl true)⟩
    · exact ⟨z, some u, rep_str p.2, rfl, h1, q _ B H (Pu.refl e) (by rw [h2]; exact .bl false)⟩
theorem op_gin (T : TabD X.K X.w X.mg x tab) : OpR X (compareOp .In) (rGin X.K (He.ga X.K x)) := by
  obtain ⟨es, n, _, D, _⟩ := T
  exact op_in_kd D
theorem op_gnin (T : TabD X.K X.w X.mg x tab) : OpR X (compareOp .NotIn) (rGnin X.K (He.ga X.K x)) := by
  obtain ⟨es, n, _, D, _⟩ := T
  exact op_notIn_kd D
theorem pd_gin (hg : Gl X x) (T : TabD X.K X.w X.mg x tab) (hb : PD X c b tb fb) (hd : (x == ("__debug__" : Str)) = false := by decide) (hm : behindInMarks .In (.Name x p1) = false := by first | exact nomark _ | rfl) : PD X c (.Compare b [.In] [.Name x p1] pos) (tOp (rGin X.K (He.ga X.K x)) tb (tC (.ref (He.ga X.K x)))) (dun (ginD tab) fb) :=
  ⟨pe_cmpR (op_gin T) hb.pe (pe_gtab hg T hd) hm, ev_gin T hb.ev⟩
theorem pd_gnin (hg : Gl X x) (T : TabD X.K X.w X.mg x tab) (hb : PD X c b tb fb) (hd : (x == ("__debug__" : Str)) = false := by decide) (hm : behindInMarks .NotIn (.Name x p1) = false := by first | exact nomark _ | rfl) : PD X c (.Compare b [.NotIn] [.Name x p1] pos) (tOp (rGnin X.K (He.ga X.K x)) tb (tC (.ref (He.ga X.K x)))) (dun (gnotInD tab) fb) :=
  ⟨pe_cmpR (op_gnin T) hb.pe (pe_gtab hg T hd) hm, ev_gnin T hb.ev⟩
theorem pdt_gin (hg : Gl X x) (T : TabD X.K X.w X.mg x tab) (hb : PD X c b tb fb) (hd : (x == ("__debug__" : Str)) = false := by decide) (hm : behindInMarks .In (.Name x p1) = false := by first | exact nomark _ | rfl) : PDT X c (.Compare b [.In] [.Name x p1] pos) (tTest (tOp (rGin X.K (He.ga X.K x)) tb (tC (.ref (He.ga X.K x))))) (dtest (dun (ginD tab) fb)) :=
  ⟨pt_cmpR (op_gin T) hb.pe (pe_gtab hg T hd) hm, ev_test (ev_gin T hb.ev)⟩
theorem pdt_gnin (hg : Gl X x) (T : TabD X.K X.w X.mg x tab) (hb : PD X c b tb fb) (hd : (x == ("__debug__" : Str)) = false := by decide) (hm : behindInMarks .NotIn (.Name x p1) = false := by first | exact nomark _ | rfl) : PDT X c (.Compare b [.NotIn] [.Name x p1] pos) (tTest (tOp (rGnin X.K (He.ga X.K x)) tb (tC (.ref (He.ga X.K x))))) (dtest (dun (gnotInD tab) fb)) :=
  ⟨pt_cmpR (op_gnin T) hb.pe (pe_gtab hg T hd) hm, ev_test (ev_gnin T hb.ev)⟩
end
end DR

set_option maxRecDepth 100000
set_option maxHeartbeats 1000000
namespace DR
open PySem PySem.Spec L2
open PyProof.Rows hiding St
open Evl (Ex ex_l ex_t ex_rd)

/-! ### zip of two: lists, tuples, texts -/
inductive Sk where
  | lst (a : Addr)
  | tup (a : Addr)
  | txt (x : Str) (tk : Tok)
def Sk.has (K : PySem.W.Frag) (H : Hp) : Sk → List V → Prop
  | .lst a, xs => SqL K H a xs
  | .tup a, xs => SqT K H a xs
  | .txt x _, xs => xs = x.cps.toList.map fun c => V.str ⟨#[c]⟩
def Sk.on (i : Addr) : Sk → Nat → Heap → Prop
  | .lst a, k, h => h.IsListIter i a k
  | .tup a, k, h => h.IsTupleIter i a k
  | .txt x t, k, h => h.IsStrIter i (strIterType x) x t k
def Sk.off (c : Addr) : Sk → Prop
  | .lst a => a ≠ c
  | .tup a => a ≠ c
  | .txt _ _ => True
def Sk.fp (i : Addr) : Sk → List Addr
  | .lst a => [i, a]
  | .tup a => [i, a]
  | .txt _ _ => [i]
theorem Sk.fp_mem {i c : Addr} {k : Sk} (h : c ∈ k.fp i) (hc : c ≠ i) : ¬ k.off c := by
  cases k <;> simp [Sk.fp] at h <;> simp [Sk.off]
  · exact (h.resolve_left hc).symm
  · exact (h.resolve_left hc).symm
  · exact hc h
theorem vals_back : ∀ {xs : List V} {us : List Value} {j : Nat} {u : Value}, Vals xs us → us[j]? = some u → ∃ x, xs[j]? = some x ∧ RelV x u
  | _, _, _, _, .nil, e => by simp at e
  | _, _, 0, _, .cons r _, e => by
    simp at e
    subst e
    exact ⟨_, rfl, r⟩
  | _, _, j + 1, u, .cons _ t, e => by
    obtain ⟨x, h1, h2⟩ := vals_back (j := j) (u := u) t (by simpa using e)
    exact ⟨x, by simpa using h1, h2⟩
theorem draws_thin {prog : Program} {w : World} {A : Around} {it : Addr} {fp : List Addr} {n : Nat} {P : Nat → Value → Prop} {S : Nat → Heap → Prop} (D : Draws prog w A it fp n P S) : Draws prog w A it fp n P fun j h => S j h ∧ True where
  live := fun i h st => D.live i h st.1
  frame := fun i h h' st k => ⟨D.frame i h h' st.1 k, trivial⟩
  item := fun i s Q E hi st hQ => D.item i s Q E hi st.1 fun x h' tk p q b => hQ x h' tk p ⟨q, trivial⟩ b
  done := fun s Q E st hE => D.done s Q E st.1 hE
theorem Sk.draws {X : Cx} {pins : List (Addr × Obj)} {σ : L2.St} {H : Hp} {s : Shared} (I : Inv X pins σ H s) (hh : X.A.in1.handled = none) {k : Sk} {xs : List V} (h : k.has X.K H xs) (i : Addr) (hi : k.off i) :
    ∃ (n : Nat) (P : Nat → Value → Prop) (Hold : Heap → Prop), n = xs.length ∧ Hold s.heap ∧ (∀ j u, P j u → ∃ x, xs[j]? = some x ∧ RelV x u) ∧ Draws X.prog X.w X.A.in1 i (k.fp i) n P fun j h => k.on i j h ∧ Hold h := by
  cases k with
  | lst a =>
    obtain ⟨us, rv, p, _⟩ := I.list h
    exact ⟨us.toArray.size, fun j u => us.toArray[j]? = some u, fun h => h.IsList a us.toArray, by rw [List.size_toArray, rv.length], p.isList, fun j u e => vals_back rv (by simpa using e), .list hh i a hi us.toArray⟩
  | tup a =>
    obtain ⟨us, rv, p, _⟩ := I.tuple h
    exact ⟨us.toArray.size, fun j u => us.toArray[j]? = some u, fun h => h.IsTuple a us.toArray, by rw [List.size_toArray, rv.length], p, fun j u e => vals_back rv (by simpa using e), .tuple hh i a hi us.toArray⟩
  | txt x t =>
    refine ⟨x.cps.size, _, fun _ => True, ?_, trivial, ?_, draws_thin (Draws.text hh i x t)⟩
    · rw [show xs = x.cps.toList.map fun c => V.str ⟨#[c]⟩ from h, List.length_map, Array.length_toList]
    · rintro j u ⟨c, tk, e, rfl⟩
      refine ⟨.str ⟨#[c]⟩, ?_, tk, rfl⟩
      rw [show xs = x.cps.toList.map fun c => V.str ⟨#[c]⟩ from h, List.getElem?_map, Array.getElem?_toList, e]
      rfl
theorem Sk.has_inj {X : Cx} {pins : List (Addr × Obj)} {σ : L2.St} {H : Hp} {s : Shared} (I : Inv X pins σ H s) {k : Sk} {xs ys : List V} (h : k.has X.K H xs) (h' : k.has X.K H ys) : xs = ys := by
  cases k with
  | lst a => exact I.list_inj h h'
  | tup a => exact I.tuple_inj h h'
  | txt x t => exact Eq.trans h (Eq.symm h')
theorem Sk.on_get {i : Addr} {k : Sk} {j : Nat} {h : Heap} (st : k.on i j h) : ∃ o, h.get? i = some o ∧ ∀ v, o.data ≠ .cell v := by
  cases k with
  | lst a =>
    obtain ⟨o, e, _, d⟩ := st
    exact ⟨o, e, fun v q => by rw [d] at q; cases q⟩
  | tup a =>
    obtain ⟨o, e, _, d⟩ := st
    exact ⟨o, e, fun v q => by rw [d] at q; cases q⟩
  | txt x t =>
    obtain ⟨o, e, _, d⟩ := st
    exact ⟨o, e, fun v q => by rw [d] at q; cases q⟩
theorem Sk.on_keep {i : Addr} {k : Sk} {j : Nat} {h h' : Heap} (st : k.on i j h) (q : ∀ o, h.get? i = some o → h'.get? i = some o) : k.on i j h' := by
  cases k with
  | lst a =>
    obtain ⟨o, e, r⟩ := st
    exact ⟨o, q o e, r⟩
  | tup a =>
    obtain ⟨o, e, r⟩ := st
    exact ⟨o, q o e, r⟩
  | txt x t =>
    obtain ⟨o, e, r⟩ := st
    exact ⟨o, q o e, r⟩
/-- pairs of what the two sources hold, each a new tuple -/
def ItzG (K : PySem.W.Frag) (k1 k2 : Sk) : It where
  go := fun j H => ∃ xs ys, k1.has K H xs ∧ k2.has K H ys ∧ j < xs.length ∧ j < ys.length
  yld := fun j H v H' => ∃ p x y, v = .ref p ∧ H p = none ∧ H' = upd H p (.tup [x, y]) ∧ (∀ xs, k1.has K H xs → xs[j]? = some x) ∧ ∀ ys, k2.has K H ys → ys[j]? = some y
  stop := fun j H => ∃ xs ys, k1.has K H xs ∧ k2.has K H ys ∧ j = min xs.length ys.length
structure Apart5 (z ti to_ i1 i2 : Addr) (k1 k2 : Sk) : Prop where
  sep : ZipSep2 z ti to_ i1 i2 (k1.fp i1) (k2.fp i2)
  o1 : k1.off i1
  o2 : k2.off i2
def tnG (z ti to_ i1 i2 : Addr) (k1 k2 : Sk) (j : Nat) (h : Heap) : Prop := IsZip h z ti to_ .none ∧ IsTupOf2 h ti (.ref i1) (.ref i2) ∧ (∃ u v, IsTupOf2 h to_ u v) ∧ k1.on i1 j h ∧ k2.on i2 j h
theorem turn_zipG {P : Program} {w : World} {K : PySem.W.Frag} {elts : List Expr} {kk : Nat} {tpos : Pos} {z ti to_ i1 i2 : Addr} {k1 k2 : Sk} (D : Apart5 z ti to_ i1 i2 k1 k2) :
    Turn P w K (.Tuple elts kk tpos) (ItzG K k1 k2) [z, ti, to_, i1, i2] z (tnG z ti to_ i1 i2 k1 k2) where
  mem := List.mem_cons_self
  obj := fun j h st c hc => by
    obtain ⟨g1, g2, ⟨u, v, g3⟩, g4, g5⟩ := st
    simp only [List.mem_cons, List.not_mem_nil, or_false] at hc
    rcases hc with rfl | rfl | rfl | rfl | rfl
    · exact ⟨_, g1, fun v q => nomatch q⟩
    · exact ⟨_, g2, fun v q => nomatch q⟩
    · exact ⟨_, g3, fun v q => nomatch q⟩
    · exact Sk.on_get g4
    · exact Sk.on_get g5
  keep := fun j h h' st k => by
    obtain ⟨g1, g2, ⟨u, v, g3⟩, g4, g5⟩ := st
    exact ⟨k _ (by simp) _ g1, k _ (by simp) _ g2, ⟨u, v, k _ (by simp) _ g3⟩, Sk.on_keep g4 fun o q => k _ (by simp) o q, Sk.on_keep g5 fun o q => k _ (by simp) o q⟩
  item := by
    intro X hP hw hK hc j pins s σ H E I hf st hg
    subst hP hw hK
    obtain ⟨g1, g2, g3, g4, g5⟩ := st
    obtain ⟨xs, ys, hx, hy, l1, l2⟩ := hg
    obtain ⟨n1, P1, S1, e1, q1, r1, D1⟩ := k1.draws I (I.ok.hd hc) hx i1 D.o1
    obtain ⟨n2, P2, S2, e2, q2, r2, D2⟩ := k2.draws I (I.ok.hd hc) hy i2 D.o2
    have W := WalksT.zipD2 D.sep D1 D2
    refine W.item j s _ _ (by omega) ⟨g1, g2, g3, ⟨g4, q1⟩, g5, q2⟩ fun T vals h' tk hv hT hTup hm fr => ?_
    obtain ⟨u1, u2, p1, p2, rfl⟩ := hv
    obtain ⟨x, hx1, rx⟩ := r1 j u1 p1
    obtain ⟨y, hy1, ry⟩ := r2 j u2 p2
    refine ⟨_, rfl, W.go elts kk tpos j T { s with heap := h', toks := tk } _ _ hm fun h'' st2 fr2 => ?_⟩
    have hTw := W.apart j T h' hm
    have ch : ∀ b ∈ [z, to_, i1, i2], FpOk X pins H b := fun b hb => hf b (by
      simp only [List.mem_cons, List.not_mem_nil, or_false] at hb ⊢
      rcases hb with h | h | h | h <;> simp [h])
    have hT2 : h''.IsTuple T #[u1, u2] := by
      obtain ⟨o, e, r⟩ := hTup
      exact ⟨o, fr2 T o hTw e, r⟩
    have new : ObjOk X.prog X.w (upd H T (.tup [x, y])) h'' T (.tup [x, y]) := ⟨by show 2 ≤ sizeLine; decide, [u1, u2], .cons rx (.cons ry .nil), hT2⟩
    have I1 := I.turnedNew (t' := tk) (ch := [z, to_, i1, i2]) (fun b o hb e => fr2 b o hb (fr b o hb e)) ch hT new
    obtain ⟨a1, a2, a3, a4, a5⟩ := st2
    have hn : H T = none := I.hok.fresh hT
    refine ⟨.ref T, _, I1, rfl, ⟨T, x, y, rfl, hn, rfl, fun l hl => by rw [Sk.has_inj I hl hx]; exact hx1, fun l hl => by rw [Sk.has_inj I hl hy]; exact hy1⟩, ⟨a1, a2, a3, a4.1, a5.1⟩, fun b hb => ?_⟩
    have hlt : b < s.heap.objs.size := by
      have : ∃ o, s.heap.get? b = some o := by
        simp only [List.mem_cons, List.not_mem_nil, or_false] at hb
        obtain ⟨u, v, g3⟩ := g3
        rcases hb with rfl | rfl | rfl | rfl | rfl
        · exact ⟨_, g1⟩
        · exact ⟨_, g2⟩
        · exact ⟨_, g3⟩
        · obtain ⟨o, e, _⟩ := Sk.on_get g4
          exact ⟨o, e⟩
        · obtain ⟨o, e, _⟩ := Sk.on_get g5
          exact ⟨o, e⟩
      obtain ⟨o, e⟩ := this
      exact Heap.lt_size e
    rw [upd_ne (Nat.ne_of_lt (Nat.lt_of_lt_of_le hlt hT))]
    exact (hf b hb).1
  done := by
    intro X hP hw hK hc j pins s σ H E I hf st hg
    subst hP hw hK
    obtain ⟨g1, g2, g3, g4, g5⟩ := st
    obtain ⟨xs, ys, hx, hy, l1⟩ := hg
    obtain ⟨n1, P1, S1, e1, q1, r1, D1⟩ := k1.draws I (I.ok.hd hc) hx i1 D.o1
    obtain ⟨n2, P2, S2, e2, q2, r2, D2⟩ := k2.draws I (I.ok.hd hc) hy i2 D.o2
    have W := WalksT.zipD2 D.sep D1 D2
    have e : j = min n1 n2 := by rw [e1, e2]; exact l1
    subst e
    have ch : ∀ b ∈ [z, to_, i1, i2], FpOk X pins H b := fun b hb => hf b (by
      simp only [List.mem_cons, List.not_mem_nil, or_false] at hb ⊢
      rcases hb with h | h | h | h <;> simp [h])
    exact W.done s _ _ ⟨g1, g2, g3, ⟨g4, q1⟩, g5, q2⟩ fun h' tk fr => ⟨rfl, I.turnedL (t' := tk) (ch := [z, to_, i1, i2]) fr ch⟩
  self := fun A j s Q E st h => wpAny_pyIter_zip st.1 h
/-- what a value is to zip -/
def SkV (K : PySem.W.Frag) (H : Hp) (v : V) (f : Nat → Sk) (xs : List V) : Prop :=
  (∃ a, v = .ref a ∧ (f = fun _ => .lst a) ∧ SqL K H a xs) ∨ (∃ a, v = .ref a ∧ (f = fun _ => .tup a) ∧ SqT K H a xs) ∨ ∃ x, v = .str x ∧ (f = fun t => .txt x t) ∧ xs = x.cps.toList.map fun c => V.str ⟨#[c]⟩
theorem SkV.begin_ {X : Cx} {pins : List (Addr × Obj)} {σ : L2.St} {H : Hp} {s : Shared} (I : Inv X pins σ H s) {v : V} {f : Nat → Sk} {xs : List V} {u : Value} (h : SkV X.K H v f xs) (r : RelV v u) :
    ∃ (tk : Nat) (o : Obj) (B : Heap → Prop), Begins u o B ∧ B s.heap ∧ (∀ i h', h'.get? i = some o → (f tk).on i 0 h') ∧ ∀ c, s.heap.objs.size ≤ c → (f tk).off c := by
  rcases h with ⟨a, rfl, rfl, h⟩ | ⟨a, rfl, rfl, h⟩ | ⟨x, rfl, rfl, h⟩
  · cases r
    obtain ⟨us, rv, p, _⟩ := I.list h
    exact ⟨0, _, _, begins_list a us.toArray, p.isList, fun i h' e => ⟨_, e, rfl, rfl⟩, fun c hc => Nat.ne_of_lt (Nat.lt_of_lt_of_le p.lt hc)⟩
  · cases r
    obtain ⟨us, rv, p, _⟩ := I.tuple h
    obtain ⟨o, ho, _⟩ := id p
    exact ⟨0, _, _, begins_tuple a us.toArray, p, fun i h' e => ⟨_, e, rfl, rfl⟩, fun c hc => Nat.ne_of_lt (Nat.lt_of_lt_of_le (Heap.lt_size ho) hc)⟩
  · obtain ⟨t, rfl⟩ := r
    exact ⟨t, _, _, begins_text x t, trivial, fun i h' e => ⟨_, e, rfl, rfl⟩, fun c hc => trivial⟩
def iZipG (K : PySem.W.Frag) (ta : TA) : TI := fun σ H R => ta σ H fun vs H1 => ∃ v1 v2 f1 f2 xs ys, vs = [v1, v2] ∧ SkV K H1 v1 f1 xs ∧ SkV K H1 v2 f2 ys ∧ ∀ t1 t2, R (ItzG K (f1 t1) (f2 t2)) H1
theorem apart_new {n : Nat} {k1 k2 : Sk} (h1 : ∀ c, n ≤ c → k1.off c) (h2 : ∀ c, n ≤ c → k2.off c) : Apart5 (n + 4) (n + 2) (n + 3) n (n + 1) k1 k2 where
  sep := by
    have m1 : ∀ c, n ≤ c → c ≠ n → c ∉ k1.fp n := fun c hc hne hm => Sk.fp_mem hm hne (h1 c hc)
    have m2 : ∀ c, n ≤ c → c ≠ n + 1 → c ∉ k2.fp (n + 1) := fun c hc hne hm => Sk.fp_mem hm hne (h2 c hc)
    refine ⟨show (n + 2 : Nat) ≠ n + 4 by omega, show (n + 3 : Nat) ≠ n + 4 by omega, show (n + 2 : Nat) ≠ n + 3 by omega, show (n + 2 : Nat) ≠ n by omega, ?_, m1 _ (by omega) (by omega), m1 _ (by omega) (by omega), show (n + 2 : Nat) ≠ n + 1 by omega, ?_, m2 _ (by omega) (by omega), m2 _ (by omega) (by omega), m2 _ (by omega) (by omega), m1 _ (by omega) (by omega)⟩
    · cases k1 <;> simp [Sk.fp]
    · cases k2 <;> simp [Sk.fp]
  o1 := h1 _ (Nat.le_refl _)
  o2 := h2 _ (by omega)
theorem pi_zipG {X : Cx} {e e2 : Expr} {ta : TA} {p pos tpos : Pos} {elts : List Expr} {kk : Nat} (hg : Gl X "zip") (hm : X.mg "zip" = none) (ha : PA X [e, e2] ta)
    (hse : starEach [e, e2] X.env = (false, eval e X.env) :: starEach [e2] X.env := by rfl) (hb : (backTo pos (starEach [e2] X.env)).any (·.1) = false := by rfl) :
    PI X (.Tuple elts kk tpos) (.Call (.Name "zip" p) [e, e2] [] pos) (iZipG X.K ta) := ⟨fun pins s σ H R I h => by
  refine Call_ (ld_blt I hg hm boot_zip (callWith_type1 (thn (ha.run pos pins s σ H _ I h) fun us s1 ⟨vs, H1, I1, rs, q⟩ => ?_) hse hb))
  obtain ⟨v1, v2, f1, f2, xs, ys, rfl, b1, b2, q⟩ := q
  cases rs with
  | @cons _ u1 _ _ r1 rs =>
    cases rs with
    | @cons _ u2 _ _ r2 rs =>
      cases rs
      obtain ⟨t1, o1, B1, g1, c1, on1, off1⟩ := b1.begin_ I1 r1
      obtain ⟨t2, o2, B2, g2, c2, on2, off2⟩ := b2.begin_ I1 r2
      refine zip_begins2 g1 g2 c1 c2 fun h' hz hti hto hi1 hi2 _ hk => wpAny_pyIter_zip hz ?_
      refine ⟨_, [s1.heap.objs.size + 4, s1.heap.objs.size + 2, s1.heap.objs.size + 3, s1.heap.objs.size, s1.heap.objs.size + 1], _, _, H1, rfl, I1.kept (t' := s1.toks) hk, turn_zipG (apart_new off1 off2), ⟨hz, hti, ⟨_, _, hto⟩, on1 _ _ hi1, on2 _ _ hi2⟩, fun c hc => ?_, q t1 t2⟩
      have hle : s1.heap.objs.size ≤ c := by
        simp only [List.mem_cons, List.not_mem_nil, or_false] at hc
        rcases hc with rfl | rfl | rfl | rfl | rfl <;> first | exact Nat.le_refl _ | exact Nat.le_add_right _ _
      exact I1.fpOk hle (I1.hok.fresh hle)⟩
/-! on data -/
def zipP : List D → List D → List D
  | x :: xs, y :: ys => .tuple [x, y] :: zipP xs ys
  | _, _ => []
def zipD : List D → Option (List D)
  | [a, b] => (itemsD a).bind fun xs => (itemsD b).map fun ys => zipP xs ys
  | _ => none
theorem zipP_len : ∀ {xs ys : List D}, (zipP xs ys).length = min xs.length ys.length
  | [], _ => by simp [zipP]
  | _ :: _, [] => by simp [zipP]
  | x :: xs, y :: ys => by
    rw [zipP, List.length_cons, zipP_len, List.length_cons, List.length_cons]
    omega
theorem zipP_get : ∀ {xs ys : List D} {i : Nat} {x y : D}, xs[i]? = some x → ys[i]? = some y → (zipP xs ys)[i]? = some (.tuple [x, y])
  | [], _, _, _, _, h, _ => by simp at h
  | _ :: _, [], _, _, _, _, h => by simp at h
  | _ :: _, _ :: _, 0, _, _, h, h' => by
    simp at h h'
    subst h h'
    rfl
  | _ :: xs, _ :: ys, i + 1, x, y, h, h' => by
    rw [zipP, List.getElem?_cons_succ]
    exact zipP_get (by simpa using h) (by simpa using h')
theorem rep_sk {K : PySem.W.Frag} {B H : Hp} (e : Ex B H) {v : V} {d : D} {ds : List D} (r : Rep K B v d) (h : itemsD d = some ds) : ∃ f xs, SkV K H v f xs ∧ RepA K B xs ds ∧ ∀ t H', Ex B H' → (f t).has K H' xs := by
  cases d <;> first | (cases h; done) | skip
  · rename_i z
    cases h
    refine ⟨_, _, .inr (.inr ⟨z, rep_str r, rfl, rfl⟩), ?_, fun t H' _ => rfl⟩
    unfold signs
    generalize z.cps.toList = cs
    induction cs with
    | nil => exact .nil
    | cons c cs ih => exact .cons (.str _) ih
  · cases h
    obtain ⟨a, vs, rfl, ha, ra⟩ := rep_lst r
    exact ⟨_, vs, .inl ⟨a, rfl, rfl, .inl (ex_rd e ha)⟩, ra, fun t H' e' => .inl (ex_rd e' ha)⟩
  · cases h
    obtain ⟨a, vs, rfl, ha, ra⟩ := rep_tup r
    exact ⟨_, vs, .inr (.inl ⟨a, rfl, rfl, ex_t e ha⟩), ra, fun t H' e' => ex_t e' ha⟩
theorem walkD_zipG {K : PySem.W.Frag} {B : Hp} {k1 k2 : Sk} {xs ys : List V} {ds es : List D} (ra : RepA K B xs ds) (rb : RepA K B ys es) (h1 : ∀ H, Ex B H → k1.has K H xs) (h2 : ∀ H, Ex B H → k2.has K H ys) : WalkD K B (ItzG K k1 k2) (zipP ds es) := by
  refine ⟨fun H => k1.has K H xs ∧ k2.has K H ys, fun i H v H' => ∃ p x y, v = .ref p ∧ H p = none ∧ H' = upd H p (.tup [x, y]) ∧ xs[i]? = some x ∧ ys[i]? = some y, ⟨fun i H hi q => ?_, fun H q => ?_, fun i H v H' hi q y => ?_⟩, fun H e => ⟨h1 H e, h2 H e⟩, fun i H v H' y e hi B1 e1 e2 => ?_⟩
  · rw [zipP_len] at hi
    exact ⟨xs, ys, q.1, q.2, by rw [ra.length]; omega, by rw [rb.length]; omega⟩
  · exact ⟨xs, ys, q.1, q.2, by rw [zipP_len, ra.length, rb.length]⟩
  · obtain ⟨p, x, y, g1, g2, g3, g4, g5⟩ := y
    exact ⟨p, x, y, g1, g2, g3, g4 xs q.1, g5 ys q.2⟩
  · obtain ⟨p, x, y, rfl, hp, rfl, g4, g5⟩ := y
    obtain ⟨dx, a1, a2⟩ := ra.getV g4
    obtain ⟨dy, b1, b2⟩ := rb.getV g5
    have pu := Pu.mk1 (o := .tup [x, y]) e2 hp
    exact ⟨_, _, pu, zipP_get a1 b1, .tup (SqT.of upd_same) (.cons ((a2.mono e1).mono pu.ext) (.cons ((b2.mono e1).mono pu.ext) .nil))⟩
theorem pdi_zip {X : Cx} {c : Cf} {e e2 : Expr} {t : TA} {f : DM (List D)} {p pos tpos : Pos} {elts : List Expr} {kk : Nat} (hg : Gl X "zip") (hm : X.mg "zip" = none) (ha : PDA X c [e, e2] t f)
    (hse : starEach [e, e2] X.env = (false, eval e X.env) :: starEach [e2] X.env := by rfl) (hb : (backTo pos (starEach [e2] X.env)).any (·.1) = false := by rfl) :
    PDI X c (.Tuple elts kk tpos) (.Call (.Name "zip" p) [e, e2] [] pos) (iZipG X.K t) (f.bind fun ds => DM.opt (zipD ds)) :=
  ⟨pi_zipG hg hm ha.pa hse hb, EvP.bind (relA := RepA X.K) (tk := fun vs _ H1 R => ∃ v1 v2 f1 f2 xs ys, vs = [v1, v2] ∧ SkV X.K H1 v1 f1 xs ∧ SkV X.K H1 v2 f2 ys ∧ ∀ t1 t2, R (ItzG X.K (f1 t1) (f2 t2)) H1) mono_true ha.ev fun vs ds =>
    EvP.val (t := fun H1 R => ∃ v1 v2 f1 f2 xs ys, vs = [v1, v2] ∧ SkV X.K H1 v1 f1 xs ∧ SkV X.K H1 v2 f2 ys ∧ ∀ t1 t2, R (ItzG X.K (f1 t1) (f2 t2)) H1) fun B H l e p hl R q => by
      match ds, hl with
      | [d1, d2], hl =>
        obtain ⟨as, ha1, hl⟩ := Option.bind_eq_some_iff.mp hl
        obtain ⟨bs, hb1, rfl⟩ := Option.map_eq_some_iff.mp hl
        obtain ⟨v1, v2, rfl, r1, r2⟩ := repA2 p.2
        obtain ⟨f1, xs, s1, ra, g1⟩ := rep_sk e r1 ha1
        obtain ⟨f2, ys, s2, rb, g2⟩ := rep_sk e r2 hb1
        exact ⟨v1, v2, f1, f2, xs, ys, rfl, s1, s2, fun t1 t2 => q _ B H (Pu.refl e) (walkD_zipG ra rb (g1 t1) (g2 t2))⟩⟩
theorem all_at {l : List Bool} (h : l.all id = true) {i : Nat} {b : Bool} (e : l[i]? = some b) : b = true := List.all_eq_true.mp h b (List.mem_of_getElem? e)
end DR

set_option maxRecDepth 100000
set_option maxHeartbeats 1000000
namespace DR
open PySem PySem.Spec L2
open PyProof.Rows hiding St
open Evl (Ex ex_l ex_t ex_rd)

/-! ### a loop over something made of cells: what it goes through is flat -/
def dflatA (fe : DM (List D)) : DM (List D) := fun st => match fe st with
  | some (.ok d, st1) => if flatA d = true then some (.ok d, st1) else none
  | r => r
section
variable {K : PySem.W.Frag} {c : Cs}
theorem EvE.aA {te : TA} {fe : DM (List D)} (he : EvA K c.a te fe) : EvE K c (RepA K) te (dflatA fe) := fun A A0 B0 H0 B σ H st r s h Q q x => by
  cases ef : fe st with
  | none =>
    unfold dflatA at h
    rw [ef] at h
    cases h
  | some ro =>
    obtain ⟨e0, ecut, eB⟩ := s.all
    refine he A _ _ σ H st ro e0 True.intro ef _ (fun b0 st1 e1 v B1 H1 er1 ad1 rv => ?_) (fun y fl st1 e1 dx B1 H1 er1 ad1 fl1 => ?_)
    · subst e1
      unfold dflatA at h
      simp only [ef] at h
      split at h
      · rename_i hfl
        cases h
        exact q b0 st1 v _ H1 rfl (s.advAll er1 ad1) (rv.cut er1.zo hfl)
      · cases h
    · subst e1
      unfold dflatA at h
      simp only [ef] at h
      cases h
      exact x y fl st1 dx B1 H1 rfl (s.finAll er1 ad1) fl1
theorem EvE.then_ {α β γ δ : Type} {relA : Hp → α → β → Prop} {relC : Hp → γ → δ → Prop} {ta : TG0 α} {tk : α → Hp → (γ → Hp → Prop) → Prop} {fa : DM β} {k : β → Option δ} (ha : EvE K c relA ta fa)
    (hk : ∀ (x : α) (b : β) (B H : Hp) (dz : δ), Ex B H → relA B x b → k b = some dz → ∀ Q : γ → Hp → Prop, (∀ v B' H', Pu B H B' H' → relC B' v dz → Q v H') → tk x H Q) :
    EvE K c relC (fun σ H Q => ta σ H fun x H1 => tk x H1 Q) (fa.bind fun b => DM.opt (k b)) := fun A A0 B0 H0 B σ H st r s h Q q x => by
  cases ef : fa st with
  | none =>
    unfold DM.bind at h
    rw [ef] at h
    cases h
  | some ro =>
    refine ha A A0 B0 H0 B σ H st ro s ef _ (fun b0 st1 v B1 H1 e1 s1 rv => ?_) (fun y fl st1 dx B1 H1 e1 fi1 fl1 => ?_)
    · subst e1
      rw [bind_ok ef] at h
      cases ek : k b0 with
      | none =>
        unfold DM.opt at h
        rw [ek] at h
        cases h
      | some dz =>
        unfold DM.opt at h
        rw [ek] at h
        cases h
        exact hk v b0 B1 H1 dz s1.er.bh rv ek Q fun w B2 H2 pu rw_ => q dz st1 w B2 H2 rfl (s1.adv (s1.er.pu pu) pu.adv) rw_
    · subst e1
      rw [bind_ex ef] at h
      exact x y fl st1 dx B1 H1 (Option.some.inj h).symm fi1 fl1
end
structure PDIE (X : Cx) (c : Cs) (tg iter : Expr) (wi : TI) (f : DM (List D)) : Prop where
  pi : PI X tg iter wi
  ev : EvE X.K c (WalkD X.K) wi f
section
variable {X : Cx} {c : Cs}
theorem zip_val {K : PySem.W.Frag} {vs : List V} {ds l : List D} {B H : Hp} (e : Ex B H) (p : RepA K B vs ds) (hl : zipD ds = some l) (R : It → Hp → Prop) (q : ∀ v B' H', Pu B H B' H' → WalkD K B' v l → R v H') :
    ∃ v1 v2 f1 f2 xs ys, vs = [v1, v2] ∧ SkV K H v1 f1 xs ∧ SkV K H v2 f2 ys ∧ ∀ t1 t2, R (ItzG K (f1 t1) (f2 t2)) H := by
  match ds, hl with
  | [d1, d2], hl =>
    obtain ⟨as, ha1, hl⟩ := Option.bind_eq_some_iff.mp hl
    obtain ⟨bs, hb1, rfl⟩ := Option.map_eq_some_iff.mp hl
    obtain ⟨v1, v2, rfl, r1, r2⟩ := repA2 p
    obtain ⟨f1, xs, s1, ra, g1⟩ := rep_sk e r1 ha1
    obtain ⟨f2, ys, s2, rb, g2⟩ := rep_sk e r2 hb1
    exact ⟨v1, v2, f1, f2, xs, ys, rfl, s1, s2, fun t1 t2 => q _ B H (Pu.refl e) (walkD_zipG ra rb (g1 t1) (g2 t2))⟩
theorem pdie_zipA {e e2 : Expr} {t : TA} {f : DM (List D)} {p pos tpos : Pos} {elts : List Expr} {kk : Nat} (hg : Gl X "zip") (hm : X.mg "zip" = none) (ha : PDA X c.a [e, e2] t f)
    (hse : starEach [e, e2] X.env = (false, eval e X.env) :: starEach [e2] X.env := by rfl) (hb : (backTo pos (starEach [e2] X.env)).any (·.1) = false := by rfl) :
    PDIE X c (.Tuple elts kk tpos) (.Call (.Name "zip" p) [e, e2] [] pos) (iZipG X.K t) ((dflatA f).bind fun ds => DM.opt (zipD ds)) :=
  ⟨pi_zipG hg hm ha.pa hse hb, EvE.then_ (tk := fun vs H1 R => ∃ v1 v2 f1 f2 xs ys, vs = [v1, v2] ∧ SkV X.K H1 v1 f1 xs ∧ SkV X.K H1 v2 f2 ys ∧ ∀ t1 t2, R (ItzG X.K (f1 t1) (f2 t2)) H1) (EvE.aA ha.ev) fun vs ds B H l e p hl R q => zip_val e p hl R q⟩
theorem any_val {K : PySem.W.Frag} {x : V} {d : D} {ds : List D} {B H : Hp} (e : Ex B H) (p : Rep K B x d) (hg : itemsD d = some ds) (R : It → Hp → Prop) (q : ∀ v B' H', Pu B H B' H' → WalkD K B' v ds → R v H') :
    (∃ a, x = .ref a ∧ (∃ xs, SqL K H a xs) ∧ R (Itl K a) H) ∨ ((∃ a, x = .ref a ∧ (∃ xs, SqT K H a xs) ∧ R (Itt K a) H) ∨ ∃ z, x = .str z ∧ R (Its z) H) := by
  cases d <;> first | (cases hg; done) | skip
  · rename_i z
    cases hg
    refine .inr (.inr ⟨z, rep_str p, q _ B H (Pu.refl e) ⟨fun _ => True, _, (by have w := walk_str (z := z); rw [show (signs z).length = z.cps.size by simp [signs]]; exact w), fun _ _ => True.intro, fun i H x H' y e hi B1 e1 e2 => ?_⟩⟩)
    obtain ⟨rfl, c, hc, rfl⟩ := y
    refine ⟨B1, .str ⟨#[c]⟩, Pu.refl e2, ?_, .str _⟩
    unfold signs
    rw [List.getElem?_map, Array.getElem?_toList, hc]
    rfl
  · cases hg
    obtain ⟨a, vs, rfl, ha, ra⟩ := rep_lst p
    exact .inl ⟨a, rfl, ⟨vs, .inl (ex_rd e ha)⟩, q _ B H (Pu.refl e) (walkD_seq ra walk_list fun H h => .inl (ex_rd h ha))⟩
  · cases hg
    obtain ⟨a, vs, rfl, ha, ra⟩ := rep_tup p
    exact .inr (.inl ⟨a, rfl, ⟨vs, ex_t e ha⟩, q _ B H (Pu.refl e) (walkD_seq ra walk_tup fun H h => ex_t h ha)⟩)
/-- a loop over a flat value made with cells -/
theorem pdie_anyA {tg e : Expr} {te : TE} {fe : DM D} (he : PD X c.a e te fe) : PDIE X c tg e (iAny X.K te) ((dflat fe).bind fun d => DM.opt (itemsD d)) :=
  ⟨pi_any he.pe, EvE.then_ (tk := fun (x : V) H1 R => (∃ a, x = .ref a ∧ (∃ xs, SqL X.K H1 a xs) ∧ R (Itl X.K a) H1) ∨ ((∃ a, x = .ref a ∧ (∃ xs, SqT X.K H1 a xs) ∧ R (Itt X.K a) H1) ∨ ∃ z, x = .str z ∧ R (Its z) H1)) (EvE.a he.ev) fun x d B H ds e p hg R q => any_val e p hg R q⟩
theorem pds_forE {vs : List Nat} {tg iter : Expr} {body : List Stmt} {wi : TI} {fi : DM (List D)} {gt : TG} {gd : DG} {t : TS} {f : DT} {pos : Pos} (hp : PassesOwn (model X.prog X.w) X.A X.env X.xe) (hc : X.calm = true) (hi : PDIE X c tg iter wi fi) (hg : PDG X c.m vs tg gt gd) (hb : PDSs X c body t f) (hv : ∀ i ∈ vs, i ∉ c.cl := by decide)
    (hs : ∀ x, foldedSetIterable iter X.env x = pure x := by intro _; rfl) : PDS X c (.For tg iter body [] pos) (tFor wi gt t) (dfor fi gd f) := ⟨ps_for hp hc hi.pi hg.pg hb.ps hs, ev_forE hv hi.ev hg.ev hb.ev⟩
end
end DR

set_option maxRecDepth 100000
set_option maxHeartbeats 1000000
namespace DR
open PySem PySem.Spec L2
open PyProof.Rows hiding St

/-! ### the evaluator: comprehensions and loops over displayed lists -/
def onClr (s : DS) (i : Nat) (k : DS → Prop) : Prop := k (s.set i none)
theorem onClr_0 {x : Option D} {r : DS} {k : DS → Prop} : onClr (x :: r) 0 k ↔ k (none :: r) := Iff.rfl
theorem onClr_S {x : Option D} {r : DS} {n : Nat} {k : DS → Prop} : onClr (x :: r) (n + 1) k ↔ onClr r n fun s => k (x :: s) := Iff.rfl
def onW (st : DS) (vs : List Nat) (k : DS → Prop) : Prop := k (wipeD st vs)
theorem onW_nil {st : DS} {k : DS → Prop} : onW st [] k ↔ k st := Iff.rfl
theorem onW_cons {st : DS} {v : Nat} {vs : List Nat} {k : DS → Prop} : onW st (v :: vs) k ↔ onW st vs fun s => onClr s v k := Iff.rfl
def onRe (st s : DS) (v : Nat) (k : DS → Prop) : Prop := k (s.set v (st.getD v none))
theorem onRe_0 {x y : Option D} {r s : DS} {k : DS → Prop} : onRe (x :: r) (y :: s) 0 k ↔ k (x :: s) := Iff.rfl
theorem onRe_S {x y : Option D} {r s : DS} {n : Nat} {k : DS → Prop} : onRe (x :: r) (y :: s) (n + 1) k ↔ onRe r s n fun s' => k (y :: s') := by
  unfold onRe
  simp only [List.set_cons_succ, List.getD_cons_succ]
def onBk (st s : DS) (vs : List Nat) (k : DS → Prop) : Prop := k (backD st s vs)
theorem onBk_nil {st s : DS} {k : DS → Prop} : onBk st s [] k ↔ k s := Iff.rfl
theorem onBk_cons {st s : DS} {v : Nat} {vs : List Nat} {k : DS → Prop} : onBk st s (v :: vs) k ↔ onBk st s vs fun s' => onRe st s' v k := Iff.rfl
def onG (g : DG) (d : D) (s : DS) (k : DS → Prop) : Prop := onS (g d s) k
def onGs (g : DGs) (ds : List D) (s : DS) (k : DS → Prop) : Prop := onS (g ds s) k
theorem onG_name {i : Nat} {d : D} {s : DS} {k : DS → Prop} : onG (gdName i) d s k ↔ onSet s i d k := onS_some
theorem onGs_nil {s : DS} {k : DS → Prop} : onGs gdNil [] s k ↔ k s := onS_some
theorem onGs_cons {g : DG} {u : DGs} {d : D} {r : List D} {s : DS} {k : DS → Prop} : onGs (gdCons g u) (d :: r) s k ↔ onG g d s fun s1 => onGs u r s1 k := by
  unfold onGs onG gdCons onS
  cases e : g d s with
  | none => exact ⟨fun ⟨_, h, _⟩ => (by simp only [e] at h; cases h), fun ⟨_, h, _⟩ => (by cases h)⟩
  | some s1 => exact ⟨fun ⟨a, h, q⟩ => ⟨s1, rfl, a, (by simpa only [e] using h), q⟩, fun ⟨a, h, b, h2, q⟩ => (by cases h; exact ⟨b, (by simp only [e]; exact h2), q⟩)⟩
theorem onG_tup {n : Nat} {u : DGs} {ds : List D} {s : DS} {k : DS → Prop} : onG (gdTup n u) (.tuple ds) s k ↔ ds.length = n ∧ onGs u ds s k := by
  unfold onG onGs gdTup onS
  constructor
  · rintro ⟨a, h, q⟩
    dsimp only at h
    split at h
    · rename_i hl
      exact ⟨hl, a, h, q⟩
    · cases h
  · rintro ⟨hl, a, h, q⟩
    exact ⟨a, by dsimp only; rw [if_pos hl]; exact h, q⟩
theorem a_tup {n : Nat} {u : DGs} {ds : List D} {s : DS} {k : DS → Prop} : onS (gdTup n u (.tuple ds) s) k ↔ ds.length = n ∧ onGs u ds s k := onG_tup
section
variable {vs : List Nat} {g : DG} {tt : DM Bool} {te : DM D} {st : DS} {acc : List D} {Q : List D → DS → Prop}
theorem Cp_nil : Cp vs g tt te [] st acc Q ↔ Q acc st := ⟨fun ⟨_, _, e, q⟩ => by cases e; exact q, fun q => ⟨_, _, rfl, q⟩⟩
theorem Cp_cons {d : D} {r : List D} : Cp vs g tt te (d :: r) st acc Q ↔ onW st vs fun s0 => onG g d s0 fun s1 => Wp tt s1 fun b s2 => if b = true then Wp te s2 fun y s3 => acc.length < sizeLine ∧ onBk st s3 vs fun s4 => Cp vs g tt te r s4 (acc ++ [y]) Q else onBk st s2 vs fun s4 => Cp vs g tt te r s4 acc Q := by
  constructor
  · rintro ⟨a, s, e, q⟩
    rw [dcompL] at e
    split at e
    · cases e
    · rename_i s1 e1
      split at e
      · rename_i s2 e2
        split at e
        · rename_i y s3 e3
          split at e
          · rename_i hl
            exact ⟨s1, e1, true, s2, e2, y, s3, e3, hl, a, s, e, q⟩
          · cases e
        · cases e
      · rename_i s2 e2
        exact ⟨s1, e1, false, s2, e2, a, s, e, q⟩
      · cases e
  · rintro ⟨s1, e1, b, s2, e2, h⟩
    cases b with
    | true =>
      obtain ⟨y, s3, e3, hl, a, s, e, q⟩ := h
      refine ⟨a, s, ?_, q⟩
      rw [dcompL, e1]
      dsimp only
      rw [e2]
      dsimp only
      rw [e3]
      dsimp only
      rw [if_pos hl]
      exact e
    | false =>
      obtain ⟨a, s, e, q⟩ := h
      refine ⟨a, s, ?_, q⟩
      rw [dcompL, e1]
      dsimp only
      rw [e2]
      exact e
end
def onTurn (k : DS → Prop) (Q : Out → Prop) : Out → Prop
  | .nx s => k s
  | .ct s => k s
  | .bk s => Q (.nx s)
  | o => Q o
section
variable {k : DS → Prop} {Q : Out → Prop} {s : DS}
theorem onTurn_nx : onTurn k Q (.nx s) ↔ k s := Iff.rfl
theorem onTurn_ct : onTurn k Q (.ct s) ↔ k s := Iff.rfl
theorem onTurn_bk : onTurn k Q (.bk s) ↔ Q (.nx s) := Iff.rfl
theorem onTurn_rt {d : D} : onTurn k Q (.rt d s) ↔ Q (.rt d s) := Iff.rfl
theorem Fl_nil {gd : DG} {f : DT} : Fl gd f [] s Q ↔ Q (.nx s) := ⟨fun ⟨_, e, _, q⟩ => by cases e; exact q, fun q => ⟨_, rfl, True.intro, q⟩⟩
theorem Fl_cons {gd : DG} {f : DT} {d : D} {r : List D} : Fl gd f (d :: r) s Q ↔ onG gd d s fun s1 => Sp2 f s1 (onTurn (fun s2 => Fl gd f r s2 Q) Q) := by
  constructor
  · rintro ⟨o, e, c, q⟩
    rw [dforL] at e
    split at e
    · cases e
    · rename_i s1 e1
      refine ⟨s1, e1, ?_⟩
      split at e
      · rename_i s2 e2
        exact ⟨_, e2, True.intro, o, e, c, q⟩
      · rename_i s2 e2
        exact ⟨_, e2, True.intro, o, e, c, q⟩
      · rename_i s2 e2
        cases e
        exact ⟨_, e2, True.intro, q⟩
      · rename_i h1 h2 h3
        refine ⟨o, e, c, ?_⟩
        cases o with
        | nx s => exact absurd e (h1 s)
        | ct s => exact absurd e (h2 s)
        | bk s => exact absurd e (h3 s)
        | rt d s => exact q
        | ex a b s => exact c.elim
  · rintro ⟨s1, e1, o, e2, c, q⟩
    cases o with
    | nx s2 =>
      obtain ⟨o, e3, c3, q3⟩ := q
      exact ⟨o, by rw [dforL, e1]; dsimp only; rw [e2]; exact e3, c3, q3⟩
    | ct s2 =>
      obtain ⟨o, e3, c3, q3⟩ := q
      exact ⟨o, by rw [dforL, e1]; dsimp only; rw [e2]; exact e3, c3, q3⟩
    | bk s2 => exact ⟨.nx s2, by rw [dforL, e1]; dsimp only; rw [e2], True.intro, q⟩
    | rt d s2 => exact ⟨_, by rw [dforL, e1]; dsimp only; rw [e2], c, q⟩
    | ex a b s2 => exact c.elim
end
/-! dicts, zip, the module's tables -/
section
variable {k : D → Prop} {ds : List (D × D)} {d0 d1 : D}
def onLD (d : D) (k : List (D × D) → Prop) : Prop := ∃ b, d = .dict b ∧ k b
theorem onLD_d {b : List (D × D)} {k : List (D × D) → Prop} : onLD (.dict b) k ↔ k b := ⟨fun ⟨_, e, q⟩ => by cases e; exact q, fun q => ⟨_, rfl, q⟩⟩
theorem v_ixAd : onS (ixA (.dict ds) d0) k ↔ onS (dgetD ds d0) k := Iff.rfl
theorem v_inAd : onS (inA d0 (.dict ds)) k ↔ onS (dinB ds d0) fun b => k (.bool b) := onS_map
theorem v_notInAd : onS (notInA d0 (.dict ds)) k ↔ onS (dinB ds d0) fun b => k (.bool (!b)) := onS_map
theorem cellD_on {i : Nat} {s : DS} {k : List (D × D) → Prop} : (∃ ds, cellD i s = some ds ∧ k ds) ↔ onS (lk s i) fun p => onLD p k := by
  constructor
  · rintro ⟨ds, e, q⟩
    exact ⟨_, penOf_eq (cellD_some e), ds, rfl, q⟩
  · rintro ⟨p, e, ds, rfl, q⟩
    refine ⟨ds, ?_, q⟩
    unfold lk penOf at e
    unfold cellD
    split at e
    · rename_i d hd
      cases e
      rw [hd]
    · cases e
theorem S_upd {i : Nat} {fe : DM D} {st : DS} {Q : Out → Prop} : Sp2 (dupd i fe) st Q ↔ onS (lk st i) fun p => onLD p fun _ => Wp fe st fun d s => onS (lk s i) fun p => onLD p fun ds => onLD d fun es => ds.length + es.length ≤ sizeLine ∧ onSet s i (.dict (mergeD ds es)) fun s' => Q (.nx s') := by
  rw [← cellD_on]
  constructor
  · rintro ⟨o, e, c, q⟩
    unfold dupd at e
    split at e
    · cases e
    · rename_i ds0 e0
      refine ⟨ds0, e0, (S_exp.mp ⟨o, e, c, q⟩).mono fun d s ⟨o, e, _, q⟩ => cellD_on.mp ?_⟩
      dsimp only at e
      split at e
      · rename_i x y ds es e1
        obtain ⟨h1, rfl⟩ := opt_if e
        exact ⟨_, by assumption, _, rfl, h1, q⟩
      · cases e
  · rintro ⟨ds0, e0, h⟩
    unfold dupd Sp2
    dsimp only
    rw [e0]
    refine S_exp.mpr (h.mono fun d s h => ?_)
    obtain ⟨ds, e1, es, e2, e3, q⟩ := cellD_on.mpr h
    exact ⟨.nx (s.set i (some (.dict (mergeD ds es)))), by dsimp only; rw [e1, e2]; show (if _ then _ else _) = _; rw [if_pos e3], True.intro, q⟩
theorem v_zip {a b : D} {k : List D → Prop} : onS (zipD [a, b]) k ↔ onS (itemsD a) fun xs => onS (itemsD b) fun ys => k (zipP xs ys) := by
  unfold onS zipD
  constructor
  · rintro ⟨l, e, q⟩
    obtain ⟨xs, h1, e⟩ := Option.bind_eq_some_iff.mp e
    obtain ⟨ys, h2, rfl⟩ := Option.map_eq_some_iff.mp e
    exact ⟨xs, h1, ys, h2, q⟩
  · rintro ⟨xs, h1, ys, h2, q⟩
    exact ⟨_, by show (itemsD a).bind _ = _; rw [h1]; show (itemsD b).map _ = _; rw [h2]; rfl, q⟩
theorem Wp_flatA {fs : DM (List D)} {st : DS} {Q : List D → DS → Prop} : Wp (dflatA fs) st Q ↔ Wp fs st fun d s => flatA d = true ∧ Q d s := by
  unfold dflatA
  constructor
  · rintro ⟨b, s, e, q⟩
    dsimp only at e
    split at e
    · rename_i d s1 e1
      split at e
      · rename_i hfl
        cases e
        exact ⟨_, _, e1, hfl, q⟩
      · cases e
    · rename_i hno
      exact absurd e (hno b s)
  · rintro ⟨d, s, e, hfl, q⟩
    exact ⟨d, s, by simp only [e, hfl, if_true], q⟩
theorem v_int {i : Int} : onS (intD [.int i]) k ↔ k (.int i) := onS_some
theorem v_intB {b : Bool} : onS (intD [.bool b]) k ↔ if b = true then k (.int 1) else k (.int 0) := by
  cases b
  · exact onS_some
  · exact onS_some
theorem flat2 {x : Str} {ps : List D} : flatA [.str x, .tuple ps] = flatA ps := by
  simp [flatA, flat]
theorem v_min {i j : Int} : onS (min2D [.int i, .int j]) k ↔ k (.int (if j < i then j else i)) := onS_some
theorem v_gin {tab : List (Str × D)} {x : Str} : onS (ginD tab (.str x)) k ↔ k (.bool (tab.lookup x).isSome) := onS_some
theorem v_gnin {tab : List (Str × D)} {x : Str} : onS (gnotInD tab (.str x)) k ↔ k (.bool (!(tab.lookup x).isSome)) := onS_some
theorem v_gix {tab : List (Str × D)} {x : Str} : onS (gixD tab (.str x)) k ↔ onS (tab.lookup x) k := Iff.rfl
end
def onTwo (ds : List D) (k : D → D → Prop) : Prop := ∃ d e, ds = [d, e] ∧ k d e
theorem onTwo_l {d e : D} {k : D → D → Prop} : onTwo [d, e] k ↔ k d e := ⟨fun ⟨_, _, h, q⟩ => by cases h; exact q, fun q => ⟨_, _, rfl, q⟩⟩
theorem S_par {i j : Nat} {fs : DM (List D)} {st : DS} {Q : Out → Prop} : Sp2 (dpar i j fs) st Q ↔ Wp fs st fun ds s => onTwo ds fun d e => onSet s i d fun s1 => onSet s1 j e fun s2 => Q (.nx s2) := by
  unfold dpar
  rw [S_exp]
  refine ⟨fun h => h.mono fun ds s ⟨o, e, c, q⟩ => ?_, fun h => h.mono fun ds s ⟨d, e, h, q⟩ => ?_⟩
  · dsimp only at e
    split at e
    · cases e
      exact ⟨_, _, rfl, q⟩
    · cases e
  · subst h
    exact ⟨_, rfl, True.intro, q⟩
end DR

set_option maxRecDepth 100000
set_option maxHeartbeats 1000000
namespace DR
open PySem PySem.Spec L2
open PyProof.Rows hiding St
open Evl (Ex ex_l ex_t ex_rd)
/-! ## the text -/
def k_FORMS : List (Str × D) := [("comes", (.str "wdwww")), ("trial", (.str "wdwwwt")), ("back", (.str "wdwwt")), ("keep", (.str "wdwwm")), ("give", (.str "wdwwwtm")), ("goes", (.str "wdww")), ("double", (.str "wdww")), ("promise", (.str "wdwwwd")), ("loose", (.str "wdw")), ("want", (.str "wdwwg")), ("owe", (.str "wdwwp")), ("pay", (.str "wdwwp"))]
def k_HOUSES : List (Str × D) := [("comes", (.tuple [(.int 5)])), ("trial", (.tuple [(.int 4), (.int 5)])), ("back", (.tuple [(.int 4)])), ("keep", (.tuple [(.int 4)])), ("give", (.tuple [(.int 4), (.int 5)])), ("goes", (.tuple [(.int 4)])), ("double", (.tuple [(.int 4)])), ("promise", (.tuple [(.int 4), (.int 5)])), ("loose", (.tuple [])), ("want", (.tuple [(.int 3)])), ("owe", (.tuple [(.int 3), (.int 4)])), ("pay", (.tuple [(.int 3), (.int 4)]))]
def top (i : Nat) : Stmt := PySem.Challenge.pw_doublerings_k02_what_is_a_page.main.body.getD i (.Pass ⟨0, 0, 0, 0⟩)
/-! ### is_word -/
abbrev st_is_word : Stmt := top 4
abbrev N_is_word : List Str := ["thing", "sign"]
def g_is_word : DT := (dseq (dif (dor (dnot (dtest (disi "str" (dvar 0)))) (dnot (dtest (dchain leD leD (DM.pure (.int 1)) (dcb lenD (dcons (dvar 0) dnil)) (DM.pure (.int 8))))))
  (dret (DM.pure (.bool false)))
  dnext)
  (dret (dcb allD (dcons (dcomp [1] ((dvar 0).bind fun d => DM.opt (itemsD d)) (gdName 1) (DM.pure true) (dop inD (dvar 1) (DM.pure (.str "abcdefghijklmnopqrstuvwxyz")))) dnil))))
def m_is_word : List D → Option D := mOf 2 1 g_is_word
/-! ### is_from_to -/
abbrev st_is_from_to : Stmt := top 5
abbrev N_is_from_to : List Str := ["thing", "least", "most"]
def g_is_from_to : DT := (dret (dandV (disi "int" (dvar 0)) (dandV (dnotV (disi "bool" (dvar 0))) (dchain leD leD (dvar 1) (dvar 0) (dvar 2)))))
def m_is_from_to : List D → Option D := mOf 3 3 g_is_from_to
/-! ### is_day -/
abbrev st_is_day : Stmt := top 6
abbrev N_is_day : List Str := ["thing"]
def g_is_day : DT := (dret (dcall m_is_from_to (dcons (dvar 0) (dcons (DM.pure (.int 0)) (dcons (DM.pure (.int 999)) dnil)))))
def m_is_day : List D → Option D := mOf 1 1 g_is_day
/-! ### is_part -/
abbrev st_is_part : Stmt := top 13
abbrev N_is_part : List Str := ["kind", "thing"]
def g_is_part : DT := (dseq (dif (dtest (dop eqD (dvar 0) (DM.pure (.str "w"))))
  (dret (dcall m_is_word (dcons (dvar 1) dnil)))
  dnext)
  (dseq (dif (dtest (dop eqD (dvar 0) (DM.pure (.str "d"))))
  (dret (dcall m_is_day (dcons (dvar 1) dnil)))
  dnext)
  (dseq (dif (dtest (dop eqD (dvar 0) (DM.pure (.str "t"))))
  (dret (dcall m_is_from_to (dcons (dvar 1) (dcons (DM.pure (.int 0)) (dcons (DM.pure (.int 9)) dnil)))))
  dnext)
  (dseq (dif (dtest (dop eqD (dvar 0) (DM.pure (.str "g"))))
  (dret (dcall m_is_from_to (dcons (dvar 1) (dcons (DM.pure (.int 0)) (dcons (DM.pure (.int 9)) dnil)))))
  dnext)
  (dret (dcall m_is_from_to (dcons (dvar 1) (dcons (dcb intD (dcons (dop eqD (dvar 0) (DM.pure (.str "p"))) dnil)) (dcons (DM.pure (.int 1000000000)) dnil)))))))))
def m_is_part : List D → Option D := mOf 2 2 g_is_part
/-! ### houses_in -/
abbrev st_houses_in : Stmt := top 15
abbrev N_houses_in : List Str := ["page", "at"]
def g_houses_in : DT := (dret (dcomp [1] ((dun (gixD k_HOUSES) (dop ixD (dvar 0) (DM.pure (.int 0)))).bind fun d => DM.opt (itemsD d)) (gdName 1) (DM.pure true) (dop ixD (dvar 0) (dvar 1))))
def m_houses_in : List D → Option D := mOf 2 1 g_houses_in
/-! ### is_page -/
abbrev st_is_page : Stmt := top 14
abbrev N_is_page : List Str := ["thing", "form", "houses", "kind", "part"]
def g_is_page : DT := (dseq (dif (dor (dnot (dtest (disi "tuple" (dvar 0)))) (dor (dtest (dop eqD (dcb lenD (dcons (dvar 0) dnil)) (DM.pure (.int 0)))) (dor (dnot (dtest (disi "str" (dop ixD (dvar 0) (DM.pure (.int 0)))))) (dtest (dun (gnotInD k_FORMS) (dop ixD (dvar 0) (DM.pure (.int 0))))))))
  (dret (DM.pure (.bool false)))
  dnext)
  (dseq (dset 1 (dun (gixD k_FORMS) (dop ixD (dvar 0) (DM.pure (.int 0)))))
  (dseq (dif (dor (dtest (dop neD (dcb lenD (dcons (dvar 0) dnil)) (dop addD (DM.pure (.int 1)) (dcb lenD (dcons (dvar 1) dnil))))) (dnot (dtest (dcb allD (dcons (dcomp [3, 4] ((dcons (dvar 1) (dcons (dslice (dvar 0) (dpart (DM.pure (.int 1))) dnopart) dnil)).bind fun ds => DM.opt (zipD ds)) (gdTup 2 (gdCons (gdName 3) (gdCons (gdName 4) gdNil))) (DM.pure true) (dcall m_is_part (dcons (dvar 3) (dcons (dvar 4) dnil)))) dnil)))))
  (dret (DM.pure (.bool false)))
  dnext)
  (dseq (dset 2 (dcall m_houses_in (dcons (dvar 0) dnil)))
  (dseq (dif (dand (dtest (dop eqD (dcb lenD (dcons (dvar 2) dnil)) (DM.pure (.int 2)))) (dtest (dop eqD (dop ixD (dvar 2) (DM.pure (.int 0))) (dop ixD (dvar 2) (DM.pure (.int 1))))))
  (dret (DM.pure (.bool false)))
  dnext)
  (dret (dorV (dop neD (dop ixD (dvar 0) (DM.pure (.int 0))) (DM.pure (.str "promise"))) (dop leD (dop ixD (dvar 0) (DM.pure (.int 2))) (dop ixD (dvar 0) (DM.pure (.int 6)))))))))))
def m_is_page : List D → Option D := mOf 5 1 g_is_page
/-! ### _law_draw -/
abbrev st__law_draw : Stmt := top 17
abbrev N__law_draw : List Str := ["_law_pen", "_law_many", "_law_drawn", "_law_at", "_law_cell", "_law_number"]
def g__law_draw : DT := (dseq (dif (dtest (dop gtD (dpix 0 (DM.pure (.int 2))) (DM.pure (.int 0))))
  (dseq (dset 2 (dop modD (dpix 0 (DM.pure (.int 2))) (dvar 1)))
  (dseq (dput 0 (dop fdivD (dpix 0 (DM.pure (.int 2))) (dvar 1)) (DM.pure (.int 2)))
  (dret (dvar 2))))
  dnext)
  (dseq (dset 3 (dpix 0 (DM.pure (.int 1))))
  (dseq (dput 0 (dop addD (dvar 3) (DM.pure (.int 1))) (DM.pure (.int 1)))
  (dseq (dset 4 (DM.pure (.int 0)))
  (dseq (dif (dtest (dop gtD (dcb lenD (dcons (dpix 0 (DM.pure (.int 0))) dnil)) (DM.pure (.int 0))))
  (dset 4 (dop ixD (dpix 0 (DM.pure (.int 0))) (dop modD (dvar 3) (dcb lenD (dcons (dpix 0 (DM.pure (.int 0))) dnil)))))
  dnext)
  (dseq (dif (dand (dtest (dop ltD (dvar 3) (dcb lenD (dcons (dpix 0 (DM.pure (.int 0))) dnil)))) (dtest (dop geD (dcb absD (dcons (dvar 4) dnil)) (dop powD (DM.pure (.int 10)) (DM.pure (.int 18))))))
  (dseq (dput 0 (dop fdivD (dcb absD (dcons (dvar 4) dnil)) (dvar 1)) (DM.pure (.int 2)))
  (dret (dop modD (dcb absD (dcons (dvar 4) dnil)) (dvar 1))))
  dnext)
  (dseq (dset 5 (dop modD (dop addD (dop addD (dop modD (dvar 4) (DM.pure (.int 2147483579))) (dop mulD (DM.pure (.int 52361)) (dvar 3))) (DM.pure (.int 7))) (DM.pure (.int 2147483647))))
  (dseq (dset 5 (dop modD (dop addD (dop addD (dop mulD (dvar 5) (dvar 5)) (dop mulD (DM.pure (.int 69427)) (dvar 3))) (DM.pure (.int 5))) (DM.pure (.int 2147483587))))
  (dseq (dset 5 (dop modD (dop addD (dop addD (dop mulD (dvar 5) (dvar 5)) (dop mulD (DM.pure (.int 31)) (dvar 5))) (dvar 3)) (DM.pure (.int 2147483563))))
  (dret (dop modD (dop fdivD (dvar 5) (DM.pure (.int 32))) (dvar 1))))))))))))
def m__law_draw : D → List D → Option (D × D) := mOfP 6 1 g__law_draw
/-! ### _law_words -/
abbrev st__law_words : Stmt := top 18
abbrev N__law_words : List Str := ["_law_pen", "_law_many", "_law_letters", "_law_base", "_law_spot", "_law_first", "_law_leap", "_law_found", "_law_k", "_law_tail"]
def g__law_words : DT := (dseq (dset 2 (DM.pure (.str "abcdefghijklmnopqrstuvwxyz")))
  (dseq (dset 3 (dm1 joinD (DM.pure (.str "")) (dcomp [8] ((dcons (dcallP false 0 m__law_draw (dcons (DM.pure (.int 8)) dnil)) dnil).bind fun ds => DM.opt (range1D ds)) (gdName 8) (DM.pure true) (dop ixD (dvar 2) (dcallP false 0 m__law_draw (dcons (DM.pure (.int 26)) dnil))))))
  (dseq (dset 4 (dcallP false 0 m__law_draw (dcons (dop addD (dcb lenD (dcons (dvar 3) dnil)) (DM.pure (.int 1))) dnil)))
  (dseq (dset 5 (dcallP false 0 m__law_draw (dcons (DM.pure (.int 26)) dnil)))
  (dseq (dset 6 (dop ixD (dlst (dcons (DM.pure (.int 1)) (dcons (DM.pure (.int 3)) (dcons (DM.pure (.int 5)) (dcons (DM.pure (.int 7)) (dcons (DM.pure (.int 9)) (dcons (DM.pure (.int 11)) dnil))))))) (dcallP false 0 m__law_draw (dcons (DM.pure (.int 6)) dnil))))
  (dseq (dset 7 (dlst dnil))
  (dseq (dfor ((dcons (dvar 1) dnil).bind fun ds => DM.opt (range1D ds)) (gdName 8)
  (dseq (dset 9 (dslice (dslice (dvar 3) (dpart (dvar 4)) dnopart) dnopart (dpart (dcallP false 0 m__law_draw (dcons (dop addD (dop subD (dcb lenD (dcons (dvar 3) dnil)) (dvar 4)) (DM.pure (.int 1))) dnil)))))
  (dapp 7 (dop addD (dop addD (dslice (dvar 3) dnopart (dpart (dvar 4))) (dop ixD (dvar 2) (dop modD (dop addD (dvar 5) (dop mulD (dvar 6) (dvar 8))) (DM.pure (.int 26))))) (dvar 9)))))
  (dret (dvar 7)))))))))
def m__law_words : D → List D → Option (D × D) := mOfP 10 1 g__law_words
/-! ### _law_page -/
abbrev st__law_page : Stmt := top 19
abbrev N__law_page : List Str := ["_law_pen", "_law_name", "_law_sorts_here", "_law_days", "_law_houses", "_law_things", "_law_kinds", "_law_names", "_law_ranks", "_law_word", "_law_day", "_law_at", "_law_one", "_law_other", "_law_thing", "_law_kind", "_law_many", "_law_worth", "_law_free", "_law_due", "_law_some"]
def g__law_page : DT := (dseq (dasg (dvar 2) (gdTup 4 (gdCons (gdName 4) (gdCons (gdName 5) (gdCons (gdName 6) (gdCons (gdName 7) gdNil))))))
  (dseq (dset 8 (dlst (dcons (DM.pure (.str "comes")) (dcons (DM.pure (.str "trial")) (dcons (DM.pure (.str "back")) (dcons (DM.pure (.str "keep")) (dcons (DM.pure (.str "give")) (dcons (DM.pure (.str "goes")) (dcons (DM.pure (.str "double")) (dcons (DM.pure (.str "promise")) (dcons (DM.pure (.str "loose")) (dcons (DM.pure (.str "want")) (dcons (DM.pure (.str "owe")) (dcons (DM.pure (.str "pay")) dnil))))))))))))))
  (dseq (dset 9 (dop ixD (dvar 8) (dcallP false 0 m__law_draw (dcons (DM.pure (.int 12)) dnil))))
  (dseq (dset 10 (dop ixD (dvar 3) (dcallP false 0 m__law_draw (dcons (dcb lenD (dcons (dvar 3) dnil)) dnil))))
  (dseq (dset 11 (dcallP false 0 m__law_draw (dcons (dcb lenD (dcons (dvar 4) dnil)) dnil)))
  (dseq (dpar 12 13 (dcons (dop ixD (dvar 4) (dvar 11)) (dcons (dop ixD (dvar 4) (dop modD (dop addD (dop addD (dvar 11) (DM.pure (.int 1))) (dcallP false 0 m__law_draw (dcons (dop subD (dcb lenD (dcons (dvar 4) dnil)) (DM.pure (.int 1))) dnil))) (dcb lenD (dcons (dvar 4) dnil)))) dnil)))
  (dseq (dset 14 (dop ixD (dvar 5) (dcallP false 0 m__law_draw (dcons (dcb lenD (dcons (dvar 5) dnil)) dnil))))
  (dseq (dset 15 (dop ixD (dvar 6) (dcallP false 0 m__law_draw (dcons (dcb lenD (dcons (dvar 6) dnil)) dnil))))
  (dseq (dset 16 (dop ixD (dlst (dcons (DM.pure (.int 0)) (dcons (DM.pure (.int 1)) (dcons (DM.pure (.int 9)) (dcons (dcallP false 0 m__law_draw (dcons (DM.pure (.int 10)) dnil)) dnil))))) (dcallP false 0 m__law_draw (dcons (DM.pure (.int 4)) dnil))))
  (dseq (dset 17 (dop ixD (dlst (dcons (DM.pure (.int 1)) (dcons (dop powD (DM.pure (.int 10)) (DM.pure (.int 9))) (dcons (dop addD (DM.pure (.int 1)) (dcallP false 0 m__law_draw (dcons (DM.pure (.int 9)) dnil))) (dcons (dop addD (DM.pure (.int 1)) (dcallP false 0 m__law_draw (dcons (dop powD (DM.pure (.int 10)) (DM.pure (.int 9))) dnil))) dnil))))) (dcallP false 0 m__law_draw (dcons (DM.pure (.int 4)) dnil))))
  (dseq (dset 18 (dop mulD (dvar 17) (dcb intD (dcons (dop gtD (dcallP false 0 m__law_draw (dcons (DM.pure (.int 4)) dnil)) (DM.pure (.int 0))) dnil))))
  (dseq (dset 19 (dop ixD (dlst (dcons (dvar 10) (dcons (dcb min2D (dcons (DM.pure (.int 999)) (dcons (dop addD (dvar 10) (dcallP false 0 m__law_draw (dcons (DM.pure (.int 20)) dnil))) dnil))) (dcons (DM.pure (.int 999)) dnil)))) (dcallP false 0 m__law_draw (dcons (DM.pure (.int 3)) dnil))))
  (dseq (dset 20 (ddisp (dpcons (DM.pure (.str "comes")) (dtup (dcons (dvar 14) (dcons (dvar 15) (dcons (dvar 12) dnil)))) (dpcons (DM.pure (.str "trial")) (dtup (dcons (dvar 14) (dcons (dvar 12) (dcons (dvar 13) (dcons (dvar 16) dnil))))) (dpcons (DM.pure (.str "back")) (dtup (dcons (dvar 14) (dcons (dvar 12) (dcons (dvar 16) dnil)))) dpnil)))))
  (dseq (dupd 20 (ddisp (dpcons (DM.pure (.str "keep")) (dtup (dcons (dvar 14) (dcons (dvar 12) (dcons (dvar 18) dnil)))) (dpcons (DM.pure (.str "give")) (dtup (dcons (dvar 14) (dcons (dvar 12) (dcons (dvar 13) (dcons (dvar 16) (dcons (dvar 18) dnil)))))) (dpcons (DM.pure (.str "goes")) (dtup (dcons (dvar 14) (dcons (dvar 12) dnil))) dpnil)))))
  (dseq (dupd 20 (ddisp (dpcons (DM.pure (.str "double")) (dtup (dcons (dvar 14) (dcons (dvar 12) dnil))) (dpcons (DM.pure (.str "promise")) (dtup (dcons (dvar 14) (dcons (dvar 12) (dcons (dvar 13) (dcons (dvar 19) dnil))))) dpnil))))
  (dseq (dupd 20 (ddisp (dpcons (DM.pure (.str "loose")) (dtup (dcons (dop ixD (dvar 7) (dcallP false 0 m__law_draw (dcons (dcb lenD (dcons (dvar 7) dnil)) dnil))) dnil)) (dpcons (DM.pure (.str "want")) (dtup (dcons (dvar 12) (dcons (dvar 15) (dcons (dvar 16) dnil)))) dpnil))))
  (dseq (dupd 20 (ddisp (dpcons (DM.pure (.str "owe")) (dtup (dcons (dvar 12) (dcons (dvar 13) (dcons (dvar 17) dnil)))) (dpcons (DM.pure (.str "pay")) (dtup (dcons (dvar 12) (dcons (dvar 13) (dcons (dvar 17) dnil)))) dpnil))))
  (dret (dop addD (dtup (dcons (dvar 9) (dcons (dvar 1) (dcons (dvar 10) dnil)))) (dop ixA (dvar 20) (dvar 9)))))))))))))))))))))
def m__law_page : D → List D → Option (D × D) := mOfP 21 3 g__law_page
/-! ### _law_is_word -/
abbrev st__law_is_word : Stmt := top 20
abbrev N__law_is_word : List Str := ["_law_thing", "_law_sign"]
def g__law_is_word : DT := (dseq (dif (dor (dnot (dtest (disi "str" (dvar 0)))) (dnot (dtest (dchain leD leD (DM.pure (.int 1)) (dcb lenD (dcons (dvar 0) dnil)) (DM.pure (.int 8))))))
  (dret (DM.pure (.bool false)))
  dnext)
  (dret (dop eqD (dcomp [1] ((dvar 0).bind fun d => DM.opt (itemsD d)) (gdName 1) (dtest (dop notInD (dvar 1) (DM.pure (.str "abcdefghijklmnopqrstuvwxyz")))) (dvar 1)) (dlst dnil))))
def m__law_is_word : List D → Option D := mOf 2 1 g__law_is_word
/-! ### _law_within -/
abbrev st__law_within : Stmt := top 21
abbrev N__law_within : List Str := ["_law_thing", "_law_least", "_law_most"]
def g__law_within : DT := (dret (dandV (disi "int" (dvar 0)) (dandV (dnotV (disi "bool" (dvar 0))) (dchain leD leD (dvar 1) (dvar 0) (dvar 2)))))
def m__law_within : List D → Option D := mOf 3 3 g__law_within
/-! ### _law_is_page -/
abbrev st__law_is_page : Stmt := top 22
abbrev N__law_is_page : List Str := ["_law_thing", "_law_forms", "_law_form", "_law_part", "_law_least", "_law_most"]
def g__law_is_page : DT := (dseq (dset 1 (ddisp (dpcons (DM.pure (.str "comes")) (DM.pure (.str "wdwww")) (dpcons (DM.pure (.str "trial")) (DM.pure (.str "wdwwwt")) (dpcons (DM.pure (.str "back")) (DM.pure (.str "wdwwt")) (dpcons (DM.pure (.str "keep")) (DM.pure (.str "wdwwf")) (dpcons (DM.pure (.str "give")) (DM.pure (.str "wdwwwtf")) (dpcons (DM.pure (.str "goes")) (DM.pure (.str "wdww")) dpnil))))))))
  (dseq (dupd 1 (ddisp (dpcons (DM.pure (.str "double")) (DM.pure (.str "wdww")) (dpcons (DM.pure (.str "promise")) (DM.pure (.str "wdwwwd")) (dpcons (DM.pure (.str "loose")) (DM.pure (.str "wdw")) (dpcons (DM.pure (.str "want")) (DM.pure (.str "wdwwt")) dpnil))))))
  (dseq (dupd 1 (ddisp (dpcons (DM.pure (.str "owe")) (DM.pure (.str "wdwwp")) (dpcons (DM.pure (.str "pay")) (DM.pure (.str "wdwwp")) dpnil))))
  (dseq (dif (dor (dnot (dtest (disi "tuple" (dvar 0)))) (dor (dtest (dop eqD (dcb lenD (dcons (dvar 0) dnil)) (DM.pure (.int 0)))) (dor (dnot (dtest (disi "str" (dop ixD (dvar 0) (DM.pure (.int 0)))))) (dtest (dop notInA (dop ixD (dvar 0) (DM.pure (.int 0))) (dvar 1))))))
  (dret (DM.pure (.bool false)))
  dnext)
  (dseq (dif (dtest (dop neD (dcb lenD (dcons (dvar 0) dnil)) (dop addD (dcb lenD (dcons (dop ixA (dvar 1) (dop ixD (dvar 0) (DM.pure (.int 0)))) dnil)) (DM.pure (.int 1)))))
  (dret (DM.pure (.bool false)))
  dnext)
  (dseq (dfor ((dflatA (dcons (dop ixA (dvar 1) (dop ixD (dvar 0) (DM.pure (.int 0)))) (dcons (dslice (dvar 0) (dpart (DM.pure (.int 1))) dnopart) dnil))).bind fun ds => DM.opt (zipD ds)) (gdTup 2 (gdCons (gdName 2) (gdCons (gdName 3) gdNil)))
  (dseq (dasg (dop ixA (ddisp (dpcons (DM.pure (.str "w")) (dtup (dcons (DM.pure (.int 0)) (dcons (DM.pure (.int 0)) dnil))) (dpcons (DM.pure (.str "d")) (dtup (dcons (DM.pure (.int 0)) (dcons (DM.pure (.int 999)) dnil))) (dpcons (DM.pure (.str "t")) (dtup (dcons (DM.pure (.int 0)) (dcons (DM.pure (.int 9)) dnil))) (dpcons (DM.pure (.str "f")) (dtup (dcons (DM.pure (.int 0)) (dcons (dop powD (DM.pure (.int 10)) (DM.pure (.int 9))) dnil))) (dpcons (DM.pure (.str "p")) (dtup (dcons (DM.pure (.int 1)) (dcons (dop powD (DM.pure (.int 10)) (DM.pure (.int 9))) dnil))) dpnil)))))) (dvar 2)) (gdTup 2 (gdCons (gdName 4) (gdCons (gdName 5) gdNil))))
  (dif (dnot (dtest (dop ixD (dlst (dcons (dcall m__law_within (dcons (dvar 3) (dcons (dvar 4) (dcons (dvar 5) dnil)))) (dcons (dcall m__law_is_word (dcons (dvar 3) dnil)) dnil))) (dcb intD (dcons (dop eqD (dvar 2) (DM.pure (.str "w"))) dnil)))))
  (dret (DM.pure (.bool false)))
  dnext)))
  (dseq (dif (dtest (dop inD (dop ixD (dvar 0) (DM.pure (.int 0))) (dtup (dcons (DM.pure (.str "owe")) (dcons (DM.pure (.str "pay")) dnil)))))
  (dret (dop neD (dop ixD (dvar 0) (DM.pure (.int 3))) (dop ixD (dvar 0) (DM.pure (.int 4)))))
  dnext)
  (dseq (dif (dand (dtest (dop inD (dop ixD (dvar 0) (DM.pure (.int 0))) (dtup (dcons (DM.pure (.str "trial")) (dcons (DM.pure (.str "give")) (dcons (DM.pure (.str "promise")) dnil)))))) (dtest (dop eqD (dop ixD (dvar 0) (DM.pure (.int 4))) (dop ixD (dvar 0) (DM.pure (.int 5))))))
  (dret (DM.pure (.bool false)))
  dnext)
  (dret (dorV (dop neD (dop ixD (dvar 0) (DM.pure (.int 0))) (DM.pure (.str "promise"))) (dop geD (dop ixD (dvar 0) (DM.pure (.int 6))) (dop ixD (dvar 0) (DM.pure (.int 2))))))))))))))
def m__law_is_page : List D → Option D := mOf 6 1 g__law_is_page
/-! ### _law_sorts -/
abbrev st__law_sorts : Stmt := top 23
abbrev N__law_sorts : List Str := ["_law_pen", "_law_some"]
def g__law_sorts : DT := (dseq (dset 1 (dcallP false 0 m__law_words (dcons (DM.pure (.int 8)) dnil)))
  (dseq (dif (dtest (dop eqD (dcallP false 0 m__law_draw (dcons (DM.pure (.int 3)) dnil)) (DM.pure (.int 0))))
  (dret (dtup (dcons (dslice (dvar 1) dnopart (dpart (DM.pure (.int 4)))) (dcons (dvar 1) (dcons (dvar 1) (dcons (dvar 1) dnil))))))
  dnext)
  (dret (dtup (dcons (dslice (dvar 1) dnopart (dpart (DM.pure (.int 4)))) (dcons (dcallP false 0 m__law_words (dcons (DM.pure (.int 5)) dnil)) (dcons (dcallP false 0 m__law_words (dcons (DM.pure (.int 3)) dnil)) (dcons (dcallP false 0 m__law_words (dcons (DM.pure (.int 6)) dnil)) dnil))))))))
def m__law_sorts : D → List D → Option (D × D) := mOfP 2 0 g__law_sorts
/-! ### _law_exchanged -/
abbrev st__law_exchanged : Stmt := top 24
abbrev N__law_exchanged : List Str := ["_law_pen", "_law_page_here", "_law_at", "_law_word", "_law_odd"]
def g__law_exchanged : DT := (dseq (dset 2 (dop addD (DM.pure (.int 1)) (dcallP false 0 m__law_draw (dcons (dop subD (dcb lenD (dcons (dvar 1) dnil)) (DM.pure (.int 1))) dnil))))
  (dseq (dif (dtest (disi "str" (dop ixD (dvar 1) (dvar 2))))
  (dseq (dset 3 (dop ixD (dvar 1) (dvar 2)))
  (dset 4 (dop ixD (dlst (dcons (DM.pure (.str "")) (dcons (dop mulD (dvar 3) (DM.pure (.int 9))) (dcons (dslice (dop addD (dvar 3) (DM.pure (.str "abcdefgh"))) dnopart (dpart (DM.pure (.int 9)))) (dcons (dslice (dop addD (dvar 3) (DM.pure (.str "abcdefgh"))) dnopart (dpart (DM.pure (.int 8)))) (dcons (dop ixD (dvar 1) (DM.pure (.int 3))) (dcons (dop ixD (dvar 1) (dun negD (DM.pure (.int 1)))) dnil))))))) (dcallP false 0 m__law_draw (dcons (DM.pure (.int 6)) dnil)))))
  (dset 4 (dop ixD (dlst (dcons (dun negD (DM.pure (.int 1))) (dcons (DM.pure (.int 0)) (dcons (DM.pure (.int 1)) (dcons (DM.pure (.int 9)) (dcons (DM.pure (.int 10)) (dcons (DM.pure (.int 999)) (dcons (DM.pure (.int 1000)) (dcons (dop powD (DM.pure (.int 10)) (DM.pure (.int 9))) (dcons (dop addD (dop powD (DM.pure (.int 10)) (DM.pure (.int 9))) (DM.pure (.int 1))) (dcons (dop ixD (dvar 1) (DM.pure (.int 2))) (dcons (dop subD (dop ixD (dvar 1) (DM.pure (.int 2))) (DM.pure (.int 1))) dnil)))))))))))) (dcallP false 0 m__law_draw (dcons (DM.pure (.int 11)) dnil)))))
  (dret (dop addD (dop addD (dslice (dvar 1) dnopart (dpart (dvar 2))) (dtup (dcons (dvar 4) dnil))) (dslice (dvar 1) (dpart (dop addD (dvar 2) (DM.pure (.int 1)))) dnopart)))))
def m__law_exchanged : D → List D → Option (D × D) := mOfP 5 1 g__law_exchanged
/-! ### law -/
abbrev st_law : Stmt := top 25
abbrev N_law : List Str := ["_law_script", "_law_pen", "_law_sorts_here", "_law_days", "_law_turn", "_law_page_here", "_law_odd", "_law_thing", "_law_due", "_law_found"]
def g_law : DT := (dseq (dset 2 (dcallP false 1 m__law_sorts dnil))
  (dseq (dset 3 (dlst (dcons (DM.pure (.int 0)) (dcons (DM.pure (.int 999)) (dcons (dcallP false 1 m__law_draw (dcons (DM.pure (.int 1000)) dnil)) (dcons (dcallP false 1 m__law_draw (dcons (DM.pure (.int 1000)) dnil)) dnil))))))
  (dseq (dfor ((dcons (DM.pure (.int 16)) dnil).bind fun ds => DM.opt (range1D ds)) (gdName 4)
  (dseq (dset 5 (dcallP false 1 m__law_page (dcons (dop ixD (dop ixD (dvar 2) (DM.pure (.int 3))) (dcallP false 1 m__law_draw (dcons (dcb lenD (dcons (dop ixD (dvar 2) (DM.pure (.int 3))) dnil)) dnil))) (dcons (dvar 2) (dcons (dvar 3) dnil)))))
  (dseq (dset 6 (dcallP false 1 m__law_exchanged (dcons (dvar 5) dnil)))
  (dfor ((dlst (dcons (dtup (dcons (dvar 5) (dcons (DM.pure (.bool true)) dnil))) (dcons (dtup (dcons (dvar 6) (dcons (dcall m__law_is_page (dcons (dvar 6) dnil)) dnil))) (dcons (dtup (dcons (dvar 5) (dcons (DM.pure (.bool true)) dnil))) dnil)))).bind fun d => DM.opt (itemsD d)) (gdTup 2 (gdCons (gdName 7) (gdCons (gdName 8) gdNil)))
  (dseq (dset 9 (dcall m_is_page (dcons (dvar 7) dnil)))
  (dif (dor (dnot (dtest (disi "bool" (dvar 9)))) (dtest (dop neD (dvar 9) (dvar 8))))
  (dret (DM.pure (.bool false)))
  dnext))))))
  (dret (DM.pure (.bool true))))))
/-! ## what the top has written -/
structure Tx (K : PySem.W.Frag) (w : World) (mg : Str → Option Value) : Prop where
  f_is_word : ∃ fd, FunD K "is_word" "is_word" (defArgs st_is_word) (defBody st_is_word) (defScope st_is_word) [] [] (He.ga K "is_word") fd
  m_is_word : mg "is_word" = some (.ref (He.ga K "is_word"))
  f_is_from_to : ∃ fd, FunD K "is_from_to" "is_from_to" (defArgs st_is_from_to) (defBody st_is_from_to) (defScope st_is_from_to) [] [] (He.ga K "is_from_to") fd
  m_is_from_to : mg "is_from_to" = some (.ref (He.ga K "is_from_to"))
  f_is_day : ∃ fd, FunD K "is_day" "is_day" (defArgs st_is_day) (defBody st_is_day) (defScope st_is_day) [] [] (He.ga K "is_day") fd
  m_is_day : mg "is_day" = some (.ref (He.ga K "is_day"))
  f_is_part : ∃ fd, FunD K "is_part" "is_part" (defArgs st_is_part) (defBody st_is_part) (defScope st_is_part) [] [] (He.ga K "is_part") fd
  m_is_part : mg "is_part" = some (.ref (He.ga K "is_part"))
  f_houses_in : ∃ fd, FunD K "houses_in" "houses_in" (defArgs st_houses_in) (defBody st_houses_in) (defScope st_houses_in) [] [] (He.ga K "houses_in") fd
  m_houses_in : mg "houses_in" = some (.ref (He.ga K "houses_in"))
  f_is_page : ∃ fd, FunD K "is_page" "is_page" (defArgs st_is_page) (defBody st_is_page) (defScope st_is_page) [] [] (He.ga K "is_page") fd
  m_is_page : mg "is_page" = some (.ref (He.ga K "is_page"))
  f__law_draw : ∃ fd, FunD K "_law_draw" "_law_draw" (defArgs st__law_draw) (defBody st__law_draw) (defScope st__law_draw) [] [] (He.ga K "_law_draw") fd
  m__law_draw : mg "_law_draw" = some (.ref (He.ga K "_law_draw"))
  f__law_words : ∃ fd, FunD K "_law_words" "_law_words" (defArgs st__law_words) (defBody st__law_words) (defScope st__law_words) [] [] (He.ga K "_law_words") fd
  m__law_words : mg "_law_words" = some (.ref (He.ga K "_law_words"))
  f__law_page : ∃ fd, FunD K "_law_page" "_law_page" (defArgs st__law_page) (defBody st__law_page) (defScope st__law_page) [] [] (He.ga K "_law_page") fd
  m__law_page : mg "_law_page" = some (.ref (He.ga K "_law_page"))
  f__law_is_word : ∃ fd, FunD K "_law_is_word" "_law_is_word" (defArgs st__law_is_word) (defBody st__law_is_word) (defScope st__law_is_word) [] [] (He.ga K "_law_is_word") fd
  m__law_is_word : mg "_law_is_word" = some (.ref (He.ga K "_law_is_word"))
  f__law_within : ∃ fd, FunD K "_law_within" "_law_within" (defArgs st__law_within) (defBody st__law_within) (defScope st__law_within) [] [] (He.ga K "_law_within") fd
  m__law_within : mg "_law_within" = some (.ref (He.ga K "_law_within"))
  f__law_is_page : ∃ fd, FunD K "_law_is_page" "_law_is_page" (defArgs st__law_is_page) (defBody st__law_is_page) (defScope st__law_is_page) [] [] (He.ga K "_law_is_page") fd
  m__law_is_page : mg "_law_is_page" = some (.ref (He.ga K "_law_is_page"))
  f__law_sorts : ∃ fd, FunD K "_law_sorts" "_law_sorts" (defArgs st__law_sorts) (defBody st__law_sorts) (defScope st__law_sorts) [] [] (He.ga K "_law_sorts") fd
  m__law_sorts : mg "_law_sorts" = some (.ref (He.ga K "_law_sorts"))
  f__law_exchanged : ∃ fd, FunD K "_law_exchanged" "_law_exchanged" (defArgs st__law_exchanged) (defBody st__law_exchanged) (defScope st__law_exchanged) [] [] (He.ga K "_law_exchanged") fd
  m__law_exchanged : mg "_law_exchanged" = some (.ref (He.ga K "_law_exchanged"))
  f_law : ∃ fd, FunD K "law" "law" (defArgs st_law) (defBody st_law) (defScope st_law) [] [] (He.ga K "law") fd
  m_law : mg "law" = some (.ref (He.ga K "law"))
  b_abs : mg "abs" = none
  b_all : mg "all" = none
  b_bool : mg "bool" = none
  b_int : mg "int" = none
  b_isinstance : mg "isinstance" = none
  b_len : mg "len" = none
  b_min : mg "min" = none
  b_range : mg "range" = none
  b_str : mg "str" = none
  b_tuple : mg "tuple" = none
  b_zip : mg "zip" = none
  c_LAST_DAY : ∃ t, mg "LAST_DAY" = some (.int 999 t)
  c_LETTERS : ∃ t, mg "LETTERS" = some (.str "abcdefghijklmnopqrstuvwxyz" t)
  c_LONGEST_WORD : ∃ t, mg "LONGEST_WORD" = some (.int 8 t)
  c_MOST_DAYS : ∃ t, mg "MOST_DAYS" = some (.int 9 t)
  c_MOST_WEIGHT : ∃ t, mg "MOST_WEIGHT" = some (.int 9 t)
  c_MOST_WORTH : ∃ t, mg "MOST_WORTH" = some (.int 1000000000 t)
  t_FORMS : TabD K w mg "FORMS" k_FORMS
  t_HOUSES : TabD K w mg "HOUSES" k_HOUSES
set_option maxHeartbeats 4000000
theorem sc_is_word : FnScope N_is_word ["thing"] (defScope st_is_word) := ⟨rfl, rfl, rfl, by decide +kernel, rfl, by decide +kernel, by decide +kernel⟩
theorem ok_is_word {P : Program} {w : World} {K : PySem.W.Frag} {mg : Str → Option Value} {base : Heap} (T : Tx K w mg) : CallOk P w K mg base "is_word" 1 ["thing"] (spD K 1 m_is_word) := by

  have nd := sc_is_word.nd
  obtain ⟨fd, F⟩ := T.f_is_word
  refine ⟨_, fd, ?_, T.m_is_word, F.kp, F.bindsN fun _ _ _ _ _ _ us hl => match us, hl with | [_], _ => rfl⟩
  exact def_ok (N := N_is_word) (cl := []) (g := g_is_word) F sc_is_word rfl (by decide) (by decide) fun cdv A outer s H E hr => ⟨_, (pdss_cons (pds_if (PDT.em (PDW.pdt (pdw_or (pdt_not (pdt_val (pd_isi rfl T.b_isinstance rfl T.b_str (by decide +kernel) (by decide +kernel) (pd_var 0)))) (pdw_or1 (pdt_not (pdt_chain op_leA op_leA rd2_cmp rd2_cmp pd_int (pd_callB call_len rdc_len rfl T.b_len (by decide +kernel) (pda_cons (pd_var 0) pda_nil)) (pd_globI rfl T.c_LONGEST_WORD)))))))
  (pdss_one (pds_ret pd_bl))
  pdss_nil)
  (pdss_one (pds_ret (pd_callB (cr_all rfl) rdc_all rfl T.b_all (by decide +kernel) (pda_cons (PDN.pd (pdn_lcV (own := [("sign", 1)]) (hc := rfl) (hN := nd) (hi := (pdi_any (pd_var 0))) (ok := blkOk_by (N := N_is_word) (sc := defScope st_is_word) (by decide +kernel)) (hv := by decide) (hg := fun _ _ _ _ _ => (pdg_name 1 (hN := nd))) (ht := fun _ _ _ _ _ => pdts_nil) (he := fun _ _ _ _ _ => (pd_cmp (op_inA (hu65 hr)) rd2_in (pd_var 1) (pd_globS rfl T.c_LETTERS))))) pda_nil)))))⟩
theorem sc_is_from_to : FnScope N_is_from_to ["thing", "least", "most"] (defScope st_is_from_to) := ⟨rfl, rfl, rfl, by decide +kernel, rfl, by decide +kernel, by decide +kernel⟩
theorem ok_is_from_to {P : Program} {w : World} {K : PySem.W.Frag} {mg : Str → Option Value} {base : Heap} (T : Tx K w mg) : CallOk P w K mg base "is_from_to" 1 ["thing", "least", "most"] (spD K 3 m_is_from_to) := by

  have nd := sc_is_from_to.nd
  obtain ⟨fd, F⟩ := T.f_is_from_to
  refine ⟨_, fd, ?_, T.m_is_from_to, F.kp, F.bindsN fun _ _ _ _ _ _ us hl => match us, hl with | [_, _, _], _ => rfl⟩
  exact def_ok (N := N_is_from_to) (cl := []) (g := g_is_from_to) F sc_is_from_to rfl (by decide) (by decide) fun cdv A outer s H E hr => ⟨_, (pdss_one (pds_ret (pd_and (pd_isi rfl T.b_isinstance rfl T.b_int (by decide +kernel) (by decide +kernel) (pd_var 0)) (pd_and (pd_not (pd_isi rfl T.b_isinstance rfl T.b_bool (by decide +kernel) (by decide +kernel) (pd_var 0))) (pd_one (pd_chain op_leA op_leA rd2_cmp rd2_cmp (pd_var 1) (pd_var 0) (pd_var 2)))))))⟩
theorem sc_is_day : FnScope N_is_day ["thing"] (defScope st_is_day) := ⟨rfl, rfl, rfl, by decide +kernel, rfl, by decide +kernel, by decide +kernel⟩
theorem ok_is_day {P : Program} {w : World} {K : PySem.W.Frag} {mg : Str → Option Value} {base : Heap} (T : Tx K w mg) : CallOk P w K mg base "is_day" 2 ["thing"] (spD K 1 m_is_day) := by
  have C_is_from_to := ok_is_from_to (P := P) (w := w) (base := base) T
  have nd := sc_is_day.nd
  obtain ⟨fd, F⟩ := T.f_is_day
  refine ⟨_, fd, ?_, T.m_is_day, F.kp, F.bindsN fun _ _ _ _ _ _ us hl => match us, hl with | [_], _ => rfl⟩
  exact def_ok (N := N_is_day) (cl := []) (g := g_is_day) F sc_is_day rfl (by decide) (by decide) fun cdv A outer s H E hr => ⟨_, (pdss_one (pds_ret (pd_fn C_is_from_to mOf_len hr (pda_cons (pd_var 0) (pda_cons pd_int (pda_cons (pd_globI rfl T.c_LAST_DAY) pda_nil))))))⟩
theorem sc_is_part : FnScope N_is_part ["kind", "thing"] (defScope st_is_part) := ⟨rfl, rfl, rfl, by decide +kernel, rfl, by decide +kernel, by decide +kernel⟩
theorem ok_is_part {P : Program} {w : World} {K : PySem.W.Frag} {mg : Str → Option Value} {base : Heap} (T : Tx K w mg) : CallOk P w K mg base "is_part" 3 ["kind", "thing"] (spD K 2 m_is_part) := by
  have C_is_word := ok_is_word (P := P) (w := w) (base := base) T
  have C_is_from_to := ok_is_from_to (P := P) (w := w) (base := base) T
  have C_is_day := ok_is_day (P := P) (w := w) (base := base) T
  have nd := sc_is_part.nd
  obtain ⟨fd, F⟩ := T.f_is_part
  refine ⟨_, fd, ?_, T.m_is_part, F.kp, F.bindsN fun _ _ _ _ _ _ us hl => match us, hl with | [_, _], _ => rfl⟩
  exact def_ok (N := N_is_part) (cl := []) (g := g_is_part) F sc_is_part rfl (by decide) (by decide) fun cdv A outer s H E hr => ⟨_, (pdss_cons (pds_if (PDT.em (pdt_cmp (op_eqA hr.units) rd2_eq (pd_var 0) pd_str))
  (pdss_one (pds_ret (pd_fn C_is_word mOf_len hr (pda_cons (pd_var 1) pda_nil))))
  pdss_nil)
  (pdss_cons (pds_if (PDT.em (pdt_cmp (op_eqA hr.units) rd2_eq (pd_var 0) pd_str))
  (pdss_one (pds_ret (pd_fn C_is_day mOf_len hr (pda_cons (pd_var 1) pda_nil))))
  pdss_nil)
  (pdss_cons (pds_if (PDT.em (pdt_cmp (op_eqA hr.units) rd2_eq (pd_var 0) pd_str))
  (pdss_one (pds_ret (pd_fn C_is_from_to mOf_len hr (pda_cons (pd_var 1) (pda_cons pd_int (pda_cons (pd_globI rfl T.c_MOST_DAYS) pda_nil))))))
  pdss_nil)
  (pdss_cons (pds_if (PDT.em (pdt_cmp (op_eqA hr.units) rd2_eq (pd_var 0) pd_str))
  (pdss_one (pds_ret (pd_fn C_is_from_to mOf_len hr (pda_cons (pd_var 1) (pda_cons pd_int (pda_cons (pd_globI rfl T.c_MOST_WEIGHT) pda_nil))))))
  pdss_nil)
  (pdss_one (pds_ret (pd_fn C_is_from_to mOf_len hr (pda_cons (pd_var 1) (pda_cons (pd_callTy call_int1 rdc_int rfl T.b_int (by decide +kernel) (pda_cons (pd_cmp (op_eqA hr.units) rd2_eq (pd_var 0) pd_str) pda_nil)) (pda_cons (pd_globI rfl T.c_MOST_WORTH) pda_nil))))))))))⟩
theorem sc_houses_in : FnScope N_houses_in ["page"] (defScope st_houses_in) := ⟨rfl, rfl, rfl, by decide +kernel, rfl, by decide +kernel, by decide +kernel⟩
theorem ok_houses_in {P : Program} {w : World} {K : PySem.W.Frag} {mg : Str → Option Value} {base : Heap} (T : Tx K w mg) : CallOk P w K mg base "houses_in" 1 ["page"] (spD K 1 m_houses_in) := by

  have nd := sc_houses_in.nd
  obtain ⟨fd, F⟩ := T.f_houses_in
  refine ⟨_, fd, ?_, T.m_houses_in, F.kp, F.bindsN fun _ _ _ _ _ _ us hl => match us, hl with | [_], _ => rfl⟩
  exact def_ok (N := N_houses_in) (cl := []) (g := g_houses_in) F sc_houses_in rfl (by decide) (by decide) fun cdv A outer s H E hr => ⟨_, (pdss_one (pds_ret (PDN.pd (pdn_lcV (own := [("at", 1)]) (hc := rfl) (hN := nd) (hi := (pdi_any (pd_gix rfl T.t_HOUSES (pd_ix (pd_var 0) pd_int)))) (ok := blkOk_by (N := N_houses_in) (sc := defScope st_houses_in) (by decide +kernel)) (hv := by decide) (hg := fun _ _ _ _ _ => (pdg_name 1 (hN := nd))) (ht := fun _ _ _ _ _ => pdts_nil) (he := fun _ _ _ _ _ => (pd_ix (pd_var 0) (pd_var 1)))))))⟩
theorem sc_is_page : FnScope N_is_page ["thing"] (defScope st_is_page) := ⟨rfl, rfl, rfl, by decide +kernel, rfl, by decide +kernel, by decide +kernel⟩
theorem ok_is_page {P : Program} {w : World} {K : PySem.W.Frag} {mg : Str → Option Value} {base : Heap} (T : Tx K w mg) : CallOk P w K mg base "is_page" 4 ["thing"] (spD K 1 m_is_page) := by
  have C_is_part := ok_is_part (P := P) (w := w) (base := base) T
  have C_houses_in := ok_houses_in (P := P) (w := w) (base := base) T
  have nd := sc_is_page.nd
  obtain ⟨fd, F⟩ := T.f_is_page
  refine ⟨_, fd, ?_, T.m_is_page, F.kp, F.bindsN fun _ _ _ _ _ _ us hl => match us, hl with | [_], _ => rfl⟩
  exact def_ok (N := N_is_page) (cl := []) (g := g_is_page) F sc_is_page rfl (by decide) (by decide) fun cdv A outer s H E hr => ⟨_, (pdss_cons (pds_if (PDT.em (PDW.pdt (pdw_or (pdt_not (pdt_val (pd_isi rfl T.b_isinstance rfl T.b_tuple (by decide +kernel) (by decide +kernel) (pd_var 0)))) (pdw_or (pdt_cmp (op_eqA hr.units) rd2_eq (pd_callB call_len rdc_len rfl T.b_len (by decide +kernel) (pda_cons (pd_var 0) pda_nil)) pd_int) (pdw_or (pdt_not (pdt_val (pd_isi rfl T.b_isinstance rfl T.b_str (by decide +kernel) (by decide +kernel) (pd_ix (pd_var 0) pd_int)))) (pdw_or1 (pdt_gnin rfl T.t_FORMS (pd_ix (pd_var 0) pd_int))))))))
  (pdss_one (pds_ret pd_bl))
  pdss_nil)
  (pdss_cons (pds_set 1 (PD.em (pd_gix rfl T.t_FORMS (pd_ix (pd_var 0) pd_int))) (hN := nd))
  (pdss_cons (pds_if (PDT.em (PDW.pdt (pdw_or (pdt_cmp (op_neA hr.units) rd2_ne (pd_callB call_len rdc_len rfl T.b_len (by decide +kernel) (pda_cons (pd_var 0) pda_nil)) (pd_bin op_addA rd2_add pd_int (pd_callB call_len rdc_len rfl T.b_len (by decide +kernel) (pda_cons (pd_var 1) pda_nil)))) (pdw_or1 (pdt_not (pdt_val (pd_callB (cr_all rfl) rdc_all rfl T.b_all (by decide +kernel) (pda_cons (PDN.pd (pdn_lcV (own := [("kind", 3), ("part", 4)]) (hc := rfl) (hN := nd) (hi := (pdi_zip rfl T.b_zip (pda_cons (pd_var 1) (pda_cons (pd_slice (pd_var 0) (pdo_some pd_int) pdo_none) pda_nil)))) (ok := blkOk_by (N := N_is_page) (sc := defScope st_is_page) (by decide +kernel)) (hv := by decide) (hg := fun _ _ _ _ _ => (pdg_tup rfl (pdgs_cons (pdg_name 3 (hN := nd)) (pdgs_cons (pdg_name 4 (hN := nd)) pdgs_nil)))) (ht := fun _ _ _ _ _ => pdts_nil) (he := fun _ _ _ _ _ => (pd_fn C_is_part mOf_len hr (pda_cons (pd_var 3) (pda_cons (pd_var 4) pda_nil)))))) pda_nil))))))))
  (pdss_one (pds_ret pd_bl))
  pdss_nil)
  (pdss_cons (pds_set 2 (PD.em (pd_fn C_houses_in mOf_len hr (pda_cons (pd_var 0) pda_nil))) (hN := nd))
  (pdss_cons (pds_if (PDT.em (PDW.pdt (pdw_and (pdt_cmp (op_eqA hr.units) rd2_eq (pd_callB call_len rdc_len rfl T.b_len (by decide +kernel) (pda_cons (pd_var 2) pda_nil)) pd_int) (pdw_and1 (pdt_cmp (op_eqA hr.units) rd2_eq (pd_ix (pd_var 2) pd_int) (pd_ix (pd_var 2) pd_int))))))
  (pdss_one (pds_ret pd_bl))
  pdss_nil)
  (pdss_one (pds_ret (pd_or (pd_cmp (op_neA hr.units) rd2_ne (pd_ix (pd_var 0) pd_int) pd_str) (pd_one (pd_cmp op_leA rd2_cmp (pd_ix (pd_var 0) pd_int) (pd_ix (pd_var 0) pd_int)))))))))))⟩
theorem sc__law_draw : FnScope N__law_draw ["_law_pen", "_law_many"] (defScope st__law_draw) := ⟨rfl, rfl, rfl, by decide +kernel, rfl, by decide +kernel, by decide +kernel⟩
theorem ok__law_draw {P : Program} {w : World} {K : PySem.W.Frag} {mg : Str → Option Value} {base : Heap} (T : Tx K w mg) : CallOk P w K mg base "_law_draw" 1 ["_law_pen", "_law_many"] (spP K 1 m__law_draw) := by

  have nd := sc__law_draw.nd
  obtain ⟨fd, F⟩ := T.f__law_draw
  refine ⟨_, fd, ?_, T.m__law_draw, F.kp, F.bindsN fun _ _ _ _ _ _ us hl => match us, hl with | [_, _], _ => rfl⟩
  exact def_okP (N := N__law_draw) (cl := []) (g := g__law_draw) F sc__law_draw rfl (by decide) (by decide) fun cdv A outer s H E hr => ⟨_, (pdss_cons (pds_if (PDT.em (pdt_cmp op_gtA rd2_cmp (pd_pix 0 pd_int) pd_int))
  (pdss_cons (pds_set 2 (PD.em (pd_bin op_mod rd2_mod (pd_pix 0 pd_int) (pd_var 1))) (hN := nd))
  (pdss_cons (pds_putP 0 (PD.em (pd_bin op_fdivW rd2_fdiv (pd_pix 0 pd_int) (pd_var 1))) (PD.em pd_int))
  (pdss_one (pds_ret (pd_var 2)))))
  pdss_nil)
  (pdss_cons (pds_set 3 (PD.em (pd_pix 0 pd_int)) (hN := nd))
  (pdss_cons (pds_putP 0 (PD.em (pd_bin op_addA rd2_add (pd_var 3) pd_int)) (PD.em pd_int))
  (pdss_cons (pds_set 4 (PD.em pd_int) (hN := nd))
  (pdss_cons (pds_if (PDT.em (pdt_cmp op_gtA rd2_cmp (pd_callB call_len rdc_len rfl T.b_len (by decide +kernel) (pda_cons (pd_pix 0 pd_int) pda_nil)) pd_int))
  (pdss_one (pds_set 4 (PD.em (pd_ix (pd_pix 0 pd_int) (pd_bin op_mod rd2_mod (pd_var 3) (pd_callB call_len rdc_len rfl T.b_len (by decide +kernel) (pda_cons (pd_pix 0 pd_int) pda_nil))))) (hN := nd)))
  pdss_nil)
  (pdss_cons (pds_if (PDT.em (PDW.pdt (pdw_and (pdt_cmp op_ltA rd2_cmp (pd_var 3) (pd_callB call_len rdc_len rfl T.b_len (by decide +kernel) (pda_cons (pd_pix 0 pd_int) pda_nil))) (pdw_and1 (pdt_cmp op_geA rd2_cmp (pd_callB call_abs rdc_abs rfl T.b_abs (by decide +kernel) (pda_cons (pd_var 4) pda_nil)) (pd_bin op_pow rd2_pow pd_int pd_int))))))
  (pdss_cons (pds_putP 0 (PD.em (pd_bin op_fdivW rd2_fdiv (pd_callB call_abs rdc_abs rfl T.b_abs (by decide +kernel) (pda_cons (pd_var 4) pda_nil)) (pd_var 1))) (PD.em pd_int))
  (pdss_one (pds_ret (pd_bin op_mod rd2_mod (pd_callB call_abs rdc_abs rfl T.b_abs (by decide +kernel) (pda_cons (pd_var 4) pda_nil)) (pd_var 1)))))
  pdss_nil)
  (pdss_cons (pds_set 5 (PD.em (pd_bin op_mod rd2_mod (pd_bin op_addA rd2_add (pd_bin op_addA rd2_add (pd_bin op_mod rd2_mod (pd_var 4) pd_int) (pd_bin op_mulA rd2_mul pd_int (pd_var 3))) pd_int) pd_int)) (hN := nd))
  (pdss_cons (pds_set 5 (PD.em (pd_bin op_mod rd2_mod (pd_bin op_addA rd2_add (pd_bin op_addA rd2_add (pd_bin op_mulA rd2_mul (pd_var 5) (pd_var 5)) (pd_bin op_mulA rd2_mul pd_int (pd_var 3))) pd_int) pd_int)) (hN := nd))
  (pdss_cons (pds_set 5 (PD.em (pd_bin op_mod rd2_mod (pd_bin op_addA rd2_add (pd_bin op_addA rd2_add (pd_bin op_mulA rd2_mul (pd_var 5) (pd_var 5)) (pd_bin op_mulA rd2_mul pd_int (pd_var 5))) (pd_var 3)) pd_int)) (hN := nd))
  (pdss_one (pds_ret (pd_bin op_mod rd2_mod (pd_bin op_fdivW rd2_fdiv (pd_var 5) pd_int) (pd_var 1)))))))))))))⟩
theorem sc__law_words : FnScope N__law_words ["_law_pen", "_law_many"] (defScope st__law_words) := ⟨rfl, rfl, rfl, by decide +kernel, rfl, by decide +kernel, by decide +kernel⟩
theorem ok__law_words {P : Program} {w : World} {K : PySem.W.Frag} {mg : Str → Option Value} {base : Heap} (T : Tx K w mg) : CallOk P w K mg base "_law_words" 2 ["_law_pen", "_law_many"] (spP K 1 m__law_words) := by
  have C__law_draw := ok__law_draw (P := P) (w := w) (base := base) T
  have nd := sc__law_words.nd
  obtain ⟨fd, F⟩ := T.f__law_words
  refine ⟨_, fd, ?_, T.m__law_words, F.kp, F.bindsN fun _ _ _ _ _ _ us hl => match us, hl with | [_, _], _ => rfl⟩
  exact def_okP (N := N__law_words) (cl := [7]) (g := g__law_words) F sc__law_words rfl (by decide) (by decide) fun cdv A outer s H E hr => ⟨_, (pdss_cons (pds_set 2 (PD.em pd_str) (hN := nd))
  (pdss_cons (pds_set 3 (PD.em (pd_join pd_str (PDN.pd (pdn_lcV (own := [("_law_k", 8)]) (hc := rfl) (hN := nd) (hi := (pdi_range1 rfl T.b_range (pda_cons (pd_fnP 0 C__law_draw mOfP_len hr (pda_cons pd_int pda_nil)) pda_nil))) (ok := blkOk_by (N := N__law_words) (sc := defScope st__law_words) (by decide +kernel)) (hv := by decide) (hg := fun _ _ _ _ _ => (pdg_name 8 (hN := nd))) (ht := fun _ _ _ _ _ => pdts_nil) (he := fun _ _ _ _ _ => (pd_ix (pd_var 2) (pd_fnP 0 C__law_draw mOfP_len hr (pda_cons pd_int pda_nil)))))))) (hN := nd))
  (pdss_cons (pds_set 4 (PD.em (pd_fnP 0 C__law_draw mOfP_len hr (pda_cons (pd_bin op_addA rd2_add (pd_callB call_len rdc_len rfl T.b_len (by decide +kernel) (pda_cons (pd_var 3) pda_nil)) pd_int) pda_nil))) (hN := nd))
  (pdss_cons (pds_set 5 (PD.em (pd_fnP 0 C__law_draw mOfP_len hr (pda_cons pd_int pda_nil))) (hN := nd))
  (pdss_cons (pds_set 6 (PD.em (pd_ix (pd_lst (pda_cons pd_int (pda_cons pd_int (pda_cons pd_int (pda_cons pd_int (pda_cons pd_int (pda_cons pd_int pda_nil))))))) (pd_fnP 0 C__law_draw mOfP_len hr (pda_cons pd_int pda_nil)))) (hN := nd))
  (pdss_cons (pds_setC 7 (pdn_lst pda_nil) (hN := nd))
  (pdss_cons (pds_for (vs := [8]) PassesOwn.never rfl (pdi_range1 rfl T.b_range (pda_cons (pd_var 1) pda_nil)) (pdg_name 8 (hN := nd))
  (pdss_cons (pds_set 9 (PD.em (pd_slice (pd_slice (pd_var 3) (pdo_some (pd_var 4)) pdo_none) pdo_none (pdo_some (pd_fnP 0 C__law_draw mOfP_len hr (pda_cons (pd_bin op_addA rd2_add (pd_bin op_sub rd2_sub (pd_callB call_len rdc_len rfl T.b_len (by decide +kernel) (pda_cons (pd_var 3) pda_nil)) (pd_var 4)) pd_int) pda_nil))))) (hN := nd))
  (pdss_one (pds_app 7 (PD.em (pd_bin op_addA rd2_add (pd_bin op_addA rd2_add (pd_slice (pd_var 3) pdo_none (pdo_some (pd_var 4))) (pd_ix (pd_var 2) (pd_bin op_mod rd2_mod (pd_bin op_addA rd2_add (pd_var 5) (pd_bin op_mulA rd2_mul (pd_var 6) (pd_var 8))) pd_int))) (pd_var 9)))))))
  (pdss_one (pds_retA (pd_var 7))))))))))⟩
theorem sc__law_page : FnScope N__law_page ["_law_pen", "_law_name", "_law_sorts_here", "_law_days"] (defScope st__law_page) := ⟨rfl, rfl, rfl, by decide +kernel, rfl, by decide +kernel, by decide +kernel⟩
theorem ok__law_page {P : Program} {w : World} {K : PySem.W.Frag} {mg : Str → Option Value} {base : Heap} (T : Tx K w mg) : CallOk P w K mg base "_law_page" 2 ["_law_pen", "_law_name", "_law_sorts_here", "_law_days"] (spP K 3 m__law_page) := by
  have C__law_draw := ok__law_draw (P := P) (w := w) (base := base) T
  have nd := sc__law_page.nd
  obtain ⟨fd, F⟩ := T.f__law_page
  refine ⟨_, fd, ?_, T.m__law_page, F.kp, F.bindsN fun _ _ _ _ _ _ us hl => match us, hl with | [_, _, _, _], _ => rfl⟩
  exact def_okP (N := N__law_page) (cl := [20]) (g := g__law_page) F sc__law_page rfl (by decide) (by decide) fun cdv A outer s H E hr => ⟨_, (pdss_cons (pds_asg (vs := [4, 5, 6, 7]) (PD.em (pd_var 2)) (pdg_tup rfl (pdgs_cons (pdg_name 4 (hN := nd)) (pdgs_cons (pdg_name 5 (hN := nd)) (pdgs_cons (pdg_name 6 (hN := nd)) (pdgs_cons (pdg_name 7 (hN := nd)) pdgs_nil))))))
  (pdss_cons (pds_set 8 (PD.em (pd_lst (pda_cons pd_str (pda_cons pd_str (pda_cons pd_str (pda_cons pd_str (pda_cons pd_str (pda_cons pd_str (pda_cons pd_str (pda_cons pd_str (pda_cons pd_str (pda_cons pd_str (pda_cons pd_str (pda_cons pd_str pda_nil)))))))))))))) (hN := nd))
  (pdss_cons (pds_set 9 (PD.em (pd_ix (pd_var 8) (pd_fnP 0 C__law_draw mOfP_len hr (pda_cons pd_int pda_nil)))) (hN := nd))
  (pdss_cons (pds_set 10 (PD.em (pd_ix (pd_var 3) (pd_fnP 0 C__law_draw mOfP_len hr (pda_cons (pd_callB call_len rdc_len rfl T.b_len (by decide +kernel) (pda_cons (pd_var 3) pda_nil)) pda_nil)))) (hN := nd))
  (pdss_cons (pds_set 11 (PD.em (pd_fnP 0 C__law_draw mOfP_len hr (pda_cons (pd_callB call_len rdc_len rfl T.b_len (by decide +kernel) (pda_cons (pd_var 4) pda_nil)) pda_nil))) (hN := nd))
  (pdss_cons (pds_par 12 13 (pda_cons (pd_ix (pd_var 4) (pd_var 11)) (pda_cons (pd_ix (pd_var 4) (pd_bin op_mod rd2_mod (pd_bin op_addA rd2_add (pd_bin op_addA rd2_add (pd_var 11) pd_int) (pd_fnP 0 C__law_draw mOfP_len hr (pda_cons (pd_bin op_sub rd2_sub (pd_callB call_len rdc_len rfl T.b_len (by decide +kernel) (pda_cons (pd_var 4) pda_nil)) pd_int) pda_nil))) (pd_callB call_len rdc_len rfl T.b_len (by decide +kernel) (pda_cons (pd_var 4) pda_nil)))) pda_nil)) (hN := nd))
  (pdss_cons (pds_set 14 (PD.em (pd_ix (pd_var 5) (pd_fnP 0 C__law_draw mOfP_len hr (pda_cons (pd_callB call_len rdc_len rfl T.b_len (by decide +kernel) (pda_cons (pd_var 5) pda_nil)) pda_nil)))) (hN := nd))
  (pdss_cons (pds_set 15 (PD.em (pd_ix (pd_var 6) (pd_fnP 0 C__law_draw mOfP_len hr (pda_cons (pd_callB call_len rdc_len rfl T.b_len (by decide +kernel) (pda_cons (pd_var 6) pda_nil)) pda_nil)))) (hN := nd))
  (pdss_cons (pds_set 16 (PD.em (pd_ix (pd_lst (pda_cons pd_int (pda_cons pd_int (pda_cons pd_int (pda_cons (pd_fnP 0 C__law_draw mOfP_len hr (pda_cons pd_int pda_nil)) pda_nil))))) (pd_fnP 0 C__law_draw mOfP_len hr (pda_cons pd_int pda_nil)))) (hN := nd))
  (pdss_cons (pds_set 17 (PD.em (pd_ix (pd_lst (pda_cons pd_int (pda_cons (pd_bin op_pow rd2_pow pd_int pd_int) (pda_cons (pd_bin op_addA rd2_add pd_int (pd_fnP 0 C__law_draw mOfP_len hr (pda_cons pd_int pda_nil))) (pda_cons (pd_bin op_addA rd2_add pd_int (pd_fnP 0 C__law_draw mOfP_len hr (pda_cons (pd_bin op_pow rd2_pow pd_int pd_int) pda_nil))) pda_nil))))) (pd_fnP 0 C__law_draw mOfP_len hr (pda_cons pd_int pda_nil)))) (hN := nd))
  (pdss_cons (pds_set 18 (PD.em (pd_bin op_mulA rd2_mul (pd_var 17) (pd_callTy call_int1 rdc_int rfl T.b_int (by decide +kernel) (pda_cons (pd_cmp op_gtA rd2_cmp (pd_fnP 0 C__law_draw mOfP_len hr (pda_cons pd_int pda_nil)) pd_int) pda_nil)))) (hN := nd))
  (pdss_cons (pds_set 19 (PD.em (pd_ix (pd_lst (pda_cons (pd_var 10) (pda_cons (pd_callB (call_min2 rfl) rdc_min2 rfl T.b_min (by decide +kernel) (pda_cons pd_int (pda_cons (pd_bin op_addA rd2_add (pd_var 10) (pd_fnP 0 C__law_draw mOfP_len hr (pda_cons pd_int pda_nil))) pda_nil))) (pda_cons pd_int pda_nil)))) (pd_fnP 0 C__law_draw mOfP_len hr (pda_cons pd_int pda_nil)))) (hN := nd))
  (pdss_cons (pds_setC 20 (pdn_disp (pdp_cons pd_str (pd_tup (pda_cons (pd_var 14) (pda_cons (pd_var 15) (pda_cons (pd_var 12) pda_nil)))) (pdp_cons pd_str (pd_tup (pda_cons (pd_var 14) (pda_cons (pd_var 12) (pda_cons (pd_var 13) (pda_cons (pd_var 16) pda_nil))))) (pdp_cons pd_str (pd_tup (pda_cons (pd_var 14) (pda_cons (pd_var 12) (pda_cons (pd_var 16) pda_nil)))) pdp_nil)))) (hN := nd))
  (pdss_cons (pds_upd 20 (PD.em (PDN.pd (pdn_disp (pdp_cons pd_str (pd_tup (pda_cons (pd_var 14) (pda_cons (pd_var 12) (pda_cons (pd_var 18) pda_nil)))) (pdp_cons pd_str (pd_tup (pda_cons (pd_var 14) (pda_cons (pd_var 12) (pda_cons (pd_var 13) (pda_cons (pd_var 16) (pda_cons (pd_var 18) pda_nil)))))) (pdp_cons pd_str (pd_tup (pda_cons (pd_var 14) (pda_cons (pd_var 12) pda_nil))) pdp_nil)))))))
  (pdss_cons (pds_upd 20 (PD.em (PDN.pd (pdn_disp (pdp_cons pd_str (pd_tup (pda_cons (pd_var 14) (pda_cons (pd_var 12) pda_nil))) (pdp_cons pd_str (pd_tup (pda_cons (pd_var 14) (pda_cons (pd_var 12) (pda_cons (pd_var 13) (pda_cons (pd_var 19) pda_nil))))) pdp_nil))))))
  (pdss_cons (pds_upd 20 (PD.em (PDN.pd (pdn_disp (pdp_cons pd_str (pd_tup (pda_cons (pd_ix (pd_var 7) (pd_fnP 0 C__law_draw mOfP_len hr (pda_cons (pd_callB call_len rdc_len rfl T.b_len (by decide +kernel) (pda_cons (pd_var 7) pda_nil)) pda_nil))) pda_nil)) (pdp_cons pd_str (pd_tup (pda_cons (pd_var 12) (pda_cons (pd_var 15) (pda_cons (pd_var 16) pda_nil)))) pdp_nil))))))
  (pdss_cons (pds_upd 20 (PD.em (PDN.pd (pdn_disp (pdp_cons pd_str (pd_tup (pda_cons (pd_var 12) (pda_cons (pd_var 13) (pda_cons (pd_var 17) pda_nil)))) (pdp_cons pd_str (pd_tup (pda_cons (pd_var 12) (pda_cons (pd_var 13) (pda_cons (pd_var 17) pda_nil)))) pdp_nil))))))
  (pdss_one (pds_retA (pd_bin op_addA rd2_add (pd_tup (pda_cons (pd_var 9) (pda_cons (pd_var 1) (pda_cons (pd_var 10) pda_nil)))) (pd_ixA (hu65 hr) (pd_var 20) (pd_var 9))))))))))))))))))))))⟩
theorem sc__law_is_word : FnScope N__law_is_word ["_law_thing"] (defScope st__law_is_word) := ⟨rfl, rfl, rfl, by decide +kernel, rfl, by decide +kernel, by decide +kernel⟩
theorem ok__law_is_word {P : Program} {w : World} {K : PySem.W.Frag} {mg : Str → Option Value} {base : Heap} (T : Tx K w mg) : CallOk P w K mg base "_law_is_word" 1 ["_law_thing"] (spD K 1 m__law_is_word) := by

  have nd := sc__law_is_word.nd
  obtain ⟨fd, F⟩ := T.f__law_is_word
  refine ⟨_, fd, ?_, T.m__law_is_word, F.kp, F.bindsN fun _ _ _ _ _ _ us hl => match us, hl with | [_], _ => rfl⟩
  exact def_ok (N := N__law_is_word) (cl := []) (g := g__law_is_word) F sc__law_is_word rfl (by decide) (by decide) fun cdv A outer s H E hr => ⟨_, (pdss_cons (pds_if (PDT.em (PDW.pdt (pdw_or (pdt_not (pdt_val (pd_isi rfl T.b_isinstance rfl T.b_str (by decide +kernel) (by decide +kernel) (pd_var 0)))) (pdw_or1 (pdt_not (pdt_chain op_leA op_leA rd2_cmp rd2_cmp pd_int (pd_callB call_len rdc_len rfl T.b_len (by decide +kernel) (pda_cons (pd_var 0) pda_nil)) pd_int))))))
  (pdss_one (pds_ret pd_bl))
  pdss_nil)
  (pdss_one (pds_ret (pd_cmp (op_eqA hr.units) rd2_eq (PDN.pd (pdn_lcV (own := [("_law_sign", 1)]) (hc := rfl) (hN := nd) (hi := (pdi_any (pd_var 0))) (ok := blkOk_by (N := N__law_is_word) (sc := defScope st__law_is_word) (by decide +kernel)) (hv := by decide) (hg := fun _ _ _ _ _ => (pdg_name 1 (hN := nd))) (ht := fun _ _ _ _ _ => (pdts_one (pdt_cmp (op_notInA (hu65 hr)) rd2_notIn (pd_var 1) pd_str))) (he := fun _ _ _ _ _ => (pd_var 1)))) (pd_lst pda_nil)))))⟩
theorem sc__law_within : FnScope N__law_within ["_law_thing", "_law_least", "_law_most"] (defScope st__law_within) := ⟨rfl, rfl, rfl, by decide +kernel, rfl, by decide +kernel, by decide +kernel⟩
theorem ok__law_within {P : Program} {w : World} {K : PySem.W.Frag} {mg : Str → Option Value} {base : Heap} (T : Tx K w mg) : CallOk P w K mg base "_law_within" 1 ["_law_thing", "_law_least", "_law_most"] (spD K 3 m__law_within) := by

  have nd := sc__law_within.nd
  obtain ⟨fd, F⟩ := T.f__law_within
  refine ⟨_, fd, ?_, T.m__law_within, F.kp, F.bindsN fun _ _ _ _ _ _ us hl => match us, hl with | [_, _, _], _ => rfl⟩
  exact def_ok (N := N__law_within) (cl := []) (g := g__law_within) F sc__law_within rfl (by decide) (by decide) fun cdv A outer s H E hr => ⟨_, (pdss_one (pds_ret (pd_and (pd_isi rfl T.b_isinstance rfl T.b_int (by decide +kernel) (by decide +kernel) (pd_var 0)) (pd_and (pd_not (pd_isi rfl T.b_isinstance rfl T.b_bool (by decide +kernel) (by decide +kernel) (pd_var 0))) (pd_one (pd_chain op_leA op_leA rd2_cmp rd2_cmp (pd_var 1) (pd_var 0) (pd_var 2)))))))⟩
theorem sc__law_is_page : FnScope N__law_is_page ["_law_thing"] (defScope st__law_is_page) := ⟨rfl, rfl, rfl, by decide +kernel, rfl, by decide +kernel, by decide +kernel⟩
theorem ok__law_is_page {P : Program} {w : World} {K : PySem.W.Frag} {mg : Str → Option Value} {base : Heap} (T : Tx K w mg) : CallOk P w K mg base "_law_is_page" 2 ["_law_thing"] (spD K 1 m__law_is_page) := by
  have C__law_is_word := ok__law_is_word (P := P) (w := w) (base := base) T
  have C__law_within := ok__law_within (P := P) (w := w) (base := base) T
  have nd := sc__law_is_page.nd
  obtain ⟨fd, F⟩ := T.f__law_is_page
  refine ⟨_, fd, ?_, T.m__law_is_page, F.kp, F.bindsN fun _ _ _ _ _ _ us hl => match us, hl with | [_], _ => rfl⟩
  exact def_ok (N := N__law_is_page) (cl := [1]) (g := g__law_is_page) F sc__law_is_page rfl (by decide) (by decide) fun cdv A outer s H E hr => ⟨_, (pdss_cons (pds_setC 1 (pdn_disp (pdp_cons pd_str pd_str (pdp_cons pd_str pd_str (pdp_cons pd_str pd_str (pdp_cons pd_str pd_str (pdp_cons pd_str pd_str (pdp_cons pd_str pd_str pdp_nil))))))) (hN := nd))
  (pdss_cons (pds_upd 1 (PD.em (PDN.pd (pdn_disp (pdp_cons pd_str pd_str (pdp_cons pd_str pd_str (pdp_cons pd_str pd_str (pdp_cons pd_str pd_str pdp_nil))))))))
  (pdss_cons (pds_upd 1 (PD.em (PDN.pd (pdn_disp (pdp_cons pd_str pd_str (pdp_cons pd_str pd_str pdp_nil))))))
  (pdss_cons (pds_if (PDT.ea (PDW.pdt (pdw_or (pdt_not (pdt_val (pd_isi rfl T.b_isinstance rfl T.b_tuple (by decide +kernel) (by decide +kernel) (pd_var 0)))) (pdw_or (pdt_cmp (op_eqA hr.units) rd2_eq (pd_callB call_len rdc_len rfl T.b_len (by decide +kernel) (pda_cons (pd_var 0) pda_nil)) pd_int) (pdw_or (pdt_not (pdt_val (pd_isi rfl T.b_isinstance rfl T.b_str (by decide +kernel) (by decide +kernel) (pd_ix (pd_var 0) pd_int)))) (pdw_or1 (pdt_cmp (op_notInAA (hu65 hr)) rd2_notInA (pd_ix (pd_var 0) pd_int) (pd_var 1))))))))
  (pdss_one (pds_ret pd_bl))
  pdss_nil)
  (pdss_cons (pds_if (PDT.ea (pdt_cmp (op_neA hr.units) rd2_ne (pd_callB call_len rdc_len rfl T.b_len (by decide +kernel) (pda_cons (pd_var 0) pda_nil)) (pd_bin op_addA rd2_add (pd_callB call_len rdc_len rfl T.b_len (by decide +kernel) (pda_cons (pd_ixA (hu65 hr) (pd_var 1) (pd_ix (pd_var 0) pd_int)) pda_nil)) pd_int)))
  (pdss_one (pds_ret pd_bl))
  pdss_nil)
  (pdss_cons (pds_forE (vs := [2, 3]) PassesOwn.never rfl (pdie_zipA rfl T.b_zip (pda_cons (pd_ixA (hu65 hr) (pd_var 1) (pd_ix (pd_var 0) pd_int)) (pda_cons (pd_slice (pd_var 0) (pdo_some pd_int) pdo_none) pda_nil))) (pdg_tup rfl (pdgs_cons (pdg_name 2 (hN := nd)) (pdgs_cons (pdg_name 3 (hN := nd)) pdgs_nil)))
  (pdss_cons (pds_asg (vs := [4, 5]) (PD.em (pd_ixA (hu65 hr) (PDN.pd (pdn_disp (pdp_cons pd_str (pd_tup (pda_cons pd_int (pda_cons pd_int pda_nil))) (pdp_cons pd_str (pd_tup (pda_cons pd_int (pda_cons pd_int pda_nil))) (pdp_cons pd_str (pd_tup (pda_cons pd_int (pda_cons pd_int pda_nil))) (pdp_cons pd_str (pd_tup (pda_cons pd_int (pda_cons (pd_bin op_pow rd2_pow pd_int pd_int) pda_nil))) (pdp_cons pd_str (pd_tup (pda_cons pd_int (pda_cons (pd_bin op_pow rd2_pow pd_int pd_int) pda_nil))) pdp_nil))))))) (pd_var 2))) (pdg_tup rfl (pdgs_cons (pdg_name 4 (hN := nd)) (pdgs_cons (pdg_name 5 (hN := nd)) pdgs_nil))))
  (pdss_one (pds_if (PDT.em (pdt_not (pdt_val (pd_ix (pd_lst (pda_cons (pd_fn C__law_within mOf_len hr (pda_cons (pd_var 3) (pda_cons (pd_var 4) (pda_cons (pd_var 5) pda_nil)))) (pda_cons (pd_fn C__law_is_word mOf_len hr (pda_cons (pd_var 3) pda_nil)) pda_nil))) (pd_callTy call_int1 rdc_int rfl T.b_int (by decide +kernel) (pda_cons (pd_cmp (op_eqA hr.units) rd2_eq (pd_var 2) pd_str) pda_nil))))))
  (pdss_one (pds_ret pd_bl))
  pdss_nil))))
  (pdss_cons (pds_if (PDT.em (pdt_cmp (op_inA (hu65 hr)) rd2_in (pd_ix (pd_var 0) pd_int) (pd_tup (pda_cons pd_str (pda_cons pd_str pda_nil)))))
  (pdss_one (pds_ret (pd_cmp (op_neA hr.units) rd2_ne (pd_ix (pd_var 0) pd_int) (pd_ix (pd_var 0) pd_int))))
  pdss_nil)
  (pdss_cons (pds_if (PDT.em (PDW.pdt (pdw_and (pdt_cmp (op_inA (hu65 hr)) rd2_in (pd_ix (pd_var 0) pd_int) (pd_tup (pda_cons pd_str (pda_cons pd_str (pda_cons pd_str pda_nil))))) (pdw_and1 (pdt_cmp (op_eqA hr.units) rd2_eq (pd_ix (pd_var 0) pd_int) (pd_ix (pd_var 0) pd_int))))))
  (pdss_one (pds_ret pd_bl))
  pdss_nil)
  (pdss_one (pds_ret (pd_or (pd_cmp (op_neA hr.units) rd2_ne (pd_ix (pd_var 0) pd_int) pd_str) (pd_one (pd_cmp op_geA rd2_cmp (pd_ix (pd_var 0) pd_int) (pd_ix (pd_var 0) pd_int))))))))))))))⟩
theorem sc__law_sorts : FnScope N__law_sorts ["_law_pen"] (defScope st__law_sorts) := ⟨rfl, rfl, rfl, by decide +kernel, rfl, by decide +kernel, by decide +kernel⟩
theorem ok__law_sorts {P : Program} {w : World} {K : PySem.W.Frag} {mg : Str → Option Value} {base : Heap} (T : Tx K w mg) : CallOk P w K mg base "_law_sorts" 3 ["_law_pen"] (spP K 0 m__law_sorts) := by
  have C__law_draw := ok__law_draw (P := P) (w := w) (base := base) T
  have C__law_words := ok__law_words (P := P) (w := w) (base := base) T
  have nd := sc__law_sorts.nd
  obtain ⟨fd, F⟩ := T.f__law_sorts
  refine ⟨_, fd, ?_, T.m__law_sorts, F.kp, F.bindsN fun _ _ _ _ _ _ us hl => match us, hl with | [_], _ => rfl⟩
  exact def_okP (N := N__law_sorts) (cl := []) (g := g__law_sorts) F sc__law_sorts rfl (by decide) (by decide) fun cdv A outer s H E hr => ⟨_, (pdss_cons (pds_set 1 (PD.em (pd_fnP 0 C__law_words mOfP_len hr (pda_cons pd_int pda_nil))) (hN := nd))
  (pdss_cons (pds_if (PDT.em (pdt_cmp (op_eqA hr.units) rd2_eq (pd_fnP 0 C__law_draw mOfP_len hr (pda_cons pd_int pda_nil)) pd_int))
  (pdss_one (pds_ret (pd_tup (pda_cons (pd_slice (pd_var 1) pdo_none (pdo_some pd_int)) (pda_cons (pd_var 1) (pda_cons (pd_var 1) (pda_cons (pd_var 1) pda_nil)))))))
  pdss_nil)
  (pdss_one (pds_ret (pd_tup (pda_cons (pd_slice (pd_var 1) pdo_none (pdo_some pd_int)) (pda_cons (pd_fnP 0 C__law_words mOfP_len hr (pda_cons pd_int pda_nil)) (pda_cons (pd_fnP 0 C__law_words mOfP_len hr (pda_cons pd_int pda_nil)) (pda_cons (pd_fnP 0 C__law_words mOfP_len hr (pda_cons pd_int pda_nil)) pda_nil)))))))))⟩
theorem sc__law_exchanged : FnScope N__law_exchanged ["_law_pen", "_law_page_here"] (defScope st__law_exchanged) := ⟨rfl, rfl, rfl, by decide +kernel, rfl, by decide +kernel, by decide +kernel⟩
theorem ok__law_exchanged {P : Program} {w : World} {K : PySem.W.Frag} {mg : Str → Option Value} {base : Heap} (T : Tx K w mg) : CallOk P w K mg base "_law_exchanged" 2 ["_law_pen", "_law_page_here"] (spP K 1 m__law_exchanged) := by
  have C__law_draw := ok__law_draw (P := P) (w := w) (base := base) T
  have nd := sc__law_exchanged.nd
  obtain ⟨fd, F⟩ := T.f__law_exchanged
  refine ⟨_, fd, ?_, T.m__law_exchanged, F.kp, F.bindsN fun _ _ _ _ _ _ us hl => match us, hl with | [_, _], _ => rfl⟩
  exact def_okP (N := N__law_exchanged) (cl := []) (g := g__law_exchanged) F sc__law_exchanged rfl (by decide) (by decide) fun cdv A outer s H E hr => ⟨_, (pdss_cons (pds_set 2 (PD.em (pd_bin op_addA rd2_add pd_int (pd_fnP 0 C__law_draw mOfP_len hr (pda_cons (pd_bin op_sub rd2_sub (pd_callB call_len rdc_len rfl T.b_len (by decide +kernel) (pda_cons (pd_var 1) pda_nil)) pd_int) pda_nil)))) (hN := nd))
  (pdss_cons (pds_if (PDT.em (pdt_val (pd_isi rfl T.b_isinstance rfl T.b_str (by decide +kernel) (by decide +kernel) (pd_ix (pd_var 1) (pd_var 2)))))
  (pdss_cons (pds_set 3 (PD.em (pd_ix (pd_var 1) (pd_var 2))) (hN := nd))
  (pdss_one (pds_set 4 (PD.em (pd_ix (pd_lst (pda_cons pd_str (pda_cons (pd_bin op_mulA rd2_mul (pd_var 3) pd_int) (pda_cons (pd_slice (pd_bin op_addA rd2_add (pd_var 3) pd_str) pdo_none (pdo_some pd_int)) (pda_cons (pd_slice (pd_bin op_addA rd2_add (pd_var 3) pd_str) pdo_none (pdo_some pd_int)) (pda_cons (pd_ix (pd_var 1) pd_int) (pda_cons (pd_ix (pd_var 1) (pd_un un_neg rd1_neg pd_int)) pda_nil))))))) (pd_fnP 0 C__law_draw mOfP_len hr (pda_cons pd_int pda_nil)))) (hN := nd))))
  (pdss_one (pds_set 4 (PD.em (pd_ix (pd_lst (pda_cons (pd_un un_neg rd1_neg pd_int) (pda_cons pd_int (pda_cons pd_int (pda_cons pd_int (pda_cons pd_int (pda_cons pd_int (pda_cons pd_int (pda_cons (pd_bin op_pow rd2_pow pd_int pd_int) (pda_cons (pd_bin op_addA rd2_add (pd_bin op_pow rd2_pow pd_int pd_int) pd_int) (pda_cons (pd_ix (pd_var 1) pd_int) (pda_cons (pd_bin op_sub rd2_sub (pd_ix (pd_var 1) pd_int) pd_int) pda_nil)))))))))))) (pd_fnP 0 C__law_draw mOfP_len hr (pda_cons pd_int pda_nil)))) (hN := nd))))
  (pdss_one (pds_ret (pd_bin op_addA rd2_add (pd_bin op_addA rd2_add (pd_slice (pd_var 1) pdo_none (pdo_some (pd_var 2))) (pd_tup (pda_cons (pd_var 4) pda_nil))) (pd_slice (pd_var 1) (pdo_some (pd_bin op_addA rd2_add (pd_var 2) pd_int)) pdo_none))))))⟩
theorem sc_law : FnScope N_law ["_law_script"] (defScope st_law) := ⟨rfl, rfl, rfl, by decide +kernel, rfl, by decide +kernel, by decide +kernel⟩
theorem ok_law {P : Program} {w : World} {K : PySem.W.Frag} {mg : Str → Option Value} {base : Heap} (T : Tx K w mg) {fd : FuncData} (F : FunD K "law" "law" (defArgs st_law) (defBody st_law) (defScope st_law) [] [] (He.ga K "law") fd) (math : ∀ ns : List Int, ns.length ≤ 63 → ∃ st', g_law (startL 10 ns) = some (.rt (.bool true) st')) :
    FnOk P w K mg base CX0 5 (He.ga K "law") fd ["_law_script"] (spLaw K) := by
  have C_is_page := ok_is_page (P := P) (w := w) (base := base) T
  have C__law_draw := ok__law_draw (P := P) (w := w) (base := base) T
  have C__law_page := ok__law_page (P := P) (w := w) (base := base) T
  have C__law_is_page := ok__law_is_page (P := P) (w := w) (base := base) T
  have C__law_sorts := ok__law_sorts (P := P) (w := w) (base := base) T
  have C__law_exchanged := ok__law_exchanged (P := P) (w := w) (base := base) T
  have nd := sc_law.nd
  exact law_ok (N := N_law) (cl := []) (g := g_law) (st0 := (defBody st_law).headD (.Pass ⟨0, 0, 0, 0⟩)) (body := (defBody st_law).tail) F sc_law (by decide) (by decide) (fun cdv A outer s H E hr => ⟨ps_set (i := 1) nd rfl (by first | exact Or.inl rfl | exact Or.inr rfl) (pe_lst (pa_cons (pv 0) (pa_cons pe_int (pa_cons pe_int pa_nil)))), _, (pdss_cons (pds_set 2 (PD.em (pd_fnP 1 C__law_sorts mOfP_len hr pda_nil)) (hN := nd))
  (pdss_cons (pds_set 3 (PD.em (pd_lst (pda_cons pd_int (pda_cons pd_int (pda_cons (pd_fnP 1 C__law_draw mOfP_len hr (pda_cons pd_int pda_nil)) (pda_cons (pd_fnP 1 C__law_draw mOfP_len hr (pda_cons pd_int pda_nil)) pda_nil)))))) (hN := nd))
  (pdss_cons (pds_for (vs := [4]) PassesOwn.never rfl (pdi_range1 rfl T.b_range (pda_cons pd_int pda_nil)) (pdg_name 4 (hN := nd))
  (pdss_cons (pds_set 5 (PD.em (pd_fnP 1 C__law_page mOfP_len hr (pda_cons (pd_ix (pd_ix (pd_var 2) pd_int) (pd_fnP 1 C__law_draw mOfP_len hr (pda_cons (pd_callB call_len rdc_len rfl T.b_len (by decide +kernel) (pda_cons (pd_ix (pd_var 2) pd_int) pda_nil)) pda_nil))) (pda_cons (pd_var 2) (pda_cons (pd_var 3) pda_nil))))) (hN := nd))
  (pdss_cons (pds_set 6 (PD.em (pd_fnP 1 C__law_exchanged mOfP_len hr (pda_cons (pd_var 5) pda_nil))) (hN := nd))
  (pdss_one (pds_for (vs := [7, 8]) PassesOwn.never rfl (pdi_any (pd_lst (pda_cons (pd_tup (pda_cons (pd_var 5) (pda_cons pd_bl pda_nil))) (pda_cons (pd_tup (pda_cons (pd_var 6) (pda_cons (pd_fn C__law_is_page mOf_len hr (pda_cons (pd_var 6) pda_nil)) pda_nil))) (pda_cons (pd_tup (pda_cons (pd_var 5) (pda_cons pd_bl pda_nil))) pda_nil))))) (pdg_tup rfl (pdgs_cons (pdg_name 7 (hN := nd)) (pdgs_cons (pdg_name 8 (hN := nd)) pdgs_nil)))
  (pdss_cons (pds_set 9 (PD.em (pd_fn C_is_page mOf_len hr (pda_cons (pd_var 7) pda_nil))) (hN := nd))
  (pdss_one (pds_if (PDT.em (PDW.pdt (pdw_or (pdt_not (pdt_val (pd_isi rfl T.b_isinstance rfl T.b_bool (by decide +kernel) (by decide +kernel) (pd_var 9)))) (pdw_or1 (pdt_cmp (op_neA hr.units) rd2_ne (pd_var 9) (pd_var 8))))))
  (pdss_one (pds_ret pd_bl))
  pdss_nil))))))))
  (pdss_one (pds_ret pd_bl)))))⟩) math
end DR

set_option maxRecDepth 100000
set_option maxHeartbeats 1000000
namespace DR
open PySem PySem.Spec L2
open PyProof.Rows hiding St
open Evl (Ex ex_l ex_t ex_rd)
/-! ## the head -/
def fns : List He.DefD := [⟨("is_word", none), "is_word", "is_word", defArgs st_is_word, defBody st_is_word, defScope st_is_word, [], []⟩, ⟨("is_from_to", none), "is_from_to", "is_from_to", defArgs st_is_from_to, defBody st_is_from_to, defScope st_is_from_to, [], []⟩, ⟨("is_day", none), "is_day", "is_day", defArgs st_is_day, defBody st_is_day, defScope st_is_day, [], []⟩, ⟨("is_part", none), "is_part", "is_part", defArgs st_is_part, defBody st_is_part, defScope st_is_part, [], []⟩, ⟨("houses_in", none), "houses_in", "houses_in", defArgs st_houses_in, defBody st_houses_in, defScope st_houses_in, [], []⟩, ⟨("is_page", none), "is_page", "is_page", defArgs st_is_page, defBody st_is_page, defScope st_is_page, [], []⟩, ⟨("_law_draw", none), "_law_draw", "_law_draw", defArgs st__law_draw, defBody st__law_draw, defScope st__law_draw, [], []⟩, ⟨("_law_words", none), "_law_words", "_law_words", defArgs st__law_words, defBody st__law_words, defScope st__law_words, [], []⟩, ⟨("_law_page", none), "_law_page", "_law_page", defArgs st__law_page, defBody st__law_page, defScope st__law_page, [], []⟩, ⟨("_law_is_word", none), "_law_is_word", "_law_is_word", defArgs st__law_is_word, defBody st__law_is_word, defScope st__law_is_word, [], []⟩, ⟨("_law_within", none), "_law_within", "_law_within", defArgs st__law_within, defBody st__law_within, defScope st__law_within, [], []⟩, ⟨("_law_is_page", none), "_law_is_page", "_law_is_page", defArgs st__law_is_page, defBody st__law_is_page, defScope st__law_is_page, [], []⟩, ⟨("_law_sorts", none), "_law_sorts", "_law_sorts", defArgs st__law_sorts, defBody st__law_sorts, defScope st__law_sorts, [], []⟩, ⟨("_law_exchanged", none), "_law_exchanged", "_law_exchanged", defArgs st__law_exchanged, defBody st__law_exchanged, defScope st__law_exchanged, [], []⟩, ⟨("law", none), "law", "law", defArgs st_law, defBody st_law, defScope st_law, [], []⟩]
def facts : List He.Fa := [.glo "is_word", .glo "is_from_to", .glo "is_day", .glo "is_part", .glo "houses_in", .glo "is_page", .glo "_law_draw", .glo "_law_words", .glo "_law_page", .glo "_law_is_word", .glo "_law_within", .glo "_law_is_page", .glo "_law_sorts", .glo "_law_exchanged", .glo "law", .free "abs", .free "all", .free "bool", .free "int", .free "isinstance", .free "len", .free "min", .free "range", .free "str", .free "tuple", .free "zip", .int "LAST_DAY" 999, .str "LETTERS" "abcdefghijklmnopqrstuvwxyz", .int "LONGEST_WORD" 8, .int "MOST_DAYS" 9, .int "MOST_WEIGHT" 9, .int "MOST_WORTH" 1000000000]
def exB (K : PySem.W.Frag) : Bool := [noLists K, tabB K "FORMS" k_FORMS, tabB K "HOUSES" k_HOUSES].all id
def tabs : List He.Tab := [(fun K => He.ga K "FORMS", k_FORMS.map (·.1)), (fun K => He.ga K "HOUSES", k_HOUSES.map (·.1))]
theorem tx_of {K : PySem.W.Frag} {h : Heap} {mg : Str → Option Value} {w : World} (X : K.In h) (G : h.Ns mainGlobals mg) (c : He.SaysX facts fns tabs [] exB w h K) : Tx K w mg where
  f_is_word := c.t.d.def_ 0
  m_is_word := He.glo_ok X G (c.t.d.fact 0 (f := .glo "is_word") rfl)
  f_is_from_to := c.t.d.def_ 1
  m_is_from_to := He.glo_ok X G (c.t.d.fact 1 (f := .glo "is_from_to") rfl)
  f_is_day := c.t.d.def_ 2
  m_is_day := He.glo_ok X G (c.t.d.fact 2 (f := .glo "is_day") rfl)
  f_is_part := c.t.d.def_ 3
  m_is_part := He.glo_ok X G (c.t.d.fact 3 (f := .glo "is_part") rfl)
  f_houses_in := c.t.d.def_ 4
  m_houses_in := He.glo_ok X G (c.t.d.fact 4 (f := .glo "houses_in") rfl)
  f_is_page := c.t.d.def_ 5
  m_is_page := He.glo_ok X G (c.t.d.fact 5 (f := .glo "is_page") rfl)
  f__law_draw := c.t.d.def_ 6
  m__law_draw := He.glo_ok X G (c.t.d.fact 6 (f := .glo "_law_draw") rfl)
  f__law_words := c.t.d.def_ 7
  m__law_words := He.glo_ok X G (c.t.d.fact 7 (f := .glo "_law_words") rfl)
  f__law_page := c.t.d.def_ 8
  m__law_page := He.glo_ok X G (c.t.d.fact 8 (f := .glo "_law_page") rfl)
  f__law_is_word := c.t.d.def_ 9
  m__law_is_word := He.glo_ok X G (c.t.d.fact 9 (f := .glo "_law_is_word") rfl)
  f__law_within := c.t.d.def_ 10
  m__law_within := He.glo_ok X G (c.t.d.fact 10 (f := .glo "_law_within") rfl)
  f__law_is_page := c.t.d.def_ 11
  m__law_is_page := He.glo_ok X G (c.t.d.fact 11 (f := .glo "_law_is_page") rfl)
  f__law_sorts := c.t.d.def_ 12
  m__law_sorts := He.glo_ok X G (c.t.d.fact 12 (f := .glo "_law_sorts") rfl)
  f__law_exchanged := c.t.d.def_ 13
  m__law_exchanged := He.glo_ok X G (c.t.d.fact 13 (f := .glo "_law_exchanged") rfl)
  f_law := c.t.d.def_ 14
  m_law := He.glo_ok X G (c.t.d.fact 14 (f := .glo "law") rfl)
  b_abs := He.free_ok X G (c.t.d.fact 15 (f := .free "abs") rfl)
  b_all := He.free_ok X G (c.t.d.fact 16 (f := .free "all") rfl)
  b_bool := He.free_ok X G (c.t.d.fact 17 (f := .free "bool") rfl)
  b_int := He.free_ok X G (c.t.d.fact 18 (f := .free "int") rfl)
  b_isinstance := He.free_ok X G (c.t.d.fact 19 (f := .free "isinstance") rfl)
  b_len := He.free_ok X G (c.t.d.fact 20 (f := .free "len") rfl)
  b_min := He.free_ok X G (c.t.d.fact 21 (f := .free "min") rfl)
  b_range := He.free_ok X G (c.t.d.fact 22 (f := .free "range") rfl)
  b_str := He.free_ok X G (c.t.d.fact 23 (f := .free "str") rfl)
  b_tuple := He.free_ok X G (c.t.d.fact 24 (f := .free "tuple") rfl)
  b_zip := He.free_ok X G (c.t.d.fact 25 (f := .free "zip") rfl)
  c_LAST_DAY := He.int_ok X G (c.t.d.fact 26 (f := .int "LAST_DAY" 999) rfl)
  c_LETTERS := He.str_ok X G (c.t.d.fact 27 (f := .str "LETTERS" "abcdefghijklmnopqrstuvwxyz") rfl)
  c_LONGEST_WORD := He.int_ok X G (c.t.d.fact 28 (f := .int "LONGEST_WORD" 8) rfl)
  c_MOST_DAYS := He.int_ok X G (c.t.d.fact 29 (f := .int "MOST_DAYS" 9) rfl)
  c_MOST_WEIGHT := He.int_ok X G (c.t.d.fact 30 (f := .int "MOST_WEIGHT" 9) rfl)
  c_MOST_WORTH := He.int_ok X G (c.t.d.fact 31 (f := .int "MOST_WORTH" 1000000000) rfl)
  t_FORMS := by
    obtain ⟨es, n, D⟩ := c.t.tab 0
    exact tabB_ok X G (all_at c.more (i := 1) rfl) D
  t_HOUSES := by
    obtain ⟨es, n, D⟩ := c.t.tab 1
    exact tabB_ok X G (all_at c.more (i := 2) rfl) D
abbrev R : PySem.W.OpenRow := PySem.W.OpenLaw.row PySem.Challenge.rw_doublerings_k02_what_is_a_page
abbrev hk : PySem.W.Hook := He.hookX 4 facts fns tabs [] exB
def ob (s : PySem.W.SharedT) : He.AlX := He.obsX 4 facts fns tabs [] exB (HandSHeadRun.getT s)
theorem ob_eq (s : PySem.W.SharedT) : ob s = hk.obs s.abs := He.obsX_eq (HandSHeadRun.getT_eq s)
def loose : List Str := (["LETTERS", "LONGEST_WORD", "LAST_DAY", "is_word", "is_from_to", "is_day", "MOST_DAYS", "MOST_WORTH", "MOST_WEIGHT", "FORMS", "HOUSES", "is_part", "is_page", "houses_in", "_law_draw", "_law_words", "_law_page", "_law_is_word", "_law_within", "_law_is_page", "_law_sorts", "_law_exchanged"] : List Str)
open PySem.W in
theorem run (w : World) : HandSHeadRun.RunEq R (PySem.W.view R.prog [25]) hk ob 4000 loose w := byRow2 "special-get-raises" (P := fun w => HandSHeadRun.RunEq R (PySem.W.view R.prog [25]) hk ob 4000 loose w) (fun w => by
  intro os
  kernel_rfl) (fun w => by
  intro os
  kernel_rfl) w
theorem facts_ok {P : Program} {w : World} {K : PySem.W.Frag} {h : Heap} {mg : Str → Option Value} {f : Addr} (math : ∀ ns : List Int, ns.length ≤ 63 → ∃ st', g_law (startL 10 ns) = some (.rt (.bool true) st')) (X : K.In h) (G : h.Ns mainGlobals mg) (hfa : mg ("law" : Str) = some (.ref f)) (c : He.SaysX facts fns tabs [] exB w h K) :
    ∃ fd : FuncData, (∀ (s : Shared) (v : Value), BindsTo s fd ⟨[v], []⟩ [("_law_script", v)]) ∧ ∀ base : Heap, K.In base → base.Ns mainGlobals mg → FnOk P w K mg base CX0 5 f fd ["_law_script"] (spLaw K) := by
  have T := tx_of X G c
  have e := hfa.symm.trans T.m_law
  cases e
  obtain ⟨fd, F⟩ := T.f_law
  have b := FunD.bindsA (ps := ["_law_script"]) F fun _ _ _ _ _ _ us hl => match us, hl with | [_], _ => rfl
  refine ⟨fd, fun s v => b s [v] rfl, fun base _ _ => ?_⟩
  exact ok_law T F math

end DR

set_option maxRecDepth 100000
set_option maxHeartbeats 1000000
namespace DR
open PySem PySem.Spec L2
open PyProof.Rows hiding St
theorem draw_ok {p : D} (hp : Pen p) {many : Int} (h0 : 0 < many) (h1 : many < 18446744073709551616) {Q : D → D → Prop} (q : ∀ k p', Pen p' → 0 ≤ k → k < many → Q (.int k) p') : MP m__law_draw p [.int many] Q := by
  obtain ⟨ns, a, gr, rfl, hl, ha, hg⟩ := hp
  refine MP_of rfl ?_
  show Sp2 g__law_draw [some _, some _, none, none, none, none] _
  unfold g__law_draw
  simp only [↓S_next, ↓S_bk, ↓S_ct, ↓S_rtd, ↓S_seq, ↓S_set, ↓S_drop, ↓S_ret, ↓S_if, ↓S_asg, ↓S_put, ↓S_app, ↓S_ext, ↓S_for, ↓Wp_pure, ↓Wp_opt, ↓Wp_bind, ↓Wp_ite, ↓Wp_var, ↓Wp_op, ↓Wp_un, ↓Wp_test, ↓Wp_dand, ↓Wp_dor, ↓Wp_dnot, ↓Wp_dandV, ↓Wp_dorV, ↓Wp_dnotV, ↓Wp_chain, ↓Wp_cb, ↓Wp_cons, ↓Wp_nil, ↓Wp_tup, ↓Wp_lst, ↓Wp_part, ↓Wp_nopart, ↓Wp_slice, ↓Wp_isi, ↓Wp_isi2, ↓Wp_m1, ↓Wp_call, ↓Wp_pix, ↓Wp_callP0, ↓Wp_callP1, ↓Wp_comp, ↓Wp_disp, ↓Wp_dpnil, ↓Wp_dpcons, ↓Wp_flat, ↓onNx_nx, ↓onNx_bk, ↓onNx_ct, ↓onNx_rt, ↓onRt_rt, ↓onRt_nx, ↓onS_some, ↓onB_b, ↓onI_i, ↓onStr_s, ↓onL_l, ↓lk_0, ↓lk_S, ↓onSet_0, ↓onSet_S, ↓onPut_0, ↓onPut_S, ↓ite_dec, ↓ite_ndec, ↓ite_tt, ↓ite_ff, ↓ite_nt, ↓ite_nf, ↓v_gt, ↓v_lt, ↓v_le, ↓v_ge, ↓v_ltS, ↓v_add, ↓v_addS, ↓v_addL, ↓v_addT, ↓v_addN, ↓v_sub, ↓v_mul, ↓v_mulS, ↓v_mod, ↓v_fdiv, ↓v_pow, ↓v_neg, ↓v_lenL, ↓v_lenT, ↓v_lenS, ↓v_abs, ↓v_rev, ↓v_all, ↓v_any, ↓v_sum, ↓v_eq, ↓v_ne, ↓v_in, ↓v_notIn, ↓q_ii, ↓q_ss, ↓items_l, ↓items_t, ↓items_s, ↓items_r1, ↓items_r2, ↓sl_l, ↓sl_t, ↓sl_s, ↓put_1, ↓put_2, ↓pen_0, ↓pen_1, ↓pen_2, ↓v_ixL, ↓v_ixT, ↓ins_NoneType_none, ↓ins_NoneType_bool, ↓ins_NoneType_int, ↓ins_NoneType_str, ↓ins_NoneType_list, ↓ins_NoneType_tuple, ↓ins_NoneType_dict, ↓ins_bool_none, ↓ins_bool_bool, ↓ins_bool_int, ↓ins_bool_str, ↓ins_bool_list, ↓ins_bool_tuple, ↓ins_bool_dict, ↓ins_int_none, ↓ins_int_bool, ↓ins_int_int, ↓ins_int_str, ↓ins_int_list, ↓ins_int_tuple, ↓ins_int_dict, ↓ins_str_none, ↓ins_str_bool, ↓ins_str_int, ↓ins_str_str, ↓ins_str_list, ↓ins_str_tuple, ↓ins_str_dict, ↓ins_list_none, ↓ins_list_bool, ↓ins_list_int, ↓ins_list_str, ↓ins_list_list, ↓ins_list_tuple, ↓ins_list_dict, ↓ins_tuple_none, ↓ins_tuple_bool, ↓ins_tuple_int, ↓ins_tuple_str, ↓ins_tuple_list, ↓ins_tuple_tuple, ↓ins_tuple_dict, ↓ins_dict_none, ↓ins_dict_bool, ↓ins_dict_int, ↓ins_dict_str, ↓ins_dict_list, ↓ins_dict_tuple, ↓ins_dict_dict, ↓in_sign, ↓onClr_0, ↓onClr_S, ↓onW_nil, ↓onW_cons, ↓onRe_0, ↓onRe_S, ↓onBk_nil, ↓onBk_cons, ↓onTwo_l, ↓S_par, ↓a_tup, ↓onG_name, ↓onG_tup, ↓onGs_nil, ↓onGs_cons, ↓onTurn_nx, ↓onTurn_ct, ↓onTurn_bk, ↓onTurn_rt, ↓onLD_d, ↓v_ixAd, ↓v_inAd, ↓v_notInAd, ↓S_upd, ↓v_zip, ↓Wp_flatA, ↓v_int, ↓v_intB, ↓v_min, ↓v_gin, ↓v_gnin, ↓v_gix, ↓reduceIte]
  have q' : ∀ (x b g : Int), 0 ≤ b → 0 ≤ g → Q (.int (x % many)) (.list [.list (ns.map PyData.int), .int b, .int g]) := fun x b g hb hg => q _ _ (Pen.mk hl hb hg) (Int.emod_nonneg _ (by omega)) (Int.emod_lt_of_pos _ h0)
  have dv : ∀ x : Int, 0 ≤ x → 0 ≤ x / many := fun x hx => Int.ediv_nonneg hx (by omega)
  have sq : ∀ x : Int, 0 ≤ (if x < 0 then -x else x) := fun x => by split <;> omega
  refine ite_i (fun _ => ⟨h0, ⟨h0, h1⟩, q' _ _ _ ha (dv _ hg)⟩) fun _ => ite_i (fun hn => ?_) fun _ => ite_i (fun _ => ⟨by decide, ite_i (fun _ => ⟨⟨h0, h1⟩, h0, q' _ _ _ (by omega) (dv _ (sq _))⟩) fun _ => ?_⟩) fun _ => ?_
  · obtain ⟨x, hx⟩ := at_ints (ns := ns) (i := a % (ns.map PyData.int).length) (Int.emod_nonneg _ (by omega)) (Int.emod_lt_of_pos _ hn)
    rw [hx]
    simp only [↓S_next, ↓S_bk, ↓S_ct, ↓S_rtd, ↓S_seq, ↓S_set, ↓S_drop, ↓S_ret, ↓S_if, ↓S_asg, ↓S_put, ↓S_app, ↓S_ext, ↓S_for, ↓Wp_pure, ↓Wp_opt, ↓Wp_bind, ↓Wp_ite, ↓Wp_var, ↓Wp_op, ↓Wp_un, ↓Wp_test, ↓Wp_dand, ↓Wp_dor, ↓Wp_dnot, ↓Wp_dandV, ↓Wp_dorV, ↓Wp_dnotV, ↓Wp_chain, ↓Wp_cb, ↓Wp_cons, ↓Wp_nil, ↓Wp_tup, ↓Wp_lst, ↓Wp_part, ↓Wp_nopart, ↓Wp_slice, ↓Wp_isi, ↓Wp_isi2, ↓Wp_m1, ↓Wp_call, ↓Wp_pix, ↓Wp_callP0, ↓Wp_callP1, ↓Wp_comp, ↓Wp_disp, ↓Wp_dpnil, ↓Wp_dpcons, ↓Wp_flat, ↓onNx_nx, ↓onNx_bk, ↓onNx_ct, ↓onNx_rt, ↓onRt_rt, ↓onRt_nx, ↓onS_some, ↓onB_b, ↓onI_i, ↓onStr_s, ↓onL_l, ↓lk_0, ↓lk_S, ↓onSet_0, ↓onSet_S, ↓onPut_0, ↓onPut_S, ↓ite_dec, ↓ite_ndec, ↓ite_tt, ↓ite_ff, ↓ite_nt, ↓ite_nf, ↓v_gt, ↓v_lt, ↓v_le, ↓v_ge, ↓v_ltS, ↓v_add, ↓v_addS, ↓v_addL, ↓v_addT, ↓v_addN, ↓v_sub, ↓v_mul, ↓v_mulS, ↓v_mod, ↓v_fdiv, ↓v_pow, ↓v_neg, ↓v_lenL, ↓v_lenT, ↓v_lenS, ↓v_abs, ↓v_rev, ↓v_all, ↓v_any, ↓v_sum, ↓v_eq, ↓v_ne, ↓v_in, ↓v_notIn, ↓q_ii, ↓q_ss, ↓items_l, ↓items_t, ↓items_s, ↓items_r1, ↓items_r2, ↓sl_l, ↓sl_t, ↓sl_s, ↓put_1, ↓put_2, ↓pen_0, ↓pen_1, ↓pen_2, ↓v_ixL, ↓v_ixT, ↓ins_NoneType_none, ↓ins_NoneType_bool, ↓ins_NoneType_int, ↓ins_NoneType_str, ↓ins_NoneType_list, ↓ins_NoneType_tuple, ↓ins_NoneType_dict, ↓ins_bool_none, ↓ins_bool_bool, ↓ins_bool_int, ↓ins_bool_str, ↓ins_bool_list, ↓ins_bool_tuple, ↓ins_bool_dict, ↓ins_int_none, ↓ins_int_bool, ↓ins_int_int, ↓ins_int_str, ↓ins_int_list, ↓ins_int_tuple, ↓ins_int_dict, ↓ins_str_none, ↓ins_str_bool, ↓ins_str_int, ↓ins_str_str, ↓ins_str_list, ↓ins_str_tuple, ↓ins_str_dict, ↓ins_list_none, ↓ins_list_bool, ↓ins_list_int, ↓ins_list_str, ↓ins_list_list, ↓ins_list_tuple, ↓ins_list_dict, ↓ins_tuple_none, ↓ins_tuple_bool, ↓ins_tuple_int, ↓ins_tuple_str, ↓ins_tuple_list, ↓ins_tuple_tuple, ↓ins_tuple_dict, ↓ins_dict_none, ↓ins_dict_bool, ↓ins_dict_int, ↓ins_dict_str, ↓ins_dict_list, ↓ins_dict_tuple, ↓ins_dict_dict, ↓in_sign, ↓onClr_0, ↓onClr_S, ↓onW_nil, ↓onW_cons, ↓onRe_0, ↓onRe_S, ↓onBk_nil, ↓onBk_cons, ↓onTwo_l, ↓S_par, ↓a_tup, ↓onG_name, ↓onG_tup, ↓onGs_nil, ↓onGs_cons, ↓onTurn_nx, ↓onTurn_ct, ↓onTurn_bk, ↓onTurn_rt, ↓onLD_d, ↓v_ixAd, ↓v_inAd, ↓v_notInAd, ↓S_upd, ↓v_zip, ↓Wp_flatA, ↓v_int, ↓v_intB, ↓v_min, ↓v_gin, ↓v_gnin, ↓v_gix, ↓reduceIte]
    refine ⟨hn, ite_i (fun _ => ⟨by decide, ite_i (fun _ => ⟨⟨h0, h1⟩, h0, q' _ _ _ (by omega) (dv _ (sq _))⟩) fun _ => ?_⟩) fun _ => ?_⟩
    · refine ⟨by decide, .inl (by decide), by decide, ?_, .inl (by decide), by decide, ?_, .inl (by decide), by decide, by decide, h0, q' _ _ _ (by omega) hg⟩ <;> omega
    · refine ⟨by decide, .inl (by decide), by decide, ?_, .inl (by decide), by decide, ?_, .inl (by decide), by decide, by decide, h0, q' _ _ _ (by omega) hg⟩ <;> omega
  · refine ⟨by decide, .inl (by decide), by decide, ?_, .inl (by decide), by decide, ?_, .inl (by decide), by decide, by decide, h0, q' _ _ _ (by omega) hg⟩ <;> omega
  · refine ⟨by decide, .inl (by decide), by decide, ?_, .inl (by decide), by decide, ?_, .inl (by decide), by decide, by decide, h0, q' _ _ _ (by omega) hg⟩ <;> omega
end DR

set_option maxRecDepth 100000
set_option maxHeartbeats 1000000
namespace DR
open PySem PySem.Spec L2
open PyProof.Rows hiding St
def abc : Str := "abcdefghijklmnopqrstuvwxyz"
def small (c : Nat) : Bool := decide (c ∈ abc.cps.toList)
def isW : D → Bool
  | .str z => decide (1 ≤ z.length ∧ z.length ≤ 8) && z.cps.toList.all small
  | _ => false
def within (x y : Int) : D → Bool
  | .int i => decide (x ≤ i ∧ i ≤ y)
  | _ => false
theorem isW_str (z : Str) : isW (.str z) = (decide (1 ≤ z.length ∧ z.length ≤ 8) && z.cps.toList.all small) := rfl
theorem is_word_eq (d : D) (hd : ∀ z, d = .str z → z.length ≤ 1000) : m_is_word [d] = some (.bool (isW d)) := by
  refine MD.get (MD_of rfl ?_)
  show Sp2 g_is_word [some _, none] _
  unfold g_is_word
  cases d with
  | str z =>
    have hz := hd z rfl
    simp only [↓S_next, ↓S_bk, ↓S_ct, ↓S_rtd, ↓S_seq, ↓S_set, ↓S_drop, ↓S_ret, ↓S_if, ↓S_asg, ↓S_put, ↓S_app, ↓S_ext, ↓S_for, ↓Wp_pure, ↓Wp_opt, ↓Wp_bind, ↓Wp_ite, ↓Wp_var, ↓Wp_op, ↓Wp_un, ↓Wp_test, ↓Wp_dand, ↓Wp_dor, ↓Wp_dnot, ↓Wp_dandV, ↓Wp_dorV, ↓Wp_dnotV, ↓Wp_chain, ↓Wp_cb, ↓Wp_cons, ↓Wp_nil, ↓Wp_tup, ↓Wp_lst, ↓Wp_part, ↓Wp_nopart, ↓Wp_slice, ↓Wp_isi, ↓Wp_isi2, ↓Wp_m1, ↓Wp_call, ↓Wp_pix, ↓Wp_callP0, ↓Wp_callP1, ↓Wp_comp, ↓Wp_disp, ↓Wp_dpnil, ↓Wp_dpcons, ↓Wp_flat, ↓onNx_nx, ↓onNx_bk, ↓onNx_ct, ↓onNx_rt, ↓onRt_rt, ↓onRt_nx, ↓onS_some, ↓onB_b, ↓onI_i, ↓onStr_s, ↓onL_l, ↓lk_0, ↓lk_S, ↓onSet_0, ↓onSet_S, ↓onPut_0, ↓onPut_S, ↓ite_dec, ↓ite_ndec, ↓ite_tt, ↓ite_ff, ↓ite_nt, ↓ite_nf, ↓v_gt, ↓v_lt, ↓v_le, ↓v_ge, ↓v_ltS, ↓v_add, ↓v_addS, ↓v_addL, ↓v_addT, ↓v_addN, ↓v_sub, ↓v_mul, ↓v_mulS, ↓v_mod, ↓v_fdiv, ↓v_pow, ↓v_neg, ↓v_lenL, ↓v_lenT, ↓v_lenS, ↓v_abs, ↓v_rev, ↓v_all, ↓v_any, ↓v_sum, ↓v_eq, ↓v_ne, ↓v_in, ↓v_notIn, ↓q_ii, ↓q_ss, ↓items_l, ↓items_t, ↓items_s, ↓items_r1, ↓items_r2, ↓sl_l, ↓sl_t, ↓sl_s, ↓put_1, ↓put_2, ↓pen_0, ↓pen_1, ↓pen_2, ↓v_ixL, ↓v_ixT, ↓ins_NoneType_none, ↓ins_NoneType_bool, ↓ins_NoneType_int, ↓ins_NoneType_str, ↓ins_NoneType_list, ↓ins_NoneType_tuple, ↓ins_NoneType_dict, ↓ins_bool_none, ↓ins_bool_bool, ↓ins_bool_int, ↓ins_bool_str, ↓ins_bool_list, ↓ins_bool_tuple, ↓ins_bool_dict, ↓ins_int_none, ↓ins_int_bool, ↓ins_int_int, ↓ins_int_str, ↓ins_int_list, ↓ins_int_tuple, ↓ins_int_dict, ↓ins_str_none, ↓ins_str_bool, ↓ins_str_int, ↓ins_str_str, ↓ins_str_list, ↓ins_str_tuple, ↓ins_str_dict, ↓ins_list_none, ↓ins_list_bool, ↓ins_list_int, ↓ins_list_str, ↓ins_list_list, ↓ins_list_tuple, ↓ins_list_dict, ↓ins_tuple_none, ↓ins_tuple_bool, ↓ins_tuple_int, ↓ins_tuple_str, ↓ins_tuple_list, ↓ins_tuple_tuple, ↓ins_tuple_dict, ↓ins_dict_none, ↓ins_dict_bool, ↓ins_dict_int, ↓ins_dict_str, ↓ins_dict_list, ↓ins_dict_tuple, ↓ins_dict_dict, ↓in_sign, ↓onClr_0, ↓onClr_S, ↓onW_nil, ↓onW_cons, ↓onRe_0, ↓onRe_S, ↓onBk_nil, ↓onBk_cons, ↓onTwo_l, ↓S_par, ↓a_tup, ↓onG_name, ↓onG_tup, ↓onGs_nil, ↓onGs_cons, ↓onTurn_nx, ↓onTurn_ct, ↓onTurn_bk, ↓onTurn_rt, ↓onLD_d, ↓v_ixAd, ↓v_inAd, ↓v_notInAd, ↓S_upd, ↓v_zip, ↓Wp_flatA, ↓v_int, ↓v_intB, ↓v_min, ↓v_gin, ↓v_gnin, ↓v_gix, ↓reduceIte]
    refine ⟨lineB (by omega), ite_i (fun h1 => ite_i (fun h2 => ?_) fun h2 => ?_) fun h1 => ?_⟩
    · refine Cp_map (fun d => match d with | .str y => .bool (small (y.cps.getD 0 0)) | _ => .none) (by rw [signs_len]; exact lineB (by omega)) (fun d hd => ?_) ?_
      · obtain ⟨c, _, rfl⟩ := List.mem_map.mp hd
        refine ⟨[some (.str z), some (.str ⟨#[c]⟩)], rfl, ?_⟩
        simp only [↓S_next, ↓S_bk, ↓S_ct, ↓S_rtd, ↓S_seq, ↓S_set, ↓S_drop, ↓S_ret, ↓S_if, ↓S_asg, ↓S_put, ↓S_app, ↓S_ext, ↓S_for, ↓Wp_pure, ↓Wp_opt, ↓Wp_bind, ↓Wp_ite, ↓Wp_var, ↓Wp_op, ↓Wp_un, ↓Wp_test, ↓Wp_dand, ↓Wp_dor, ↓Wp_dnot, ↓Wp_dandV, ↓Wp_dorV, ↓Wp_dnotV, ↓Wp_chain, ↓Wp_cb, ↓Wp_cons, ↓Wp_nil, ↓Wp_tup, ↓Wp_lst, ↓Wp_part, ↓Wp_nopart, ↓Wp_slice, ↓Wp_isi, ↓Wp_isi2, ↓Wp_m1, ↓Wp_call, ↓Wp_pix, ↓Wp_callP0, ↓Wp_callP1, ↓Wp_comp, ↓Wp_disp, ↓Wp_dpnil, ↓Wp_dpcons, ↓Wp_flat, ↓onNx_nx, ↓onNx_bk, ↓onNx_ct, ↓onNx_rt, ↓onRt_rt, ↓onRt_nx, ↓onS_some, ↓onB_b, ↓onI_i, ↓onStr_s, ↓onL_l, ↓lk_0, ↓lk_S, ↓onSet_0, ↓onSet_S, ↓onPut_0, ↓onPut_S, ↓ite_dec, ↓ite_ndec, ↓ite_tt, ↓ite_ff, ↓ite_nt, ↓ite_nf, ↓v_gt, ↓v_lt, ↓v_le, ↓v_ge, ↓v_ltS, ↓v_add, ↓v_addS, ↓v_addL, ↓v_addT, ↓v_addN, ↓v_sub, ↓v_mul, ↓v_mulS, ↓v_mod, ↓v_fdiv, ↓v_pow, ↓v_neg, ↓v_lenL, ↓v_lenT, ↓v_lenS, ↓v_abs, ↓v_rev, ↓v_all, ↓v_any, ↓v_sum, ↓v_eq, ↓v_ne, ↓v_in, ↓v_notIn, ↓q_ii, ↓q_ss, ↓items_l, ↓items_t, ↓items_s, ↓items_r1, ↓items_r2, ↓sl_l, ↓sl_t, ↓sl_s, ↓put_1, ↓put_2, ↓pen_0, ↓pen_1, ↓pen_2, ↓v_ixL, ↓v_ixT, ↓ins_NoneType_none, ↓ins_NoneType_bool, ↓ins_NoneType_int, ↓ins_NoneType_str, ↓ins_NoneType_list, ↓ins_NoneType_tuple, ↓ins_NoneType_dict, ↓ins_bool_none, ↓ins_bool_bool, ↓ins_bool_int, ↓ins_bool_str, ↓ins_bool_list, ↓ins_bool_tuple, ↓ins_bool_dict, ↓ins_int_none, ↓ins_int_bool, ↓ins_int_int, ↓ins_int_str, ↓ins_int_list, ↓ins_int_tuple, ↓ins_int_dict, ↓ins_str_none, ↓ins_str_bool, ↓ins_str_int, ↓ins_str_str, ↓ins_str_list, ↓ins_str_tuple, ↓ins_str_dict, ↓ins_list_none, ↓ins_list_bool, ↓ins_list_int, ↓ins_list_str, ↓ins_list_list, ↓ins_list_tuple, ↓ins_list_dict, ↓ins_tuple_none, ↓ins_tuple_bool, ↓ins_tuple_int, ↓ins_tuple_str, ↓ins_tuple_list, ↓ins_tuple_tuple, ↓ins_tuple_dict, ↓ins_dict_none, ↓ins_dict_bool, ↓ins_dict_int, ↓ins_dict_str, ↓ins_dict_list, ↓ins_dict_tuple, ↓ins_dict_dict, ↓in_sign, ↓onClr_0, ↓onClr_S, ↓onW_nil, ↓onW_cons, ↓onRe_0, ↓onRe_S, ↓onBk_nil, ↓onBk_cons, ↓onTwo_l, ↓S_par, ↓a_tup, ↓onG_name, ↓onG_tup, ↓onGs_nil, ↓onGs_cons, ↓onTurn_nx, ↓onTurn_ct, ↓onTurn_bk, ↓onTurn_rt, ↓onLD_d, ↓v_ixAd, ↓v_inAd, ↓v_notInAd, ↓S_upd, ↓v_zip, ↓Wp_flatA, ↓v_int, ↓v_intB, ↓v_min, ↓v_gin, ↓v_gnin, ↓v_gix, ↓reduceIte]
        refine ⟨?_, ?_, ?_⟩ <;> first | trivial | rfl
      · have e : (signs z).map (fun d => match d with | .str y => PyData.bool (small (y.cps.getD 0 0)) | _ => .none) = (z.cps.toList.map small).map PyData.bool := by
          unfold signs
          rw [List.map_map, List.map_map]
          rfl
        rw [e, blsD_map]
        simp only [↓S_next, ↓S_bk, ↓S_ct, ↓S_rtd, ↓S_seq, ↓S_set, ↓S_drop, ↓S_ret, ↓S_if, ↓S_asg, ↓S_put, ↓S_app, ↓S_ext, ↓S_for, ↓Wp_pure, ↓Wp_opt, ↓Wp_bind, ↓Wp_ite, ↓Wp_var, ↓Wp_op, ↓Wp_un, ↓Wp_test, ↓Wp_dand, ↓Wp_dor, ↓Wp_dnot, ↓Wp_dandV, ↓Wp_dorV, ↓Wp_dnotV, ↓Wp_chain, ↓Wp_cb, ↓Wp_cons, ↓Wp_nil, ↓Wp_tup, ↓Wp_lst, ↓Wp_part, ↓Wp_nopart, ↓Wp_slice, ↓Wp_isi, ↓Wp_isi2, ↓Wp_m1, ↓Wp_call, ↓Wp_pix, ↓Wp_callP0, ↓Wp_callP1, ↓Wp_comp, ↓Wp_disp, ↓Wp_dpnil, ↓Wp_dpcons, ↓Wp_flat, ↓onNx_nx, ↓onNx_bk, ↓onNx_ct, ↓onNx_rt, ↓onRt_rt, ↓onRt_nx, ↓onS_some, ↓onB_b, ↓onI_i, ↓onStr_s, ↓onL_l, ↓lk_0, ↓lk_S, ↓onSet_0, ↓onSet_S, ↓onPut_0, ↓onPut_S, ↓ite_dec, ↓ite_ndec, ↓ite_tt, ↓ite_ff, ↓ite_nt, ↓ite_nf, ↓v_gt, ↓v_lt, ↓v_le, ↓v_ge, ↓v_ltS, ↓v_add, ↓v_addS, ↓v_addL, ↓v_addT, ↓v_addN, ↓v_sub, ↓v_mul, ↓v_mulS, ↓v_mod, ↓v_fdiv, ↓v_pow, ↓v_neg, ↓v_lenL, ↓v_lenT, ↓v_lenS, ↓v_abs, ↓v_rev, ↓v_all, ↓v_any, ↓v_sum, ↓v_eq, ↓v_ne, ↓v_in, ↓v_notIn, ↓q_ii, ↓q_ss, ↓items_l, ↓items_t, ↓items_s, ↓items_r1, ↓items_r2, ↓sl_l, ↓sl_t, ↓sl_s, ↓put_1, ↓put_2, ↓pen_0, ↓pen_1, ↓pen_2, ↓v_ixL, ↓v_ixT, ↓ins_NoneType_none, ↓ins_NoneType_bool, ↓ins_NoneType_int, ↓ins_NoneType_str, ↓ins_NoneType_list, ↓ins_NoneType_tuple, ↓ins_NoneType_dict, ↓ins_bool_none, ↓ins_bool_bool, ↓ins_bool_int, ↓ins_bool_str, ↓ins_bool_list, ↓ins_bool_tuple, ↓ins_bool_dict, ↓ins_int_none, ↓ins_int_bool, ↓ins_int_int, ↓ins_int_str, ↓ins_int_list, ↓ins_int_tuple, ↓ins_int_dict, ↓ins_str_none, ↓ins_str_bool, ↓ins_str_int, ↓ins_str_str, ↓ins_str_list, ↓ins_str_tuple, ↓ins_str_dict, ↓ins_list_none, ↓ins_list_bool, ↓ins_list_int, ↓ins_list_str, ↓ins_list_list, ↓ins_list_tuple, ↓ins_list_dict, ↓ins_tuple_none, ↓ins_tuple_bool, ↓ins_tuple_int, ↓ins_tuple_str, ↓ins_tuple_list, ↓ins_tuple_tuple, ↓ins_tuple_dict, ↓ins_dict_none, ↓ins_dict_bool, ↓ins_dict_int, ↓ins_dict_str, ↓ins_dict_list, ↓ins_dict_tuple, ↓ins_dict_dict, ↓in_sign, ↓onClr_0, ↓onClr_S, ↓onW_nil, ↓onW_cons, ↓onRe_0, ↓onRe_S, ↓onBk_nil, ↓onBk_cons, ↓onTwo_l, ↓S_par, ↓a_tup, ↓onG_name, ↓onG_tup, ↓onGs_nil, ↓onGs_cons, ↓onTurn_nx, ↓onTurn_ct, ↓onTurn_bk, ↓onTurn_rt, ↓onLD_d, ↓v_ixAd, ↓v_inAd, ↓v_notInAd, ↓S_upd, ↓v_zip, ↓Wp_flatA, ↓v_int, ↓v_intB, ↓v_min, ↓v_gin, ↓v_gnin, ↓v_gix, ↓reduceIte]
        rw [isW_str, List.all_map, decide_eq_true (show 1 ≤ z.length ∧ z.length ≤ 8 by omega)]
        rfl
    · rw [isW_str, decide_eq_false (by omega)]
      rfl
    · rw [isW_str, decide_eq_false (by omega)]
      rfl
  | _ =>
    simp only [↓S_next, ↓S_bk, ↓S_ct, ↓S_rtd, ↓S_seq, ↓S_set, ↓S_drop, ↓S_ret, ↓S_if, ↓S_asg, ↓S_put, ↓S_app, ↓S_ext, ↓S_for, ↓Wp_pure, ↓Wp_opt, ↓Wp_bind, ↓Wp_ite, ↓Wp_var, ↓Wp_op, ↓Wp_un, ↓Wp_test, ↓Wp_dand, ↓Wp_dor, ↓Wp_dnot, ↓Wp_dandV, ↓Wp_dorV, ↓Wp_dnotV, ↓Wp_chain, ↓Wp_cb, ↓Wp_cons, ↓Wp_nil, ↓Wp_tup, ↓Wp_lst, ↓Wp_part, ↓Wp_nopart, ↓Wp_slice, ↓Wp_isi, ↓Wp_isi2, ↓Wp_m1, ↓Wp_call, ↓Wp_pix, ↓Wp_callP0, ↓Wp_callP1, ↓Wp_comp, ↓Wp_disp, ↓Wp_dpnil, ↓Wp_dpcons, ↓Wp_flat, ↓onNx_nx, ↓onNx_bk, ↓onNx_ct, ↓onNx_rt, ↓onRt_rt, ↓onRt_nx, ↓onS_some, ↓onB_b, ↓onI_i, ↓onStr_s, ↓onL_l, ↓lk_0, ↓lk_S, ↓onSet_0, ↓onSet_S, ↓onPut_0, ↓onPut_S, ↓ite_dec, ↓ite_ndec, ↓ite_tt, ↓ite_ff, ↓ite_nt, ↓ite_nf, ↓v_gt, ↓v_lt, ↓v_le, ↓v_ge, ↓v_ltS, ↓v_add, ↓v_addS, ↓v_addL, ↓v_addT, ↓v_addN, ↓v_sub, ↓v_mul, ↓v_mulS, ↓v_mod, ↓v_fdiv, ↓v_pow, ↓v_neg, ↓v_lenL, ↓v_lenT, ↓v_lenS, ↓v_abs, ↓v_rev, ↓v_all, ↓v_any, ↓v_sum, ↓v_eq, ↓v_ne, ↓v_in, ↓v_notIn, ↓q_ii, ↓q_ss, ↓items_l, ↓items_t, ↓items_s, ↓items_r1, ↓items_r2, ↓sl_l, ↓sl_t, ↓sl_s, ↓put_1, ↓put_2, ↓pen_0, ↓pen_1, ↓pen_2, ↓v_ixL, ↓v_ixT, ↓ins_NoneType_none, ↓ins_NoneType_bool, ↓ins_NoneType_int, ↓ins_NoneType_str, ↓ins_NoneType_list, ↓ins_NoneType_tuple, ↓ins_NoneType_dict, ↓ins_bool_none, ↓ins_bool_bool, ↓ins_bool_int, ↓ins_bool_str, ↓ins_bool_list, ↓ins_bool_tuple, ↓ins_bool_dict, ↓ins_int_none, ↓ins_int_bool, ↓ins_int_int, ↓ins_int_str, ↓ins_int_list, ↓ins_int_tuple, ↓ins_int_dict, ↓ins_str_none, ↓ins_str_bool, ↓ins_str_int, ↓ins_str_str, ↓ins_str_list, ↓ins_str_tuple, ↓ins_str_dict, ↓ins_list_none, ↓ins_list_bool, ↓ins_list_int, ↓ins_list_str, ↓ins_list_list, ↓ins_list_tuple, ↓ins_list_dict, ↓ins_tuple_none, ↓ins_tuple_bool, ↓ins_tuple_int, ↓ins_tuple_str, ↓ins_tuple_list, ↓ins_tuple_tuple, ↓ins_tuple_dict, ↓ins_dict_none, ↓ins_dict_bool, ↓ins_dict_int, ↓ins_dict_str, ↓ins_dict_list, ↓ins_dict_tuple, ↓ins_dict_dict, ↓in_sign, ↓onClr_0, ↓onClr_S, ↓onW_nil, ↓onW_cons, ↓onRe_0, ↓onRe_S, ↓onBk_nil, ↓onBk_cons, ↓onTwo_l, ↓S_par, ↓a_tup, ↓onG_name, ↓onG_tup, ↓onGs_nil, ↓onGs_cons, ↓onTurn_nx, ↓onTurn_ct, ↓onTurn_bk, ↓onTurn_rt, ↓onLD_d, ↓v_ixAd, ↓v_inAd, ↓v_notInAd, ↓S_upd, ↓v_zip, ↓Wp_flatA, ↓v_int, ↓v_intB, ↓v_min, ↓v_gin, ↓v_gnin, ↓v_gix, ↓reduceIte]
    rfl
theorem strOk_1 {c : Nat} (h : c < 128) : PyData.strOk ⟨#[c]⟩ = true := by
  unfold PyData.strOk
  rw [← Array.all_toList]
  simp only [List.all_cons, List.all_nil, Bool.and_true, decide_eq_true_eq]
  omega
theorem canLay_strs : ∀ (cs : List Nat), (∀ c ∈ cs, c < 128) → PyData.canLayAll0 (cs.map fun c => PyData.str ⟨#[c]⟩) = true
  | [], _ => rfl
  | c :: r, h => by
    simp only [List.map_cons, PyData.canLayAll0, PyData.canLay0, canLay_strs r fun c hc => h c (List.mem_cons_of_mem _ hc), strOk_1 (h c List.mem_cons_self), Bool.and_self]
theorem depth_strs : ∀ (cs : List Nat), PyData.depthAll (cs.map fun c => PyData.str ⟨#[c]⟩) = 0
  | [] => rfl
  | c :: r => by
    simp only [List.map_cons, PyData.depthAll, PyData.depth, depth_strs r, Nat.max_self]
theorem shaped_strs (cs : List Nat) (h : ∀ c ∈ cs, c < 128) : SeqAt.shaped (.list (cs.map fun c => PyData.str ⟨#[c]⟩)) = true := by
  unfold SeqAt.shaped
  rw [PyData.canLay0, canLay_strs cs h, PyData.depth, depth_strs]
  rfl
def Tx7 (z : Str) : Prop := z.length ≤ 1000 ∧ ∀ c ∈ z.cps.toList, c < 128
theorem filter_nil {l : List Nat} {f : Nat → Bool} : (l.filter (fun c => !f c) = []) ↔ l.all f = true := by
  rw [List.filter_eq_nil_iff, List.all_eq_true]
  simp
theorem law_is_word_eq (d : D) (hd : ∀ z, d = .str z → Tx7 z) : m__law_is_word [d] = some (.bool (isW d)) := by
  refine MD.get (MD_of rfl ?_)
  show Sp2 g__law_is_word [some _, none] _
  unfold g__law_is_word
  cases d with
  | str z =>
    obtain ⟨hz, h7⟩ := hd z rfl
    simp only [↓S_next, ↓S_bk, ↓S_ct, ↓S_rtd, ↓S_seq, ↓S_set, ↓S_drop, ↓S_ret, ↓S_if, ↓S_asg, ↓S_put, ↓S_app, ↓S_ext, ↓S_for, ↓Wp_pure, ↓Wp_opt, ↓Wp_bind, ↓Wp_ite, ↓Wp_var, ↓Wp_op, ↓Wp_un, ↓Wp_test, ↓Wp_dand, ↓Wp_dor, ↓Wp_dnot, ↓Wp_dandV, ↓Wp_dorV, ↓Wp_dnotV, ↓Wp_chain, ↓Wp_cb, ↓Wp_cons, ↓Wp_nil, ↓Wp_tup, ↓Wp_lst, ↓Wp_part, ↓Wp_nopart, ↓Wp_slice, ↓Wp_isi, ↓Wp_isi2, ↓Wp_m1, ↓Wp_call, ↓Wp_pix, ↓Wp_callP0, ↓Wp_callP1, ↓Wp_comp, ↓Wp_disp, ↓Wp_dpnil, ↓Wp_dpcons, ↓Wp_flat, ↓onNx_nx, ↓onNx_bk, ↓onNx_ct, ↓onNx_rt, ↓onRt_rt, ↓onRt_nx, ↓onS_some, ↓onB_b, ↓onI_i, ↓onStr_s, ↓onL_l, ↓lk_0, ↓lk_S, ↓onSet_0, ↓onSet_S, ↓onPut_0, ↓onPut_S, ↓ite_dec, ↓ite_ndec, ↓ite_tt, ↓ite_ff, ↓ite_nt, ↓ite_nf, ↓v_gt, ↓v_lt, ↓v_le, ↓v_ge, ↓v_ltS, ↓v_add, ↓v_addS, ↓v_addL, ↓v_addT, ↓v_addN, ↓v_sub, ↓v_mul, ↓v_mulS, ↓v_mod, ↓v_fdiv, ↓v_pow, ↓v_neg, ↓v_lenL, ↓v_lenT, ↓v_lenS, ↓v_abs, ↓v_rev, ↓v_all, ↓v_any, ↓v_sum, ↓v_eq, ↓v_ne, ↓v_in, ↓v_notIn, ↓q_ii, ↓q_ss, ↓items_l, ↓items_t, ↓items_s, ↓items_r1, ↓items_r2, ↓sl_l, ↓sl_t, ↓sl_s, ↓put_1, ↓put_2, ↓pen_0, ↓pen_1, ↓pen_2, ↓v_ixL, ↓v_ixT, ↓ins_NoneType_none, ↓ins_NoneType_bool, ↓ins_NoneType_int, ↓ins_NoneType_str, ↓ins_NoneType_list, ↓ins_NoneType_tuple, ↓ins_NoneType_dict, ↓ins_bool_none, ↓ins_bool_bool, ↓ins_bool_int, ↓ins_bool_str, ↓ins_bool_list, ↓ins_bool_tuple, ↓ins_bool_dict, ↓ins_int_none, ↓ins_int_bool, ↓ins_int_int, ↓ins_int_str, ↓ins_int_list, ↓ins_int_tuple, ↓ins_int_dict, ↓ins_str_none, ↓ins_str_bool, ↓ins_str_int, ↓ins_str_str, ↓ins_str_list, ↓ins_str_tuple, ↓ins_str_dict, ↓ins_list_none, ↓ins_list_bool, ↓ins_list_int, ↓ins_list_str, ↓ins_list_list, ↓ins_list_tuple, ↓ins_list_dict, ↓ins_tuple_none, ↓ins_tuple_bool, ↓ins_tuple_int, ↓ins_tuple_str, ↓ins_tuple_list, ↓ins_tuple_tuple, ↓ins_tuple_dict, ↓ins_dict_none, ↓ins_dict_bool, ↓ins_dict_int, ↓ins_dict_str, ↓ins_dict_list, ↓ins_dict_tuple, ↓ins_dict_dict, ↓in_sign, ↓onClr_0, ↓onClr_S, ↓onW_nil, ↓onW_cons, ↓onRe_0, ↓onRe_S, ↓onBk_nil, ↓onBk_cons, ↓onTwo_l, ↓S_par, ↓a_tup, ↓onG_name, ↓onG_tup, ↓onGs_nil, ↓onGs_cons, ↓onTurn_nx, ↓onTurn_ct, ↓onTurn_bk, ↓onTurn_rt, ↓onLD_d, ↓v_ixAd, ↓v_inAd, ↓v_notInAd, ↓S_upd, ↓v_zip, ↓Wp_flatA, ↓v_int, ↓v_intB, ↓v_min, ↓v_gin, ↓v_gnin, ↓v_gix, ↓reduceIte]
    refine ⟨lineB (by omega), ite_i (fun h1 => ite_i (fun h2 => ?_) fun h2 => ?_) fun h1 => ?_⟩
    rotate_left
    · rw [isW_str, decide_eq_false (by omega)]
      rfl
    · rw [isW_str, decide_eq_false (by omega)]
      rfl
    · refine Cp_fm (fun d => match d with | .str y => !small (y.cps.getD 0 0) | _ => false) (fun d => d) (by rw [signs_len, List.length_nil]; exact lineB (by omega)) (fun d hd => ?_) ?_
      · obtain ⟨c, _, rfl⟩ := List.mem_map.mp hd
        refine ⟨[some (.str z), some (.str ⟨#[c]⟩)], rfl, ?_⟩
        simp only [↓S_next, ↓S_bk, ↓S_ct, ↓S_rtd, ↓S_seq, ↓S_set, ↓S_drop, ↓S_ret, ↓S_if, ↓S_asg, ↓S_put, ↓S_app, ↓S_ext, ↓S_for, ↓Wp_pure, ↓Wp_opt, ↓Wp_bind, ↓Wp_ite, ↓Wp_var, ↓Wp_op, ↓Wp_un, ↓Wp_test, ↓Wp_dand, ↓Wp_dor, ↓Wp_dnot, ↓Wp_dandV, ↓Wp_dorV, ↓Wp_dnotV, ↓Wp_chain, ↓Wp_cb, ↓Wp_cons, ↓Wp_nil, ↓Wp_tup, ↓Wp_lst, ↓Wp_part, ↓Wp_nopart, ↓Wp_slice, ↓Wp_isi, ↓Wp_isi2, ↓Wp_m1, ↓Wp_call, ↓Wp_pix, ↓Wp_callP0, ↓Wp_callP1, ↓Wp_comp, ↓Wp_disp, ↓Wp_dpnil, ↓Wp_dpcons, ↓Wp_flat, ↓onNx_nx, ↓onNx_bk, ↓onNx_ct, ↓onNx_rt, ↓onRt_rt, ↓onRt_nx, ↓onS_some, ↓onB_b, ↓onI_i, ↓onStr_s, ↓onL_l, ↓lk_0, ↓lk_S, ↓onSet_0, ↓onSet_S, ↓onPut_0, ↓onPut_S, ↓ite_dec, ↓ite_ndec, ↓ite_tt, ↓ite_ff, ↓ite_nt, ↓ite_nf, ↓v_gt, ↓v_lt, ↓v_le, ↓v_ge, ↓v_ltS, ↓v_add, ↓v_addS, ↓v_addL, ↓v_addT, ↓v_addN, ↓v_sub, ↓v_mul, ↓v_mulS, ↓v_mod, ↓v_fdiv, ↓v_pow, ↓v_neg, ↓v_lenL, ↓v_lenT, ↓v_lenS, ↓v_abs, ↓v_rev, ↓v_all, ↓v_any, ↓v_sum, ↓v_eq, ↓v_ne, ↓v_in, ↓v_notIn, ↓q_ii, ↓q_ss, ↓items_l, ↓items_t, ↓items_s, ↓items_r1, ↓items_r2, ↓sl_l, ↓sl_t, ↓sl_s, ↓put_1, ↓put_2, ↓pen_0, ↓pen_1, ↓pen_2, ↓v_ixL, ↓v_ixT, ↓ins_NoneType_none, ↓ins_NoneType_bool, ↓ins_NoneType_int, ↓ins_NoneType_str, ↓ins_NoneType_list, ↓ins_NoneType_tuple, ↓ins_NoneType_dict, ↓ins_bool_none, ↓ins_bool_bool, ↓ins_bool_int, ↓ins_bool_str, ↓ins_bool_list, ↓ins_bool_tuple, ↓ins_bool_dict, ↓ins_int_none, ↓ins_int_bool, ↓ins_int_int, ↓ins_int_str, ↓ins_int_list, ↓ins_int_tuple, ↓ins_int_dict, ↓ins_str_none, ↓ins_str_bool, ↓ins_str_int, ↓ins_str_str, ↓ins_str_list, ↓ins_str_tuple, ↓ins_str_dict, ↓ins_list_none, ↓ins_list_bool, ↓ins_list_int, ↓ins_list_str, ↓ins_list_list, ↓ins_list_tuple, ↓ins_list_dict, ↓ins_tuple_none, ↓ins_tuple_bool, ↓ins_tuple_int, ↓ins_tuple_str, ↓ins_tuple_list, ↓ins_tuple_tuple, ↓ins_tuple_dict, ↓ins_dict_none, ↓ins_dict_bool, ↓ins_dict_int, ↓ins_dict_str, ↓ins_dict_list, ↓ins_dict_tuple, ↓ins_dict_dict, ↓in_sign, ↓onClr_0, ↓onClr_S, ↓onW_nil, ↓onW_cons, ↓onRe_0, ↓onRe_S, ↓onBk_nil, ↓onBk_cons, ↓onTwo_l, ↓S_par, ↓a_tup, ↓onG_name, ↓onG_tup, ↓onGs_nil, ↓onGs_cons, ↓onTurn_nx, ↓onTurn_ct, ↓onTurn_bk, ↓onTurn_rt, ↓onLD_d, ↓v_ixAd, ↓v_inAd, ↓v_notInAd, ↓S_upd, ↓v_zip, ↓Wp_flatA, ↓v_int, ↓v_intB, ↓v_min, ↓v_gin, ↓v_gnin, ↓v_gix, ↓reduceIte]
        exact ⟨by first | trivial | rfl, ite_i (fun _ => ⟨by first | trivial | rfl, rfl⟩) fun _ => rfl⟩
      · have e : ([] ++ ((signs z).filter (fun d => match d with | .str y => !small (y.cps.getD 0 0) | _ => false)).map fun d => d) = (z.cps.toList.filter fun c => !small c).map fun c => PyData.str ⟨#[c]⟩ := by
          unfold signs
          rw [List.nil_append, List.map_id', List.filter_map]
          rfl
        rw [e]
        have hw : isW (.str z) = z.cps.toList.all small := by
          rw [isW_str, decide_eq_true (show 1 ≤ z.length ∧ z.length ≤ 8 by omega)]
          rfl
        rw [hw]
        have hl : (z.cps.toList.filter fun c => !small c).length ≤ 1000 := by
          refine Nat.le_trans (List.length_filter_le _ _) ?_
          rw [Array.length_toList]
          exact hz
        cases e2 : z.cps.toList.filter fun c => !small c with
        | nil =>
          rw [filter_nil.mp e2]
          exact ⟨Nat.zero_le _, _, rfl, rfl⟩
        | cons c r =>
          have e3 : z.cps.toList.all small = false := by
            cases e4 : z.cps.toList.all small with
            | false => rfl
            | true =>
              rw [filter_nil.mpr e4] at e2
              cases e2
          rw [e3]
          refine ⟨Nat.zero_le _, _, ?_, rfl⟩
          unfold eqB
          rw [if_pos]
          · rfl
          · refine Or.inr ⟨?_, rfl⟩
            exact shaped_strs _ fun a ha => h7 a (List.mem_filter.mp (show a ∈ z.cps.toList.filter fun c => !small c by rw [e2]; exact ha)).1
  | _ =>
    simp only [↓S_next, ↓S_bk, ↓S_ct, ↓S_rtd, ↓S_seq, ↓S_set, ↓S_drop, ↓S_ret, ↓S_if, ↓S_asg, ↓S_put, ↓S_app, ↓S_ext, ↓S_for, ↓Wp_pure, ↓Wp_opt, ↓Wp_bind, ↓Wp_ite, ↓Wp_var, ↓Wp_op, ↓Wp_un, ↓Wp_test, ↓Wp_dand, ↓Wp_dor, ↓Wp_dnot, ↓Wp_dandV, ↓Wp_dorV, ↓Wp_dnotV, ↓Wp_chain, ↓Wp_cb, ↓Wp_cons, ↓Wp_nil, ↓Wp_tup, ↓Wp_lst, ↓Wp_part, ↓Wp_nopart, ↓Wp_slice, ↓Wp_isi, ↓Wp_isi2, ↓Wp_m1, ↓Wp_call, ↓Wp_pix, ↓Wp_callP0, ↓Wp_callP1, ↓Wp_comp, ↓Wp_disp, ↓Wp_dpnil, ↓Wp_dpcons, ↓Wp_flat, ↓onNx_nx, ↓onNx_bk, ↓onNx_ct, ↓onNx_rt, ↓onRt_rt, ↓onRt_nx, ↓onS_some, ↓onB_b, ↓onI_i, ↓onStr_s, ↓onL_l, ↓lk_0, ↓lk_S, ↓onSet_0, ↓onSet_S, ↓onPut_0, ↓onPut_S, ↓ite_dec, ↓ite_ndec, ↓ite_tt, ↓ite_ff, ↓ite_nt, ↓ite_nf, ↓v_gt, ↓v_lt, ↓v_le, ↓v_ge, ↓v_ltS, ↓v_add, ↓v_addS, ↓v_addL, ↓v_addT, ↓v_addN, ↓v_sub, ↓v_mul, ↓v_mulS, ↓v_mod, ↓v_fdiv, ↓v_pow, ↓v_neg, ↓v_lenL, ↓v_lenT, ↓v_lenS, ↓v_abs, ↓v_rev, ↓v_all, ↓v_any, ↓v_sum, ↓v_eq, ↓v_ne, ↓v_in, ↓v_notIn, ↓q_ii, ↓q_ss, ↓items_l, ↓items_t, ↓items_s, ↓items_r1, ↓items_r2, ↓sl_l, ↓sl_t, ↓sl_s, ↓put_1, ↓put_2, ↓pen_0, ↓pen_1, ↓pen_2, ↓v_ixL, ↓v_ixT, ↓ins_NoneType_none, ↓ins_NoneType_bool, ↓ins_NoneType_int, ↓ins_NoneType_str, ↓ins_NoneType_list, ↓ins_NoneType_tuple, ↓ins_NoneType_dict, ↓ins_bool_none, ↓ins_bool_bool, ↓ins_bool_int, ↓ins_bool_str, ↓ins_bool_list, ↓ins_bool_tuple, ↓ins_bool_dict, ↓ins_int_none, ↓ins_int_bool, ↓ins_int_int, ↓ins_int_str, ↓ins_int_list, ↓ins_int_tuple, ↓ins_int_dict, ↓ins_str_none, ↓ins_str_bool, ↓ins_str_int, ↓ins_str_str, ↓ins_str_list, ↓ins_str_tuple, ↓ins_str_dict, ↓ins_list_none, ↓ins_list_bool, ↓ins_list_int, ↓ins_list_str, ↓ins_list_list, ↓ins_list_tuple, ↓ins_list_dict, ↓ins_tuple_none, ↓ins_tuple_bool, ↓ins_tuple_int, ↓ins_tuple_str, ↓ins_tuple_list, ↓ins_tuple_tuple, ↓ins_tuple_dict, ↓ins_dict_none, ↓ins_dict_bool, ↓ins_dict_int, ↓ins_dict_str, ↓ins_dict_list, ↓ins_dict_tuple, ↓ins_dict_dict, ↓in_sign, ↓onClr_0, ↓onClr_S, ↓onW_nil, ↓onW_cons, ↓onRe_0, ↓onRe_S, ↓onBk_nil, ↓onBk_cons, ↓onTwo_l, ↓S_par, ↓a_tup, ↓onG_name, ↓onG_tup, ↓onGs_nil, ↓onGs_cons, ↓onTurn_nx, ↓onTurn_ct, ↓onTurn_bk, ↓onTurn_rt, ↓onLD_d, ↓v_ixAd, ↓v_inAd, ↓v_notInAd, ↓S_upd, ↓v_zip, ↓Wp_flatA, ↓v_int, ↓v_intB, ↓v_min, ↓v_gin, ↓v_gnin, ↓v_gix, ↓reduceIte]
    rfl
theorem from_to_eq (d : D) (x y : Int) : m_is_from_to [d, .int x, .int y] = some (.bool (within x y d)) := by
  refine MD.get (MD_of rfl ?_)
  show Sp2 g_is_from_to [some _, some _, some _] _
  unfold g_is_from_to
  cases d with
  | int i =>
    simp only [↓S_next, ↓S_bk, ↓S_ct, ↓S_rtd, ↓S_seq, ↓S_set, ↓S_drop, ↓S_ret, ↓S_if, ↓S_asg, ↓S_put, ↓S_app, ↓S_ext, ↓S_for, ↓Wp_pure, ↓Wp_opt, ↓Wp_bind, ↓Wp_ite, ↓Wp_var, ↓Wp_op, ↓Wp_un, ↓Wp_test, ↓Wp_dand, ↓Wp_dor, ↓Wp_dnot, ↓Wp_dandV, ↓Wp_dorV, ↓Wp_dnotV, ↓Wp_chain, ↓Wp_cb, ↓Wp_cons, ↓Wp_nil, ↓Wp_tup, ↓Wp_lst, ↓Wp_part, ↓Wp_nopart, ↓Wp_slice, ↓Wp_isi, ↓Wp_isi2, ↓Wp_m1, ↓Wp_call, ↓Wp_pix, ↓Wp_callP0, ↓Wp_callP1, ↓Wp_comp, ↓Wp_disp, ↓Wp_dpnil, ↓Wp_dpcons, ↓Wp_flat, ↓onNx_nx, ↓onNx_bk, ↓onNx_ct, ↓onNx_rt, ↓onRt_rt, ↓onRt_nx, ↓onS_some, ↓onB_b, ↓onI_i, ↓onStr_s, ↓onL_l, ↓lk_0, ↓lk_S, ↓onSet_0, ↓onSet_S, ↓onPut_0, ↓onPut_S, ↓ite_dec, ↓ite_ndec, ↓ite_tt, ↓ite_ff, ↓ite_nt, ↓ite_nf, ↓v_gt, ↓v_lt, ↓v_le, ↓v_ge, ↓v_ltS, ↓v_add, ↓v_addS, ↓v_addL, ↓v_addT, ↓v_addN, ↓v_sub, ↓v_mul, ↓v_mulS, ↓v_mod, ↓v_fdiv, ↓v_pow, ↓v_neg, ↓v_lenL, ↓v_lenT, ↓v_lenS, ↓v_abs, ↓v_rev, ↓v_all, ↓v_any, ↓v_sum, ↓v_eq, ↓v_ne, ↓v_in, ↓v_notIn, ↓q_ii, ↓q_ss, ↓items_l, ↓items_t, ↓items_s, ↓items_r1, ↓items_r2, ↓sl_l, ↓sl_t, ↓sl_s, ↓put_1, ↓put_2, ↓pen_0, ↓pen_1, ↓pen_2, ↓v_ixL, ↓v_ixT, ↓ins_NoneType_none, ↓ins_NoneType_bool, ↓ins_NoneType_int, ↓ins_NoneType_str, ↓ins_NoneType_list, ↓ins_NoneType_tuple, ↓ins_NoneType_dict, ↓ins_bool_none, ↓ins_bool_bool, ↓ins_bool_int, ↓ins_bool_str, ↓ins_bool_list, ↓ins_bool_tuple, ↓ins_bool_dict, ↓ins_int_none, ↓ins_int_bool, ↓ins_int_int, ↓ins_int_str, ↓ins_int_list, ↓ins_int_tuple, ↓ins_int_dict, ↓ins_str_none, ↓ins_str_bool, ↓ins_str_int, ↓ins_str_str, ↓ins_str_list, ↓ins_str_tuple, ↓ins_str_dict, ↓ins_list_none, ↓ins_list_bool, ↓ins_list_int, ↓ins_list_str, ↓ins_list_list, ↓ins_list_tuple, ↓ins_list_dict, ↓ins_tuple_none, ↓ins_tuple_bool, ↓ins_tuple_int, ↓ins_tuple_str, ↓ins_tuple_list, ↓ins_tuple_tuple, ↓ins_tuple_dict, ↓ins_dict_none, ↓ins_dict_bool, ↓ins_dict_int, ↓ins_dict_str, ↓ins_dict_list, ↓ins_dict_tuple, ↓ins_dict_dict, ↓in_sign, ↓onClr_0, ↓onClr_S, ↓onW_nil, ↓onW_cons, ↓onRe_0, ↓onRe_S, ↓onBk_nil, ↓onBk_cons, ↓onTwo_l, ↓S_par, ↓a_tup, ↓onG_name, ↓onG_tup, ↓onGs_nil, ↓onGs_cons, ↓onTurn_nx, ↓onTurn_ct, ↓onTurn_bk, ↓onTurn_rt, ↓onLD_d, ↓v_ixAd, ↓v_inAd, ↓v_notInAd, ↓S_upd, ↓v_zip, ↓Wp_flatA, ↓v_int, ↓v_intB, ↓v_min, ↓v_gin, ↓v_gnin, ↓v_gix, ↓reduceIte]
    refine ite_i (fun h1 => ?_) fun h1 => ?_
    · exact congrArg PyData.bool (Bool.eq_iff_iff.mpr (by simp [within, h1]))
    · exact congrArg PyData.bool (decide_eq_false (fun z => h1 z.1)).symm
  | _ =>
    simp only [↓S_next, ↓S_bk, ↓S_ct, ↓S_rtd, ↓S_seq, ↓S_set, ↓S_drop, ↓S_ret, ↓S_if, ↓S_asg, ↓S_put, ↓S_app, ↓S_ext, ↓S_for, ↓Wp_pure, ↓Wp_opt, ↓Wp_bind, ↓Wp_ite, ↓Wp_var, ↓Wp_op, ↓Wp_un, ↓Wp_test, ↓Wp_dand, ↓Wp_dor, ↓Wp_dnot, ↓Wp_dandV, ↓Wp_dorV, ↓Wp_dnotV, ↓Wp_chain, ↓Wp_cb, ↓Wp_cons, ↓Wp_nil, ↓Wp_tup, ↓Wp_lst, ↓Wp_part, ↓Wp_nopart, ↓Wp_slice, ↓Wp_isi, ↓Wp_isi2, ↓Wp_m1, ↓Wp_call, ↓Wp_pix, ↓Wp_callP0, ↓Wp_callP1, ↓Wp_comp, ↓Wp_disp, ↓Wp_dpnil, ↓Wp_dpcons, ↓Wp_flat, ↓onNx_nx, ↓onNx_bk, ↓onNx_ct, ↓onNx_rt, ↓onRt_rt, ↓onRt_nx, ↓onS_some, ↓onB_b, ↓onI_i, ↓onStr_s, ↓onL_l, ↓lk_0, ↓lk_S, ↓onSet_0, ↓onSet_S, ↓onPut_0, ↓onPut_S, ↓ite_dec, ↓ite_ndec, ↓ite_tt, ↓ite_ff, ↓ite_nt, ↓ite_nf, ↓v_gt, ↓v_lt, ↓v_le, ↓v_ge, ↓v_ltS, ↓v_add, ↓v_addS, ↓v_addL, ↓v_addT, ↓v_addN, ↓v_sub, ↓v_mul, ↓v_mulS, ↓v_mod, ↓v_fdiv, ↓v_pow, ↓v_neg, ↓v_lenL, ↓v_lenT, ↓v_lenS, ↓v_abs, ↓v_rev, ↓v_all, ↓v_any, ↓v_sum, ↓v_eq, ↓v_ne, ↓v_in, ↓v_notIn, ↓q_ii, ↓q_ss, ↓items_l, ↓items_t, ↓items_s, ↓items_r1, ↓items_r2, ↓sl_l, ↓sl_t, ↓sl_s, ↓put_1, ↓put_2, ↓pen_0, ↓pen_1, ↓pen_2, ↓v_ixL, ↓v_ixT, ↓ins_NoneType_none, ↓ins_NoneType_bool, ↓ins_NoneType_int, ↓ins_NoneType_str, ↓ins_NoneType_list, ↓ins_NoneType_tuple, ↓ins_NoneType_dict, ↓ins_bool_none, ↓ins_bool_bool, ↓ins_bool_int, ↓ins_bool_str, ↓ins_bool_list, ↓ins_bool_tuple, ↓ins_bool_dict, ↓ins_int_none, ↓ins_int_bool, ↓ins_int_int, ↓ins_int_str, ↓ins_int_list, ↓ins_int_tuple, ↓ins_int_dict, ↓ins_str_none, ↓ins_str_bool, ↓ins_str_int, ↓ins_str_str, ↓ins_str_list, ↓ins_str_tuple, ↓ins_str_dict, ↓ins_list_none, ↓ins_list_bool, ↓ins_list_int, ↓ins_list_str, ↓ins_list_list, ↓ins_list_tuple, ↓ins_list_dict, ↓ins_tuple_none, ↓ins_tuple_bool, ↓ins_tuple_int, ↓ins_tuple_str, ↓ins_tuple_list, ↓ins_tuple_tuple, ↓ins_tuple_dict, ↓ins_dict_none, ↓ins_dict_bool, ↓ins_dict_int, ↓ins_dict_str, ↓ins_dict_list, ↓ins_dict_tuple, ↓ins_dict_dict, ↓in_sign, ↓onClr_0, ↓onClr_S, ↓onW_nil, ↓onW_cons, ↓onRe_0, ↓onRe_S, ↓onBk_nil, ↓onBk_cons, ↓onTwo_l, ↓S_par, ↓a_tup, ↓onG_name, ↓onG_tup, ↓onGs_nil, ↓onGs_cons, ↓onTurn_nx, ↓onTurn_ct, ↓onTurn_bk, ↓onTurn_rt, ↓onLD_d, ↓v_ixAd, ↓v_inAd, ↓v_notInAd, ↓S_upd, ↓v_zip, ↓Wp_flatA, ↓v_int, ↓v_intB, ↓v_min, ↓v_gin, ↓v_gnin, ↓v_gix, ↓reduceIte]
    rfl
theorem law_within_eq (d : D) (x y : Int) : m__law_within [d, .int x, .int y] = some (.bool (within x y d)) := by
  refine MD.get (MD_of rfl ?_)
  show Sp2 g__law_within [some _, some _, some _] _
  unfold g__law_within
  cases d with
  | int i =>
    simp only [↓S_next, ↓S_bk, ↓S_ct, ↓S_rtd, ↓S_seq, ↓S_set, ↓S_drop, ↓S_ret, ↓S_if, ↓S_asg, ↓S_put, ↓S_app, ↓S_ext, ↓S_for, ↓Wp_pure, ↓Wp_opt, ↓Wp_bind, ↓Wp_ite, ↓Wp_var, ↓Wp_op, ↓Wp_un, ↓Wp_test, ↓Wp_dand, ↓Wp_dor, ↓Wp_dnot, ↓Wp_dandV, ↓Wp_dorV, ↓Wp_dnotV, ↓Wp_chain, ↓Wp_cb, ↓Wp_cons, ↓Wp_nil, ↓Wp_tup, ↓Wp_lst, ↓Wp_part, ↓Wp_nopart, ↓Wp_slice, ↓Wp_isi, ↓Wp_isi2, ↓Wp_m1, ↓Wp_call, ↓Wp_pix, ↓Wp_callP0, ↓Wp_callP1, ↓Wp_comp, ↓Wp_disp, ↓Wp_dpnil, ↓Wp_dpcons, ↓Wp_flat, ↓onNx_nx, ↓onNx_bk, ↓onNx_ct, ↓onNx_rt, ↓onRt_rt, ↓onRt_nx, ↓onS_some, ↓onB_b, ↓onI_i, ↓onStr_s, ↓onL_l, ↓lk_0, ↓lk_S, ↓onSet_0, ↓onSet_S, ↓onPut_0, ↓onPut_S, ↓ite_dec, ↓ite_ndec, ↓ite_tt, ↓ite_ff, ↓ite_nt, ↓ite_nf, ↓v_gt, ↓v_lt, ↓v_le, ↓v_ge, ↓v_ltS, ↓v_add, ↓v_addS, ↓v_addL, ↓v_addT, ↓v_addN, ↓v_sub, ↓v_mul, ↓v_mulS, ↓v_mod, ↓v_fdiv, ↓v_pow, ↓v_neg, ↓v_lenL, ↓v_lenT, ↓v_lenS, ↓v_abs, ↓v_rev, ↓v_all, ↓v_any, ↓v_sum, ↓v_eq, ↓v_ne, ↓v_in, ↓v_notIn, ↓q_ii, ↓q_ss, ↓items_l, ↓items_t, ↓items_s, ↓items_r1, ↓items_r2, ↓sl_l, ↓sl_t, ↓sl_s, ↓put_1, ↓put_2, ↓pen_0, ↓pen_1, ↓pen_2, ↓v_ixL, ↓v_ixT, ↓ins_NoneType_none, ↓ins_NoneType_bool, ↓ins_NoneType_int, ↓ins_NoneType_str, ↓ins_NoneType_list, ↓ins_NoneType_tuple, ↓ins_NoneType_dict, ↓ins_bool_none, ↓ins_bool_bool, ↓ins_bool_int, ↓ins_bool_str, ↓ins_bool_list, ↓ins_bool_tuple, ↓ins_bool_dict, ↓ins_int_none, ↓ins_int_bool, ↓ins_int_int, ↓ins_int_str, ↓ins_int_list, ↓ins_int_tuple, ↓ins_int_dict, ↓ins_str_none, ↓ins_str_bool, ↓ins_str_int, ↓ins_str_str, ↓ins_str_list, ↓ins_str_tuple, ↓ins_str_dict, ↓ins_list_none, ↓ins_list_bool, ↓ins_list_int, ↓ins_list_str, ↓ins_list_list, ↓ins_list_tuple, ↓ins_list_dict, ↓ins_tuple_none, ↓ins_tuple_bool, ↓ins_tuple_int, ↓ins_tuple_str, ↓ins_tuple_list, ↓ins_tuple_tuple, ↓ins_tuple_dict, ↓ins_dict_none, ↓ins_dict_bool, ↓ins_dict_int, ↓ins_dict_str, ↓ins_dict_list, ↓ins_dict_tuple, ↓ins_dict_dict, ↓in_sign, ↓onClr_0, ↓onClr_S, ↓onW_nil, ↓onW_cons, ↓onRe_0, ↓onRe_S, ↓onBk_nil, ↓onBk_cons, ↓onTwo_l, ↓S_par, ↓a_tup, ↓onG_name, ↓onG_tup, ↓onGs_nil, ↓onGs_cons, ↓onTurn_nx, ↓onTurn_ct, ↓onTurn_bk, ↓onTurn_rt, ↓onLD_d, ↓v_ixAd, ↓v_inAd, ↓v_notInAd, ↓S_upd, ↓v_zip, ↓Wp_flatA, ↓v_int, ↓v_intB, ↓v_min, ↓v_gin, ↓v_gnin, ↓v_gix, ↓reduceIte]
    refine ite_i (fun h1 => ?_) fun h1 => ?_
    · exact congrArg PyData.bool (Bool.eq_iff_iff.mpr (by simp [within, h1]))
    · exact congrArg PyData.bool (decide_eq_false (fun z => h1 z.1)).symm
  | _ =>
    simp only [↓S_next, ↓S_bk, ↓S_ct, ↓S_rtd, ↓S_seq, ↓S_set, ↓S_drop, ↓S_ret, ↓S_if, ↓S_asg, ↓S_put, ↓S_app, ↓S_ext, ↓S_for, ↓Wp_pure, ↓Wp_opt, ↓Wp_bind, ↓Wp_ite, ↓Wp_var, ↓Wp_op, ↓Wp_un, ↓Wp_test, ↓Wp_dand, ↓Wp_dor, ↓Wp_dnot, ↓Wp_dandV, ↓Wp_dorV, ↓Wp_dnotV, ↓Wp_chain, ↓Wp_cb, ↓Wp_cons, ↓Wp_nil, ↓Wp_tup, ↓Wp_lst, ↓Wp_part, ↓Wp_nopart, ↓Wp_slice, ↓Wp_isi, ↓Wp_isi2, ↓Wp_m1, ↓Wp_call, ↓Wp_pix, ↓Wp_callP0, ↓Wp_callP1, ↓Wp_comp, ↓Wp_disp, ↓Wp_dpnil, ↓Wp_dpcons, ↓Wp_flat, ↓onNx_nx, ↓onNx_bk, ↓onNx_ct, ↓onNx_rt, ↓onRt_rt, ↓onRt_nx, ↓onS_some, ↓onB_b, ↓onI_i, ↓onStr_s, ↓onL_l, ↓lk_0, ↓lk_S, ↓onSet_0, ↓onSet_S, ↓onPut_0, ↓onPut_S, ↓ite_dec, ↓ite_ndec, ↓ite_tt, ↓ite_ff, ↓ite_nt, ↓ite_nf, ↓v_gt, ↓v_lt, ↓v_le, ↓v_ge, ↓v_ltS, ↓v_add, ↓v_addS, ↓v_addL, ↓v_addT, ↓v_addN, ↓v_sub, ↓v_mul, ↓v_mulS, ↓v_mod, ↓v_fdiv, ↓v_pow, ↓v_neg, ↓v_lenL, ↓v_lenT, ↓v_lenS, ↓v_abs, ↓v_rev, ↓v_all, ↓v_any, ↓v_sum, ↓v_eq, ↓v_ne, ↓v_in, ↓v_notIn, ↓q_ii, ↓q_ss, ↓items_l, ↓items_t, ↓items_s, ↓items_r1, ↓items_r2, ↓sl_l, ↓sl_t, ↓sl_s, ↓put_1, ↓put_2, ↓pen_0, ↓pen_1, ↓pen_2, ↓v_ixL, ↓v_ixT, ↓ins_NoneType_none, ↓ins_NoneType_bool, ↓ins_NoneType_int, ↓ins_NoneType_str, ↓ins_NoneType_list, ↓ins_NoneType_tuple, ↓ins_NoneType_dict, ↓ins_bool_none, ↓ins_bool_bool, ↓ins_bool_int, ↓ins_bool_str, ↓ins_bool_list, ↓ins_bool_tuple, ↓ins_bool_dict, ↓ins_int_none, ↓ins_int_bool, ↓ins_int_int, ↓ins_int_str, ↓ins_int_list, ↓ins_int_tuple, ↓ins_int_dict, ↓ins_str_none, ↓ins_str_bool, ↓ins_str_int, ↓ins_str_str, ↓ins_str_list, ↓ins_str_tuple, ↓ins_str_dict, ↓ins_list_none, ↓ins_list_bool, ↓ins_list_int, ↓ins_list_str, ↓ins_list_list, ↓ins_list_tuple, ↓ins_list_dict, ↓ins_tuple_none, ↓ins_tuple_bool, ↓ins_tuple_int, ↓ins_tuple_str, ↓ins_tuple_list, ↓ins_tuple_tuple, ↓ins_tuple_dict, ↓ins_dict_none, ↓ins_dict_bool, ↓ins_dict_int, ↓ins_dict_str, ↓ins_dict_list, ↓ins_dict_tuple, ↓ins_dict_dict, ↓in_sign, ↓onClr_0, ↓onClr_S, ↓onW_nil, ↓onW_cons, ↓onRe_0, ↓onRe_S, ↓onBk_nil, ↓onBk_cons, ↓onTwo_l, ↓S_par, ↓a_tup, ↓onG_name, ↓onG_tup, ↓onGs_nil, ↓onGs_cons, ↓onTurn_nx, ↓onTurn_ct, ↓onTurn_bk, ↓onTurn_rt, ↓onLD_d, ↓v_ixAd, ↓v_inAd, ↓v_notInAd, ↓S_upd, ↓v_zip, ↓Wp_flatA, ↓v_int, ↓v_intB, ↓v_min, ↓v_gin, ↓v_gnin, ↓v_gix, ↓reduceIte]
    rfl
theorem is_day_eq (d : D) : m_is_day [d] = some (.bool (within 0 999 d)) := by
  refine MD.get (MD_of rfl ?_)
  show Sp2 g_is_day [some _] _
  unfold g_is_day
  simp only [↓S_next, ↓S_bk, ↓S_ct, ↓S_rtd, ↓S_seq, ↓S_set, ↓S_drop, ↓S_ret, ↓S_if, ↓S_asg, ↓S_put, ↓S_app, ↓S_ext, ↓S_for, ↓Wp_pure, ↓Wp_opt, ↓Wp_bind, ↓Wp_ite, ↓Wp_var, ↓Wp_op, ↓Wp_un, ↓Wp_test, ↓Wp_dand, ↓Wp_dor, ↓Wp_dnot, ↓Wp_dandV, ↓Wp_dorV, ↓Wp_dnotV, ↓Wp_chain, ↓Wp_cb, ↓Wp_cons, ↓Wp_nil, ↓Wp_tup, ↓Wp_lst, ↓Wp_part, ↓Wp_nopart, ↓Wp_slice, ↓Wp_isi, ↓Wp_isi2, ↓Wp_m1, ↓Wp_call, ↓Wp_pix, ↓Wp_callP0, ↓Wp_callP1, ↓Wp_comp, ↓Wp_disp, ↓Wp_dpnil, ↓Wp_dpcons, ↓Wp_flat, ↓onNx_nx, ↓onNx_bk, ↓onNx_ct, ↓onNx_rt, ↓onRt_rt, ↓onRt_nx, ↓onS_some, ↓onB_b, ↓onI_i, ↓onStr_s, ↓onL_l, ↓lk_0, ↓lk_S, ↓onSet_0, ↓onSet_S, ↓onPut_0, ↓onPut_S, ↓ite_dec, ↓ite_ndec, ↓ite_tt, ↓ite_ff, ↓ite_nt, ↓ite_nf, ↓v_gt, ↓v_lt, ↓v_le, ↓v_ge, ↓v_ltS, ↓v_add, ↓v_addS, ↓v_addL, ↓v_addT, ↓v_addN, ↓v_sub, ↓v_mul, ↓v_mulS, ↓v_mod, ↓v_fdiv, ↓v_pow, ↓v_neg, ↓v_lenL, ↓v_lenT, ↓v_lenS, ↓v_abs, ↓v_rev, ↓v_all, ↓v_any, ↓v_sum, ↓v_eq, ↓v_ne, ↓v_in, ↓v_notIn, ↓q_ii, ↓q_ss, ↓items_l, ↓items_t, ↓items_s, ↓items_r1, ↓items_r2, ↓sl_l, ↓sl_t, ↓sl_s, ↓put_1, ↓put_2, ↓pen_0, ↓pen_1, ↓pen_2, ↓v_ixL, ↓v_ixT, ↓ins_NoneType_none, ↓ins_NoneType_bool, ↓ins_NoneType_int, ↓ins_NoneType_str, ↓ins_NoneType_list, ↓ins_NoneType_tuple, ↓ins_NoneType_dict, ↓ins_bool_none, ↓ins_bool_bool, ↓ins_bool_int, ↓ins_bool_str, ↓ins_bool_list, ↓ins_bool_tuple, ↓ins_bool_dict, ↓ins_int_none, ↓ins_int_bool, ↓ins_int_int, ↓ins_int_str, ↓ins_int_list, ↓ins_int_tuple, ↓ins_int_dict, ↓ins_str_none, ↓ins_str_bool, ↓ins_str_int, ↓ins_str_str, ↓ins_str_list, ↓ins_str_tuple, ↓ins_str_dict, ↓ins_list_none, ↓ins_list_bool, ↓ins_list_int, ↓ins_list_str, ↓ins_list_list, ↓ins_list_tuple, ↓ins_list_dict, ↓ins_tuple_none, ↓ins_tuple_bool, ↓ins_tuple_int, ↓ins_tuple_str, ↓ins_tuple_list, ↓ins_tuple_tuple, ↓ins_tuple_dict, ↓ins_dict_none, ↓ins_dict_bool, ↓ins_dict_int, ↓ins_dict_str, ↓ins_dict_list, ↓ins_dict_tuple, ↓ins_dict_dict, ↓in_sign, ↓onClr_0, ↓onClr_S, ↓onW_nil, ↓onW_cons, ↓onRe_0, ↓onRe_S, ↓onBk_nil, ↓onBk_cons, ↓onTwo_l, ↓S_par, ↓a_tup, ↓onG_name, ↓onG_tup, ↓onGs_nil, ↓onGs_cons, ↓onTurn_nx, ↓onTurn_ct, ↓onTurn_bk, ↓onTurn_rt, ↓onLD_d, ↓v_ixAd, ↓v_inAd, ↓v_notInAd, ↓S_upd, ↓v_zip, ↓Wp_flatA, ↓v_int, ↓v_intB, ↓v_min, ↓v_gin, ↓v_gnin, ↓v_gix, ↓reduceIte]
  exact (MD.eq (from_to_eq d 0 999)).mpr rfl
theorem sW : ∀ a b : Str, decide (a = b) = (a == b) := fun a b => Bool.eq_iff_iff.mpr (by simp)
theorem is_part_w (d : D) (hd : ∀ z, d = .str z → z.length ≤ 1000) : m_is_part [.str "w", d] = some (.bool (isW d)) := by
  refine MD.get (MD_of rfl ?_)
  show Sp2 g_is_part [some _, some _] _
  unfold g_is_part
  simp only [↓S_next, ↓S_bk, ↓S_ct, ↓S_rtd, ↓S_seq, ↓S_set, ↓S_drop, ↓S_ret, ↓S_if, ↓S_asg, ↓S_put, ↓S_app, ↓S_ext, ↓S_for, ↓Wp_pure, ↓Wp_opt, ↓Wp_bind, ↓Wp_ite, ↓Wp_var, ↓Wp_op, ↓Wp_un, ↓Wp_test, ↓Wp_dand, ↓Wp_dor, ↓Wp_dnot, ↓Wp_dandV, ↓Wp_dorV, ↓Wp_dnotV, ↓Wp_chain, ↓Wp_cb, ↓Wp_cons, ↓Wp_nil, ↓Wp_tup, ↓Wp_lst, ↓Wp_part, ↓Wp_nopart, ↓Wp_slice, ↓Wp_isi, ↓Wp_isi2, ↓Wp_m1, ↓Wp_call, ↓Wp_pix, ↓Wp_callP0, ↓Wp_callP1, ↓Wp_comp, ↓Wp_disp, ↓Wp_dpnil, ↓Wp_dpcons, ↓Wp_flat, ↓onNx_nx, ↓onNx_bk, ↓onNx_ct, ↓onNx_rt, ↓onRt_rt, ↓onRt_nx, ↓onS_some, ↓onB_b, ↓onI_i, ↓onStr_s, ↓onL_l, ↓lk_0, ↓lk_S, ↓onSet_0, ↓onSet_S, ↓onPut_0, ↓onPut_S, ↓ite_dec, ↓ite_ndec, ↓ite_tt, ↓ite_ff, ↓ite_nt, ↓ite_nf, ↓v_gt, ↓v_lt, ↓v_le, ↓v_ge, ↓v_ltS, ↓v_add, ↓v_addS, ↓v_addL, ↓v_addT, ↓v_addN, ↓v_sub, ↓v_mul, ↓v_mulS, ↓v_mod, ↓v_fdiv, ↓v_pow, ↓v_neg, ↓v_lenL, ↓v_lenT, ↓v_lenS, ↓v_abs, ↓v_rev, ↓v_all, ↓v_any, ↓v_sum, ↓v_eq, ↓v_ne, ↓v_in, ↓v_notIn, ↓q_ii, ↓q_ss, ↓items_l, ↓items_t, ↓items_s, ↓items_r1, ↓items_r2, ↓sl_l, ↓sl_t, ↓sl_s, ↓put_1, ↓put_2, ↓pen_0, ↓pen_1, ↓pen_2, ↓v_ixL, ↓v_ixT, ↓ins_NoneType_none, ↓ins_NoneType_bool, ↓ins_NoneType_int, ↓ins_NoneType_str, ↓ins_NoneType_list, ↓ins_NoneType_tuple, ↓ins_NoneType_dict, ↓ins_bool_none, ↓ins_bool_bool, ↓ins_bool_int, ↓ins_bool_str, ↓ins_bool_list, ↓ins_bool_tuple, ↓ins_bool_dict, ↓ins_int_none, ↓ins_int_bool, ↓ins_int_int, ↓ins_int_str, ↓ins_int_list, ↓ins_int_tuple, ↓ins_int_dict, ↓ins_str_none, ↓ins_str_bool, ↓ins_str_int, ↓ins_str_str, ↓ins_str_list, ↓ins_str_tuple, ↓ins_str_dict, ↓ins_list_none, ↓ins_list_bool, ↓ins_list_int, ↓ins_list_str, ↓ins_list_list, ↓ins_list_tuple, ↓ins_list_dict, ↓ins_tuple_none, ↓ins_tuple_bool, ↓ins_tuple_int, ↓ins_tuple_str, ↓ins_tuple_list, ↓ins_tuple_tuple, ↓ins_tuple_dict, ↓ins_dict_none, ↓ins_dict_bool, ↓ins_dict_int, ↓ins_dict_str, ↓ins_dict_list, ↓ins_dict_tuple, ↓ins_dict_dict, ↓in_sign, ↓onClr_0, ↓onClr_S, ↓onW_nil, ↓onW_cons, ↓onRe_0, ↓onRe_S, ↓onBk_nil, ↓onBk_cons, ↓onTwo_l, ↓S_par, ↓a_tup, ↓onG_name, ↓onG_tup, ↓onGs_nil, ↓onGs_cons, ↓onTurn_nx, ↓onTurn_ct, ↓onTurn_bk, ↓onTurn_rt, ↓onLD_d, ↓v_ixAd, ↓v_inAd, ↓v_notInAd, ↓S_upd, ↓v_zip, ↓Wp_flatA, ↓v_int, ↓v_intB, ↓v_min, ↓v_gin, ↓v_gnin, ↓v_gix, ↓reduceIte, MD.eq (is_word_eq d hd), show (("w" : Str) = "w") = True from eq_self _]
theorem is_part_d (d : D) : m_is_part [.str "d", d] = some (.bool (within 0 999 d)) := by
  refine MD.get (MD_of rfl ?_)
  show Sp2 g_is_part [some _, some _] _
  unfold g_is_part
  simp only [↓S_next, ↓S_bk, ↓S_ct, ↓S_rtd, ↓S_seq, ↓S_set, ↓S_drop, ↓S_ret, ↓S_if, ↓S_asg, ↓S_put, ↓S_app, ↓S_ext, ↓S_for, ↓Wp_pure, ↓Wp_opt, ↓Wp_bind, ↓Wp_ite, ↓Wp_var, ↓Wp_op, ↓Wp_un, ↓Wp_test, ↓Wp_dand, ↓Wp_dor, ↓Wp_dnot, ↓Wp_dandV, ↓Wp_dorV, ↓Wp_dnotV, ↓Wp_chain, ↓Wp_cb, ↓Wp_cons, ↓Wp_nil, ↓Wp_tup, ↓Wp_lst, ↓Wp_part, ↓Wp_nopart, ↓Wp_slice, ↓Wp_isi, ↓Wp_isi2, ↓Wp_m1, ↓Wp_call, ↓Wp_pix, ↓Wp_callP0, ↓Wp_callP1, ↓Wp_comp, ↓Wp_disp, ↓Wp_dpnil, ↓Wp_dpcons, ↓Wp_flat, ↓onNx_nx, ↓onNx_bk, ↓onNx_ct, ↓onNx_rt, ↓onRt_rt, ↓onRt_nx, ↓onS_some, ↓onB_b, ↓onI_i, ↓onStr_s, ↓onL_l, ↓lk_0, ↓lk_S, ↓onSet_0, ↓onSet_S, ↓onPut_0, ↓onPut_S, ↓ite_dec, ↓ite_ndec, ↓ite_tt, ↓ite_ff, ↓ite_nt, ↓ite_nf, ↓v_gt, ↓v_lt, ↓v_le, ↓v_ge, ↓v_ltS, ↓v_add, ↓v_addS, ↓v_addL, ↓v_addT, ↓v_addN, ↓v_sub, ↓v_mul, ↓v_mulS, ↓v_mod, ↓v_fdiv, ↓v_pow, ↓v_neg, ↓v_lenL, ↓v_lenT, ↓v_lenS, ↓v_abs, ↓v_rev, ↓v_all, ↓v_any, ↓v_sum, ↓v_eq, ↓v_ne, ↓v_in, ↓v_notIn, ↓q_ii, ↓q_ss, ↓items_l, ↓items_t, ↓items_s, ↓items_r1, ↓items_r2, ↓sl_l, ↓sl_t, ↓sl_s, ↓put_1, ↓put_2, ↓pen_0, ↓pen_1, ↓pen_2, ↓v_ixL, ↓v_ixT, ↓ins_NoneType_none, ↓ins_NoneType_bool, ↓ins_NoneType_int, ↓ins_NoneType_str, ↓ins_NoneType_list, ↓ins_NoneType_tuple, ↓ins_NoneType_dict, ↓ins_bool_none, ↓ins_bool_bool, ↓ins_bool_int, ↓ins_bool_str, ↓ins_bool_list, ↓ins_bool_tuple, ↓ins_bool_dict, ↓ins_int_none, ↓ins_int_bool, ↓ins_int_int, ↓ins_int_str, ↓ins_int_list, ↓ins_int_tuple, ↓ins_int_dict, ↓ins_str_none, ↓ins_str_bool, ↓ins_str_int, ↓ins_str_str, ↓ins_str_list, ↓ins_str_tuple, ↓ins_str_dict, ↓ins_list_none, ↓ins_list_bool, ↓ins_list_int, ↓ins_list_str, ↓ins_list_list, ↓ins_list_tuple, ↓ins_list_dict, ↓ins_tuple_none, ↓ins_tuple_bool, ↓ins_tuple_int, ↓ins_tuple_str, ↓ins_tuple_list, ↓ins_tuple_tuple, ↓ins_tuple_dict, ↓ins_dict_none, ↓ins_dict_bool, ↓ins_dict_int, ↓ins_dict_str, ↓ins_dict_list, ↓ins_dict_tuple, ↓ins_dict_dict, ↓in_sign, ↓onClr_0, ↓onClr_S, ↓onW_nil, ↓onW_cons, ↓onRe_0, ↓onRe_S, ↓onBk_nil, ↓onBk_cons, ↓onTwo_l, ↓S_par, ↓a_tup, ↓onG_name, ↓onG_tup, ↓onGs_nil, ↓onGs_cons, ↓onTurn_nx, ↓onTurn_ct, ↓onTurn_bk, ↓onTurn_rt, ↓onLD_d, ↓v_ixAd, ↓v_inAd, ↓v_notInAd, ↓S_upd, ↓v_zip, ↓Wp_flatA, ↓v_int, ↓v_intB, ↓v_min, ↓v_gin, ↓v_gnin, ↓v_gix, ↓reduceIte, MD.eq (is_day_eq d), show (("d" : Str) = "w") = False from eq_false (by decide), show (("d" : Str) = "d") = True from eq_self _]
theorem is_part_t (d : D) : m_is_part [.str "t", d] = some (.bool (within 0 9 d)) := by
  refine MD.get (MD_of rfl ?_)
  show Sp2 g_is_part [some _, some _] _
  unfold g_is_part
  simp only [↓S_next, ↓S_bk, ↓S_ct, ↓S_rtd, ↓S_seq, ↓S_set, ↓S_drop, ↓S_ret, ↓S_if, ↓S_asg, ↓S_put, ↓S_app, ↓S_ext, ↓S_for, ↓Wp_pure, ↓Wp_opt, ↓Wp_bind, ↓Wp_ite, ↓Wp_var, ↓Wp_op, ↓Wp_un, ↓Wp_test, ↓Wp_dand, ↓Wp_dor, ↓Wp_dnot, ↓Wp_dandV, ↓Wp_dorV, ↓Wp_dnotV, ↓Wp_chain, ↓Wp_cb, ↓Wp_cons, ↓Wp_nil, ↓Wp_tup, ↓Wp_lst, ↓Wp_part, ↓Wp_nopart, ↓Wp_slice, ↓Wp_isi, ↓Wp_isi2, ↓Wp_m1, ↓Wp_call, ↓Wp_pix, ↓Wp_callP0, ↓Wp_callP1, ↓Wp_comp, ↓Wp_disp, ↓Wp_dpnil, ↓Wp_dpcons, ↓Wp_flat, ↓onNx_nx, ↓onNx_bk, ↓onNx_ct, ↓onNx_rt, ↓onRt_rt, ↓onRt_nx, ↓onS_some, ↓onB_b, ↓onI_i, ↓onStr_s, ↓onL_l, ↓lk_0, ↓lk_S, ↓onSet_0, ↓onSet_S, ↓onPut_0, ↓onPut_S, ↓ite_dec, ↓ite_ndec, ↓ite_tt, ↓ite_ff, ↓ite_nt, ↓ite_nf, ↓v_gt, ↓v_lt, ↓v_le, ↓v_ge, ↓v_ltS, ↓v_add, ↓v_addS, ↓v_addL, ↓v_addT, ↓v_addN, ↓v_sub, ↓v_mul, ↓v_mulS, ↓v_mod, ↓v_fdiv, ↓v_pow, ↓v_neg, ↓v_lenL, ↓v_lenT, ↓v_lenS, ↓v_abs, ↓v_rev, ↓v_all, ↓v_any, ↓v_sum, ↓v_eq, ↓v_ne, ↓v_in, ↓v_notIn, ↓q_ii, ↓q_ss, ↓items_l, ↓items_t, ↓items_s, ↓items_r1, ↓items_r2, ↓sl_l, ↓sl_t, ↓sl_s, ↓put_1, ↓put_2, ↓pen_0, ↓pen_1, ↓pen_2, ↓v_ixL, ↓v_ixT, ↓ins_NoneType_none, ↓ins_NoneType_bool, ↓ins_NoneType_int, ↓ins_NoneType_str, ↓ins_NoneType_list, ↓ins_NoneType_tuple, ↓ins_NoneType_dict, ↓ins_bool_none, ↓ins_bool_bool, ↓ins_bool_int, ↓ins_bool_str, ↓ins_bool_list, ↓ins_bool_tuple, ↓ins_bool_dict, ↓ins_int_none, ↓ins_int_bool, ↓ins_int_int, ↓ins_int_str, ↓ins_int_list, ↓ins_int_tuple, ↓ins_int_dict, ↓ins_str_none, ↓ins_str_bool, ↓ins_str_int, ↓ins_str_str, ↓ins_str_list, ↓ins_str_tuple, ↓ins_str_dict, ↓ins_list_none, ↓ins_list_bool, ↓ins_list_int, ↓ins_list_str, ↓ins_list_list, ↓ins_list_tuple, ↓ins_list_dict, ↓ins_tuple_none, ↓ins_tuple_bool, ↓ins_tuple_int, ↓ins_tuple_str, ↓ins_tuple_list, ↓ins_tuple_tuple, ↓ins_tuple_dict, ↓ins_dict_none, ↓ins_dict_bool, ↓ins_dict_int, ↓ins_dict_str, ↓ins_dict_list, ↓ins_dict_tuple, ↓ins_dict_dict, ↓in_sign, ↓onClr_0, ↓onClr_S, ↓onW_nil, ↓onW_cons, ↓onRe_0, ↓onRe_S, ↓onBk_nil, ↓onBk_cons, ↓onTwo_l, ↓S_par, ↓a_tup, ↓onG_name, ↓onG_tup, ↓onGs_nil, ↓onGs_cons, ↓onTurn_nx, ↓onTurn_ct, ↓onTurn_bk, ↓onTurn_rt, ↓onLD_d, ↓v_ixAd, ↓v_inAd, ↓v_notInAd, ↓S_upd, ↓v_zip, ↓Wp_flatA, ↓v_int, ↓v_intB, ↓v_min, ↓v_gin, ↓v_gnin, ↓v_gix, ↓reduceIte, MD.eq (from_to_eq d 0 9), show (("t" : Str) = "w") = False from eq_false (by decide), show (("t" : Str) = "d") = False from eq_false (by decide), show (("t" : Str) = "t") = True from eq_self _]
theorem is_part_g (d : D) : m_is_part [.str "g", d] = some (.bool (within 0 9 d)) := by
  refine MD.get (MD_of rfl ?_)
  show Sp2 g_is_part [some _, some _] _
  unfold g_is_part
  simp only [↓S_next, ↓S_bk, ↓S_ct, ↓S_rtd, ↓S_seq, ↓S_set, ↓S_drop, ↓S_ret, ↓S_if, ↓S_asg, ↓S_put, ↓S_app, ↓S_ext, ↓S_for, ↓Wp_pure, ↓Wp_opt, ↓Wp_bind, ↓Wp_ite, ↓Wp_var, ↓Wp_op, ↓Wp_un, ↓Wp_test, ↓Wp_dand, ↓Wp_dor, ↓Wp_dnot, ↓Wp_dandV, ↓Wp_dorV, ↓Wp_dnotV, ↓Wp_chain, ↓Wp_cb, ↓Wp_cons, ↓Wp_nil, ↓Wp_tup, ↓Wp_lst, ↓Wp_part, ↓Wp_nopart, ↓Wp_slice, ↓Wp_isi, ↓Wp_isi2, ↓Wp_m1, ↓Wp_call, ↓Wp_pix, ↓Wp_callP0, ↓Wp_callP1, ↓Wp_comp, ↓Wp_disp, ↓Wp_dpnil, ↓Wp_dpcons, ↓Wp_flat, ↓onNx_nx, ↓onNx_bk, ↓onNx_ct, ↓onNx_rt, ↓onRt_rt, ↓onRt_nx, ↓onS_some, ↓onB_b, ↓onI_i, ↓onStr_s, ↓onL_l, ↓lk_0, ↓lk_S, ↓onSet_0, ↓onSet_S, ↓onPut_0, ↓onPut_S, ↓ite_dec, ↓ite_ndec, ↓ite_tt, ↓ite_ff, ↓ite_nt, ↓ite_nf, ↓v_gt, ↓v_lt, ↓v_le, ↓v_ge, ↓v_ltS, ↓v_add, ↓v_addS, ↓v_addL, ↓v_addT, ↓v_addN, ↓v_sub, ↓v_mul, ↓v_mulS, ↓v_mod, ↓v_fdiv, ↓v_pow, ↓v_neg, ↓v_lenL, ↓v_lenT, ↓v_lenS, ↓v_abs, ↓v_rev, ↓v_all, ↓v_any, ↓v_sum, ↓v_eq, ↓v_ne, ↓v_in, ↓v_notIn, ↓q_ii, ↓q_ss, ↓items_l, ↓items_t, ↓items_s, ↓items_r1, ↓items_r2, ↓sl_l, ↓sl_t, ↓sl_s, ↓put_1, ↓put_2, ↓pen_0, ↓pen_1, ↓pen_2, ↓v_ixL, ↓v_ixT, ↓ins_NoneType_none, ↓ins_NoneType_bool, ↓ins_NoneType_int, ↓ins_NoneType_str, ↓ins_NoneType_list, ↓ins_NoneType_tuple, ↓ins_NoneType_dict, ↓ins_bool_none, ↓ins_bool_bool, ↓ins_bool_int, ↓ins_bool_str, ↓ins_bool_list, ↓ins_bool_tuple, ↓ins_bool_dict, ↓ins_int_none, ↓ins_int_bool, ↓ins_int_int, ↓ins_int_str, ↓ins_int_list, ↓ins_int_tuple, ↓ins_int_dict, ↓ins_str_none, ↓ins_str_bool, ↓ins_str_int, ↓ins_str_str, ↓ins_str_list, ↓ins_str_tuple, ↓ins_str_dict, ↓ins_list_none, ↓ins_list_bool, ↓ins_list_int, ↓ins_list_str, ↓ins_list_list, ↓ins_list_tuple, ↓ins_list_dict, ↓ins_tuple_none, ↓ins_tuple_bool, ↓ins_tuple_int, ↓ins_tuple_str, ↓ins_tuple_list, ↓ins_tuple_tuple, ↓ins_tuple_dict, ↓ins_dict_none, ↓ins_dict_bool, ↓ins_dict_int, ↓ins_dict_str, ↓ins_dict_list, ↓ins_dict_tuple, ↓ins_dict_dict, ↓in_sign, ↓onClr_0, ↓onClr_S, ↓onW_nil, ↓onW_cons, ↓onRe_0, ↓onRe_S, ↓onBk_nil, ↓onBk_cons, ↓onTwo_l, ↓S_par, ↓a_tup, ↓onG_name, ↓onG_tup, ↓onGs_nil, ↓onGs_cons, ↓onTurn_nx, ↓onTurn_ct, ↓onTurn_bk, ↓onTurn_rt, ↓onLD_d, ↓v_ixAd, ↓v_inAd, ↓v_notInAd, ↓S_upd, ↓v_zip, ↓Wp_flatA, ↓v_int, ↓v_intB, ↓v_min, ↓v_gin, ↓v_gnin, ↓v_gix, ↓reduceIte, MD.eq (from_to_eq d 0 9), show (("g" : Str) = "w") = False from eq_false (by decide), show (("g" : Str) = "d") = False from eq_false (by decide), show (("g" : Str) = "t") = False from eq_false (by decide), show (("g" : Str) = "g") = True from eq_self _]
theorem is_part_p (d : D) : m_is_part [.str "p", d] = some (.bool (within 1 1000000000 d)) := by
  refine MD.get (MD_of rfl ?_)
  show Sp2 g_is_part [some _, some _] _
  unfold g_is_part
  simp only [↓S_next, ↓S_bk, ↓S_ct, ↓S_rtd, ↓S_seq, ↓S_set, ↓S_drop, ↓S_ret, ↓S_if, ↓S_asg, ↓S_put, ↓S_app, ↓S_ext, ↓S_for, ↓Wp_pure, ↓Wp_opt, ↓Wp_bind, ↓Wp_ite, ↓Wp_var, ↓Wp_op, ↓Wp_un, ↓Wp_test, ↓Wp_dand, ↓Wp_dor, ↓Wp_dnot, ↓Wp_dandV, ↓Wp_dorV, ↓Wp_dnotV, ↓Wp_chain, ↓Wp_cb, ↓Wp_cons, ↓Wp_nil, ↓Wp_tup, ↓Wp_lst, ↓Wp_part, ↓Wp_nopart, ↓Wp_slice, ↓Wp_isi, ↓Wp_isi2, ↓Wp_m1, ↓Wp_call, ↓Wp_pix, ↓Wp_callP0, ↓Wp_callP1, ↓Wp_comp, ↓Wp_disp, ↓Wp_dpnil, ↓Wp_dpcons, ↓Wp_flat, ↓onNx_nx, ↓onNx_bk, ↓onNx_ct, ↓onNx_rt, ↓onRt_rt, ↓onRt_nx, ↓onS_some, ↓onB_b, ↓onI_i, ↓onStr_s, ↓onL_l, ↓lk_0, ↓lk_S, ↓onSet_0, ↓onSet_S, ↓onPut_0, ↓onPut_S, ↓ite_dec, ↓ite_ndec, ↓ite_tt, ↓ite_ff, ↓ite_nt, ↓ite_nf, ↓v_gt, ↓v_lt, ↓v_le, ↓v_ge, ↓v_ltS, ↓v_add, ↓v_addS, ↓v_addL, ↓v_addT, ↓v_addN, ↓v_sub, ↓v_mul, ↓v_mulS, ↓v_mod, ↓v_fdiv, ↓v_pow, ↓v_neg, ↓v_lenL, ↓v_lenT, ↓v_lenS, ↓v_abs, ↓v_rev, ↓v_all, ↓v_any, ↓v_sum, ↓v_eq, ↓v_ne, ↓v_in, ↓v_notIn, ↓q_ii, ↓q_ss, ↓items_l, ↓items_t, ↓items_s, ↓items_r1, ↓items_r2, ↓sl_l, ↓sl_t, ↓sl_s, ↓put_1, ↓put_2, ↓pen_0, ↓pen_1, ↓pen_2, ↓v_ixL, ↓v_ixT, ↓ins_NoneType_none, ↓ins_NoneType_bool, ↓ins_NoneType_int, ↓ins_NoneType_str, ↓ins_NoneType_list, ↓ins_NoneType_tuple, ↓ins_NoneType_dict, ↓ins_bool_none, ↓ins_bool_bool, ↓ins_bool_int, ↓ins_bool_str, ↓ins_bool_list, ↓ins_bool_tuple, ↓ins_bool_dict, ↓ins_int_none, ↓ins_int_bool, ↓ins_int_int, ↓ins_int_str, ↓ins_int_list, ↓ins_int_tuple, ↓ins_int_dict, ↓ins_str_none, ↓ins_str_bool, ↓ins_str_int, ↓ins_str_str, ↓ins_str_list, ↓ins_str_tuple, ↓ins_str_dict, ↓ins_list_none, ↓ins_list_bool, ↓ins_list_int, ↓ins_list_str, ↓ins_list_list, ↓ins_list_tuple, ↓ins_list_dict, ↓ins_tuple_none, ↓ins_tuple_bool, ↓ins_tuple_int, ↓ins_tuple_str, ↓ins_tuple_list, ↓ins_tuple_tuple, ↓ins_tuple_dict, ↓ins_dict_none, ↓ins_dict_bool, ↓ins_dict_int, ↓ins_dict_str, ↓ins_dict_list, ↓ins_dict_tuple, ↓ins_dict_dict, ↓in_sign, ↓onClr_0, ↓onClr_S, ↓onW_nil, ↓onW_cons, ↓onRe_0, ↓onRe_S, ↓onBk_nil, ↓onBk_cons, ↓onTwo_l, ↓S_par, ↓a_tup, ↓onG_name, ↓onG_tup, ↓onGs_nil, ↓onGs_cons, ↓onTurn_nx, ↓onTurn_ct, ↓onTurn_bk, ↓onTurn_rt, ↓onLD_d, ↓v_ixAd, ↓v_inAd, ↓v_notInAd, ↓S_upd, ↓v_zip, ↓Wp_flatA, ↓v_int, ↓v_intB, ↓v_min, ↓v_gin, ↓v_gnin, ↓v_gix, ↓reduceIte, show (("p" : Str) = "w") = False from eq_false (by decide), show (("p" : Str) = "d") = False from eq_false (by decide), show (("p" : Str) = "t") = False from eq_false (by decide), show (("p" : Str) = "g") = False from eq_false (by decide), show (("p" : Str) = "p") = True from eq_self _, ite_true]
  exact (MD.eq (from_to_eq d 1 1000000000)).mpr rfl
theorem is_part_m (d : D) : m_is_part [.str "m", d] = some (.bool (within 0 1000000000 d)) := by
  refine MD.get (MD_of rfl ?_)
  show Sp2 g_is_part [some _, some _] _
  unfold g_is_part
  simp only [↓S_next, ↓S_bk, ↓S_ct, ↓S_rtd, ↓S_seq, ↓S_set, ↓S_drop, ↓S_ret, ↓S_if, ↓S_asg, ↓S_put, ↓S_app, ↓S_ext, ↓S_for, ↓Wp_pure, ↓Wp_opt, ↓Wp_bind, ↓Wp_ite, ↓Wp_var, ↓Wp_op, ↓Wp_un, ↓Wp_test, ↓Wp_dand, ↓Wp_dor, ↓Wp_dnot, ↓Wp_dandV, ↓Wp_dorV, ↓Wp_dnotV, ↓Wp_chain, ↓Wp_cb, ↓Wp_cons, ↓Wp_nil, ↓Wp_tup, ↓Wp_lst, ↓Wp_part, ↓Wp_nopart, ↓Wp_slice, ↓Wp_isi, ↓Wp_isi2, ↓Wp_m1, ↓Wp_call, ↓Wp_pix, ↓Wp_callP0, ↓Wp_callP1, ↓Wp_comp, ↓Wp_disp, ↓Wp_dpnil, ↓Wp_dpcons, ↓Wp_flat, ↓onNx_nx, ↓onNx_bk, ↓onNx_ct, ↓onNx_rt, ↓onRt_rt, ↓onRt_nx, ↓onS_some, ↓onB_b, ↓onI_i, ↓onStr_s, ↓onL_l, ↓lk_0, ↓lk_S, ↓onSet_0, ↓onSet_S, ↓onPut_0, ↓onPut_S, ↓ite_dec, ↓ite_ndec, ↓ite_tt, ↓ite_ff, ↓ite_nt, ↓ite_nf, ↓v_gt, ↓v_lt, ↓v_le, ↓v_ge, ↓v_ltS, ↓v_add, ↓v_addS, ↓v_addL, ↓v_addT, ↓v_addN, ↓v_sub, ↓v_mul, ↓v_mulS, ↓v_mod, ↓v_fdiv, ↓v_pow, ↓v_neg, ↓v_lenL, ↓v_lenT, ↓v_lenS, ↓v_abs, ↓v_rev, ↓v_all, ↓v_any, ↓v_sum, ↓v_eq, ↓v_ne, ↓v_in, ↓v_notIn, ↓q_ii, ↓q_ss, ↓items_l, ↓items_t, ↓items_s, ↓items_r1, ↓items_r2, ↓sl_l, ↓sl_t, ↓sl_s, ↓put_1, ↓put_2, ↓pen_0, ↓pen_1, ↓pen_2, ↓v_ixL, ↓v_ixT, ↓ins_NoneType_none, ↓ins_NoneType_bool, ↓ins_NoneType_int, ↓ins_NoneType_str, ↓ins_NoneType_list, ↓ins_NoneType_tuple, ↓ins_NoneType_dict, ↓ins_bool_none, ↓ins_bool_bool, ↓ins_bool_int, ↓ins_bool_str, ↓ins_bool_list, ↓ins_bool_tuple, ↓ins_bool_dict, ↓ins_int_none, ↓ins_int_bool, ↓ins_int_int, ↓ins_int_str, ↓ins_int_list, ↓ins_int_tuple, ↓ins_int_dict, ↓ins_str_none, ↓ins_str_bool, ↓ins_str_int, ↓ins_str_str, ↓ins_str_list, ↓ins_str_tuple, ↓ins_str_dict, ↓ins_list_none, ↓ins_list_bool, ↓ins_list_int, ↓ins_list_str, ↓ins_list_list, ↓ins_list_tuple, ↓ins_list_dict, ↓ins_tuple_none, ↓ins_tuple_bool, ↓ins_tuple_int, ↓ins_tuple_str, ↓ins_tuple_list, ↓ins_tuple_tuple, ↓ins_tuple_dict, ↓ins_dict_none, ↓ins_dict_bool, ↓ins_dict_int, ↓ins_dict_str, ↓ins_dict_list, ↓ins_dict_tuple, ↓ins_dict_dict, ↓in_sign, ↓onClr_0, ↓onClr_S, ↓onW_nil, ↓onW_cons, ↓onRe_0, ↓onRe_S, ↓onBk_nil, ↓onBk_cons, ↓onTwo_l, ↓S_par, ↓a_tup, ↓onG_name, ↓onG_tup, ↓onGs_nil, ↓onGs_cons, ↓onTurn_nx, ↓onTurn_ct, ↓onTurn_bk, ↓onTurn_rt, ↓onLD_d, ↓v_ixAd, ↓v_inAd, ↓v_notInAd, ↓S_upd, ↓v_zip, ↓Wp_flatA, ↓v_int, ↓v_intB, ↓v_min, ↓v_gin, ↓v_gnin, ↓v_gix, ↓reduceIte, show (("m" : Str) = "w") = False from eq_false (by decide), show (("m" : Str) = "d") = False from eq_false (by decide), show (("m" : Str) = "t") = False from eq_false (by decide), show (("m" : Str) = "g") = False from eq_false (by decide), show (("m" : Str) = "p") = False from eq_false (by decide), ite_false]
  exact (MD.eq (from_to_eq d 0 1000000000)).mpr rfl
end DR

set_option maxRecDepth 100000
set_option maxHeartbeats 1000000
namespace DR
open PySem PySem.Spec L2
open PyProof.Rows hiding St
section
variable {k : D → Prop} {a b c d e f g : D} {r : List D}
theorem at_0 : onS (L2.atI (a :: r) 0) k ↔ k a := by
  have h : L2.atI (a :: r) 0 = some a := by
    unfold L2.atI ixN
    rw [if_pos (by decide), if_pos (by simp only [List.length_cons]; omega)]
    rfl
  rw [h, onS_some]
theorem at_1 : onS (L2.atI (a :: b :: r) 1) k ↔ k b := by
  have h : L2.atI (a :: b :: r) 1 = some b := by
    unfold L2.atI ixN
    rw [if_pos (by decide), if_pos (by simp only [List.length_cons]; omega)]
    rfl
  rw [h, onS_some]
theorem at_2 : onS (L2.atI (a :: b :: c :: r) 2) k ↔ k c := by
  have h : L2.atI (a :: b :: c :: r) 2 = some c := by
    unfold L2.atI ixN
    rw [if_pos (by decide), if_pos (by simp only [List.length_cons]; omega)]
    rfl
  rw [h, onS_some]
theorem at_3 : onS (L2.atI (a :: b :: c :: d :: r) 3) k ↔ k d := by
  have h : L2.atI (a :: b :: c :: d :: r) 3 = some d := by
    unfold L2.atI ixN
    rw [if_pos (by decide), if_pos (by simp only [List.length_cons]; omega)]
    rfl
  rw [h, onS_some]
theorem at_4 : onS (L2.atI (a :: b :: c :: d :: e :: r) 4) k ↔ k e := by
  have h : L2.atI (a :: b :: c :: d :: e :: r) 4 = some e := by
    unfold L2.atI ixN
    rw [if_pos (by decide), if_pos (by simp only [List.length_cons]; omega)]
    rfl
  rw [h, onS_some]
theorem at_5 : onS (L2.atI (a :: b :: c :: d :: e :: f :: r) 5) k ↔ k f := by
  have h : L2.atI (a :: b :: c :: d :: e :: f :: r) 5 = some f := by
    unfold L2.atI ixN
    rw [if_pos (by decide), if_pos (by simp only [List.length_cons]; omega)]
    rfl
  rw [h, onS_some]
theorem at_6 : onS (L2.atI (a :: b :: c :: d :: e :: f :: g :: r) 6) k ↔ k g := by
  have h : L2.atI (a :: b :: c :: d :: e :: f :: g :: r) 6 = some g := by
    unfold L2.atI ixN
    rw [if_pos (by decide), if_pos (by simp only [List.length_cons]; omega)]
    rfl
  rw [h, onS_some]
end
theorem cut1 {a : D} {r : List D} : cutL (a :: r) (some 1) none = r := by
  unfold cutL HT.sIx
  simp
theorem bls_nil {k : List Bool → Prop} : onS (blsD []) k ↔ k [] := onS_some
theorem bls_cons {b : Bool} {r : List D} {k : List Bool → Prop} : onS (blsD (.bool b :: r)) k ↔ onS (blsD r) fun bs => k (b :: bs) := onS_map
theorem lt0 : (0 < sizeLine) = True := eq_true (by rw [sizeLine_eq]; omega)
theorem le0 : (0 ≤ sizeLine) = True := eq_true (by rw [sizeLine_eq]; omega)
theorem lt1 : (1 < sizeLine) = True := eq_true (by rw [sizeLine_eq]; omega)
theorem le1 : (1 ≤ sizeLine) = True := eq_true (by rw [sizeLine_eq]; omega)
theorem lt2 : (2 < sizeLine) = True := eq_true (by rw [sizeLine_eq]; omega)
theorem le2 : (2 ≤ sizeLine) = True := eq_true (by rw [sizeLine_eq]; omega)
theorem lt3 : (3 < sizeLine) = True := eq_true (by rw [sizeLine_eq]; omega)
theorem le3 : (3 ≤ sizeLine) = True := eq_true (by rw [sizeLine_eq]; omega)
theorem lt4 : (4 < sizeLine) = True := eq_true (by rw [sizeLine_eq]; omega)
theorem le4 : (4 ≤ sizeLine) = True := eq_true (by rw [sizeLine_eq]; omega)
theorem lt5 : (5 < sizeLine) = True := eq_true (by rw [sizeLine_eq]; omega)
theorem le5 : (5 ≤ sizeLine) = True := eq_true (by rw [sizeLine_eq]; omega)
theorem lt6 : (6 < sizeLine) = True := eq_true (by rw [sizeLine_eq]; omega)
theorem le6 : (6 ≤ sizeLine) = True := eq_true (by rw [sizeLine_eq]; omega)
theorem lt7 : (7 < sizeLine) = True := eq_true (by rw [sizeLine_eq]; omega)
theorem le7 : (7 ≤ sizeLine) = True := eq_true (by rw [sizeLine_eq]; omega)
theorem lt8 : (8 < sizeLine) = True := eq_true (by rw [sizeLine_eq]; omega)
theorem le8 : (8 ≤ sizeLine) = True := eq_true (by rw [sizeLine_eq]; omega)
theorem lt9 : (9 < sizeLine) = True := eq_true (by rw [sizeLine_eq]; omega)
theorem le9 : (9 ≤ sizeLine) = True := eq_true (by rw [sizeLine_eq]; omega)
theorem lt10 : (10 < sizeLine) = True := eq_true (by rw [sizeLine_eq]; omega)
theorem le10 : (10 ≤ sizeLine) = True := eq_true (by rw [sizeLine_eq]; omega)
theorem lt11 : (11 < sizeLine) = True := eq_true (by rw [sizeLine_eq]; omega)
theorem le11 : (11 ≤ sizeLine) = True := eq_true (by rw [sizeLine_eq]; omega)
theorem lt12 : (12 < sizeLine) = True := eq_true (by rw [sizeLine_eq]; omega)
theorem le12 : (12 ≤ sizeLine) = True := eq_true (by rw [sizeLine_eq]; omega)
theorem lt13 : (13 < sizeLine) = True := eq_true (by rw [sizeLine_eq]; omega)
theorem le13 : (13 ≤ sizeLine) = True := eq_true (by rw [sizeLine_eq]; omega)
theorem lt14 : (14 < sizeLine) = True := eq_true (by rw [sizeLine_eq]; omega)
theorem le14 : (14 ≤ sizeLine) = True := eq_true (by rw [sizeLine_eq]; omega)
theorem lt15 : (15 < sizeLine) = True := eq_true (by rw [sizeLine_eq]; omega)
theorem le15 : (15 ≤ sizeLine) = True := eq_true (by rw [sizeLine_eq]; omega)
theorem lt16 : (16 < sizeLine) = True := eq_true (by rw [sizeLine_eq]; omega)
theorem le16 : (16 ≤ sizeLine) = True := eq_true (by rw [sizeLine_eq]; omega)
theorem sg_wdw : signs "wdw" = [.str "w", .str "d", .str "w"] := rfl
theorem fl_wdw : ("wdw" : Str).length = 3 := rfl
theorem sg_wdww : signs "wdww" = [.str "w", .str "d", .str "w", .str "w"] := rfl
theorem fl_wdww : ("wdww" : Str).length = 4 := rfl
theorem sg_wdwwf : signs "wdwwf" = [.str "w", .str "d", .str "w", .str "w", .str "f"] := rfl
theorem fl_wdwwf : ("wdwwf" : Str).length = 5 := rfl
theorem sg_wdwwg : signs "wdwwg" = [.str "w", .str "d", .str "w", .str "w", .str "g"] := rfl
theorem fl_wdwwg : ("wdwwg" : Str).length = 5 := rfl
theorem sg_wdwwm : signs "wdwwm" = [.str "w", .str "d", .str "w", .str "w", .str "m"] := rfl
theorem fl_wdwwm : ("wdwwm" : Str).length = 5 := rfl
theorem sg_wdwwp : signs "wdwwp" = [.str "w", .str "d", .str "w", .str "w", .str "p"] := rfl
theorem fl_wdwwp : ("wdwwp" : Str).length = 5 := rfl
theorem sg_wdwwt : signs "wdwwt" = [.str "w", .str "d", .str "w", .str "w", .str "t"] := rfl
theorem fl_wdwwt : ("wdwwt" : Str).length = 5 := rfl
theorem sg_wdwww : signs "wdwww" = [.str "w", .str "d", .str "w", .str "w", .str "w"] := rfl
theorem fl_wdwww : ("wdwww" : Str).length = 5 := rfl
theorem sg_wdwwwd : signs "wdwwwd" = [.str "w", .str "d", .str "w", .str "w", .str "w", .str "d"] := rfl
theorem fl_wdwwwd : ("wdwwwd" : Str).length = 6 := rfl
theorem sg_wdwwwt : signs "wdwwwt" = [.str "w", .str "d", .str "w", .str "w", .str "w", .str "t"] := rfl
theorem fl_wdwwwt : ("wdwwwt" : Str).length = 6 := rfl
theorem sg_wdwwwtf : signs "wdwwwtf" = [.str "w", .str "d", .str "w", .str "w", .str "w", .str "t", .str "f"] := rfl
theorem fl_wdwwwtf : ("wdwwwtf" : Str).length = 7 := rfl
theorem sg_wdwwwtm : signs "wdwwwtm" = [.str "w", .str "d", .str "w", .str "w", .str "w", .str "t", .str "m"] := rfl
theorem fl_wdwwwtm : ("wdwwwtm" : Str).length = 7 := rfl
theorem kf_comes : k_FORMS.lookup ("comes" : Str) = some (.str "wdwww") := rfl
theorem kf_trial : k_FORMS.lookup ("trial" : Str) = some (.str "wdwwwt") := rfl
theorem kf_back : k_FORMS.lookup ("back" : Str) = some (.str "wdwwt") := rfl
theorem kf_keep : k_FORMS.lookup ("keep" : Str) = some (.str "wdwwm") := rfl
theorem kf_give : k_FORMS.lookup ("give" : Str) = some (.str "wdwwwtm") := rfl
theorem kf_goes : k_FORMS.lookup ("goes" : Str) = some (.str "wdww") := rfl
theorem kf_double : k_FORMS.lookup ("double" : Str) = some (.str "wdww") := rfl
theorem kf_promise : k_FORMS.lookup ("promise" : Str) = some (.str "wdwwwd") := rfl
theorem kf_loose : k_FORMS.lookup ("loose" : Str) = some (.str "wdw") := rfl
theorem kf_want : k_FORMS.lookup ("want" : Str) = some (.str "wdwwg") := rfl
theorem kf_owe : k_FORMS.lookup ("owe" : Str) = some (.str "wdwwp") := rfl
theorem kf_pay : k_FORMS.lookup ("pay" : Str) = some (.str "wdwwp") := rfl
theorem isW_is {d : D} (h : isW d = true) : ∃ z, d = .str z := by
  cases d <;> first | exact ⟨_, rfl⟩ | exact absurd h Bool.false_ne_true
theorem within_is {d : D} {x y : Int} (h : within x y d = true) : ∃ i, d = .int i := by
  cases d <;> first | exact ⟨_, rfl⟩ | exact absurd h Bool.false_ne_true
def leB : D → D → Bool
  | .int i, .int j => decide (i ≤ j)
  | _, _ => false
theorem not_all {b : Bool} (h : (!b) = true) : b = false := by simpa using h
theorem not_not_all {b : Bool} (h : ¬(!b) = true) : b = true := by simpa using h
theorem eqv_ss {x y : Str} : PyData.eqv (.str x) (.str y) = decide (x = y) := by
  rw [PyData.eqv]
  exact Bool.eq_iff_iff.mpr (by simp)
theorem kh_comes : k_HOUSES.lookup ("comes" : Str) = some (.tuple [.int 5]) := rfl
theorem kh_trial : k_HOUSES.lookup ("trial" : Str) = some (.tuple [.int 4, .int 5]) := rfl
theorem kh_back : k_HOUSES.lookup ("back" : Str) = some (.tuple [.int 4]) := rfl
theorem kh_keep : k_HOUSES.lookup ("keep" : Str) = some (.tuple [.int 4]) := rfl
theorem kh_give : k_HOUSES.lookup ("give" : Str) = some (.tuple [.int 4, .int 5]) := rfl
theorem kh_goes : k_HOUSES.lookup ("goes" : Str) = some (.tuple [.int 4]) := rfl
theorem kh_double : k_HOUSES.lookup ("double" : Str) = some (.tuple [.int 4]) := rfl
theorem kh_promise : k_HOUSES.lookup ("promise" : Str) = some (.tuple [.int 4, .int 5]) := rfl
theorem kh_loose : k_HOUSES.lookup ("loose" : Str) = some (.tuple []) := rfl
theorem kh_want : k_HOUSES.lookup ("want" : Str) = some (.tuple [.int 3]) := rfl
theorem kh_owe : k_HOUSES.lookup ("owe" : Str) = some (.tuple [.int 3, .int 4]) := rfl
theorem kh_pay : k_HOUSES.lookup ("pay" : Str) = some (.tuple [.int 3, .int 4]) := rfl
def B_comes (p1 p2 p3 p4 p5 : D) : Bool := [isW p1, within 0 999 p2, isW p3, isW p4, isW p5].all id
theorem houses_comes (p1 p2 p3 p4 p5 : D) : m_houses_in [.tuple [.str "comes", p1, p2, p3, p4, p5]] = some (.list [p5]) := by
  refine MD.get (MD_of rfl ?_)
  show Sp2 g_houses_in [some _, none] _
  unfold g_houses_in
  simp (config := { decide := true }) only [↓S_next, ↓S_bk, ↓S_ct, ↓S_rtd, ↓S_seq, ↓S_set, ↓S_drop, ↓S_ret, ↓S_if, ↓S_asg, ↓S_put, ↓S_app, ↓S_ext, ↓S_for, ↓Wp_pure, ↓Wp_opt, ↓Wp_bind, ↓Wp_ite, ↓Wp_var, ↓Wp_op, ↓Wp_un, ↓Wp_test, ↓Wp_dand, ↓Wp_dor, ↓Wp_dnot, ↓Wp_dandV, ↓Wp_dorV, ↓Wp_dnotV, ↓Wp_chain, ↓Wp_cb, ↓Wp_cons, ↓Wp_nil, ↓Wp_tup, ↓Wp_lst, ↓Wp_part, ↓Wp_nopart, ↓Wp_slice, ↓Wp_isi, ↓Wp_isi2, ↓Wp_m1, ↓Wp_call, ↓Wp_pix, ↓Wp_callP0, ↓Wp_callP1, ↓Wp_comp, ↓Wp_disp, ↓Wp_dpnil, ↓Wp_dpcons, ↓Wp_flat, ↓onNx_nx, ↓onNx_bk, ↓onNx_ct, ↓onNx_rt, ↓onRt_rt, ↓onRt_nx, ↓onS_some, ↓onB_b, ↓onI_i, ↓onStr_s, ↓onL_l, ↓lk_0, ↓lk_S, ↓onSet_0, ↓onSet_S, ↓onPut_0, ↓onPut_S, ↓ite_dec, ↓ite_ndec, ↓ite_tt, ↓ite_ff, ↓ite_nt, ↓ite_nf, ↓v_gt, ↓v_lt, ↓v_le, ↓v_ge, ↓v_ltS, ↓v_add, ↓v_addS, ↓v_addL, ↓v_addT, ↓v_addN, ↓v_sub, ↓v_mul, ↓v_mulS, ↓v_mod, ↓v_fdiv, ↓v_pow, ↓v_neg, ↓v_lenL, ↓v_lenT, ↓v_lenS, ↓v_abs, ↓v_rev, ↓v_all, ↓v_any, ↓v_sum, ↓v_eq, ↓v_ne, ↓v_in, ↓v_notIn, ↓q_ii, ↓q_ss, ↓items_l, ↓items_t, ↓items_s, ↓items_r1, ↓items_r2, ↓sl_l, ↓sl_t, ↓sl_s, ↓put_1, ↓put_2, ↓pen_0, ↓pen_1, ↓pen_2, ↓v_ixL, ↓v_ixT, ↓ins_NoneType_none, ↓ins_NoneType_bool, ↓ins_NoneType_int, ↓ins_NoneType_str, ↓ins_NoneType_list, ↓ins_NoneType_tuple, ↓ins_NoneType_dict, ↓ins_bool_none, ↓ins_bool_bool, ↓ins_bool_int, ↓ins_bool_str, ↓ins_bool_list, ↓ins_bool_tuple, ↓ins_bool_dict, ↓ins_int_none, ↓ins_int_bool, ↓ins_int_int, ↓ins_int_str, ↓ins_int_list, ↓ins_int_tuple, ↓ins_int_dict, ↓ins_str_none, ↓ins_str_bool, ↓ins_str_int, ↓ins_str_str, ↓ins_str_list, ↓ins_str_tuple, ↓ins_str_dict, ↓ins_list_none, ↓ins_list_bool, ↓ins_list_int, ↓ins_list_str, ↓ins_list_list, ↓ins_list_tuple, ↓ins_list_dict, ↓ins_tuple_none, ↓ins_tuple_bool, ↓ins_tuple_int, ↓ins_tuple_str, ↓ins_tuple_list, ↓ins_tuple_tuple, ↓ins_tuple_dict, ↓ins_dict_none, ↓ins_dict_bool, ↓ins_dict_int, ↓ins_dict_str, ↓ins_dict_list, ↓ins_dict_tuple, ↓ins_dict_dict, ↓in_sign, ↓onClr_0, ↓onClr_S, ↓onW_nil, ↓onW_cons, ↓onRe_0, ↓onRe_S, ↓onBk_nil, ↓onBk_cons, ↓onTwo_l, ↓S_par, ↓a_tup, ↓onG_name, ↓onG_tup, ↓onGs_nil, ↓onGs_cons, ↓onTurn_nx, ↓onTurn_ct, ↓onTurn_bk, ↓onTurn_rt, ↓onLD_d, ↓v_ixAd, ↓v_inAd, ↓v_notInAd, ↓S_upd, ↓v_zip, ↓Wp_flatA, ↓v_int, ↓v_intB, ↓v_min, ↓v_gin, ↓v_gnin, ↓v_gix, ↓reduceIte, ↓Cp_nil, ↓Cp_cons, ↓Fl_nil, ↓Fl_cons, ↓at_0, ↓at_1, ↓at_2, ↓at_3, ↓at_4, ↓at_5, ↓at_6, ↓kh_comes, List.length_cons, List.length_nil, cut1, zipP, List.nil_append, List.cons_append, Nat.reduceAdd, Int.reduceAdd, ↓bls_cons, ↓bls_nil, lt0, le0, lt1, le1, lt2, le2, lt3, le3, lt4, le4, lt5, le5, lt6, le6, lt7, le7, lt8, le8, lt9, le9, lt10, le10, lt11, le11, lt12, le12, lt13, le13, lt14, le14, lt15, le15, lt16, le16, true_and, Option.isSome_some]
theorem is_page_comes (p1 p2 p3 p4 p5 : D) (h1 : ∀ z, p1 = .str z → z.length ≤ 1000) (h3 : ∀ z, p3 = .str z → z.length ≤ 1000) (h4 : ∀ z, p4 = .str z → z.length ≤ 1000) (h5 : ∀ z, p5 = .str z → z.length ≤ 1000) : m_is_page [.tuple [.str "comes", p1, p2, p3, p4, p5]] = some (.bool (B_comes p1 p2 p3 p4 p5)) := by
  refine MD.get (MD_of rfl ?_)
  show Sp2 g_is_page [some _, none, none, none, none] _
  unfold g_is_page
  simp only [↓S_next, ↓S_bk, ↓S_ct, ↓S_rtd, ↓S_seq, ↓S_set, ↓S_drop, ↓S_ret, ↓S_if, ↓S_asg, ↓S_put, ↓S_app, ↓S_ext, ↓S_for, ↓Wp_pure, ↓Wp_opt, ↓Wp_bind, ↓Wp_ite, ↓Wp_var, ↓Wp_op, ↓Wp_un, ↓Wp_test, ↓Wp_dand, ↓Wp_dor, ↓Wp_dnot, ↓Wp_dandV, ↓Wp_dorV, ↓Wp_dnotV, ↓Wp_chain, ↓Wp_cb, ↓Wp_cons, ↓Wp_nil, ↓Wp_tup, ↓Wp_lst, ↓Wp_part, ↓Wp_nopart, ↓Wp_slice, ↓Wp_isi, ↓Wp_isi2, ↓Wp_m1, ↓Wp_call, ↓Wp_pix, ↓Wp_callP0, ↓Wp_callP1, ↓Wp_comp, ↓Wp_disp, ↓Wp_dpnil, ↓Wp_dpcons, ↓Wp_flat, ↓onNx_nx, ↓onNx_bk, ↓onNx_ct, ↓onNx_rt, ↓onRt_rt, ↓onRt_nx, ↓onS_some, ↓onB_b, ↓onI_i, ↓onStr_s, ↓onL_l, ↓lk_0, ↓lk_S, ↓onSet_0, ↓onSet_S, ↓onPut_0, ↓onPut_S, ↓ite_dec, ↓ite_ndec, ↓ite_tt, ↓ite_ff, ↓ite_nt, ↓ite_nf, ↓v_gt, ↓v_lt, ↓v_le, ↓v_ge, ↓v_ltS, ↓v_add, ↓v_addS, ↓v_addL, ↓v_addT, ↓v_addN, ↓v_sub, ↓v_mul, ↓v_mulS, ↓v_mod, ↓v_fdiv, ↓v_pow, ↓v_neg, ↓v_lenL, ↓v_lenT, ↓v_lenS, ↓v_abs, ↓v_rev, ↓v_all, ↓v_any, ↓v_sum, ↓v_eq, ↓v_ne, ↓v_in, ↓v_notIn, ↓q_ii, ↓q_ss, ↓items_l, ↓items_t, ↓items_s, ↓items_r1, ↓items_r2, ↓sl_l, ↓sl_t, ↓sl_s, ↓put_1, ↓put_2, ↓pen_0, ↓pen_1, ↓pen_2, ↓v_ixL, ↓v_ixT, ↓ins_NoneType_none, ↓ins_NoneType_bool, ↓ins_NoneType_int, ↓ins_NoneType_str, ↓ins_NoneType_list, ↓ins_NoneType_tuple, ↓ins_NoneType_dict, ↓ins_bool_none, ↓ins_bool_bool, ↓ins_bool_int, ↓ins_bool_str, ↓ins_bool_list, ↓ins_bool_tuple, ↓ins_bool_dict, ↓ins_int_none, ↓ins_int_bool, ↓ins_int_int, ↓ins_int_str, ↓ins_int_list, ↓ins_int_tuple, ↓ins_int_dict, ↓ins_str_none, ↓ins_str_bool, ↓ins_str_int, ↓ins_str_str, ↓ins_str_list, ↓ins_str_tuple, ↓ins_str_dict, ↓ins_list_none, ↓ins_list_bool, ↓ins_list_int, ↓ins_list_str, ↓ins_list_list, ↓ins_list_tuple, ↓ins_list_dict, ↓ins_tuple_none, ↓ins_tuple_bool, ↓ins_tuple_int, ↓ins_tuple_str, ↓ins_tuple_list, ↓ins_tuple_tuple, ↓ins_tuple_dict, ↓ins_dict_none, ↓ins_dict_bool, ↓ins_dict_int, ↓ins_dict_str, ↓ins_dict_list, ↓ins_dict_tuple, ↓ins_dict_dict, ↓in_sign, ↓onClr_0, ↓onClr_S, ↓onW_nil, ↓onW_cons, ↓onRe_0, ↓onRe_S, ↓onBk_nil, ↓onBk_cons, ↓onTwo_l, ↓S_par, ↓a_tup, ↓onG_name, ↓onG_tup, ↓onGs_nil, ↓onGs_cons, ↓onTurn_nx, ↓onTurn_ct, ↓onTurn_bk, ↓onTurn_rt, ↓onLD_d, ↓v_ixAd, ↓v_inAd, ↓v_notInAd, ↓S_upd, ↓v_zip, ↓Wp_flatA, ↓v_int, ↓v_intB, ↓v_min, ↓v_gin, ↓v_gnin, ↓v_gix, ↓reduceIte, ↓Cp_nil, ↓Cp_cons, ↓Fl_nil, ↓Fl_cons, ↓at_0, ↓at_1, ↓at_2, ↓at_3, ↓at_4, ↓at_5, ↓at_6, List.length_cons, List.length_nil, cut1, ↓kf_comes]
  simp (config := { decide := true }) only [↓S_next, ↓S_bk, ↓S_ct, ↓S_rtd, ↓S_seq, ↓S_set, ↓S_drop, ↓S_ret, ↓S_if, ↓S_asg, ↓S_put, ↓S_app, ↓S_ext, ↓S_for, ↓Wp_pure, ↓Wp_opt, ↓Wp_bind, ↓Wp_ite, ↓Wp_var, ↓Wp_op, ↓Wp_un, ↓Wp_test, ↓Wp_dand, ↓Wp_dor, ↓Wp_dnot, ↓Wp_dandV, ↓Wp_dorV, ↓Wp_dnotV, ↓Wp_chain, ↓Wp_cb, ↓Wp_cons, ↓Wp_nil, ↓Wp_tup, ↓Wp_lst, ↓Wp_part, ↓Wp_nopart, ↓Wp_slice, ↓Wp_isi, ↓Wp_isi2, ↓Wp_m1, ↓Wp_call, ↓Wp_pix, ↓Wp_callP0, ↓Wp_callP1, ↓Wp_comp, ↓Wp_disp, ↓Wp_dpnil, ↓Wp_dpcons, ↓Wp_flat, ↓onNx_nx, ↓onNx_bk, ↓onNx_ct, ↓onNx_rt, ↓onRt_rt, ↓onRt_nx, ↓onS_some, ↓onB_b, ↓onI_i, ↓onStr_s, ↓onL_l, ↓lk_0, ↓lk_S, ↓onSet_0, ↓onSet_S, ↓onPut_0, ↓onPut_S, ↓ite_dec, ↓ite_ndec, ↓ite_tt, ↓ite_ff, ↓ite_nt, ↓ite_nf, ↓v_gt, ↓v_lt, ↓v_le, ↓v_ge, ↓v_ltS, ↓v_add, ↓v_addS, ↓v_addL, ↓v_addT, ↓v_addN, ↓v_sub, ↓v_mul, ↓v_mulS, ↓v_mod, ↓v_fdiv, ↓v_pow, ↓v_neg, ↓v_lenL, ↓v_lenT, ↓v_lenS, ↓v_abs, ↓v_rev, ↓v_all, ↓v_any, ↓v_sum, ↓v_eq, ↓v_ne, ↓v_in, ↓v_notIn, ↓q_ii, ↓q_ss, ↓items_l, ↓items_t, ↓items_s, ↓items_r1, ↓items_r2, ↓sl_l, ↓sl_t, ↓sl_s, ↓put_1, ↓put_2, ↓pen_0, ↓pen_1, ↓pen_2, ↓v_ixL, ↓v_ixT, ↓ins_NoneType_none, ↓ins_NoneType_bool, ↓ins_NoneType_int, ↓ins_NoneType_str, ↓ins_NoneType_list, ↓ins_NoneType_tuple, ↓ins_NoneType_dict, ↓ins_bool_none, ↓ins_bool_bool, ↓ins_bool_int, ↓ins_bool_str, ↓ins_bool_list, ↓ins_bool_tuple, ↓ins_bool_dict, ↓ins_int_none, ↓ins_int_bool, ↓ins_int_int, ↓ins_int_str, ↓ins_int_list, ↓ins_int_tuple, ↓ins_int_dict, ↓ins_str_none, ↓ins_str_bool, ↓ins_str_int, ↓ins_str_str, ↓ins_str_list, ↓ins_str_tuple, ↓ins_str_dict, ↓ins_list_none, ↓ins_list_bool, ↓ins_list_int, ↓ins_list_str, ↓ins_list_list, ↓ins_list_tuple, ↓ins_list_dict, ↓ins_tuple_none, ↓ins_tuple_bool, ↓ins_tuple_int, ↓ins_tuple_str, ↓ins_tuple_list, ↓ins_tuple_tuple, ↓ins_tuple_dict, ↓ins_dict_none, ↓ins_dict_bool, ↓ins_dict_int, ↓ins_dict_str, ↓ins_dict_list, ↓ins_dict_tuple, ↓ins_dict_dict, ↓in_sign, ↓onClr_0, ↓onClr_S, ↓onW_nil, ↓onW_cons, ↓onRe_0, ↓onRe_S, ↓onBk_nil, ↓onBk_cons, ↓onTwo_l, ↓S_par, ↓a_tup, ↓onG_name, ↓onG_tup, ↓onGs_nil, ↓onGs_cons, ↓onTurn_nx, ↓onTurn_ct, ↓onTurn_bk, ↓onTurn_rt, ↓onLD_d, ↓v_ixAd, ↓v_inAd, ↓v_notInAd, ↓S_upd, ↓v_zip, ↓Wp_flatA, ↓v_int, ↓v_intB, ↓v_min, ↓v_gin, ↓v_gnin, ↓v_gix, ↓reduceIte, ↓Cp_nil, ↓Cp_cons, ↓Fl_nil, ↓Fl_cons, ↓at_0, ↓at_1, ↓at_2, ↓at_3, ↓at_4, ↓at_5, ↓at_6, sg_wdwww, fl_wdwww, kf_comes, ↓MD.eq (is_part_w p1 h1), ↓MD.eq (is_part_d p2), ↓MD.eq (is_part_w p3 h3), ↓MD.eq (is_part_w p4 h4), ↓MD.eq (is_part_w p5 h5), List.length_cons, List.length_nil, cut1, zipP, List.nil_append, List.cons_append, Nat.reduceAdd, Int.reduceAdd, ↓bls_cons, ↓bls_nil, lt0, le0, lt1, le1, lt2, le2, lt3, le3, lt4, le4, lt5, le5, lt6, le6, lt7, le7, lt8, le8, lt9, le9, lt10, le10, lt11, le11, lt12, le12, lt13, le13, lt14, le14, lt15, le15, lt16, le16, true_and, Option.isSome_some, ↓MD.eq (houses_comes p1 p2 p3 p4 p5)]
  refine ite_i (fun h => ?_) (fun h => ?_)
  · have ha := not_all h
    unfold B_comes
    rw [ha] <;> rfl
  · have ha := not_not_all h
    unfold B_comes
    rw [ha] <;> first | rfl | (simp (config := { decide := true }) only [↓S_next, ↓S_bk, ↓S_ct, ↓S_rtd, ↓S_seq, ↓S_set, ↓S_drop, ↓S_ret, ↓S_if, ↓S_asg, ↓S_put, ↓S_app, ↓S_ext, ↓S_for, ↓Wp_pure, ↓Wp_opt, ↓Wp_bind, ↓Wp_ite, ↓Wp_var, ↓Wp_op, ↓Wp_un, ↓Wp_test, ↓Wp_dand, ↓Wp_dor, ↓Wp_dnot, ↓Wp_dandV, ↓Wp_dorV, ↓Wp_dnotV, ↓Wp_chain, ↓Wp_cb, ↓Wp_cons, ↓Wp_nil, ↓Wp_tup, ↓Wp_lst, ↓Wp_part, ↓Wp_nopart, ↓Wp_slice, ↓Wp_isi, ↓Wp_isi2, ↓Wp_m1, ↓Wp_call, ↓Wp_pix, ↓Wp_callP0, ↓Wp_callP1, ↓Wp_comp, ↓Wp_disp, ↓Wp_dpnil, ↓Wp_dpcons, ↓Wp_flat, ↓onNx_nx, ↓onNx_bk, ↓onNx_ct, ↓onNx_rt, ↓onRt_rt, ↓onRt_nx, ↓onS_some, ↓onB_b, ↓onI_i, ↓onStr_s, ↓onL_l, ↓lk_0, ↓lk_S, ↓onSet_0, ↓onSet_S, ↓onPut_0, ↓onPut_S, ↓ite_dec, ↓ite_ndec, ↓ite_tt, ↓ite_ff, ↓ite_nt, ↓ite_nf, ↓v_gt, ↓v_lt, ↓v_le, ↓v_ge, ↓v_ltS, ↓v_add, ↓v_addS, ↓v_addL, ↓v_addT, ↓v_addN, ↓v_sub, ↓v_mul, ↓v_mulS, ↓v_mod, ↓v_fdiv, ↓v_pow, ↓v_neg, ↓v_lenL, ↓v_lenT, ↓v_lenS, ↓v_abs, ↓v_rev, ↓v_all, ↓v_any, ↓v_sum, ↓v_eq, ↓v_ne, ↓v_in, ↓v_notIn, ↓q_ii, ↓q_ss, ↓items_l, ↓items_t, ↓items_s, ↓items_r1, ↓items_r2, ↓sl_l, ↓sl_t, ↓sl_s, ↓put_1, ↓put_2, ↓pen_0, ↓pen_1, ↓pen_2, ↓v_ixL, ↓v_ixT, ↓ins_NoneType_none, ↓ins_NoneType_bool, ↓ins_NoneType_int, ↓ins_NoneType_str, ↓ins_NoneType_list, ↓ins_NoneType_tuple, ↓ins_NoneType_dict, ↓ins_bool_none, ↓ins_bool_bool, ↓ins_bool_int, ↓ins_bool_str, ↓ins_bool_list, ↓ins_bool_tuple, ↓ins_bool_dict, ↓ins_int_none, ↓ins_int_bool, ↓ins_int_int, ↓ins_int_str, ↓ins_int_list, ↓ins_int_tuple, ↓ins_int_dict, ↓ins_str_none, ↓ins_str_bool, ↓ins_str_int, ↓ins_str_str, ↓ins_str_list, ↓ins_str_tuple, ↓ins_str_dict, ↓ins_list_none, ↓ins_list_bool, ↓ins_list_int, ↓ins_list_str, ↓ins_list_list, ↓ins_list_tuple, ↓ins_list_dict, ↓ins_tuple_none, ↓ins_tuple_bool, ↓ins_tuple_int, ↓ins_tuple_str, ↓ins_tuple_list, ↓ins_tuple_tuple, ↓ins_tuple_dict, ↓ins_dict_none, ↓ins_dict_bool, ↓ins_dict_int, ↓ins_dict_str, ↓ins_dict_list, ↓ins_dict_tuple, ↓ins_dict_dict, ↓in_sign, ↓onClr_0, ↓onClr_S, ↓onW_nil, ↓onW_cons, ↓onRe_0, ↓onRe_S, ↓onBk_nil, ↓onBk_cons, ↓onTwo_l, ↓S_par, ↓a_tup, ↓onG_name, ↓onG_tup, ↓onGs_nil, ↓onGs_cons, ↓onTurn_nx, ↓onTurn_ct, ↓onTurn_bk, ↓onTurn_rt, ↓onLD_d, ↓v_ixAd, ↓v_inAd, ↓v_notInAd, ↓S_upd, ↓v_zip, ↓Wp_flatA, ↓v_int, ↓v_intB, ↓v_min, ↓v_gin, ↓v_gnin, ↓v_gix, ↓reduceIte, ↓at_0, ↓at_1, ↓at_2, ↓at_3, ↓at_4, ↓at_5, ↓at_6, List.length_cons, List.length_nil, cut1, zipP, List.nil_append, List.cons_append, Nat.reduceAdd, Int.reduceAdd, ↓bls_cons, ↓bls_nil, lt0, le0, lt1, le1, lt2, le2, lt3, le3, lt4, le4, lt5, le5, lt6, le6, lt7, le7, lt8, le8, lt9, le9, lt10, le10, lt11, le11, lt12, le12, lt13, le13, lt14, le14, lt15, le15, lt16, le16, true_and, Option.isSome_some])
def B_trial (p1 p2 p3 p4 p5 p6 : D) : Bool := [isW p1, within 0 999 p2, isW p3, isW p4, isW p5, within 0 9 p6].all id && !(PyData.eqv p4 p5)
theorem houses_trial (p1 p2 p3 p4 p5 p6 : D) : m_houses_in [.tuple [.str "trial", p1, p2, p3, p4, p5, p6]] = some (.list [p4, p5]) := by
  refine MD.get (MD_of rfl ?_)
  show Sp2 g_houses_in [some _, none] _
  unfold g_houses_in
  simp (config := { decide := true }) only [↓S_next, ↓S_bk, ↓S_ct, ↓S_rtd, ↓S_seq, ↓S_set, ↓S_drop, ↓S_ret, ↓S_if, ↓S_asg, ↓S_put, ↓S_app, ↓S_ext, ↓S_for, ↓Wp_pure, ↓Wp_opt, ↓Wp_bind, ↓Wp_ite, ↓Wp_var, ↓Wp_op, ↓Wp_un, ↓Wp_test, ↓Wp_dand, ↓Wp_dor, ↓Wp_dnot, ↓Wp_dandV, ↓Wp_dorV, ↓Wp_dnotV, ↓Wp_chain, ↓Wp_cb, ↓Wp_cons, ↓Wp_nil, ↓Wp_tup, ↓Wp_lst, ↓Wp_part, ↓Wp_nopart, ↓Wp_slice, ↓Wp_isi, ↓Wp_isi2, ↓Wp_m1, ↓Wp_call, ↓Wp_pix, ↓Wp_callP0, ↓Wp_callP1, ↓Wp_comp, ↓Wp_disp, ↓Wp_dpnil, ↓Wp_dpcons, ↓Wp_flat, ↓onNx_nx, ↓onNx_bk, ↓onNx_ct, ↓onNx_rt, ↓onRt_rt, ↓onRt_nx, ↓onS_some, ↓onB_b, ↓onI_i, ↓onStr_s, ↓onL_l, ↓lk_0, ↓lk_S, ↓onSet_0, ↓onSet_S, ↓onPut_0, ↓onPut_S, ↓ite_dec, ↓ite_ndec, ↓ite_tt, ↓ite_ff, ↓ite_nt, ↓ite_nf, ↓v_gt, ↓v_lt, ↓v_le, ↓v_ge, ↓v_ltS, ↓v_add, ↓v_addS, ↓v_addL, ↓v_addT, ↓v_addN, ↓v_sub, ↓v_mul, ↓v_mulS, ↓v_mod, ↓v_fdiv, ↓v_pow, ↓v_neg, ↓v_lenL, ↓v_lenT, ↓v_lenS, ↓v_abs, ↓v_rev, ↓v_all, ↓v_any, ↓v_sum, ↓v_eq, ↓v_ne, ↓v_in, ↓v_notIn, ↓q_ii, ↓q_ss, ↓items_l, ↓items_t, ↓items_s, ↓items_r1, ↓items_r2, ↓sl_l, ↓sl_t, ↓sl_s, ↓put_1, ↓put_2, ↓pen_0, ↓pen_1, ↓pen_2, ↓v_ixL, ↓v_ixT, ↓ins_NoneType_none, ↓ins_NoneType_bool, ↓ins_NoneType_int, ↓ins_NoneType_str, ↓ins_NoneType_list, ↓ins_NoneType_tuple, ↓ins_NoneType_dict, ↓ins_bool_none, ↓ins_bool_bool, ↓ins_bool_int, ↓ins_bool_str, ↓ins_bool_list, ↓ins_bool_tuple, ↓ins_bool_dict, ↓ins_int_none, ↓ins_int_bool, ↓ins_int_int, ↓ins_int_str, ↓ins_int_list, ↓ins_int_tuple, ↓ins_int_dict, ↓ins_str_none, ↓ins_str_bool, ↓ins_str_int, ↓ins_str_str, ↓ins_str_list, ↓ins_str_tuple, ↓ins_str_dict, ↓ins_list_none, ↓ins_list_bool, ↓ins_list_int, ↓ins_list_str, ↓ins_list_list, ↓ins_list_tuple, ↓ins_list_dict, ↓ins_tuple_none, ↓ins_tuple_bool, ↓ins_tuple_int, ↓ins_tuple_str, ↓ins_tuple_list, ↓ins_tuple_tuple, ↓ins_tuple_dict, ↓ins_dict_none, ↓ins_dict_bool, ↓ins_dict_int, ↓ins_dict_str, ↓ins_dict_list, ↓ins_dict_tuple, ↓ins_dict_dict, ↓in_sign, ↓onClr_0, ↓onClr_S, ↓onW_nil, ↓onW_cons, ↓onRe_0, ↓onRe_S, ↓onBk_nil, ↓onBk_cons, ↓onTwo_l, ↓S_par, ↓a_tup, ↓onG_name, ↓onG_tup, ↓onGs_nil, ↓onGs_cons, ↓onTurn_nx, ↓onTurn_ct, ↓onTurn_bk, ↓onTurn_rt, ↓onLD_d, ↓v_ixAd, ↓v_inAd, ↓v_notInAd, ↓S_upd, ↓v_zip, ↓Wp_flatA, ↓v_int, ↓v_intB, ↓v_min, ↓v_gin, ↓v_gnin, ↓v_gix, ↓reduceIte, ↓Cp_nil, ↓Cp_cons, ↓Fl_nil, ↓Fl_cons, ↓at_0, ↓at_1, ↓at_2, ↓at_3, ↓at_4, ↓at_5, ↓at_6, ↓kh_trial, List.length_cons, List.length_nil, cut1, zipP, List.nil_append, List.cons_append, Nat.reduceAdd, Int.reduceAdd, ↓bls_cons, ↓bls_nil, lt0, le0, lt1, le1, lt2, le2, lt3, le3, lt4, le4, lt5, le5, lt6, le6, lt7, le7, lt8, le8, lt9, le9, lt10, le10, lt11, le11, lt12, le12, lt13, le13, lt14, le14, lt15, le15, lt16, le16, true_and, Option.isSome_some]
theorem is_page_trial (p1 p2 p3 p4 p5 p6 : D) (h1 : ∀ z, p1 = .str z → z.length ≤ 1000) (h3 : ∀ z, p3 = .str z → z.length ≤ 1000) (h4 : ∀ z, p4 = .str z → z.length ≤ 1000) (h5 : ∀ z, p5 = .str z → z.length ≤ 1000) : m_is_page [.tuple [.str "trial", p1, p2, p3, p4, p5, p6]] = some (.bool (B_trial p1 p2 p3 p4 p5 p6)) := by
  refine MD.get (MD_of rfl ?_)
  show Sp2 g_is_page [some _, none, none, none, none] _
  unfold g_is_page
  simp only [↓S_next, ↓S_bk, ↓S_ct, ↓S_rtd, ↓S_seq, ↓S_set, ↓S_drop, ↓S_ret, ↓S_if, ↓S_asg, ↓S_put, ↓S_app, ↓S_ext, ↓S_for, ↓Wp_pure, ↓Wp_opt, ↓Wp_bind, ↓Wp_ite, ↓Wp_var, ↓Wp_op, ↓Wp_un, ↓Wp_test, ↓Wp_dand, ↓Wp_dor, ↓Wp_dnot, ↓Wp_dandV, ↓Wp_dorV, ↓Wp_dnotV, ↓Wp_chain, ↓Wp_cb, ↓Wp_cons, ↓Wp_nil, ↓Wp_tup, ↓Wp_lst, ↓Wp_part, ↓Wp_nopart, ↓Wp_slice, ↓Wp_isi, ↓Wp_isi2, ↓Wp_m1, ↓Wp_call, ↓Wp_pix, ↓Wp_callP0, ↓Wp_callP1, ↓Wp_comp, ↓Wp_disp, ↓Wp_dpnil, ↓Wp_dpcons, ↓Wp_flat, ↓onNx_nx, ↓onNx_bk, ↓onNx_ct, ↓onNx_rt, ↓onRt_rt, ↓onRt_nx, ↓onS_some, ↓onB_b, ↓onI_i, ↓onStr_s, ↓onL_l, ↓lk_0, ↓lk_S, ↓onSet_0, ↓onSet_S, ↓onPut_0, ↓onPut_S, ↓ite_dec, ↓ite_ndec, ↓ite_tt, ↓ite_ff, ↓ite_nt, ↓ite_nf, ↓v_gt, ↓v_lt, ↓v_le, ↓v_ge, ↓v_ltS, ↓v_add, ↓v_addS, ↓v_addL, ↓v_addT, ↓v_addN, ↓v_sub, ↓v_mul, ↓v_mulS, ↓v_mod, ↓v_fdiv, ↓v_pow, ↓v_neg, ↓v_lenL, ↓v_lenT, ↓v_lenS, ↓v_abs, ↓v_rev, ↓v_all, ↓v_any, ↓v_sum, ↓v_eq, ↓v_ne, ↓v_in, ↓v_notIn, ↓q_ii, ↓q_ss, ↓items_l, ↓items_t, ↓items_s, ↓items_r1, ↓items_r2, ↓sl_l, ↓sl_t, ↓sl_s, ↓put_1, ↓put_2, ↓pen_0, ↓pen_1, ↓pen_2, ↓v_ixL, ↓v_ixT, ↓ins_NoneType_none, ↓ins_NoneType_bool, ↓ins_NoneType_int, ↓ins_NoneType_str, ↓ins_NoneType_list, ↓ins_NoneType_tuple, ↓ins_NoneType_dict, ↓ins_bool_none, ↓ins_bool_bool, ↓ins_bool_int, ↓ins_bool_str, ↓ins_bool_list, ↓ins_bool_tuple, ↓ins_bool_dict, ↓ins_int_none, ↓ins_int_bool, ↓ins_int_int, ↓ins_int_str, ↓ins_int_list, ↓ins_int_tuple, ↓ins_int_dict, ↓ins_str_none, ↓ins_str_bool, ↓ins_str_int, ↓ins_str_str, ↓ins_str_list, ↓ins_str_tuple, ↓ins_str_dict, ↓ins_list_none, ↓ins_list_bool, ↓ins_list_int, ↓ins_list_str, ↓ins_list_list, ↓ins_list_tuple, ↓ins_list_dict, ↓ins_tuple_none, ↓ins_tuple_bool, ↓ins_tuple_int, ↓ins_tuple_str, ↓ins_tuple_list, ↓ins_tuple_tuple, ↓ins_tuple_dict, ↓ins_dict_none, ↓ins_dict_bool, ↓ins_dict_int, ↓ins_dict_str, ↓ins_dict_list, ↓ins_dict_tuple, ↓ins_dict_dict, ↓in_sign, ↓onClr_0, ↓onClr_S, ↓onW_nil, ↓onW_cons, ↓onRe_0, ↓onRe_S, ↓onBk_nil, ↓onBk_cons, ↓onTwo_l, ↓S_par, ↓a_tup, ↓onG_name, ↓onG_tup, ↓onGs_nil, ↓onGs_cons, ↓onTurn_nx, ↓onTurn_ct, ↓onTurn_bk, ↓onTurn_rt, ↓onLD_d, ↓v_ixAd, ↓v_inAd, ↓v_notInAd, ↓S_upd, ↓v_zip, ↓Wp_flatA, ↓v_int, ↓v_intB, ↓v_min, ↓v_gin, ↓v_gnin, ↓v_gix, ↓reduceIte, ↓Cp_nil, ↓Cp_cons, ↓Fl_nil, ↓Fl_cons, ↓at_0, ↓at_1, ↓at_2, ↓at_3, ↓at_4, ↓at_5, ↓at_6, List.length_cons, List.length_nil, cut1, ↓kf_trial]
  simp (config := { decide := true }) only [↓S_next, ↓S_bk, ↓S_ct, ↓S_rtd, ↓S_seq, ↓S_set, ↓S_drop, ↓S_ret, ↓S_if, ↓S_asg, ↓S_put, ↓S_app, ↓S_ext, ↓S_for, ↓Wp_pure, ↓Wp_opt, ↓Wp_bind, ↓Wp_ite, ↓Wp_var, ↓Wp_op, ↓Wp_un, ↓Wp_test, ↓Wp_dand, ↓Wp_dor, ↓Wp_dnot, ↓Wp_dandV, ↓Wp_dorV, ↓Wp_dnotV, ↓Wp_chain, ↓Wp_cb, ↓Wp_cons, ↓Wp_nil, ↓Wp_tup, ↓Wp_lst, ↓Wp_part, ↓Wp_nopart, ↓Wp_slice, ↓Wp_isi, ↓Wp_isi2, ↓Wp_m1, ↓Wp_call, ↓Wp_pix, ↓Wp_callP0, ↓Wp_callP1, ↓Wp_comp, ↓Wp_disp, ↓Wp_dpnil, ↓Wp_dpcons, ↓Wp_flat, ↓onNx_nx, ↓onNx_bk, ↓onNx_ct, ↓onNx_rt, ↓onRt_rt, ↓onRt_nx, ↓onS_some, ↓onB_b, ↓onI_i, ↓onStr_s, ↓onL_l, ↓lk_0, ↓lk_S, ↓onSet_0, ↓onSet_S, ↓onPut_0, ↓onPut_S, ↓ite_dec, ↓ite_ndec, ↓ite_tt, ↓ite_ff, ↓ite_nt, ↓ite_nf, ↓v_gt, ↓v_lt, ↓v_le, ↓v_ge, ↓v_ltS, ↓v_add, ↓v_addS, ↓v_addL, ↓v_addT, ↓v_addN, ↓v_sub, ↓v_mul, ↓v_mulS, ↓v_mod, ↓v_fdiv, ↓v_pow, ↓v_neg, ↓v_lenL, ↓v_lenT, ↓v_lenS, ↓v_abs, ↓v_rev, ↓v_all, ↓v_any, ↓v_sum, ↓v_eq, ↓v_ne, ↓v_in, ↓v_notIn, ↓q_ii, ↓q_ss, ↓items_l, ↓items_t, ↓items_s, ↓items_r1, ↓items_r2, ↓sl_l, ↓sl_t, ↓sl_s, ↓put_1, ↓put_2, ↓pen_0, ↓pen_1, ↓pen_2, ↓v_ixL, ↓v_ixT, ↓ins_NoneType_none, ↓ins_NoneType_bool, ↓ins_NoneType_int, ↓ins_NoneType_str, ↓ins_NoneType_list, ↓ins_NoneType_tuple, ↓ins_NoneType_dict, ↓ins_bool_none, ↓ins_bool_bool, ↓ins_bool_int, ↓ins_bool_str, ↓ins_bool_list, ↓ins_bool_tuple, ↓ins_bool_dict, ↓ins_int_none, ↓ins_int_bool, ↓ins_int_int, ↓ins_int_str, ↓ins_int_list, ↓ins_int_tuple, ↓ins_int_dict, ↓ins_str_none, ↓ins_str_bool, ↓ins_str_int, ↓ins_str_str, ↓ins_str_list, ↓ins_str_tuple, ↓ins_str_dict, ↓ins_list_none, ↓ins_list_bool, ↓ins_list_int, ↓ins_list_str, ↓ins_list_list, ↓ins_list_tuple, ↓ins_list_dict, ↓ins_tuple_none, ↓ins_tuple_bool, ↓ins_tuple_int, ↓ins_tuple_str, ↓ins_tuple_list, ↓ins_tuple_tuple, ↓ins_tuple_dict, ↓ins_dict_none, ↓ins_dict_bool, ↓ins_dict_int, ↓ins_dict_str, ↓ins_dict_list, ↓ins_dict_tuple, ↓ins_dict_dict, ↓in_sign, ↓onClr_0, ↓onClr_S, ↓onW_nil, ↓onW_cons, ↓onRe_0, ↓onRe_S, ↓onBk_nil, ↓onBk_cons, ↓onTwo_l, ↓S_par, ↓a_tup, ↓onG_name, ↓onG_tup, ↓onGs_nil, ↓onGs_cons, ↓onTurn_nx, ↓onTurn_ct, ↓onTurn_bk, ↓onTurn_rt, ↓onLD_d, ↓v_ixAd, ↓v_inAd, ↓v_notInAd, ↓S_upd, ↓v_zip, ↓Wp_flatA, ↓v_int, ↓v_intB, ↓v_min, ↓v_gin, ↓v_gnin, ↓v_gix, ↓reduceIte, ↓Cp_nil, ↓Cp_cons, ↓Fl_nil, ↓Fl_cons, ↓at_0, ↓at_1, ↓at_2, ↓at_3, ↓at_4, ↓at_5, ↓at_6, sg_wdwwwt, fl_wdwwwt, kf_trial, ↓MD.eq (is_part_w p1 h1), ↓MD.eq (is_part_d p2), ↓MD.eq (is_part_w p3 h3), ↓MD.eq (is_part_w p4 h4), ↓MD.eq (is_part_w p5 h5), ↓MD.eq (is_part_t p6), List.length_cons, List.length_nil, cut1, zipP, List.nil_append, List.cons_append, Nat.reduceAdd, Int.reduceAdd, ↓bls_cons, ↓bls_nil, lt0, le0, lt1, le1, lt2, le2, lt3, le3, lt4, le4, lt5, le5, lt6, le6, lt7, le7, lt8, le8, lt9, le9, lt10, le10, lt11, le11, lt12, le12, lt13, le13, lt14, le14, lt15, le15, lt16, le16, true_and, Option.isSome_some, ↓MD.eq (houses_trial p1 p2 p3 p4 p5 p6)]
  refine ite_i (fun h => ?_) (fun h => ?_)
  · have ha := not_all h
    unfold B_trial
    rw [ha] <;> rfl
  · have ha := not_not_all h
    unfold B_trial
    rw [ha]
    have hb := ha
    simp only [List.all_cons, List.all_nil, id, Bool.and_eq_true, Bool.and_true] at hb
    obtain ⟨z4, rfl⟩ := isW_is hb.2.2.2.1
    obtain ⟨z5, rfl⟩ := isW_is hb.2.2.2.2.1
    simp (config := { decide := true }) only [↓S_next, ↓S_bk, ↓S_ct, ↓S_rtd, ↓S_seq, ↓S_set, ↓S_drop, ↓S_ret, ↓S_if, ↓S_asg, ↓S_put, ↓S_app, ↓S_ext, ↓S_for, ↓Wp_pure, ↓Wp_opt, ↓Wp_bind, ↓Wp_ite, ↓Wp_var, ↓Wp_op, ↓Wp_un, ↓Wp_test, ↓Wp_dand, ↓Wp_dor, ↓Wp_dnot, ↓Wp_dandV, ↓Wp_dorV, ↓Wp_dnotV, ↓Wp_chain, ↓Wp_cb, ↓Wp_cons, ↓Wp_nil, ↓Wp_tup, ↓Wp_lst, ↓Wp_part, ↓Wp_nopart, ↓Wp_slice, ↓Wp_isi, ↓Wp_isi2, ↓Wp_m1, ↓Wp_call, ↓Wp_pix, ↓Wp_callP0, ↓Wp_callP1, ↓Wp_comp, ↓Wp_disp, ↓Wp_dpnil, ↓Wp_dpcons, ↓Wp_flat, ↓onNx_nx, ↓onNx_bk, ↓onNx_ct, ↓onNx_rt, ↓onRt_rt, ↓onRt_nx, ↓onS_some, ↓onB_b, ↓onI_i, ↓onStr_s, ↓onL_l, ↓lk_0, ↓lk_S, ↓onSet_0, ↓onSet_S, ↓onPut_0, ↓onPut_S, ↓ite_dec, ↓ite_ndec, ↓ite_tt, ↓ite_ff, ↓ite_nt, ↓ite_nf, ↓v_gt, ↓v_lt, ↓v_le, ↓v_ge, ↓v_ltS, ↓v_add, ↓v_addS, ↓v_addL, ↓v_addT, ↓v_addN, ↓v_sub, ↓v_mul, ↓v_mulS, ↓v_mod, ↓v_fdiv, ↓v_pow, ↓v_neg, ↓v_lenL, ↓v_lenT, ↓v_lenS, ↓v_abs, ↓v_rev, ↓v_all, ↓v_any, ↓v_sum, ↓v_eq, ↓v_ne, ↓v_in, ↓v_notIn, ↓q_ii, ↓q_ss, ↓items_l, ↓items_t, ↓items_s, ↓items_r1, ↓items_r2, ↓sl_l, ↓sl_t, ↓sl_s, ↓put_1, ↓put_2, ↓pen_0, ↓pen_1, ↓pen_2, ↓v_ixL, ↓v_ixT, ↓ins_NoneType_none, ↓ins_NoneType_bool, ↓ins_NoneType_int, ↓ins_NoneType_str, ↓ins_NoneType_list, ↓ins_NoneType_tuple, ↓ins_NoneType_dict, ↓ins_bool_none, ↓ins_bool_bool, ↓ins_bool_int, ↓ins_bool_str, ↓ins_bool_list, ↓ins_bool_tuple, ↓ins_bool_dict, ↓ins_int_none, ↓ins_int_bool, ↓ins_int_int, ↓ins_int_str, ↓ins_int_list, ↓ins_int_tuple, ↓ins_int_dict, ↓ins_str_none, ↓ins_str_bool, ↓ins_str_int, ↓ins_str_str, ↓ins_str_list, ↓ins_str_tuple, ↓ins_str_dict, ↓ins_list_none, ↓ins_list_bool, ↓ins_list_int, ↓ins_list_str, ↓ins_list_list, ↓ins_list_tuple, ↓ins_list_dict, ↓ins_tuple_none, ↓ins_tuple_bool, ↓ins_tuple_int, ↓ins_tuple_str, ↓ins_tuple_list, ↓ins_tuple_tuple, ↓ins_tuple_dict, ↓ins_dict_none, ↓ins_dict_bool, ↓ins_dict_int, ↓ins_dict_str, ↓ins_dict_list, ↓ins_dict_tuple, ↓ins_dict_dict, ↓in_sign, ↓onClr_0, ↓onClr_S, ↓onW_nil, ↓onW_cons, ↓onRe_0, ↓onRe_S, ↓onBk_nil, ↓onBk_cons, ↓onTwo_l, ↓S_par, ↓a_tup, ↓onG_name, ↓onG_tup, ↓onGs_nil, ↓onGs_cons, ↓onTurn_nx, ↓onTurn_ct, ↓onTurn_bk, ↓onTurn_rt, ↓onLD_d, ↓v_ixAd, ↓v_inAd, ↓v_notInAd, ↓S_upd, ↓v_zip, ↓Wp_flatA, ↓v_int, ↓v_intB, ↓v_min, ↓v_gin, ↓v_gnin, ↓v_gix, ↓reduceIte, ↓at_0, ↓at_1, ↓at_2, ↓at_3, ↓at_4, ↓at_5, ↓at_6, List.length_cons, List.length_nil, cut1, zipP, List.nil_append, List.cons_append, Nat.reduceAdd, Int.reduceAdd, ↓bls_cons, ↓bls_nil, lt0, le0, lt1, le1, lt2, le2, lt3, le3, lt4, le4, lt5, le5, lt6, le6, lt7, le7, lt8, le8, lt9, le9, lt10, le10, lt11, le11, lt12, le12, lt13, le13, lt14, le14, lt15, le15, lt16, le16, true_and, Option.isSome_some]
    rw [eqv_ss]
    refine ite_i (fun h2 => ?_) (fun h2 => ?_)
    · rw [decide_eq_true h2]
      rfl
    · rw [decide_eq_false h2]
      rfl
def B_back (p1 p2 p3 p4 p5 : D) : Bool := [isW p1, within 0 999 p2, isW p3, isW p4, within 0 9 p5].all id
theorem houses_back (p1 p2 p3 p4 p5 : D) : m_houses_in [.tuple [.str "back", p1, p2, p3, p4, p5]] = some (.list [p4]) := by
  refine MD.get (MD_of rfl ?_)
  show Sp2 g_houses_in [some _, none] _
  unfold g_houses_in
  simp (config := { decide := true }) only [↓S_next, ↓S_bk, ↓S_ct, ↓S_rtd, ↓S_seq, ↓S_set, ↓S_drop, ↓S_ret, ↓S_if, ↓S_asg, ↓S_put, ↓S_app, ↓S_ext, ↓S_for, ↓Wp_pure, ↓Wp_opt, ↓Wp_bind, ↓Wp_ite, ↓Wp_var, ↓Wp_op, ↓Wp_un, ↓Wp_test, ↓Wp_dand, ↓Wp_dor, ↓Wp_dnot, ↓Wp_dandV, ↓Wp_dorV, ↓Wp_dnotV, ↓Wp_chain, ↓Wp_cb, ↓Wp_cons, ↓Wp_nil, ↓Wp_tup, ↓Wp_lst, ↓Wp_part, ↓Wp_nopart, ↓Wp_slice, ↓Wp_isi, ↓Wp_isi2, ↓Wp_m1, ↓Wp_call, ↓Wp_pix, ↓Wp_callP0, ↓Wp_callP1, ↓Wp_comp, ↓Wp_disp, ↓Wp_dpnil, ↓Wp_dpcons, ↓Wp_flat, ↓onNx_nx, ↓onNx_bk, ↓onNx_ct, ↓onNx_rt, ↓onRt_rt, ↓onRt_nx, ↓onS_some, ↓onB_b, ↓onI_i, ↓onStr_s, ↓onL_l, ↓lk_0, ↓lk_S, ↓onSet_0, ↓onSet_S, ↓onPut_0, ↓onPut_S, ↓ite_dec, ↓ite_ndec, ↓ite_tt, ↓ite_ff, ↓ite_nt, ↓ite_nf, ↓v_gt, ↓v_lt, ↓v_le, ↓v_ge, ↓v_ltS, ↓v_add, ↓v_addS, ↓v_addL, ↓v_addT, ↓v_addN, ↓v_sub, ↓v_mul, ↓v_mulS, ↓v_mod, ↓v_fdiv, ↓v_pow, ↓v_neg, ↓v_lenL, ↓v_lenT, ↓v_lenS, ↓v_abs, ↓v_rev, ↓v_all, ↓v_any, ↓v_sum, ↓v_eq, ↓v_ne, ↓v_in, ↓v_notIn, ↓q_ii, ↓q_ss, ↓items_l, ↓items_t, ↓items_s, ↓items_r1, ↓items_r2, ↓sl_l, ↓sl_t, ↓sl_s, ↓put_1, ↓put_2, ↓pen_0, ↓pen_1, ↓pen_2, ↓v_ixL, ↓v_ixT, ↓ins_NoneType_none, ↓ins_NoneType_bool, ↓ins_NoneType_int, ↓ins_NoneType_str, ↓ins_NoneType_list, ↓ins_NoneType_tuple, ↓ins_NoneType_dict, ↓ins_bool_none, ↓ins_bool_bool, ↓ins_bool_int, ↓ins_bool_str, ↓ins_bool_list, ↓ins_bool_tuple, ↓ins_bool_dict, ↓ins_int_none, ↓ins_int_bool, ↓ins_int_int, ↓ins_int_str, ↓ins_int_list, ↓ins_int_tuple, ↓ins_int_dict, ↓ins_str_none, ↓ins_str_bool, ↓ins_str_int, ↓ins_str_str, ↓ins_str_list, ↓ins_str_tuple, ↓ins_str_dict, ↓ins_list_none, ↓ins_list_bool, ↓ins_list_int, ↓ins_list_str, ↓ins_list_list, ↓ins_list_tuple, ↓ins_list_dict, ↓ins_tuple_none, ↓ins_tuple_bool, ↓ins_tuple_int, ↓ins_tuple_str, ↓ins_tuple_list, ↓ins_tuple_tuple, ↓ins_tuple_dict, ↓ins_dict_none, ↓ins_dict_bool, ↓ins_dict_int, ↓ins_dict_str, ↓ins_dict_list, ↓ins_dict_tuple, ↓ins_dict_dict, ↓in_sign, ↓onClr_0, ↓onClr_S, ↓onW_nil, ↓onW_cons, ↓onRe_0, ↓onRe_S, ↓onBk_nil, ↓onBk_cons, ↓onTwo_l, ↓S_par, ↓a_tup, ↓onG_name, ↓onG_tup, ↓onGs_nil, ↓onGs_cons, ↓onTurn_nx, ↓onTurn_ct, ↓onTurn_bk, ↓onTurn_rt, ↓onLD_d, ↓v_ixAd, ↓v_inAd, ↓v_notInAd, ↓S_upd, ↓v_zip, ↓Wp_flatA, ↓v_int, ↓v_intB, ↓v_min, ↓v_gin, ↓v_gnin, ↓v_gix, ↓reduceIte, ↓Cp_nil, ↓Cp_cons, ↓Fl_nil, ↓Fl_cons, ↓at_0, ↓at_1, ↓at_2, ↓at_3, ↓at_4, ↓at_5, ↓at_6, ↓kh_back, List.length_cons, List.length_nil, cut1, zipP, List.nil_append, List.cons_append, Nat.reduceAdd, Int.reduceAdd, ↓bls_cons, ↓bls_nil, lt0, le0, lt1, le1, lt2, le2, lt3, le3, lt4, le4, lt5, le5, lt6, le6, lt7, le7, lt8, le8, lt9, le9, lt10, le10, lt11, le11, lt12, le12, lt13, le13, lt14, le14, lt15, le15, lt16, le16, true_and, Option.isSome_some]
theorem is_page_back (p1 p2 p3 p4 p5 : D) (h1 : ∀ z, p1 = .str z → z.length ≤ 1000) (h3 : ∀ z, p3 = .str z → z.length ≤ 1000) (h4 : ∀ z, p4 = .str z → z.length ≤ 1000) : m_is_page [.tuple [.str "back", p1, p2, p3, p4, p5]] = some (.bool (B_back p1 p2 p3 p4 p5)) := by
  refine MD.get (MD_of rfl ?_)
  show Sp2 g_is_page [some _, none, none, none, none] _
  unfold g_is_page
  simp only [↓S_next, ↓S_bk, ↓S_ct, ↓S_rtd, ↓S_seq, ↓S_set, ↓S_drop, ↓S_ret, ↓S_if, ↓S_asg, ↓S_put, ↓S_app, ↓S_ext, ↓S_for, ↓Wp_pure, ↓Wp_opt, ↓Wp_bind, ↓Wp_ite, ↓Wp_var, ↓Wp_op, ↓Wp_un, ↓Wp_test, ↓Wp_dand, ↓Wp_dor, ↓Wp_dnot, ↓Wp_dandV, ↓Wp_dorV, ↓Wp_dnotV, ↓Wp_chain, ↓Wp_cb, ↓Wp_cons, ↓Wp_nil, ↓Wp_tup, ↓Wp_lst, ↓Wp_part, ↓Wp_nopart, ↓Wp_slice, ↓Wp_isi, ↓Wp_isi2, ↓Wp_m1, ↓Wp_call, ↓Wp_pix, ↓Wp_callP0, ↓Wp_callP1, ↓Wp_comp, ↓Wp_disp, ↓Wp_dpnil, ↓Wp_dpcons, ↓Wp_flat, ↓onNx_nx, ↓onNx_bk, ↓onNx_ct, ↓onNx_rt, ↓onRt_rt, ↓onRt_nx, ↓onS_some, ↓onB_b, ↓onI_i, ↓onStr_s, ↓onL_l, ↓lk_0, ↓lk_S, ↓onSet_0, ↓onSet_S, ↓onPut_0, ↓onPut_S, ↓ite_dec, ↓ite_ndec, ↓ite_tt, ↓ite_ff, ↓ite_nt, ↓ite_nf, ↓v_gt, ↓v_lt, ↓v_le, ↓v_ge, ↓v_ltS, ↓v_add, ↓v_addS, ↓v_addL, ↓v_addT, ↓v_addN, ↓v_sub, ↓v_mul, ↓v_mulS, ↓v_mod, ↓v_fdiv, ↓v_pow, ↓v_neg, ↓v_lenL, ↓v_lenT, ↓v_lenS, ↓v_abs, ↓v_rev, ↓v_all, ↓v_any, ↓v_sum, ↓v_eq, ↓v_ne, ↓v_in, ↓v_notIn, ↓q_ii, ↓q_ss, ↓items_l, ↓items_t, ↓items_s, ↓items_r1, ↓items_r2, ↓sl_l, ↓sl_t, ↓sl_s, ↓put_1, ↓put_2, ↓pen_0, ↓pen_1, ↓pen_2, ↓v_ixL, ↓v_ixT, ↓ins_NoneType_none, ↓ins_NoneType_bool, ↓ins_NoneType_int, ↓ins_NoneType_str, ↓ins_NoneType_list, ↓ins_NoneType_tuple, ↓ins_NoneType_dict, ↓ins_bool_none, ↓ins_bool_bool, ↓ins_bool_int, ↓ins_bool_str, ↓ins_bool_list, ↓ins_bool_tuple, ↓ins_bool_dict, ↓ins_int_none, ↓ins_int_bool, ↓ins_int_int, ↓ins_int_str, ↓ins_int_list, ↓ins_int_tuple, ↓ins_int_dict, ↓ins_str_none, ↓ins_str_bool, ↓ins_str_int, ↓ins_str_str, ↓ins_str_list, ↓ins_str_tuple, ↓ins_str_dict, ↓ins_list_none, ↓ins_list_bool, ↓ins_list_int, ↓ins_list_str, ↓ins_list_list, ↓ins_list_tuple, ↓ins_list_dict, ↓ins_tuple_none, ↓ins_tuple_bool, ↓ins_tuple_int, ↓ins_tuple_str, ↓ins_tuple_list, ↓ins_tuple_tuple, ↓ins_tuple_dict, ↓ins_dict_none, ↓ins_dict_bool, ↓ins_dict_int, ↓ins_dict_str, ↓ins_dict_list, ↓ins_dict_tuple, ↓ins_dict_dict, ↓in_sign, ↓onClr_0, ↓onClr_S, ↓onW_nil, ↓onW_cons, ↓onRe_0, ↓onRe_S, ↓onBk_nil, ↓onBk_cons, ↓onTwo_l, ↓S_par, ↓a_tup, ↓onG_name, ↓onG_tup, ↓onGs_nil, ↓onGs_cons, ↓onTurn_nx, ↓onTurn_ct, ↓onTurn_bk, ↓onTurn_rt, ↓onLD_d, ↓v_ixAd, ↓v_inAd, ↓v_notInAd, ↓S_upd, ↓v_zip, ↓Wp_flatA, ↓v_int, ↓v_intB, ↓v_min, ↓v_gin, ↓v_gnin, ↓v_gix, ↓reduceIte, ↓Cp_nil, ↓Cp_cons, ↓Fl_nil, ↓Fl_cons, ↓at_0, ↓at_1, ↓at_2, ↓at_3, ↓at_4, ↓at_5, ↓at_6, List.length_cons, List.length_nil, cut1, ↓kf_back]
  simp (config := { decide := true }) only [↓S_next, ↓S_bk, ↓S_ct, ↓S_rtd, ↓S_seq, ↓S_set, ↓S_drop, ↓S_ret, ↓S_if, ↓S_asg, ↓S_put, ↓S_app, ↓S_ext, ↓S_for, ↓Wp_pure, ↓Wp_opt, ↓Wp_bind, ↓Wp_ite, ↓Wp_var, ↓Wp_op, ↓Wp_un, ↓Wp_test, ↓Wp_dand, ↓Wp_dor, ↓Wp_dnot, ↓Wp_dandV, ↓Wp_dorV, ↓Wp_dnotV, ↓Wp_chain, ↓Wp_cb, ↓Wp_cons, ↓Wp_nil, ↓Wp_tup, ↓Wp_lst, ↓Wp_part, ↓Wp_nopart, ↓Wp_slice, ↓Wp_isi, ↓Wp_isi2, ↓Wp_m1, ↓Wp_call, ↓Wp_pix, ↓Wp_callP0, ↓Wp_callP1, ↓Wp_comp, ↓Wp_disp, ↓Wp_dpnil, ↓Wp_dpcons, ↓Wp_flat, ↓onNx_nx, ↓onNx_bk, ↓onNx_ct, ↓onNx_rt, ↓onRt_rt, ↓onRt_nx, ↓onS_some, ↓onB_b, ↓onI_i, ↓onStr_s, ↓onL_l, ↓lk_0, ↓lk_S, ↓onSet_0, ↓onSet_S, ↓onPut_0, ↓onPut_S, ↓ite_dec, ↓ite_ndec, ↓ite_tt, ↓ite_ff, ↓ite_nt, ↓ite_nf, ↓v_gt, ↓v_lt, ↓v_le, ↓v_ge, ↓v_ltS, ↓v_add, ↓v_addS, ↓v_addL, ↓v_addT, ↓v_addN, ↓v_sub, ↓v_mul, ↓v_mulS, ↓v_mod, ↓v_fdiv, ↓v_pow, ↓v_neg, ↓v_lenL, ↓v_lenT, ↓v_lenS, ↓v_abs, ↓v_rev, ↓v_all, ↓v_any, ↓v_sum, ↓v_eq, ↓v_ne, ↓v_in, ↓v_notIn, ↓q_ii, ↓q_ss, ↓items_l, ↓items_t, ↓items_s, ↓items_r1, ↓items_r2, ↓sl_l, ↓sl_t, ↓sl_s, ↓put_1, ↓put_2, ↓pen_0, ↓pen_1, ↓pen_2, ↓v_ixL, ↓v_ixT, ↓ins_NoneType_none, ↓ins_NoneType_bool, ↓ins_NoneType_int, ↓ins_NoneType_str, ↓ins_NoneType_list, ↓ins_NoneType_tuple, ↓ins_NoneType_dict, ↓ins_bool_none, ↓ins_bool_bool, ↓ins_bool_int, ↓ins_bool_str, ↓ins_bool_list, ↓ins_bool_tuple, ↓ins_bool_dict, ↓ins_int_none, ↓ins_int_bool, ↓ins_int_int, ↓ins_int_str, ↓ins_int_list, ↓ins_int_tuple, ↓ins_int_dict, ↓ins_str_none, ↓ins_str_bool, ↓ins_str_int, ↓ins_str_str, ↓ins_str_list, ↓ins_str_tuple, ↓ins_str_dict, ↓ins_list_none, ↓ins_list_bool, ↓ins_list_int, ↓ins_list_str, ↓ins_list_list, ↓ins_list_tuple, ↓ins_list_dict, ↓ins_tuple_none, ↓ins_tuple_bool, ↓ins_tuple_int, ↓ins_tuple_str, ↓ins_tuple_list, ↓ins_tuple_tuple, ↓ins_tuple_dict, ↓ins_dict_none, ↓ins_dict_bool, ↓ins_dict_int, ↓ins_dict_str, ↓ins_dict_list, ↓ins_dict_tuple, ↓ins_dict_dict, ↓in_sign, ↓onClr_0, ↓onClr_S, ↓onW_nil, ↓onW_cons, ↓onRe_0, ↓onRe_S, ↓onBk_nil, ↓onBk_cons, ↓onTwo_l, ↓S_par, ↓a_tup, ↓onG_name, ↓onG_tup, ↓onGs_nil, ↓onGs_cons, ↓onTurn_nx, ↓onTurn_ct, ↓onTurn_bk, ↓onTurn_rt, ↓onLD_d, ↓v_ixAd, ↓v_inAd, ↓v_notInAd, ↓S_upd, ↓v_zip, ↓Wp_flatA, ↓v_int, ↓v_intB, ↓v_min, ↓v_gin, ↓v_gnin, ↓v_gix, ↓reduceIte, ↓Cp_nil, ↓Cp_cons, ↓Fl_nil, ↓Fl_cons, ↓at_0, ↓at_1, ↓at_2, ↓at_3, ↓at_4, ↓at_5, ↓at_6, sg_wdwwt, fl_wdwwt, kf_back, ↓MD.eq (is_part_w p1 h1), ↓MD.eq (is_part_d p2), ↓MD.eq (is_part_w p3 h3), ↓MD.eq (is_part_w p4 h4), ↓MD.eq (is_part_t p5), List.length_cons, List.length_nil, cut1, zipP, List.nil_append, List.cons_append, Nat.reduceAdd, Int.reduceAdd, ↓bls_cons, ↓bls_nil, lt0, le0, lt1, le1, lt2, le2, lt3, le3, lt4, le4, lt5, le5, lt6, le6, lt7, le7, lt8, le8, lt9, le9, lt10, le10, lt11, le11, lt12, le12, lt13, le13, lt14, le14, lt15, le15, lt16, le16, true_and, Option.isSome_some, ↓MD.eq (houses_back p1 p2 p3 p4 p5)]
  refine ite_i (fun h => ?_) (fun h => ?_)
  · have ha := not_all h
    unfold B_back
    rw [ha] <;> rfl
  · have ha := not_not_all h
    unfold B_back
    rw [ha] <;> first | rfl | (simp (config := { decide := true }) only [↓S_next, ↓S_bk, ↓S_ct, ↓S_rtd, ↓S_seq, ↓S_set, ↓S_drop, ↓S_ret, ↓S_if, ↓S_asg, ↓S_put, ↓S_app, ↓S_ext, ↓S_for, ↓Wp_pure, ↓Wp_opt, ↓Wp_bind, ↓Wp_ite, ↓Wp_var, ↓Wp_op, ↓Wp_un, ↓Wp_test, ↓Wp_dand, ↓Wp_dor, ↓Wp_dnot, ↓Wp_dandV, ↓Wp_dorV, ↓Wp_dnotV, ↓Wp_chain, ↓Wp_cb, ↓Wp_cons, ↓Wp_nil, ↓Wp_tup, ↓Wp_lst, ↓Wp_part, ↓Wp_nopart, ↓Wp_slice, ↓Wp_isi, ↓Wp_isi2, ↓Wp_m1, ↓Wp_call, ↓Wp_pix, ↓Wp_callP0, ↓Wp_callP1, ↓Wp_comp, ↓Wp_disp, ↓Wp_dpnil, ↓Wp_dpcons, ↓Wp_flat, ↓onNx_nx, ↓onNx_bk, ↓onNx_ct, ↓onNx_rt, ↓onRt_rt, ↓onRt_nx, ↓onS_some, ↓onB_b, ↓onI_i, ↓onStr_s, ↓onL_l, ↓lk_0, ↓lk_S, ↓onSet_0, ↓onSet_S, ↓onPut_0, ↓onPut_S, ↓ite_dec, ↓ite_ndec, ↓ite_tt, ↓ite_ff, ↓ite_nt, ↓ite_nf, ↓v_gt, ↓v_lt, ↓v_le, ↓v_ge, ↓v_ltS, ↓v_add, ↓v_addS, ↓v_addL, ↓v_addT, ↓v_addN, ↓v_sub, ↓v_mul, ↓v_mulS, ↓v_mod, ↓v_fdiv, ↓v_pow, ↓v_neg, ↓v_lenL, ↓v_lenT, ↓v_lenS, ↓v_abs, ↓v_rev, ↓v_all, ↓v_any, ↓v_sum, ↓v_eq, ↓v_ne, ↓v_in, ↓v_notIn, ↓q_ii, ↓q_ss, ↓items_l, ↓items_t, ↓items_s, ↓items_r1, ↓items_r2, ↓sl_l, ↓sl_t, ↓sl_s, ↓put_1, ↓put_2, ↓pen_0, ↓pen_1, ↓pen_2, ↓v_ixL, ↓v_ixT, ↓ins_NoneType_none, ↓ins_NoneType_bool, ↓ins_NoneType_int, ↓ins_NoneType_str, ↓ins_NoneType_list, ↓ins_NoneType_tuple, ↓ins_NoneType_dict, ↓ins_bool_none, ↓ins_bool_bool, ↓ins_bool_int, ↓ins_bool_str, ↓ins_bool_list, ↓ins_bool_tuple, ↓ins_bool_dict, ↓ins_int_none, ↓ins_int_bool, ↓ins_int_int, ↓ins_int_str, ↓ins_int_list, ↓ins_int_tuple, ↓ins_int_dict, ↓ins_str_none, ↓ins_str_bool, ↓ins_str_int, ↓ins_str_str, ↓ins_str_list, ↓ins_str_tuple, ↓ins_str_dict, ↓ins_list_none, ↓ins_list_bool, ↓ins_list_int, ↓ins_list_str, ↓ins_list_list, ↓ins_list_tuple, ↓ins_list_dict, ↓ins_tuple_none, ↓ins_tuple_bool, ↓ins_tuple_int, ↓ins_tuple_str, ↓ins_tuple_list, ↓ins_tuple_tuple, ↓ins_tuple_dict, ↓ins_dict_none, ↓ins_dict_bool, ↓ins_dict_int, ↓ins_dict_str, ↓ins_dict_list, ↓ins_dict_tuple, ↓ins_dict_dict, ↓in_sign, ↓onClr_0, ↓onClr_S, ↓onW_nil, ↓onW_cons, ↓onRe_0, ↓onRe_S, ↓onBk_nil, ↓onBk_cons, ↓onTwo_l, ↓S_par, ↓a_tup, ↓onG_name, ↓onG_tup, ↓onGs_nil, ↓onGs_cons, ↓onTurn_nx, ↓onTurn_ct, ↓onTurn_bk, ↓onTurn_rt, ↓onLD_d, ↓v_ixAd, ↓v_inAd, ↓v_notInAd, ↓S_upd, ↓v_zip, ↓Wp_flatA, ↓v_int, ↓v_intB, ↓v_min, ↓v_gin, ↓v_gnin, ↓v_gix, ↓reduceIte, ↓at_0, ↓at_1, ↓at_2, ↓at_3, ↓at_4, ↓at_5, ↓at_6, List.length_cons, List.length_nil, cut1, zipP, List.nil_append, List.cons_append, Nat.reduceAdd, Int.reduceAdd, ↓bls_cons, ↓bls_nil, lt0, le0, lt1, le1, lt2, le2, lt3, le3, lt4, le4, lt5, le5, lt6, le6, lt7, le7, lt8, le8, lt9, le9, lt10, le10, lt11, le11, lt12, le12, lt13, le13, lt14, le14, lt15, le15, lt16, le16, true_and, Option.isSome_some])
def B_keep (p1 p2 p3 p4 p5 : D) : Bool := [isW p1, within 0 999 p2, isW p3, isW p4, within 0 1000000000 p5].all id
theorem houses_keep (p1 p2 p3 p4 p5 : D) : m_houses_in [.tuple [.str "keep", p1, p2, p3, p4, p5]] = some (.list [p4]) := by
  refine MD.get (MD_of rfl ?_)
  show Sp2 g_houses_in [some _, none] _
  unfold g_houses_in
  simp (config := { decide := true }) only [↓S_next, ↓S_bk, ↓S_ct, ↓S_rtd, ↓S_seq, ↓S_set, ↓S_drop, ↓S_ret, ↓S_if, ↓S_asg, ↓S_put, ↓S_app, ↓S_ext, ↓S_for, ↓Wp_pure, ↓Wp_opt, ↓Wp_bind, ↓Wp_ite, ↓Wp_var, ↓Wp_op, ↓Wp_un, ↓Wp_test, ↓Wp_dand, ↓Wp_dor, ↓Wp_dnot, ↓Wp_dandV, ↓Wp_dorV, ↓Wp_dnotV, ↓Wp_chain, ↓Wp_cb, ↓Wp_cons, ↓Wp_nil, ↓Wp_tup, ↓Wp_lst, ↓Wp_part, ↓Wp_nopart, ↓Wp_slice, ↓Wp_isi, ↓Wp_isi2, ↓Wp_m1, ↓Wp_call, ↓Wp_pix, ↓Wp_callP0, ↓Wp_callP1, ↓Wp_comp, ↓Wp_disp, ↓Wp_dpnil, ↓Wp_dpcons, ↓Wp_flat, ↓onNx_nx, ↓onNx_bk, ↓onNx_ct, ↓onNx_rt, ↓onRt_rt, ↓onRt_nx, ↓onS_some, ↓onB_b, ↓onI_i, ↓onStr_s, ↓onL_l, ↓lk_0, ↓lk_S, ↓onSet_0, ↓onSet_S, ↓onPut_0, ↓onPut_S, ↓ite_dec, ↓ite_ndec, ↓ite_tt, ↓ite_ff, ↓ite_nt, ↓ite_nf, ↓v_gt, ↓v_lt, ↓v_le, ↓v_ge, ↓v_ltS, ↓v_add, ↓v_addS, ↓v_addL, ↓v_addT, ↓v_addN, ↓v_sub, ↓v_mul, ↓v_mulS, ↓v_mod, ↓v_fdiv, ↓v_pow, ↓v_neg, ↓v_lenL, ↓v_lenT, ↓v_lenS, ↓v_abs, ↓v_rev, ↓v_all, ↓v_any, ↓v_sum, ↓v_eq, ↓v_ne, ↓v_in, ↓v_notIn, ↓q_ii, ↓q_ss, ↓items_l, ↓items_t, ↓items_s, ↓items_r1, ↓items_r2, ↓sl_l, ↓sl_t, ↓sl_s, ↓put_1, ↓put_2, ↓pen_0, ↓pen_1, ↓pen_2, ↓v_ixL, ↓v_ixT, ↓ins_NoneType_none, ↓ins_NoneType_bool, ↓ins_NoneType_int, ↓ins_NoneType_str, ↓ins_NoneType_list, ↓ins_NoneType_tuple, ↓ins_NoneType_dict, ↓ins_bool_none, ↓ins_bool_bool, ↓ins_bool_int, ↓ins_bool_str, ↓ins_bool_list, ↓ins_bool_tuple, ↓ins_bool_dict, ↓ins_int_none, ↓ins_int_bool, ↓ins_int_int, ↓ins_int_str, ↓ins_int_list, ↓ins_int_tuple, ↓ins_int_dict, ↓ins_str_none, ↓ins_str_bool, ↓ins_str_int, ↓ins_str_str, ↓ins_str_list, ↓ins_str_tuple, ↓ins_str_dict, ↓ins_list_none, ↓ins_list_bool, ↓ins_list_int, ↓ins_list_str, ↓ins_list_list, ↓ins_list_tuple, ↓ins_list_dict, ↓ins_tuple_none, ↓ins_tuple_bool, ↓ins_tuple_int, ↓ins_tuple_str, ↓ins_tuple_list, ↓ins_tuple_tuple, ↓ins_tuple_dict, ↓ins_dict_none, ↓ins_dict_bool, ↓ins_dict_int, ↓ins_dict_str, ↓ins_dict_list, ↓ins_dict_tuple, ↓ins_dict_dict, ↓in_sign, ↓onClr_0, ↓onClr_S, ↓onW_nil, ↓onW_cons, ↓onRe_0, ↓onRe_S, ↓onBk_nil, ↓onBk_cons, ↓onTwo_l, ↓S_par, ↓a_tup, ↓onG_name, ↓onG_tup, ↓onGs_nil, ↓onGs_cons, ↓onTurn_nx, ↓onTurn_ct, ↓onTurn_bk, ↓onTurn_rt, ↓onLD_d, ↓v_ixAd, ↓v_inAd, ↓v_notInAd, ↓S_upd, ↓v_zip, ↓Wp_flatA, ↓v_int, ↓v_intB, ↓v_min, ↓v_gin, ↓v_gnin, ↓v_gix, ↓reduceIte, ↓Cp_nil, ↓Cp_cons, ↓Fl_nil, ↓Fl_cons, ↓at_0, ↓at_1, ↓at_2, ↓at_3, ↓at_4, ↓at_5, ↓at_6, ↓kh_keep, List.length_cons, List.length_nil, cut1, zipP, List.nil_append, List.cons_append, Nat.reduceAdd, Int.reduceAdd, ↓bls_cons, ↓bls_nil, lt0, le0, lt1, le1, lt2, le2, lt3, le3, lt4, le4, lt5, le5, lt6, le6, lt7, le7, lt8, le8, lt9, le9, lt10, le10, lt11, le11, lt12, le12, lt13, le13, lt14, le14, lt15, le15, lt16, le16, true_and, Option.isSome_some]
theorem is_page_keep (p1 p2 p3 p4 p5 : D) (h1 : ∀ z, p1 = .str z → z.length ≤ 1000) (h3 : ∀ z, p3 = .str z → z.length ≤ 1000) (h4 : ∀ z, p4 = .str z → z.length ≤ 1000) : m_is_page [.tuple [.str "keep", p1, p2, p3, p4, p5]] = some (.bool (B_keep p1 p2 p3 p4 p5)) := by
  refine MD.get (MD_of rfl ?_)
  show Sp2 g_is_page [some _, none, none, none, none] _
  unfold g_is_page
  simp only [↓S_next, ↓S_bk, ↓S_ct, ↓S_rtd, ↓S_seq, ↓S_set, ↓S_drop, ↓S_ret, ↓S_if, ↓S_asg, ↓S_put, ↓S_app, ↓S_ext, ↓S_for, ↓Wp_pure, ↓Wp_opt, ↓Wp_bind, ↓Wp_ite, ↓Wp_var, ↓Wp_op, ↓Wp_un, ↓Wp_test, ↓Wp_dand, ↓Wp_dor, ↓Wp_dnot, ↓Wp_dandV, ↓Wp_dorV, ↓Wp_dnotV, ↓Wp_chain, ↓Wp_cb, ↓Wp_cons, ↓Wp_nil, ↓Wp_tup, ↓Wp_lst, ↓Wp_part, ↓Wp_nopart, ↓Wp_slice, ↓Wp_isi, ↓Wp_isi2, ↓Wp_m1, ↓Wp_call, ↓Wp_pix, ↓Wp_callP0, ↓Wp_callP1, ↓Wp_comp, ↓Wp_disp, ↓Wp_dpnil, ↓Wp_dpcons, ↓Wp_flat, ↓onNx_nx, ↓onNx_bk, ↓onNx_ct, ↓onNx_rt, ↓onRt_rt, ↓onRt_nx, ↓onS_some, ↓onB_b, ↓onI_i, ↓onStr_s, ↓onL_l, ↓lk_0, ↓lk_S, ↓onSet_0, ↓onSet_S, ↓onPut_0, ↓onPut_S, ↓ite_dec, ↓ite_ndec, ↓ite_tt, ↓ite_ff, ↓ite_nt, ↓ite_nf, ↓v_gt, ↓v_lt, ↓v_le, ↓v_ge, ↓v_ltS, ↓v_add, ↓v_addS, ↓v_addL, ↓v_addT, ↓v_addN, ↓v_sub, ↓v_mul, ↓v_mulS, ↓v_mod, ↓v_fdiv, ↓v_pow, ↓v_neg, ↓v_lenL, ↓v_lenT, ↓v_lenS, ↓v_abs, ↓v_rev, ↓v_all, ↓v_any, ↓v_sum, ↓v_eq, ↓v_ne, ↓v_in, ↓v_notIn, ↓q_ii, ↓q_ss, ↓items_l, ↓items_t, ↓items_s, ↓items_r1, ↓items_r2, ↓sl_l, ↓sl_t, ↓sl_s, ↓put_1, ↓put_2, ↓pen_0, ↓pen_1, ↓pen_2, ↓v_ixL, ↓v_ixT, ↓ins_NoneType_none, ↓ins_NoneType_bool, ↓ins_NoneType_int, ↓ins_NoneType_str, ↓ins_NoneType_list, ↓ins_NoneType_tuple, ↓ins_NoneType_dict, ↓ins_bool_none, ↓ins_bool_bool, ↓ins_bool_int, ↓ins_bool_str, ↓ins_bool_list, ↓ins_bool_tuple, ↓ins_bool_dict, ↓ins_int_none, ↓ins_int_bool, ↓ins_int_int, ↓ins_int_str, ↓ins_int_list, ↓ins_int_tuple, ↓ins_int_dict, ↓ins_str_none, ↓ins_str_bool, ↓ins_str_int, ↓ins_str_str, ↓ins_str_list, ↓ins_str_tuple, ↓ins_str_dict, ↓ins_list_none, ↓ins_list_bool, ↓ins_list_int, ↓ins_list_str, ↓ins_list_list, ↓ins_list_tuple, ↓ins_list_dict, ↓ins_tuple_none, ↓ins_tuple_bool, ↓ins_tuple_int, ↓ins_tuple_str, ↓ins_tuple_list, ↓ins_tuple_tuple, ↓ins_tuple_dict, ↓ins_dict_none, ↓ins_dict_bool, ↓ins_dict_int, ↓ins_dict_str, ↓ins_dict_list, ↓ins_dict_tuple, ↓ins_dict_dict, ↓in_sign, ↓onClr_0, ↓onClr_S, ↓onW_nil, ↓onW_cons, ↓onRe_0, ↓onRe_S, ↓onBk_nil, ↓onBk_cons, ↓onTwo_l, ↓S_par, ↓a_tup, ↓onG_name, ↓onG_tup, ↓onGs_nil, ↓onGs_cons, ↓onTurn_nx, ↓onTurn_ct, ↓onTurn_bk, ↓onTurn_rt, ↓onLD_d, ↓v_ixAd, ↓v_inAd, ↓v_notInAd, ↓S_upd, ↓v_zip, ↓Wp_flatA, ↓v_int, ↓v_intB, ↓v_min, ↓v_gin, ↓v_gnin, ↓v_gix, ↓reduceIte, ↓Cp_nil, ↓Cp_cons, ↓Fl_nil, ↓Fl_cons, ↓at_0, ↓at_1, ↓at_2, ↓at_3, ↓at_4, ↓at_5, ↓at_6, List.length_cons, List.length_nil, cut1, ↓kf_keep]
  simp (config := { decide := true }) only [↓S_next, ↓S_bk, ↓S_ct, ↓S_rtd, ↓S_seq, ↓S_set, ↓S_drop, ↓S_ret, ↓S_if, ↓S_asg, ↓S_put, ↓S_app, ↓S_ext, ↓S_for, ↓Wp_pure, ↓Wp_opt, ↓Wp_bind, ↓Wp_ite, ↓Wp_var, ↓Wp_op, ↓Wp_un, ↓Wp_test, ↓Wp_dand, ↓Wp_dor, ↓Wp_dnot, ↓Wp_dandV, ↓Wp_dorV, ↓Wp_dnotV, ↓Wp_chain, ↓Wp_cb, ↓Wp_cons, ↓Wp_nil, ↓Wp_tup, ↓Wp_lst, ↓Wp_part, ↓Wp_nopart, ↓Wp_slice, ↓Wp_isi, ↓Wp_isi2, ↓Wp_m1, ↓Wp_call, ↓Wp_pix, ↓Wp_callP0, ↓Wp_callP1, ↓Wp_comp, ↓Wp_disp, ↓Wp_dpnil, ↓Wp_dpcons, ↓Wp_flat, ↓onNx_nx, ↓onNx_bk, ↓onNx_ct, ↓onNx_rt, ↓onRt_rt, ↓onRt_nx, ↓onS_some, ↓onB_b, ↓onI_i, ↓onStr_s, ↓onL_l, ↓lk_0, ↓lk_S, ↓onSet_0, ↓onSet_S, ↓onPut_0, ↓onPut_S, ↓ite_dec, ↓ite_ndec, ↓ite_tt, ↓ite_ff, ↓ite_nt, ↓ite_nf, ↓v_gt, ↓v_lt, ↓v_le, ↓v_ge, ↓v_ltS, ↓v_add, ↓v_addS, ↓v_addL, ↓v_addT, ↓v_addN, ↓v_sub, ↓v_mul, ↓v_mulS, ↓v_mod, ↓v_fdiv, ↓v_pow, ↓v_neg, ↓v_lenL, ↓v_lenT, ↓v_lenS, ↓v_abs, ↓v_rev, ↓v_all, ↓v_any, ↓v_sum, ↓v_eq, ↓v_ne, ↓v_in, ↓v_notIn, ↓q_ii, ↓q_ss, ↓items_l, ↓items_t, ↓items_s, ↓items_r1, ↓items_r2, ↓sl_l, ↓sl_t, ↓sl_s, ↓put_1, ↓put_2, ↓pen_0, ↓pen_1, ↓pen_2, ↓v_ixL, ↓v_ixT, ↓ins_NoneType_none, ↓ins_NoneType_bool, ↓ins_NoneType_int, ↓ins_NoneType_str, ↓ins_NoneType_list, ↓ins_NoneType_tuple, ↓ins_NoneType_dict, ↓ins_bool_none, ↓ins_bool_bool, ↓ins_bool_int, ↓ins_bool_str, ↓ins_bool_list, ↓ins_bool_tuple, ↓ins_bool_dict, ↓ins_int_none, ↓ins_int_bool, ↓ins_int_int, ↓ins_int_str, ↓ins_int_list, ↓ins_int_tuple, ↓ins_int_dict, ↓ins_str_none, ↓ins_str_bool, ↓ins_str_int, ↓ins_str_str, ↓ins_str_list, ↓ins_str_tuple, ↓ins_str_dict, ↓ins_list_none, ↓ins_list_bool, ↓ins_list_int, ↓ins_list_str, ↓ins_list_list, ↓ins_list_tuple, ↓ins_list_dict, ↓ins_tuple_none, ↓ins_tuple_bool, ↓ins_tuple_int, ↓ins_tuple_str, ↓ins_tuple_list, ↓ins_tuple_tuple, ↓ins_tuple_dict, ↓ins_dict_none, ↓ins_dict_bool, ↓ins_dict_int, ↓ins_dict_str, ↓ins_dict_list, ↓ins_dict_tuple, ↓ins_dict_dict, ↓in_sign, ↓onClr_0, ↓onClr_S, ↓onW_nil, ↓onW_cons, ↓onRe_0, ↓onRe_S, ↓onBk_nil, ↓onBk_cons, ↓onTwo_l, ↓S_par, ↓a_tup, ↓onG_name, ↓onG_tup, ↓onGs_nil, ↓onGs_cons, ↓onTurn_nx, ↓onTurn_ct, ↓onTurn_bk, ↓onTurn_rt, ↓onLD_d, ↓v_ixAd, ↓v_inAd, ↓v_notInAd, ↓S_upd, ↓v_zip, ↓Wp_flatA, ↓v_int, ↓v_intB, ↓v_min, ↓v_gin, ↓v_gnin, ↓v_gix, ↓reduceIte, ↓Cp_nil, ↓Cp_cons, ↓Fl_nil, ↓Fl_cons, ↓at_0, ↓at_1, ↓at_2, ↓at_3, ↓at_4, ↓at_5, ↓at_6, sg_wdwwm, fl_wdwwm, kf_keep, ↓MD.eq (is_part_w p1 h1), ↓MD.eq (is_part_d p2), ↓MD.eq (is_part_w p3 h3), ↓MD.eq (is_part_w p4 h4), ↓MD.eq (is_part_m p5), List.length_cons, List.length_nil, cut1, zipP, List.nil_append, List.cons_append, Nat.reduceAdd, Int.reduceAdd, ↓bls_cons, ↓bls_nil, lt0, le0, lt1, le1, lt2, le2, lt3, le3, lt4, le4, lt5, le5, lt6, le6, lt7, le7, lt8, le8, lt9, le9, lt10, le10, lt11, le11, lt12, le12, lt13, le13, lt14, le14, lt15, le15, lt16, le16, true_and, Option.isSome_some, ↓MD.eq (houses_keep p1 p2 p3 p4 p5)]
  refine ite_i (fun h => ?_) (fun h => ?_)
  · have ha := not_all h
    unfold B_keep
    rw [ha] <;> rfl
  · have ha := not_not_all h
    unfold B_keep
    rw [ha] <;> first | rfl | (simp (config := { decide := true }) only [↓S_next, ↓S_bk, ↓S_ct, ↓S_rtd, ↓S_seq, ↓S_set, ↓S_drop, ↓S_ret, ↓S_if, ↓S_asg, ↓S_put, ↓S_app, ↓S_ext, ↓S_for, ↓Wp_pure, ↓Wp_opt, ↓Wp_bind, ↓Wp_ite, ↓Wp_var, ↓Wp_op, ↓Wp_un, ↓Wp_test, ↓Wp_dand, ↓Wp_dor, ↓Wp_dnot, ↓Wp_dandV, ↓Wp_dorV, ↓Wp_dnotV, ↓Wp_chain, ↓Wp_cb, ↓Wp_cons, ↓Wp_nil, ↓Wp_tup, ↓Wp_lst, ↓Wp_part, ↓Wp_nopart, ↓Wp_slice, ↓Wp_isi, ↓Wp_isi2, ↓Wp_m1, ↓Wp_call, ↓Wp_pix, ↓Wp_callP0, ↓Wp_callP1, ↓Wp_comp, ↓Wp_disp, ↓Wp_dpnil, ↓Wp_dpcons, ↓Wp_flat, ↓onNx_nx, ↓onNx_bk, ↓onNx_ct, ↓onNx_rt, ↓onRt_rt, ↓onRt_nx, ↓onS_some, ↓onB_b, ↓onI_i, ↓onStr_s, ↓onL_l, ↓lk_0, ↓lk_S, ↓onSet_0, ↓onSet_S, ↓onPut_0, ↓onPut_S, ↓ite_dec, ↓ite_ndec, ↓ite_tt, ↓ite_ff, ↓ite_nt, ↓ite_nf, ↓v_gt, ↓v_lt, ↓v_le, ↓v_ge, ↓v_ltS, ↓v_add, ↓v_addS, ↓v_addL, ↓v_addT, ↓v_addN, ↓v_sub, ↓v_mul, ↓v_mulS, ↓v_mod, ↓v_fdiv, ↓v_pow, ↓v_neg, ↓v_lenL, ↓v_lenT, ↓v_lenS, ↓v_abs, ↓v_rev, ↓v_all, ↓v_any, ↓v_sum, ↓v_eq, ↓v_ne, ↓v_in, ↓v_notIn, ↓q_ii, ↓q_ss, ↓items_l, ↓items_t, ↓items_s, ↓items_r1, ↓items_r2, ↓sl_l, ↓sl_t, ↓sl_s, ↓put_1, ↓put_2, ↓pen_0, ↓pen_1, ↓pen_2, ↓v_ixL, ↓v_ixT, ↓ins_NoneType_none, ↓ins_NoneType_bool, ↓ins_NoneType_int, ↓ins_NoneType_str, ↓ins_NoneType_list, ↓ins_NoneType_tuple, ↓ins_NoneType_dict, ↓ins_bool_none, ↓ins_bool_bool, ↓ins_bool_int, ↓ins_bool_str, ↓ins_bool_list, ↓ins_bool_tuple, ↓ins_bool_dict, ↓ins_int_none, ↓ins_int_bool, ↓ins_int_int, ↓ins_int_str, ↓ins_int_list, ↓ins_int_tuple, ↓ins_int_dict, ↓ins_str_none, ↓ins_str_bool, ↓ins_str_int, ↓ins_str_str, ↓ins_str_list, ↓ins_str_tuple, ↓ins_str_dict, ↓ins_list_none, ↓ins_list_bool, ↓ins_list_int, ↓ins_list_str, ↓ins_list_list, ↓ins_list_tuple, ↓ins_list_dict, ↓ins_tuple_none, ↓ins_tuple_bool, ↓ins_tuple_int, ↓ins_tuple_str, ↓ins_tuple_list, ↓ins_tuple_tuple, ↓ins_tuple_dict, ↓ins_dict_none, ↓ins_dict_bool, ↓ins_dict_int, ↓ins_dict_str, ↓ins_dict_list, ↓ins_dict_tuple, ↓ins_dict_dict, ↓in_sign, ↓onClr_0, ↓onClr_S, ↓onW_nil, ↓onW_cons, ↓onRe_0, ↓onRe_S, ↓onBk_nil, ↓onBk_cons, ↓onTwo_l, ↓S_par, ↓a_tup, ↓onG_name, ↓onG_tup, ↓onGs_nil, ↓onGs_cons, ↓onTurn_nx, ↓onTurn_ct, ↓onTurn_bk, ↓onTurn_rt, ↓onLD_d, ↓v_ixAd, ↓v_inAd, ↓v_notInAd, ↓S_upd, ↓v_zip, ↓Wp_flatA, ↓v_int, ↓v_intB, ↓v_min, ↓v_gin, ↓v_gnin, ↓v_gix, ↓reduceIte, ↓at_0, ↓at_1, ↓at_2, ↓at_3, ↓at_4, ↓at_5, ↓at_6, List.length_cons, List.length_nil, cut1, zipP, List.nil_append, List.cons_append, Nat.reduceAdd, Int.reduceAdd, ↓bls_cons, ↓bls_nil, lt0, le0, lt1, le1, lt2, le2, lt3, le3, lt4, le4, lt5, le5, lt6, le6, lt7, le7, lt8, le8, lt9, le9, lt10, le10, lt11, le11, lt12, le12, lt13, le13, lt14, le14, lt15, le15, lt16, le16, true_and, Option.isSome_some])
def B_give (p1 p2 p3 p4 p5 p6 p7 : D) : Bool := [isW p1, within 0 999 p2, isW p3, isW p4, isW p5, within 0 9 p6, within 0 1000000000 p7].all id && !(PyData.eqv p4 p5)
theorem houses_give (p1 p2 p3 p4 p5 p6 p7 : D) : m_houses_in [.tuple [.str "give", p1, p2, p3, p4, p5, p6, p7]] = some (.list [p4, p5]) := by
  refine MD.get (MD_of rfl ?_)
  show Sp2 g_houses_in [some _, none] _
  unfold g_houses_in
  simp (config := { decide := true }) only [↓S_next, ↓S_bk, ↓S_ct, ↓S_rtd, ↓S_seq, ↓S_set, ↓S_drop, ↓S_ret, ↓S_if, ↓S_asg, ↓S_put, ↓S_app, ↓S_ext, ↓S_for, ↓Wp_pure, ↓Wp_opt, ↓Wp_bind, ↓Wp_ite, ↓Wp_var, ↓Wp_op, ↓Wp_un, ↓Wp_test, ↓Wp_dand, ↓Wp_dor, ↓Wp_dnot, ↓Wp_dandV, ↓Wp_dorV, ↓Wp_dnotV, ↓Wp_chain, ↓Wp_cb, ↓Wp_cons, ↓Wp_nil, ↓Wp_tup, ↓Wp_lst, ↓Wp_part, ↓Wp_nopart, ↓Wp_slice, ↓Wp_isi, ↓Wp_isi2, ↓Wp_m1, ↓Wp_call, ↓Wp_pix, ↓Wp_callP0, ↓Wp_callP1, ↓Wp_comp, ↓Wp_disp, ↓Wp_dpnil, ↓Wp_dpcons, ↓Wp_flat, ↓onNx_nx, ↓onNx_bk, ↓onNx_ct, ↓onNx_rt, ↓onRt_rt, ↓onRt_nx, ↓onS_some, ↓onB_b, ↓onI_i, ↓onStr_s, ↓onL_l, ↓lk_0, ↓lk_S, ↓onSet_0, ↓onSet_S, ↓onPut_0, ↓onPut_S, ↓ite_dec, ↓ite_ndec, ↓ite_tt, ↓ite_ff, ↓ite_nt, ↓ite_nf, ↓v_gt, ↓v_lt, ↓v_le, ↓v_ge, ↓v_ltS, ↓v_add, ↓v_addS, ↓v_addL, ↓v_addT, ↓v_addN, ↓v_sub, ↓v_mul, ↓v_mulS, ↓v_mod, ↓v_fdiv, ↓v_pow, ↓v_neg, ↓v_lenL, ↓v_lenT, ↓v_lenS, ↓v_abs, ↓v_rev, ↓v_all, ↓v_any, ↓v_sum, ↓v_eq, ↓v_ne, ↓v_in, ↓v_notIn, ↓q_ii, ↓q_ss, ↓items_l, ↓items_t, ↓items_s, ↓items_r1, ↓items_r2, ↓sl_l, ↓sl_t, ↓sl_s, ↓put_1, ↓put_2, ↓pen_0, ↓pen_1, ↓pen_2, ↓v_ixL, ↓v_ixT, ↓ins_NoneType_none, ↓ins_NoneType_bool, ↓ins_NoneType_int, ↓ins_NoneType_str, ↓ins_NoneType_list, ↓ins_NoneType_tuple, ↓ins_NoneType_dict, ↓ins_bool_none, ↓ins_bool_bool, ↓ins_bool_int, ↓ins_bool_str, ↓ins_bool_list, ↓ins_bool_tuple, ↓ins_bool_dict, ↓ins_int_none, ↓ins_int_bool, ↓ins_int_int, ↓ins_int_str, ↓ins_int_list, ↓ins_int_tuple, ↓ins_int_dict, ↓ins_str_none, ↓ins_str_bool, ↓ins_str_int, ↓ins_str_str, ↓ins_str_list, ↓ins_str_tuple, ↓ins_str_dict, ↓ins_list_none, ↓ins_list_bool, ↓ins_list_int, ↓ins_list_str, ↓ins_list_list, ↓ins_list_tuple, ↓ins_list_dict, ↓ins_tuple_none, ↓ins_tuple_bool, ↓ins_tuple_int, ↓ins_tuple_str, ↓ins_tuple_list, ↓ins_tuple_tuple, ↓ins_tuple_dict, ↓ins_dict_none, ↓ins_dict_bool, ↓ins_dict_int, ↓ins_dict_str, ↓ins_dict_list, ↓ins_dict_tuple, ↓ins_dict_dict, ↓in_sign, ↓onClr_0, ↓onClr_S, ↓onW_nil, ↓onW_cons, ↓onRe_0, ↓onRe_S, ↓onBk_nil, ↓onBk_cons, ↓onTwo_l, ↓S_par, ↓a_tup, ↓onG_name, ↓onG_tup, ↓onGs_nil, ↓onGs_cons, ↓onTurn_nx, ↓onTurn_ct, ↓onTurn_bk, ↓onTurn_rt, ↓onLD_d, ↓v_ixAd, ↓v_inAd, ↓v_notInAd, ↓S_upd, ↓v_zip, ↓Wp_flatA, ↓v_int, ↓v_intB, ↓v_min, ↓v_gin, ↓v_gnin, ↓v_gix, ↓reduceIte, ↓Cp_nil, ↓Cp_cons, ↓Fl_nil, ↓Fl_cons, ↓at_0, ↓at_1, ↓at_2, ↓at_3, ↓at_4, ↓at_5, ↓at_6, ↓kh_give, List.length_cons, List.length_nil, cut1, zipP, List.nil_append, List.cons_append, Nat.reduceAdd, Int.reduceAdd, ↓bls_cons, ↓bls_nil, lt0, le0, lt1, le1, lt2, le2, lt3, le3, lt4, le4, lt5, le5, lt6, le6, lt7, le7, lt8, le8, lt9, le9, lt10, le10, lt11, le11, lt12, le12, lt13, le13, lt14, le14, lt15, le15, lt16, le16, true_and, Option.isSome_some]
theorem is_page_give (p1 p2 p3 p4 p5 p6 p7 : D) (h1 : ∀ z, p1 = .str z → z.length ≤ 1000) (h3 : ∀ z, p3 = .str z → z.length ≤ 1000) (h4 : ∀ z, p4 = .str z → z.length ≤ 1000) (h5 : ∀ z, p5 = .str z → z.length ≤ 1000) : m_is_page [.tuple [.str "give", p1, p2, p3, p4, p5, p6, p7]] = some (.bool (B_give p1 p2 p3 p4 p5 p6 p7)) := by
  refine MD.get (MD_of rfl ?_)
  show Sp2 g_is_page [some _, none, none, none, none] _
  unfold g_is_page
  simp only [↓S_next, ↓S_bk, ↓S_ct, ↓S_rtd, ↓S_seq, ↓S_set, ↓S_drop, ↓S_ret, ↓S_if, ↓S_asg, ↓S_put, ↓S_app, ↓S_ext, ↓S_for, ↓Wp_pure, ↓Wp_opt, ↓Wp_bind, ↓Wp_ite, ↓Wp_var, ↓Wp_op, ↓Wp_un, ↓Wp_test, ↓Wp_dand, ↓Wp_dor, ↓Wp_dnot, ↓Wp_dandV, ↓Wp_dorV, ↓Wp_dnotV, ↓Wp_chain, ↓Wp_cb, ↓Wp_cons, ↓Wp_nil, ↓Wp_tup, ↓Wp_lst, ↓Wp_part, ↓Wp_nopart, ↓Wp_slice, ↓Wp_isi, ↓Wp_isi2, ↓Wp_m1, ↓Wp_call, ↓Wp_pix, ↓Wp_callP0, ↓Wp_callP1, ↓Wp_comp, ↓Wp_disp, ↓Wp_dpnil, ↓Wp_dpcons, ↓Wp_flat, ↓onNx_nx, ↓onNx_bk, ↓onNx_ct, ↓onNx_rt, ↓onRt_rt, ↓onRt_nx, ↓onS_some, ↓onB_b, ↓onI_i, ↓onStr_s, ↓onL_l, ↓lk_0, ↓lk_S, ↓onSet_0, ↓onSet_S, ↓onPut_0, ↓onPut_S, ↓ite_dec, ↓ite_ndec, ↓ite_tt, ↓ite_ff, ↓ite_nt, ↓ite_nf, ↓v_gt, ↓v_lt, ↓v_le, ↓v_ge, ↓v_ltS, ↓v_add, ↓v_addS, ↓v_addL, ↓v_addT, ↓v_addN, ↓v_sub, ↓v_mul, ↓v_mulS, ↓v_mod, ↓v_fdiv, ↓v_pow, ↓v_neg, ↓v_lenL, ↓v_lenT, ↓v_lenS, ↓v_abs, ↓v_rev, ↓v_all, ↓v_any, ↓v_sum, ↓v_eq, ↓v_ne, ↓v_in, ↓v_notIn, ↓q_ii, ↓q_ss, ↓items_l, ↓items_t, ↓items_s, ↓items_r1, ↓items_r2, ↓sl_l, ↓sl_t, ↓sl_s, ↓put_1, ↓put_2, ↓pen_0, ↓pen_1, ↓pen_2, ↓v_ixL, ↓v_ixT, ↓ins_NoneType_none, ↓ins_NoneType_bool, ↓ins_NoneType_int, ↓ins_NoneType_str, ↓ins_NoneType_list, ↓ins_NoneType_tuple, ↓ins_NoneType_dict, ↓ins_bool_none, ↓ins_bool_bool, ↓ins_bool_int, ↓ins_bool_str, ↓ins_bool_list, ↓ins_bool_tuple, ↓ins_bool_dict, ↓ins_int_none, ↓ins_int_bool, ↓ins_int_int, ↓ins_int_str, ↓ins_int_list, ↓ins_int_tuple, ↓ins_int_dict, ↓ins_str_none, ↓ins_str_bool, ↓ins_str_int, ↓ins_str_str, ↓ins_str_list, ↓ins_str_tuple, ↓ins_str_dict, ↓ins_list_none, ↓ins_list_bool, ↓ins_list_int, ↓ins_list_str, ↓ins_list_list, ↓ins_list_tuple, ↓ins_list_dict, ↓ins_tuple_none, ↓ins_tuple_bool, ↓ins_tuple_int, ↓ins_tuple_str, ↓ins_tuple_list, ↓ins_tuple_tuple, ↓ins_tuple_dict, ↓ins_dict_none, ↓ins_dict_bool, ↓ins_dict_int, ↓ins_dict_str, ↓ins_dict_list, ↓ins_dict_tuple, ↓ins_dict_dict, ↓in_sign, ↓onClr_0, ↓onClr_S, ↓onW_nil, ↓onW_cons, ↓onRe_0, ↓onRe_S, ↓onBk_nil, ↓onBk_cons, ↓onTwo_l, ↓S_par, ↓a_tup, ↓onG_name, ↓onG_tup, ↓onGs_nil, ↓onGs_cons, ↓onTurn_nx, ↓onTurn_ct, ↓onTurn_bk, ↓onTurn_rt, ↓onLD_d, ↓v_ixAd, ↓v_inAd, ↓v_notInAd, ↓S_upd, ↓v_zip, ↓Wp_flatA, ↓v_int, ↓v_intB, ↓v_min, ↓v_gin, ↓v_gnin, ↓v_gix, ↓reduceIte, ↓Cp_nil, ↓Cp_cons, ↓Fl_nil, ↓Fl_cons, ↓at_0, ↓at_1, ↓at_2, ↓at_3, ↓at_4, ↓at_5, ↓at_6, List.length_cons, List.length_nil, cut1, ↓kf_give]
  simp (config := { decide := true }) only [↓S_next, ↓S_bk, ↓S_ct, ↓S_rtd, ↓S_seq, ↓S_set, ↓S_drop, ↓S_ret, ↓S_if, ↓S_asg, ↓S_put, ↓S_app, ↓S_ext, ↓S_for, ↓Wp_pure, ↓Wp_opt, ↓Wp_bind, ↓Wp_ite, ↓Wp_var, ↓Wp_op, ↓Wp_un, ↓Wp_test, ↓Wp_dand, ↓Wp_dor, ↓Wp_dnot, ↓Wp_dandV, ↓Wp_dorV, ↓Wp_dnotV, ↓Wp_chain, ↓Wp_cb, ↓Wp_cons, ↓Wp_nil, ↓Wp_tup, ↓Wp_lst, ↓Wp_part, ↓Wp_nopart, ↓Wp_slice, ↓Wp_isi, ↓Wp_isi2, ↓Wp_m1, ↓Wp_call, ↓Wp_pix, ↓Wp_callP0, ↓Wp_callP1, ↓Wp_comp, ↓Wp_disp, ↓Wp_dpnil, ↓Wp_dpcons, ↓Wp_flat, ↓onNx_nx, ↓onNx_bk, ↓onNx_ct, ↓onNx_rt, ↓onRt_rt, ↓onRt_nx, ↓onS_some, ↓onB_b, ↓onI_i, ↓onStr_s, ↓onL_l, ↓lk_0, ↓lk_S, ↓onSet_0, ↓onSet_S, ↓onPut_0, ↓onPut_S, ↓ite_dec, ↓ite_ndec, ↓ite_tt, ↓ite_ff, ↓ite_nt, ↓ite_nf, ↓v_gt, ↓v_lt, ↓v_le, ↓v_ge, ↓v_ltS, ↓v_add, ↓v_addS, ↓v_addL, ↓v_addT, ↓v_addN, ↓v_sub, ↓v_mul, ↓v_mulS, ↓v_mod, ↓v_fdiv, ↓v_pow, ↓v_neg, ↓v_lenL, ↓v_lenT, ↓v_lenS, ↓v_abs, ↓v_rev, ↓v_all, ↓v_any, ↓v_sum, ↓v_eq, ↓v_ne, ↓v_in, ↓v_notIn, ↓q_ii, ↓q_ss, ↓items_l, ↓items_t, ↓items_s, ↓items_r1, ↓items_r2, ↓sl_l, ↓sl_t, ↓sl_s, ↓put_1, ↓put_2, ↓pen_0, ↓pen_1, ↓pen_2, ↓v_ixL, ↓v_ixT, ↓ins_NoneType_none, ↓ins_NoneType_bool, ↓ins_NoneType_int, ↓ins_NoneType_str, ↓ins_NoneType_list, ↓ins_NoneType_tuple, ↓ins_NoneType_dict, ↓ins_bool_none, ↓ins_bool_bool, ↓ins_bool_int, ↓ins_bool_str, ↓ins_bool_list, ↓ins_bool_tuple, ↓ins_bool_dict, ↓ins_int_none, ↓ins_int_bool, ↓ins_int_int, ↓ins_int_str, ↓ins_int_list, ↓ins_int_tuple, ↓ins_int_dict, ↓ins_str_none, ↓ins_str_bool, ↓ins_str_int, ↓ins_str_str, ↓ins_str_list, ↓ins_str_tuple, ↓ins_str_dict, ↓ins_list_none, ↓ins_list_bool, ↓ins_list_int, ↓ins_list_str, ↓ins_list_list, ↓ins_list_tuple, ↓ins_list_dict, ↓ins_tuple_none, ↓ins_tuple_bool, ↓ins_tuple_int, ↓ins_tuple_str, ↓ins_tuple_list, ↓ins_tuple_tuple, ↓ins_tuple_dict, ↓ins_dict_none, ↓ins_dict_bool, ↓ins_dict_int, ↓ins_dict_str, ↓ins_dict_list, ↓ins_dict_tuple, ↓ins_dict_dict, ↓in_sign, ↓onClr_0, ↓onClr_S, ↓onW_nil, ↓onW_cons, ↓onRe_0, ↓onRe_S, ↓onBk_nil, ↓onBk_cons, ↓onTwo_l, ↓S_par, ↓a_tup, ↓onG_name, ↓onG_tup, ↓onGs_nil, ↓onGs_cons, ↓onTurn_nx, ↓onTurn_ct, ↓onTurn_bk, ↓onTurn_rt, ↓onLD_d, ↓v_ixAd, ↓v_inAd, ↓v_notInAd, ↓S_upd, ↓v_zip, ↓Wp_flatA, ↓v_int, ↓v_intB, ↓v_min, ↓v_gin, ↓v_gnin, ↓v_gix, ↓reduceIte, ↓Cp_nil, ↓Cp_cons, ↓Fl_nil, ↓Fl_cons, ↓at_0, ↓at_1, ↓at_2, ↓at_3, ↓at_4, ↓at_5, ↓at_6, sg_wdwwwtm, fl_wdwwwtm, kf_give, ↓MD.eq (is_part_w p1 h1), ↓MD.eq (is_part_d p2), ↓MD.eq (is_part_w p3 h3), ↓MD.eq (is_part_w p4 h4), ↓MD.eq (is_part_w p5 h5), ↓MD.eq (is_part_t p6), ↓MD.eq (is_part_m p7), List.length_cons, List.length_nil, cut1, zipP, List.nil_append, List.cons_append, Nat.reduceAdd, Int.reduceAdd, ↓bls_cons, ↓bls_nil, lt0, le0, lt1, le1, lt2, le2, lt3, le3, lt4, le4, lt5, le5, lt6, le6, lt7, le7, lt8, le8, lt9, le9, lt10, le10, lt11, le11, lt12, le12, lt13, le13, lt14, le14, lt15, le15, lt16, le16, true_and, Option.isSome_some, ↓MD.eq (houses_give p1 p2 p3 p4 p5 p6 p7)]
  refine ite_i (fun h => ?_) (fun h => ?_)
  · have ha := not_all h
    unfold B_give
    rw [ha] <;> rfl
  · have ha := not_not_all h
    unfold B_give
    rw [ha]
    have hb := ha
    simp only [List.all_cons, List.all_nil, id, Bool.and_eq_true, Bool.and_true] at hb
    obtain ⟨z4, rfl⟩ := isW_is hb.2.2.2.1
    obtain ⟨z5, rfl⟩ := isW_is hb.2.2.2.2.1
    simp (config := { decide := true }) only [↓S_next, ↓S_bk, ↓S_ct, ↓S_rtd, ↓S_seq, ↓S_set, ↓S_drop, ↓S_ret, ↓S_if, ↓S_asg, ↓S_put, ↓S_app, ↓S_ext, ↓S_for, ↓Wp_pure, ↓Wp_opt, ↓Wp_bind, ↓Wp_ite, ↓Wp_var, ↓Wp_op, ↓Wp_un, ↓Wp_test, ↓Wp_dand, ↓Wp_dor, ↓Wp_dnot, ↓Wp_dandV, ↓Wp_dorV, ↓Wp_dnotV, ↓Wp_chain, ↓Wp_cb, ↓Wp_cons, ↓Wp_nil, ↓Wp_tup, ↓Wp_lst, ↓Wp_part, ↓Wp_nopart, ↓Wp_slice, ↓Wp_isi, ↓Wp_isi2, ↓Wp_m1, ↓Wp_call, ↓Wp_pix, ↓Wp_callP0, ↓Wp_callP1, ↓Wp_comp, ↓Wp_disp, ↓Wp_dpnil, ↓Wp_dpcons, ↓Wp_flat, ↓onNx_nx, ↓onNx_bk, ↓onNx_ct, ↓onNx_rt, ↓onRt_rt, ↓onRt_nx, ↓onS_some, ↓onB_b, ↓onI_i, ↓onStr_s, ↓onL_l, ↓lk_0, ↓lk_S, ↓onSet_0, ↓onSet_S, ↓onPut_0, ↓onPut_S, ↓ite_dec, ↓ite_ndec, ↓ite_tt, ↓ite_ff, ↓ite_nt, ↓ite_nf, ↓v_gt, ↓v_lt, ↓v_le, ↓v_ge, ↓v_ltS, ↓v_add, ↓v_addS, ↓v_addL, ↓v_addT, ↓v_addN, ↓v_sub, ↓v_mul, ↓v_mulS, ↓v_mod, ↓v_fdiv, ↓v_pow, ↓v_neg, ↓v_lenL, ↓v_lenT, ↓v_lenS, ↓v_abs, ↓v_rev, ↓v_all, ↓v_any, ↓v_sum, ↓v_eq, ↓v_ne, ↓v_in, ↓v_notIn, ↓q_ii, ↓q_ss, ↓items_l, ↓items_t, ↓items_s, ↓items_r1, ↓items_r2, ↓sl_l, ↓sl_t, ↓sl_s, ↓put_1, ↓put_2, ↓pen_0, ↓pen_1, ↓pen_2, ↓v_ixL, ↓v_ixT, ↓ins_NoneType_none, ↓ins_NoneType_bool, ↓ins_NoneType_int, ↓ins_NoneType_str, ↓ins_NoneType_list, ↓ins_NoneType_tuple, ↓ins_NoneType_dict, ↓ins_bool_none, ↓ins_bool_bool, ↓ins_bool_int, ↓ins_bool_str, ↓ins_bool_list, ↓ins_bool_tuple, ↓ins_bool_dict, ↓ins_int_none, ↓ins_int_bool, ↓ins_int_int, ↓ins_int_str, ↓ins_int_list, ↓ins_int_tuple, ↓ins_int_dict, ↓ins_str_none, ↓ins_str_bool, ↓ins_str_int, ↓ins_str_str, ↓ins_str_list, ↓ins_str_tuple, ↓ins_str_dict, ↓ins_list_none, ↓ins_list_bool, ↓ins_list_int, ↓ins_list_str, ↓ins_list_list, ↓ins_list_tuple, ↓ins_list_dict, ↓ins_tuple_none, ↓ins_tuple_bool, ↓ins_tuple_int, ↓ins_tuple_str, ↓ins_tuple_list, ↓ins_tuple_tuple, ↓ins_tuple_dict, ↓ins_dict_none, ↓ins_dict_bool, ↓ins_dict_int, ↓ins_dict_str, ↓ins_dict_list, ↓ins_dict_tuple, ↓ins_dict_dict, ↓in_sign, ↓onClr_0, ↓onClr_S, ↓onW_nil, ↓onW_cons, ↓onRe_0, ↓onRe_S, ↓onBk_nil, ↓onBk_cons, ↓onTwo_l, ↓S_par, ↓a_tup, ↓onG_name, ↓onG_tup, ↓onGs_nil, ↓onGs_cons, ↓onTurn_nx, ↓onTurn_ct, ↓onTurn_bk, ↓onTurn_rt, ↓onLD_d, ↓v_ixAd, ↓v_inAd, ↓v_notInAd, ↓S_upd, ↓v_zip, ↓Wp_flatA, ↓v_int, ↓v_intB, ↓v_min, ↓v_gin, ↓v_gnin, ↓v_gix, ↓reduceIte, ↓at_0, ↓at_1, ↓at_2, ↓at_3, ↓at_4, ↓at_5, ↓at_6, List.length_cons, List.length_nil, cut1, zipP, List.nil_append, List.cons_append, Nat.reduceAdd, Int.reduceAdd, ↓bls_cons, ↓bls_nil, lt0, le0, lt1, le1, lt2, le2, lt3, le3, lt4, le4, lt5, le5, lt6, le6, lt7, le7, lt8, le8, lt9, le9, lt10, le10, lt11, le11, lt12, le12, lt13, le13, lt14, le14, lt15, le15, lt16, le16, true_and, Option.isSome_some]
    rw [eqv_ss]
    refine ite_i (fun h2 => ?_) (fun h2 => ?_)
    · rw [decide_eq_true h2]
      rfl
    · rw [decide_eq_false h2]
      rfl
def B_goes (p1 p2 p3 p4 : D) : Bool := [isW p1, within 0 999 p2, isW p3, isW p4].all id
theorem houses_goes (p1 p2 p3 p4 : D) : m_houses_in [.tuple [.str "goes", p1, p2, p3, p4]] = some (.list [p4]) := by
  refine MD.get (MD_of rfl ?_)
  show Sp2 g_houses_in [some _, none] _
  unfold g_houses_in
  simp (config := { decide := true }) only [↓S_next, ↓S_bk, ↓S_ct, ↓S_rtd, ↓S_seq, ↓S_set, ↓S_drop, ↓S_ret, ↓S_if, ↓S_asg, ↓S_put, ↓S_app, ↓S_ext, ↓S_for, ↓Wp_pure, ↓Wp_opt, ↓Wp_bind, ↓Wp_ite, ↓Wp_var, ↓Wp_op, ↓Wp_un, ↓Wp_test, ↓Wp_dand, ↓Wp_dor, ↓Wp_dnot, ↓Wp_dandV, ↓Wp_dorV, ↓Wp_dnotV, ↓Wp_chain, ↓Wp_cb, ↓Wp_cons, ↓Wp_nil, ↓Wp_tup, ↓Wp_lst, ↓Wp_part, ↓Wp_nopart, ↓Wp_slice, ↓Wp_isi, ↓Wp_isi2, ↓Wp_m1, ↓Wp_call, ↓Wp_pix, ↓Wp_callP0, ↓Wp_callP1, ↓Wp_comp, ↓Wp_disp, ↓Wp_dpnil, ↓Wp_dpcons, ↓Wp_flat, ↓onNx_nx, ↓onNx_bk, ↓onNx_ct, ↓onNx_rt, ↓onRt_rt, ↓onRt_nx, ↓onS_some, ↓onB_b, ↓onI_i, ↓onStr_s, ↓onL_l, ↓lk_0, ↓lk_S, ↓onSet_0, ↓onSet_S, ↓onPut_0, ↓onPut_S, ↓ite_dec, ↓ite_ndec, ↓ite_tt, ↓ite_ff, ↓ite_nt, ↓ite_nf, ↓v_gt, ↓v_lt, ↓v_le, ↓v_ge, ↓v_ltS, ↓v_add, ↓v_addS, ↓v_addL, ↓v_addT, ↓v_addN, ↓v_sub, ↓v_mul, ↓v_mulS, ↓v_mod, ↓v_fdiv, ↓v_pow, ↓v_neg, ↓v_lenL, ↓v_lenT, ↓v_lenS, ↓v_abs, ↓v_rev, ↓v_all, ↓v_any, ↓v_sum, ↓v_eq, ↓v_ne, ↓v_in, ↓v_notIn, ↓q_ii, ↓q_ss, ↓items_l, ↓items_t, ↓items_s, ↓items_r1, ↓items_r2, ↓sl_l, ↓sl_t, ↓sl_s, ↓put_1, ↓put_2, ↓pen_0, ↓pen_1, ↓pen_2, ↓v_ixL, ↓v_ixT, ↓ins_NoneType_none, ↓ins_NoneType_bool, ↓ins_NoneType_int, ↓ins_NoneType_str, ↓ins_NoneType_list, ↓ins_NoneType_tuple, ↓ins_NoneType_dict, ↓ins_bool_none, ↓ins_bool_bool, ↓ins_bool_int, ↓ins_bool_str, ↓ins_bool_list, ↓ins_bool_tuple, ↓ins_bool_dict, ↓ins_int_none, ↓ins_int_bool, ↓ins_int_int, ↓ins_int_str, ↓ins_int_list, ↓ins_int_tuple, ↓ins_int_dict, ↓ins_str_none, ↓ins_str_bool, ↓ins_str_int, ↓ins_str_str, ↓ins_str_list, ↓ins_str_tuple, ↓ins_str_dict, ↓ins_list_none, ↓ins_list_bool, ↓ins_list_int, ↓ins_list_str, ↓ins_list_list, ↓ins_list_tuple, ↓ins_list_dict, ↓ins_tuple_none, ↓ins_tuple_bool, ↓ins_tuple_int, ↓ins_tuple_str, ↓ins_tuple_list, ↓ins_tuple_tuple, ↓ins_tuple_dict, ↓ins_dict_none, ↓ins_dict_bool, ↓ins_dict_int, ↓ins_dict_str, ↓ins_dict_list, ↓ins_dict_tuple, ↓ins_dict_dict, ↓in_sign, ↓onClr_0, ↓onClr_S, ↓onW_nil, ↓onW_cons, ↓onRe_0, ↓onRe_S, ↓onBk_nil, ↓onBk_cons, ↓onTwo_l, ↓S_par, ↓a_tup, ↓onG_name, ↓onG_tup, ↓onGs_nil, ↓onGs_cons, ↓onTurn_nx, ↓onTurn_ct, ↓onTurn_bk, ↓onTurn_rt, ↓onLD_d, ↓v_ixAd, ↓v_inAd, ↓v_notInAd, ↓S_upd, ↓v_zip, ↓Wp_flatA, ↓v_int, ↓v_intB, ↓v_min, ↓v_gin, ↓v_gnin, ↓v_gix, ↓reduceIte, ↓Cp_nil, ↓Cp_cons, ↓Fl_nil, ↓Fl_cons, ↓at_0, ↓at_1, ↓at_2, ↓at_3, ↓at_4, ↓at_5, ↓at_6, ↓kh_goes, List.length_cons, List.length_nil, cut1, zipP, List.nil_append, List.cons_append, Nat.reduceAdd, Int.reduceAdd, ↓bls_cons, ↓bls_nil, lt0, le0, lt1, le1, lt2, le2, lt3, le3, lt4, le4, lt5, le5, lt6, le6, lt7, le7, lt8, le8, lt9, le9, lt10, le10, lt11, le11, lt12, le12, lt13, le13, lt14, le14, lt15, le15, lt16, le16, true_and, Option.isSome_some]
theorem is_page_goes (p1 p2 p3 p4 : D) (h1 : ∀ z, p1 = .str z → z.length ≤ 1000) (h3 : ∀ z, p3 = .str z → z.length ≤ 1000) (h4 : ∀ z, p4 = .str z → z.length ≤ 1000) : m_is_page [.tuple [.str "goes", p1, p2, p3, p4]] = some (.bool (B_goes p1 p2 p3 p4)) := by
  refine MD.get (MD_of rfl ?_)
  show Sp2 g_is_page [some _, none, none, none, none] _
  unfold g_is_page
  simp only [↓S_next, ↓S_bk, ↓S_ct, ↓S_rtd, ↓S_seq, ↓S_set, ↓S_drop, ↓S_ret, ↓S_if, ↓S_asg, ↓S_put, ↓S_app, ↓S_ext, ↓S_for, ↓Wp_pure, ↓Wp_opt, ↓Wp_bind, ↓Wp_ite, ↓Wp_var, ↓Wp_op, ↓Wp_un, ↓Wp_test, ↓Wp_dand, ↓Wp_dor, ↓Wp_dnot, ↓Wp_dandV, ↓Wp_dorV, ↓Wp_dnotV, ↓Wp_chain, ↓Wp_cb, ↓Wp_cons, ↓Wp_nil, ↓Wp_tup, ↓Wp_lst, ↓Wp_part, ↓Wp_nopart, ↓Wp_slice, ↓Wp_isi, ↓Wp_isi2, ↓Wp_m1, ↓Wp_call, ↓Wp_pix, ↓Wp_callP0, ↓Wp_callP1, ↓Wp_comp, ↓Wp_disp, ↓Wp_dpnil, ↓Wp_dpcons, ↓Wp_flat, ↓onNx_nx, ↓onNx_bk, ↓onNx_ct, ↓onNx_rt, ↓onRt_rt, ↓onRt_nx, ↓onS_some, ↓onB_b, ↓onI_i, ↓onStr_s, ↓onL_l, ↓lk_0, ↓lk_S, ↓onSet_0, ↓onSet_S, ↓onPut_0, ↓onPut_S, ↓ite_dec, ↓ite_ndec, ↓ite_tt, ↓ite_ff, ↓ite_nt, ↓ite_nf, ↓v_gt, ↓v_lt, ↓v_le, ↓v_ge, ↓v_ltS, ↓v_add, ↓v_addS, ↓v_addL, ↓v_addT, ↓v_addN, ↓v_sub, ↓v_mul, ↓v_mulS, ↓v_mod, ↓v_fdiv, ↓v_pow, ↓v_neg, ↓v_lenL, ↓v_lenT, ↓v_lenS, ↓v_abs, ↓v_rev, ↓v_all, ↓v_any, ↓v_sum, ↓v_eq, ↓v_ne, ↓v_in, ↓v_notIn, ↓q_ii, ↓q_ss, ↓items_l, ↓items_t, ↓items_s, ↓items_r1, ↓items_r2, ↓sl_l, ↓sl_t, ↓sl_s, ↓put_1, ↓put_2, ↓pen_0, ↓pen_1, ↓pen_2, ↓v_ixL, ↓v_ixT, ↓ins_NoneType_none, ↓ins_NoneType_bool, ↓ins_NoneType_int, ↓ins_NoneType_str, ↓ins_NoneType_list, ↓ins_NoneType_tuple, ↓ins_NoneType_dict, ↓ins_bool_none, ↓ins_bool_bool, ↓ins_bool_int, ↓ins_bool_str, ↓ins_bool_list, ↓ins_bool_tuple, ↓ins_bool_dict, ↓ins_int_none, ↓ins_int_bool, ↓ins_int_int, ↓ins_int_str, ↓ins_int_list, ↓ins_int_tuple, ↓ins_int_dict, ↓ins_str_none, ↓ins_str_bool, ↓ins_str_int, ↓ins_str_str, ↓ins_str_list, ↓ins_str_tuple, ↓ins_str_dict, ↓ins_list_none, ↓ins_list_bool, ↓ins_list_int, ↓ins_list_str, ↓ins_list_list, ↓ins_list_tuple, ↓ins_list_dict, ↓ins_tuple_none, ↓ins_tuple_bool, ↓ins_tuple_int, ↓ins_tuple_str, ↓ins_tuple_list, ↓ins_tuple_tuple, ↓ins_tuple_dict, ↓ins_dict_none, ↓ins_dict_bool, ↓ins_dict_int, ↓ins_dict_str, ↓ins_dict_list, ↓ins_dict_tuple, ↓ins_dict_dict, ↓in_sign, ↓onClr_0, ↓onClr_S, ↓onW_nil, ↓onW_cons, ↓onRe_0, ↓onRe_S, ↓onBk_nil, ↓onBk_cons, ↓onTwo_l, ↓S_par, ↓a_tup, ↓onG_name, ↓onG_tup, ↓onGs_nil, ↓onGs_cons, ↓onTurn_nx, ↓onTurn_ct, ↓onTurn_bk, ↓onTurn_rt, ↓onLD_d, ↓v_ixAd, ↓v_inAd, ↓v_notInAd, ↓S_upd, ↓v_zip, ↓Wp_flatA, ↓v_int, ↓v_intB, ↓v_min, ↓v_gin, ↓v_gnin, ↓v_gix, ↓reduceIte, ↓Cp_nil, ↓Cp_cons, ↓Fl_nil, ↓Fl_cons, ↓at_0, ↓at_1, ↓at_2, ↓at_3, ↓at_4, ↓at_5, ↓at_6, List.length_cons, List.length_nil, cut1, ↓kf_goes]
  simp (config := { decide := true }) only [↓S_next, ↓S_bk, ↓S_ct, ↓S_rtd, ↓S_seq, ↓S_set, ↓S_drop, ↓S_ret, ↓S_if, ↓S_asg, ↓S_put, ↓S_app, ↓S_ext, ↓S_for, ↓Wp_pure, ↓Wp_opt, ↓Wp_bind, ↓Wp_ite, ↓Wp_var, ↓Wp_op, ↓Wp_un, ↓Wp_test, ↓Wp_dand, ↓Wp_dor, ↓Wp_dnot, ↓Wp_dandV, ↓Wp_dorV, ↓Wp_dnotV, ↓Wp_chain, ↓Wp_cb, ↓Wp_cons, ↓Wp_nil, ↓Wp_tup, ↓Wp_lst, ↓Wp_part, ↓Wp_nopart, ↓Wp_slice, ↓Wp_isi, ↓Wp_isi2, ↓Wp_m1, ↓Wp_call, ↓Wp_pix, ↓Wp_callP0, ↓Wp_callP1, ↓Wp_comp, ↓Wp_disp, ↓Wp_dpnil, ↓Wp_dpcons, ↓Wp_flat, ↓onNx_nx, ↓onNx_bk, ↓onNx_ct, ↓onNx_rt, ↓onRt_rt, ↓onRt_nx, ↓onS_some, ↓onB_b, ↓onI_i, ↓onStr_s, ↓onL_l, ↓lk_0, ↓lk_S, ↓onSet_0, ↓onSet_S, ↓onPut_0, ↓onPut_S, ↓ite_dec, ↓ite_ndec, ↓ite_tt, ↓ite_ff, ↓ite_nt, ↓ite_nf, ↓v_gt, ↓v_lt, ↓v_le, ↓v_ge, ↓v_ltS, ↓v_add, ↓v_addS, ↓v_addL, ↓v_addT, ↓v_addN, ↓v_sub, ↓v_mul, ↓v_mulS, ↓v_mod, ↓v_fdiv, ↓v_pow, ↓v_neg, ↓v_lenL, ↓v_lenT, ↓v_lenS, ↓v_abs, ↓v_rev, ↓v_all, ↓v_any, ↓v_sum, ↓v_eq, ↓v_ne, ↓v_in, ↓v_notIn, ↓q_ii, ↓q_ss, ↓items_l, ↓items_t, ↓items_s, ↓items_r1, ↓items_r2, ↓sl_l, ↓sl_t, ↓sl_s, ↓put_1, ↓put_2, ↓pen_0, ↓pen_1, ↓pen_2, ↓v_ixL, ↓v_ixT, ↓ins_NoneType_none, ↓ins_NoneType_bool, ↓ins_NoneType_int, ↓ins_NoneType_str, ↓ins_NoneType_list, ↓ins_NoneType_tuple, ↓ins_NoneType_dict, ↓ins_bool_none, ↓ins_bool_bool, ↓ins_bool_int, ↓ins_bool_str, ↓ins_bool_list, ↓ins_bool_tuple, ↓ins_bool_dict, ↓ins_int_none, ↓ins_int_bool, ↓ins_int_int, ↓ins_int_str, ↓ins_int_list, ↓ins_int_tuple, ↓ins_int_dict, ↓ins_str_none, ↓ins_str_bool, ↓ins_str_int, ↓ins_str_str, ↓ins_str_list, ↓ins_str_tuple, ↓ins_str_dict, ↓ins_list_none, ↓ins_list_bool, ↓ins_list_int, ↓ins_list_str, ↓ins_list_list, ↓ins_list_tuple, ↓ins_list_dict, ↓ins_tuple_none, ↓ins_tuple_bool, ↓ins_tuple_int, ↓ins_tuple_str, ↓ins_tuple_list, ↓ins_tuple_tuple, ↓ins_tuple_dict, ↓ins_dict_none, ↓ins_dict_bool, ↓ins_dict_int, ↓ins_dict_str, ↓ins_dict_list, ↓ins_dict_tuple, ↓ins_dict_dict, ↓in_sign, ↓onClr_0, ↓onClr_S, ↓onW_nil, ↓onW_cons, ↓onRe_0, ↓onRe_S, ↓onBk_nil, ↓onBk_cons, ↓onTwo_l, ↓S_par, ↓a_tup, ↓onG_name, ↓onG_tup, ↓onGs_nil, ↓onGs_cons, ↓onTurn_nx, ↓onTurn_ct, ↓onTurn_bk, ↓onTurn_rt, ↓onLD_d, ↓v_ixAd, ↓v_inAd, ↓v_notInAd, ↓S_upd, ↓v_zip, ↓Wp_flatA, ↓v_int, ↓v_intB, ↓v_min, ↓v_gin, ↓v_gnin, ↓v_gix, ↓reduceIte, ↓Cp_nil, ↓Cp_cons, ↓Fl_nil, ↓Fl_cons, ↓at_0, ↓at_1, ↓at_2, ↓at_3, ↓at_4, ↓at_5, ↓at_6, sg_wdww, fl_wdww, kf_goes, ↓MD.eq (is_part_w p1 h1), ↓MD.eq (is_part_d p2), ↓MD.eq (is_part_w p3 h3), ↓MD.eq (is_part_w p4 h4), List.length_cons, List.length_nil, cut1, zipP, List.nil_append, List.cons_append, Nat.reduceAdd, Int.reduceAdd, ↓bls_cons, ↓bls_nil, lt0, le0, lt1, le1, lt2, le2, lt3, le3, lt4, le4, lt5, le5, lt6, le6, lt7, le7, lt8, le8, lt9, le9, lt10, le10, lt11, le11, lt12, le12, lt13, le13, lt14, le14, lt15, le15, lt16, le16, true_and, Option.isSome_some, ↓MD.eq (houses_goes p1 p2 p3 p4)]
  refine ite_i (fun h => ?_) (fun h => ?_)
  · have ha := not_all h
    unfold B_goes
    rw [ha] <;> rfl
  · have ha := not_not_all h
    unfold B_goes
    rw [ha] <;> first | rfl | (simp (config := { decide := true }) only [↓S_next, ↓S_bk, ↓S_ct, ↓S_rtd, ↓S_seq, ↓S_set, ↓S_drop, ↓S_ret, ↓S_if, ↓S_asg, ↓S_put, ↓S_app, ↓S_ext, ↓S_for, ↓Wp_pure, ↓Wp_opt, ↓Wp_bind, ↓Wp_ite, ↓Wp_var, ↓Wp_op, ↓Wp_un, ↓Wp_test, ↓Wp_dand, ↓Wp_dor, ↓Wp_dnot, ↓Wp_dandV, ↓Wp_dorV, ↓Wp_dnotV, ↓Wp_chain, ↓Wp_cb, ↓Wp_cons, ↓Wp_nil, ↓Wp_tup, ↓Wp_lst, ↓Wp_part, ↓Wp_nopart, ↓Wp_slice, ↓Wp_isi, ↓Wp_isi2, ↓Wp_m1, ↓Wp_call, ↓Wp_pix, ↓Wp_callP0, ↓Wp_callP1, ↓Wp_comp, ↓Wp_disp, ↓Wp_dpnil, ↓Wp_dpcons, ↓Wp_flat, ↓onNx_nx, ↓onNx_bk, ↓onNx_ct, ↓onNx_rt, ↓onRt_rt, ↓onRt_nx, ↓onS_some, ↓onB_b, ↓onI_i, ↓onStr_s, ↓onL_l, ↓lk_0, ↓lk_S, ↓onSet_0, ↓onSet_S, ↓onPut_0, ↓onPut_S, ↓ite_dec, ↓ite_ndec, ↓ite_tt, ↓ite_ff, ↓ite_nt, ↓ite_nf, ↓v_gt, ↓v_lt, ↓v_le, ↓v_ge, ↓v_ltS, ↓v_add, ↓v_addS, ↓v_addL, ↓v_addT, ↓v_addN, ↓v_sub, ↓v_mul, ↓v_mulS, ↓v_mod, ↓v_fdiv, ↓v_pow, ↓v_neg, ↓v_lenL, ↓v_lenT, ↓v_lenS, ↓v_abs, ↓v_rev, ↓v_all, ↓v_any, ↓v_sum, ↓v_eq, ↓v_ne, ↓v_in, ↓v_notIn, ↓q_ii, ↓q_ss, ↓items_l, ↓items_t, ↓items_s, ↓items_r1, ↓items_r2, ↓sl_l, ↓sl_t, ↓sl_s, ↓put_1, ↓put_2, ↓pen_0, ↓pen_1, ↓pen_2, ↓v_ixL, ↓v_ixT, ↓ins_NoneType_none, ↓ins_NoneType_bool, ↓ins_NoneType_int, ↓ins_NoneType_str, ↓ins_NoneType_list, ↓ins_NoneType_tuple, ↓ins_NoneType_dict, ↓ins_bool_none, ↓ins_bool_bool, ↓ins_bool_int, ↓ins_bool_str, ↓ins_bool_list, ↓ins_bool_tuple, ↓ins_bool_dict, ↓ins_int_none, ↓ins_int_bool, ↓ins_int_int, ↓ins_int_str, ↓ins_int_list, ↓ins_int_tuple, ↓ins_int_dict, ↓ins_str_none, ↓ins_str_bool, ↓ins_str_int, ↓ins_str_str, ↓ins_str_list, ↓ins_str_tuple, ↓ins_str_dict, ↓ins_list_none, ↓ins_list_bool, ↓ins_list_int, ↓ins_list_str, ↓ins_list_list, ↓ins_list_tuple, ↓ins_list_dict, ↓ins_tuple_none, ↓ins_tuple_bool, ↓ins_tuple_int, ↓ins_tuple_str, ↓ins_tuple_list, ↓ins_tuple_tuple, ↓ins_tuple_dict, ↓ins_dict_none, ↓ins_dict_bool, ↓ins_dict_int, ↓ins_dict_str, ↓ins_dict_list, ↓ins_dict_tuple, ↓ins_dict_dict, ↓in_sign, ↓onClr_0, ↓onClr_S, ↓onW_nil, ↓onW_cons, ↓onRe_0, ↓onRe_S, ↓onBk_nil, ↓onBk_cons, ↓onTwo_l, ↓S_par, ↓a_tup, ↓onG_name, ↓onG_tup, ↓onGs_nil, ↓onGs_cons, ↓onTurn_nx, ↓onTurn_ct, ↓onTurn_bk, ↓onTurn_rt, ↓onLD_d, ↓v_ixAd, ↓v_inAd, ↓v_notInAd, ↓S_upd, ↓v_zip, ↓Wp_flatA, ↓v_int, ↓v_intB, ↓v_min, ↓v_gin, ↓v_gnin, ↓v_gix, ↓reduceIte, ↓at_0, ↓at_1, ↓at_2, ↓at_3, ↓at_4, ↓at_5, ↓at_6, List.length_cons, List.length_nil, cut1, zipP, List.nil_append, List.cons_append, Nat.reduceAdd, Int.reduceAdd, ↓bls_cons, ↓bls_nil, lt0, le0, lt1, le1, lt2, le2, lt3, le3, lt4, le4, lt5, le5, lt6, le6, lt7, le7, lt8, le8, lt9, le9, lt10, le10, lt11, le11, lt12, le12, lt13, le13, lt14, le14, lt15, le15, lt16, le16, true_and, Option.isSome_some])
def B_double (p1 p2 p3 p4 : D) : Bool := [isW p1, within 0 999 p2, isW p3, isW p4].all id
theorem houses_double (p1 p2 p3 p4 : D) : m_houses_in [.tuple [.str "double", p1, p2, p3, p4]] = some (.list [p4]) := by
  refine MD.get (MD_of rfl ?_)
  show Sp2 g_houses_in [some _, none] _
  unfold g_houses_in
  simp (config := { decide := true }) only [↓S_next, ↓S_bk, ↓S_ct, ↓S_rtd, ↓S_seq, ↓S_set, ↓S_drop, ↓S_ret, ↓S_if, ↓S_asg, ↓S_put, ↓S_app, ↓S_ext, ↓S_for, ↓Wp_pure, ↓Wp_opt, ↓Wp_bind, ↓Wp_ite, ↓Wp_var, ↓Wp_op, ↓Wp_un, ↓Wp_test, ↓Wp_dand, ↓Wp_dor, ↓Wp_dnot, ↓Wp_dandV, ↓Wp_dorV, ↓Wp_dnotV, ↓Wp_chain, ↓Wp_cb, ↓Wp_cons, ↓Wp_nil, ↓Wp_tup, ↓Wp_lst, ↓Wp_part, ↓Wp_nopart, ↓Wp_slice, ↓Wp_isi, ↓Wp_isi2, ↓Wp_m1, ↓Wp_call, ↓Wp_pix, ↓Wp_callP0, ↓Wp_callP1, ↓Wp_comp, ↓Wp_disp, ↓Wp_dpnil, ↓Wp_dpcons, ↓Wp_flat, ↓onNx_nx, ↓onNx_bk, ↓onNx_ct, ↓onNx_rt, ↓onRt_rt, ↓onRt_nx, ↓onS_some, ↓onB_b, ↓onI_i, ↓onStr_s, ↓onL_l, ↓lk_0, ↓lk_S, ↓onSet_0, ↓onSet_S, ↓onPut_0, ↓onPut_S, ↓ite_dec, ↓ite_ndec, ↓ite_tt, ↓ite_ff, ↓ite_nt, ↓ite_nf, ↓v_gt, ↓v_lt, ↓v_le, ↓v_ge, ↓v_ltS, ↓v_add, ↓v_addS, ↓v_addL, ↓v_addT, ↓v_addN, ↓v_sub, ↓v_mul, ↓v_mulS, ↓v_mod, ↓v_fdiv, ↓v_pow, ↓v_neg, ↓v_lenL, ↓v_lenT, ↓v_lenS, ↓v_abs, ↓v_rev, ↓v_all, ↓v_any, ↓v_sum, ↓v_eq, ↓v_ne, ↓v_in, ↓v_notIn, ↓q_ii, ↓q_ss, ↓items_l, ↓items_t, ↓items_s, ↓items_r1, ↓items_r2, ↓sl_l, ↓sl_t, ↓sl_s, ↓put_1, ↓put_2, ↓pen_0, ↓pen_1, ↓pen_2, ↓v_ixL, ↓v_ixT, ↓ins_NoneType_none, ↓ins_NoneType_bool, ↓ins_NoneType_int, ↓ins_NoneType_str, ↓ins_NoneType_list, ↓ins_NoneType_tuple, ↓ins_NoneType_dict, ↓ins_bool_none, ↓ins_bool_bool, ↓ins_bool_int, ↓ins_bool_str, ↓ins_bool_list, ↓ins_bool_tuple, ↓ins_bool_dict, ↓ins_int_none, ↓ins_int_bool, ↓ins_int_int, ↓ins_int_str, ↓ins_int_list, ↓ins_int_tuple, ↓ins_int_dict, ↓ins_str_none, ↓ins_str_bool, ↓ins_str_int, ↓ins_str_str, ↓ins_str_list, ↓ins_str_tuple, ↓ins_str_dict, ↓ins_list_none, ↓ins_list_bool, ↓ins_list_int, ↓ins_list_str, ↓ins_list_list, ↓ins_list_tuple, ↓ins_list_dict, ↓ins_tuple_none, ↓ins_tuple_bool, ↓ins_tuple_int, ↓ins_tuple_str, ↓ins_tuple_list, ↓ins_tuple_tuple, ↓ins_tuple_dict, ↓ins_dict_none, ↓ins_dict_bool, ↓ins_dict_int, ↓ins_dict_str, ↓ins_dict_list, ↓ins_dict_tuple, ↓ins_dict_dict, ↓in_sign, ↓onClr_0, ↓onClr_S, ↓onW_nil, ↓onW_cons, ↓onRe_0, ↓onRe_S, ↓onBk_nil, ↓onBk_cons, ↓onTwo_l, ↓S_par, ↓a_tup, ↓onG_name, ↓onG_tup, ↓onGs_nil, ↓onGs_cons, ↓onTurn_nx, ↓onTurn_ct, ↓onTurn_bk, ↓onTurn_rt, ↓onLD_d, ↓v_ixAd, ↓v_inAd, ↓v_notInAd, ↓S_upd, ↓v_zip, ↓Wp_flatA, ↓v_int, ↓v_intB, ↓v_min, ↓v_gin, ↓v_gnin, ↓v_gix, ↓reduceIte, ↓Cp_nil, ↓Cp_cons, ↓Fl_nil, ↓Fl_cons, ↓at_0, ↓at_1, ↓at_2, ↓at_3, ↓at_4, ↓at_5, ↓at_6, ↓kh_double, List.length_cons, List.length_nil, cut1, zipP, List.nil_append, List.cons_append, Nat.reduceAdd, Int.reduceAdd, ↓bls_cons, ↓bls_nil, lt0, le0, lt1, le1, lt2, le2, lt3, le3, lt4, le4, lt5, le5, lt6, le6, lt7, le7, lt8, le8, lt9, le9, lt10, le10, lt11, le11, lt12, le12, lt13, le13, lt14, le14, lt15, le15, lt16, le16, true_and, Option.isSome_some]
theorem is_page_double (p1 p2 p3 p4 : D) (h1 : ∀ z, p1 = .str z → z.length ≤ 1000) (h3 : ∀ z, p3 = .str z → z.length ≤ 1000) (h4 : ∀ z, p4 = .str z → z.length ≤ 1000) : m_is_page [.tuple [.str "double", p1, p2, p3, p4]] = some (.bool (B_double p1 p2 p3 p4)) := by
  refine MD.get (MD_of rfl ?_)
  show Sp2 g_is_page [some _, none, none, none, none] _
  unfold g_is_page
  simp only [↓S_next, ↓S_bk, ↓S_ct, ↓S_rtd, ↓S_seq, ↓S_set, ↓S_drop, ↓S_ret, ↓S_if, ↓S_asg, ↓S_put, ↓S_app, ↓S_ext, ↓S_for, ↓Wp_pure, ↓Wp_opt, ↓Wp_bind, ↓Wp_ite, ↓Wp_var, ↓Wp_op, ↓Wp_un, ↓Wp_test, ↓Wp_dand, ↓Wp_dor, ↓Wp_dnot, ↓Wp_dandV, ↓Wp_dorV, ↓Wp_dnotV, ↓Wp_chain, ↓Wp_cb, ↓Wp_cons, ↓Wp_nil, ↓Wp_tup, ↓Wp_lst, ↓Wp_part, ↓Wp_nopart, ↓Wp_slice, ↓Wp_isi, ↓Wp_isi2, ↓Wp_m1, ↓Wp_call, ↓Wp_pix, ↓Wp_callP0, ↓Wp_callP1, ↓Wp_comp, ↓Wp_disp, ↓Wp_dpnil, ↓Wp_dpcons, ↓Wp_flat, ↓onNx_nx, ↓onNx_bk, ↓onNx_ct, ↓onNx_rt, ↓onRt_rt, ↓onRt_nx, ↓onS_some, ↓onB_b, ↓onI_i, ↓onStr_s, ↓onL_l, ↓lk_0, ↓lk_S, ↓onSet_0, ↓onSet_S, ↓onPut_0, ↓onPut_S, ↓ite_dec, ↓ite_ndec, ↓ite_tt, ↓ite_ff, ↓ite_nt, ↓ite_nf, ↓v_gt, ↓v_lt, ↓v_le, ↓v_ge, ↓v_ltS, ↓v_add, ↓v_addS, ↓v_addL, ↓v_addT, ↓v_addN, ↓v_sub, ↓v_mul, ↓v_mulS, ↓v_mod, ↓v_fdiv, ↓v_pow, ↓v_neg, ↓v_lenL, ↓v_lenT, ↓v_lenS, ↓v_abs, ↓v_rev, ↓v_all, ↓v_any, ↓v_sum, ↓v_eq, ↓v_ne, ↓v_in, ↓v_notIn, ↓q_ii, ↓q_ss, ↓items_l, ↓items_t, ↓items_s, ↓items_r1, ↓items_r2, ↓sl_l, ↓sl_t, ↓sl_s, ↓put_1, ↓put_2, ↓pen_0, ↓pen_1, ↓pen_2, ↓v_ixL, ↓v_ixT, ↓ins_NoneType_none, ↓ins_NoneType_bool, ↓ins_NoneType_int, ↓ins_NoneType_str, ↓ins_NoneType_list, ↓ins_NoneType_tuple, ↓ins_NoneType_dict, ↓ins_bool_none, ↓ins_bool_bool, ↓ins_bool_int, ↓ins_bool_str, ↓ins_bool_list, ↓ins_bool_tuple, ↓ins_bool_dict, ↓ins_int_none, ↓ins_int_bool, ↓ins_int_int, ↓ins_int_str, ↓ins_int_list, ↓ins_int_tuple, ↓ins_int_dict, ↓ins_str_none, ↓ins_str_bool, ↓ins_str_int, ↓ins_str_str, ↓ins_str_list, ↓ins_str_tuple, ↓ins_str_dict, ↓ins_list_none, ↓ins_list_bool, ↓ins_list_int, ↓ins_list_str, ↓ins_list_list, ↓ins_list_tuple, ↓ins_list_dict, ↓ins_tuple_none, ↓ins_tuple_bool, ↓ins_tuple_int, ↓ins_tuple_str, ↓ins_tuple_list, ↓ins_tuple_tuple, ↓ins_tuple_dict, ↓ins_dict_none, ↓ins_dict_bool, ↓ins_dict_int, ↓ins_dict_str, ↓ins_dict_list, ↓ins_dict_tuple, ↓ins_dict_dict, ↓in_sign, ↓onClr_0, ↓onClr_S, ↓onW_nil, ↓onW_cons, ↓onRe_0, ↓onRe_S, ↓onBk_nil, ↓onBk_cons, ↓onTwo_l, ↓S_par, ↓a_tup, ↓onG_name, ↓onG_tup, ↓onGs_nil, ↓onGs_cons, ↓onTurn_nx, ↓onTurn_ct, ↓onTurn_bk, ↓onTurn_rt, ↓onLD_d, ↓v_ixAd, ↓v_inAd, ↓v_notInAd, ↓S_upd, ↓v_zip, ↓Wp_flatA, ↓v_int, ↓v_intB, ↓v_min, ↓v_gin, ↓v_gnin, ↓v_gix, ↓reduceIte, ↓Cp_nil, ↓Cp_cons, ↓Fl_nil, ↓Fl_cons, ↓at_0, ↓at_1, ↓at_2, ↓at_3, ↓at_4, ↓at_5, ↓at_6, List.length_cons, List.length_nil, cut1, ↓kf_double]
  simp (config := { decide := true }) only [↓S_next, ↓S_bk, ↓S_ct, ↓S_rtd, ↓S_seq, ↓S_set, ↓S_drop, ↓S_ret, ↓S_if, ↓S_asg, ↓S_put, ↓S_app, ↓S_ext, ↓S_for, ↓Wp_pure, ↓Wp_opt, ↓Wp_bind, ↓Wp_ite, ↓Wp_var, ↓Wp_op, ↓Wp_un, ↓Wp_test, ↓Wp_dand, ↓Wp_dor, ↓Wp_dnot, ↓Wp_dandV, ↓Wp_dorV, ↓Wp_dnotV, ↓Wp_chain, ↓Wp_cb, ↓Wp_cons, ↓Wp_nil, ↓Wp_tup, ↓Wp_lst, ↓Wp_part, ↓Wp_nopart, ↓Wp_slice, ↓Wp_isi, ↓Wp_isi2, ↓Wp_m1, ↓Wp_call, ↓Wp_pix, ↓Wp_callP0, ↓Wp_callP1, ↓Wp_comp, ↓Wp_disp, ↓Wp_dpnil, ↓Wp_dpcons, ↓Wp_flat, ↓onNx_nx, ↓onNx_bk, ↓onNx_ct, ↓onNx_rt, ↓onRt_rt, ↓onRt_nx, ↓onS_some, ↓onB_b, ↓onI_i, ↓onStr_s, ↓onL_l, ↓lk_0, ↓lk_S, ↓onSet_0, ↓onSet_S, ↓onPut_0, ↓onPut_S, ↓ite_dec, ↓ite_ndec, ↓ite_tt, ↓ite_ff, ↓ite_nt, ↓ite_nf, ↓v_gt, ↓v_lt, ↓v_le, ↓v_ge, ↓v_ltS, ↓v_add, ↓v_addS, ↓v_addL, ↓v_addT, ↓v_addN, ↓v_sub, ↓v_mul, ↓v_mulS, ↓v_mod, ↓v_fdiv, ↓v_pow, ↓v_neg, ↓v_lenL, ↓v_lenT, ↓v_lenS, ↓v_abs, ↓v_rev, ↓v_all, ↓v_any, ↓v_sum, ↓v_eq, ↓v_ne, ↓v_in, ↓v_notIn, ↓q_ii, ↓q_ss, ↓items_l, ↓items_t, ↓items_s, ↓items_r1, ↓items_r2, ↓sl_l, ↓sl_t, ↓sl_s, ↓put_1, ↓put_2, ↓pen_0, ↓pen_1, ↓pen_2, ↓v_ixL, ↓v_ixT, ↓ins_NoneType_none, ↓ins_NoneType_bool, ↓ins_NoneType_int, ↓ins_NoneType_str, ↓ins_NoneType_list, ↓ins_NoneType_tuple, ↓ins_NoneType_dict, ↓ins_bool_none, ↓ins_bool_bool, ↓ins_bool_int, ↓ins_bool_str, ↓ins_bool_list, ↓ins_bool_tuple, ↓ins_bool_dict, ↓ins_int_none, ↓ins_int_bool, ↓ins_int_int, ↓ins_int_str, ↓ins_int_list, ↓ins_int_tuple, ↓ins_int_dict, ↓ins_str_none, ↓ins_str_bool, ↓ins_str_int, ↓ins_str_str, ↓ins_str_list, ↓ins_str_tuple, ↓ins_str_dict, ↓ins_list_none, ↓ins_list_bool, ↓ins_list_int, ↓ins_list_str, ↓ins_list_list, ↓ins_list_tuple, ↓ins_list_dict, ↓ins_tuple_none, ↓ins_tuple_bool, ↓ins_tuple_int, ↓ins_tuple_str, ↓ins_tuple_list, ↓ins_tuple_tuple, ↓ins_tuple_dict, ↓ins_dict_none, ↓ins_dict_bool, ↓ins_dict_int, ↓ins_dict_str, ↓ins_dict_list, ↓ins_dict_tuple, ↓ins_dict_dict, ↓in_sign, ↓onClr_0, ↓onClr_S, ↓onW_nil, ↓onW_cons, ↓onRe_0, ↓onRe_S, ↓onBk_nil, ↓onBk_cons, ↓onTwo_l, ↓S_par, ↓a_tup, ↓onG_name, ↓onG_tup, ↓onGs_nil, ↓onGs_cons, ↓onTurn_nx, ↓onTurn_ct, ↓onTurn_bk, ↓onTurn_rt, ↓onLD_d, ↓v_ixAd, ↓v_inAd, ↓v_notInAd, ↓S_upd, ↓v_zip, ↓Wp_flatA, ↓v_int, ↓v_intB, ↓v_min, ↓v_gin, ↓v_gnin, ↓v_gix, ↓reduceIte, ↓Cp_nil, ↓Cp_cons, ↓Fl_nil, ↓Fl_cons, ↓at_0, ↓at_1, ↓at_2, ↓at_3, ↓at_4, ↓at_5, ↓at_6, sg_wdww, fl_wdww, kf_double, ↓MD.eq (is_part_w p1 h1), ↓MD.eq (is_part_d p2), ↓MD.eq (is_part_w p3 h3), ↓MD.eq (is_part_w p4 h4), List.length_cons, List.length_nil, cut1, zipP, List.nil_append, List.cons_append, Nat.reduceAdd, Int.reduceAdd, ↓bls_cons, ↓bls_nil, lt0, le0, lt1, le1, lt2, le2, lt3, le3, lt4, le4, lt5, le5, lt6, le6, lt7, le7, lt8, le8, lt9, le9, lt10, le10, lt11, le11, lt12, le12, lt13, le13, lt14, le14, lt15, le15, lt16, le16, true_and, Option.isSome_some, ↓MD.eq (houses_double p1 p2 p3 p4)]
  refine ite_i (fun h => ?_) (fun h => ?_)
  · have ha := not_all h
    unfold B_double
    rw [ha] <;> rfl
  · have ha := not_not_all h
    unfold B_double
    rw [ha] <;> first | rfl | (simp (config := { decide := true }) only [↓S_next, ↓S_bk, ↓S_ct, ↓S_rtd, ↓S_seq, ↓S_set, ↓S_drop, ↓S_ret, ↓S_if, ↓S_asg, ↓S_put, ↓S_app, ↓S_ext, ↓S_for, ↓Wp_pure, ↓Wp_opt, ↓Wp_bind, ↓Wp_ite, ↓Wp_var, ↓Wp_op, ↓Wp_un, ↓Wp_test, ↓Wp_dand, ↓Wp_dor, ↓Wp_dnot, ↓Wp_dandV, ↓Wp_dorV, ↓Wp_dnotV, ↓Wp_chain, ↓Wp_cb, ↓Wp_cons, ↓Wp_nil, ↓Wp_tup, ↓Wp_lst, ↓Wp_part, ↓Wp_nopart, ↓Wp_slice, ↓Wp_isi, ↓Wp_isi2, ↓Wp_m1, ↓Wp_call, ↓Wp_pix, ↓Wp_callP0, ↓Wp_callP1, ↓Wp_comp, ↓Wp_disp, ↓Wp_dpnil, ↓Wp_dpcons, ↓Wp_flat, ↓onNx_nx, ↓onNx_bk, ↓onNx_ct, ↓onNx_rt, ↓onRt_rt, ↓onRt_nx, ↓onS_some, ↓onB_b, ↓onI_i, ↓onStr_s, ↓onL_l, ↓lk_0, ↓lk_S, ↓onSet_0, ↓onSet_S, ↓onPut_0, ↓onPut_S, ↓ite_dec, ↓ite_ndec, ↓ite_tt, ↓ite_ff, ↓ite_nt, ↓ite_nf, ↓v_gt, ↓v_lt, ↓v_le, ↓v_ge, ↓v_ltS, ↓v_add, ↓v_addS, ↓v_addL, ↓v_addT, ↓v_addN, ↓v_sub, ↓v_mul, ↓v_mulS, ↓v_mod, ↓v_fdiv, ↓v_pow, ↓v_neg, ↓v_lenL, ↓v_lenT, ↓v_lenS, ↓v_abs, ↓v_rev, ↓v_all, ↓v_any, ↓v_sum, ↓v_eq, ↓v_ne, ↓v_in, ↓v_notIn, ↓q_ii, ↓q_ss, ↓items_l, ↓items_t, ↓items_s, ↓items_r1, ↓items_r2, ↓sl_l, ↓sl_t, ↓sl_s, ↓put_1, ↓put_2, ↓pen_0, ↓pen_1, ↓pen_2, ↓v_ixL, ↓v_ixT, ↓ins_NoneType_none, ↓ins_NoneType_bool, ↓ins_NoneType_int, ↓ins_NoneType_str, ↓ins_NoneType_list, ↓ins_NoneType_tuple, ↓ins_NoneType_dict, ↓ins_bool_none, ↓ins_bool_bool, ↓ins_bool_int, ↓ins_bool_str, ↓ins_bool_list, ↓ins_bool_tuple, ↓ins_bool_dict, ↓ins_int_none, ↓ins_int_bool, ↓ins_int_int, ↓ins_int_str, ↓ins_int_list, ↓ins_int_tuple, ↓ins_int_dict, ↓ins_str_none, ↓ins_str_bool, ↓ins_str_int, ↓ins_str_str, ↓ins_str_list, ↓ins_str_tuple, ↓ins_str_dict, ↓ins_list_none, ↓ins_list_bool, ↓ins_list_int, ↓ins_list_str, ↓ins_list_list, ↓ins_list_tuple, ↓ins_list_dict, ↓ins_tuple_none, ↓ins_tuple_bool, ↓ins_tuple_int, ↓ins_tuple_str, ↓ins_tuple_list, ↓ins_tuple_tuple, ↓ins_tuple_dict, ↓ins_dict_none, ↓ins_dict_bool, ↓ins_dict_int, ↓ins_dict_str, ↓ins_dict_list, ↓ins_dict_tuple, ↓ins_dict_dict, ↓in_sign, ↓onClr_0, ↓onClr_S, ↓onW_nil, ↓onW_cons, ↓onRe_0, ↓onRe_S, ↓onBk_nil, ↓onBk_cons, ↓onTwo_l, ↓S_par, ↓a_tup, ↓onG_name, ↓onG_tup, ↓onGs_nil, ↓onGs_cons, ↓onTurn_nx, ↓onTurn_ct, ↓onTurn_bk, ↓onTurn_rt, ↓onLD_d, ↓v_ixAd, ↓v_inAd, ↓v_notInAd, ↓S_upd, ↓v_zip, ↓Wp_flatA, ↓v_int, ↓v_intB, ↓v_min, ↓v_gin, ↓v_gnin, ↓v_gix, ↓reduceIte, ↓at_0, ↓at_1, ↓at_2, ↓at_3, ↓at_4, ↓at_5, ↓at_6, List.length_cons, List.length_nil, cut1, zipP, List.nil_append, List.cons_append, Nat.reduceAdd, Int.reduceAdd, ↓bls_cons, ↓bls_nil, lt0, le0, lt1, le1, lt2, le2, lt3, le3, lt4, le4, lt5, le5, lt6, le6, lt7, le7, lt8, le8, lt9, le9, lt10, le10, lt11, le11, lt12, le12, lt13, le13, lt14, le14, lt15, le15, lt16, le16, true_and, Option.isSome_some])
def B_promise (p1 p2 p3 p4 p5 p6 : D) : Bool := [isW p1, within 0 999 p2, isW p3, isW p4, isW p5, within 0 999 p6].all id && !(PyData.eqv p4 p5) && leB p2 p6
theorem houses_promise (p1 p2 p3 p4 p5 p6 : D) : m_houses_in [.tuple [.str "promise", p1, p2, p3, p4, p5, p6]] = some (.list [p4, p5]) := by
  refine MD.get (MD_of rfl ?_)
  show Sp2 g_houses_in [some _, none] _
  unfold g_houses_in
  simp (config := { decide := true }) only [↓S_next, ↓S_bk, ↓S_ct, ↓S_rtd, ↓S_seq, ↓S_set, ↓S_drop, ↓S_ret, ↓S_if, ↓S_asg, ↓S_put, ↓S_app, ↓S_ext, ↓S_for, ↓Wp_pure, ↓Wp_opt, ↓Wp_bind, ↓Wp_ite, ↓Wp_var, ↓Wp_op, ↓Wp_un, ↓Wp_test, ↓Wp_dand, ↓Wp_dor, ↓Wp_dnot, ↓Wp_dandV, ↓Wp_dorV, ↓Wp_dnotV, ↓Wp_chain, ↓Wp_cb, ↓Wp_cons, ↓Wp_nil, ↓Wp_tup, ↓Wp_lst, ↓Wp_part, ↓Wp_nopart, ↓Wp_slice, ↓Wp_isi, ↓Wp_isi2, ↓Wp_m1, ↓Wp_call, ↓Wp_pix, ↓Wp_callP0, ↓Wp_callP1, ↓Wp_comp, ↓Wp_disp, ↓Wp_dpnil, ↓Wp_dpcons, ↓Wp_flat, ↓onNx_nx, ↓onNx_bk, ↓onNx_ct, ↓onNx_rt, ↓onRt_rt, ↓onRt_nx, ↓onS_some, ↓onB_b, ↓onI_i, ↓onStr_s, ↓onL_l, ↓lk_0, ↓lk_S, ↓onSet_0, ↓onSet_S, ↓onPut_0, ↓onPut_S, ↓ite_dec, ↓ite_ndec, ↓ite_tt, ↓ite_ff, ↓ite_nt, ↓ite_nf, ↓v_gt, ↓v_lt, ↓v_le, ↓v_ge, ↓v_ltS, ↓v_add, ↓v_addS, ↓v_addL, ↓v_addT, ↓v_addN, ↓v_sub, ↓v_mul, ↓v_mulS, ↓v_mod, ↓v_fdiv, ↓v_pow, ↓v_neg, ↓v_lenL, ↓v_lenT, ↓v_lenS, ↓v_abs, ↓v_rev, ↓v_all, ↓v_any, ↓v_sum, ↓v_eq, ↓v_ne, ↓v_in, ↓v_notIn, ↓q_ii, ↓q_ss, ↓items_l, ↓items_t, ↓items_s, ↓items_r1, ↓items_r2, ↓sl_l, ↓sl_t, ↓sl_s, ↓put_1, ↓put_2, ↓pen_0, ↓pen_1, ↓pen_2, ↓v_ixL, ↓v_ixT, ↓ins_NoneType_none, ↓ins_NoneType_bool, ↓ins_NoneType_int, ↓ins_NoneType_str, ↓ins_NoneType_list, ↓ins_NoneType_tuple, ↓ins_NoneType_dict, ↓ins_bool_none, ↓ins_bool_bool, ↓ins_bool_int, ↓ins_bool_str, ↓ins_bool_list, ↓ins_bool_tuple, ↓ins_bool_dict, ↓ins_int_none, ↓ins_int_bool, ↓ins_int_int, ↓ins_int_str, ↓ins_int_list, ↓ins_int_tuple, ↓ins_int_dict, ↓ins_str_none, ↓ins_str_bool, ↓ins_str_int, ↓ins_str_str, ↓ins_str_list, ↓ins_str_tuple, ↓ins_str_dict, ↓ins_list_none, ↓ins_list_bool, ↓ins_list_int, ↓ins_list_str, ↓ins_list_list, ↓ins_list_tuple, ↓ins_list_dict, ↓ins_tuple_none, ↓ins_tuple_bool, ↓ins_tuple_int, ↓ins_tuple_str, ↓ins_tuple_list, ↓ins_tuple_tuple, ↓ins_tuple_dict, ↓ins_dict_none, ↓ins_dict_bool, ↓ins_dict_int, ↓ins_dict_str, ↓ins_dict_list, ↓ins_dict_tuple, ↓ins_dict_dict, ↓in_sign, ↓onClr_0, ↓onClr_S, ↓onW_nil, ↓onW_cons, ↓onRe_0, ↓onRe_S, ↓onBk_nil, ↓onBk_cons, ↓onTwo_l, ↓S_par, ↓a_tup, ↓onG_name, ↓onG_tup, ↓onGs_nil, ↓onGs_cons, ↓onTurn_nx, ↓onTurn_ct, ↓onTurn_bk, ↓onTurn_rt, ↓onLD_d, ↓v_ixAd, ↓v_inAd, ↓v_notInAd, ↓S_upd, ↓v_zip, ↓Wp_flatA, ↓v_int, ↓v_intB, ↓v_min, ↓v_gin, ↓v_gnin, ↓v_gix, ↓reduceIte, ↓Cp_nil, ↓Cp_cons, ↓Fl_nil, ↓Fl_cons, ↓at_0, ↓at_1, ↓at_2, ↓at_3, ↓at_4, ↓at_5, ↓at_6, ↓kh_promise, List.length_cons, List.length_nil, cut1, zipP, List.nil_append, List.cons_append, Nat.reduceAdd, Int.reduceAdd, ↓bls_cons, ↓bls_nil, lt0, le0, lt1, le1, lt2, le2, lt3, le3, lt4, le4, lt5, le5, lt6, le6, lt7, le7, lt8, le8, lt9, le9, lt10, le10, lt11, le11, lt12, le12, lt13, le13, lt14, le14, lt15, le15, lt16, le16, true_and, Option.isSome_some]
theorem is_page_promise (p1 p2 p3 p4 p5 p6 : D) (h1 : ∀ z, p1 = .str z → z.length ≤ 1000) (h3 : ∀ z, p3 = .str z → z.length ≤ 1000) (h4 : ∀ z, p4 = .str z → z.length ≤ 1000) (h5 : ∀ z, p5 = .str z → z.length ≤ 1000) : m_is_page [.tuple [.str "promise", p1, p2, p3, p4, p5, p6]] = some (.bool (B_promise p1 p2 p3 p4 p5 p6)) := by
  refine MD.get (MD_of rfl ?_)
  show Sp2 g_is_page [some _, none, none, none, none] _
  unfold g_is_page
  simp only [↓S_next, ↓S_bk, ↓S_ct, ↓S_rtd, ↓S_seq, ↓S_set, ↓S_drop, ↓S_ret, ↓S_if, ↓S_asg, ↓S_put, ↓S_app, ↓S_ext, ↓S_for, ↓Wp_pure, ↓Wp_opt, ↓Wp_bind, ↓Wp_ite, ↓Wp_var, ↓Wp_op, ↓Wp_un, ↓Wp_test, ↓Wp_dand, ↓Wp_dor, ↓Wp_dnot, ↓Wp_dandV, ↓Wp_dorV, ↓Wp_dnotV, ↓Wp_chain, ↓Wp_cb, ↓Wp_cons, ↓Wp_nil, ↓Wp_tup, ↓Wp_lst, ↓Wp_part, ↓Wp_nopart, ↓Wp_slice, ↓Wp_isi, ↓Wp_isi2, ↓Wp_m1, ↓Wp_call, ↓Wp_pix, ↓Wp_callP0, ↓Wp_callP1, ↓Wp_comp, ↓Wp_disp, ↓Wp_dpnil, ↓Wp_dpcons, ↓Wp_flat, ↓onNx_nx, ↓onNx_bk, ↓onNx_ct, ↓onNx_rt, ↓onRt_rt, ↓onRt_nx, ↓onS_some, ↓onB_b, ↓onI_i, ↓onStr_s, ↓onL_l, ↓lk_0, ↓lk_S, ↓onSet_0, ↓onSet_S, ↓onPut_0, ↓onPut_S, ↓ite_dec, ↓ite_ndec, ↓ite_tt, ↓ite_ff, ↓ite_nt, ↓ite_nf, ↓v_gt, ↓v_lt, ↓v_le, ↓v_ge, ↓v_ltS, ↓v_add, ↓v_addS, ↓v_addL, ↓v_addT, ↓v_addN, ↓v_sub, ↓v_mul, ↓v_mulS, ↓v_mod, ↓v_fdiv, ↓v_pow, ↓v_neg, ↓v_lenL, ↓v_lenT, ↓v_lenS, ↓v_abs, ↓v_rev, ↓v_all, ↓v_any, ↓v_sum, ↓v_eq, ↓v_ne, ↓v_in, ↓v_notIn, ↓q_ii, ↓q_ss, ↓items_l, ↓items_t, ↓items_s, ↓items_r1, ↓items_r2, ↓sl_l, ↓sl_t, ↓sl_s, ↓put_1, ↓put_2, ↓pen_0, ↓pen_1, ↓pen_2, ↓v_ixL, ↓v_ixT, ↓ins_NoneType_none, ↓ins_NoneType_bool, ↓ins_NoneType_int, ↓ins_NoneType_str, ↓ins_NoneType_list, ↓ins_NoneType_tuple, ↓ins_NoneType_dict, ↓ins_bool_none, ↓ins_bool_bool, ↓ins_bool_int, ↓ins_bool_str, ↓ins_bool_list, ↓ins_bool_tuple, ↓ins_bool_dict, ↓ins_int_none, ↓ins_int_bool, ↓ins_int_int, ↓ins_int_str, ↓ins_int_list, ↓ins_int_tuple, ↓ins_int_dict, ↓ins_str_none, ↓ins_str_bool, ↓ins_str_int, ↓ins_str_str, ↓ins_str_list, ↓ins_str_tuple, ↓ins_str_dict, ↓ins_list_none, ↓ins_list_bool, ↓ins_list_int, ↓ins_list_str, ↓ins_list_list, ↓ins_list_tuple, ↓ins_list_dict, ↓ins_tuple_none, ↓ins_tuple_bool, ↓ins_tuple_int, ↓ins_tuple_str, ↓ins_tuple_list, ↓ins_tuple_tuple, ↓ins_tuple_dict, ↓ins_dict_none, ↓ins_dict_bool, ↓ins_dict_int, ↓ins_dict_str, ↓ins_dict_list, ↓ins_dict_tuple, ↓ins_dict_dict, ↓in_sign, ↓onClr_0, ↓onClr_S, ↓onW_nil, ↓onW_cons, ↓onRe_0, ↓onRe_S, ↓onBk_nil, ↓onBk_cons, ↓onTwo_l, ↓S_par, ↓a_tup, ↓onG_name, ↓onG_tup, ↓onGs_nil, ↓onGs_cons, ↓onTurn_nx, ↓onTurn_ct, ↓onTurn_bk, ↓onTurn_rt, ↓onLD_d, ↓v_ixAd, ↓v_inAd, ↓v_notInAd, ↓S_upd, ↓v_zip, ↓Wp_flatA, ↓v_int, ↓v_intB, ↓v_min, ↓v_gin, ↓v_gnin, ↓v_gix, ↓reduceIte, ↓Cp_nil, ↓Cp_cons, ↓Fl_nil, ↓Fl_cons, ↓at_0, ↓at_1, ↓at_2, ↓at_3, ↓at_4, ↓at_5, ↓at_6, List.length_cons, List.length_nil, cut1, ↓kf_promise]
  simp (config := { decide := true }) only [↓S_next, ↓S_bk, ↓S_ct, ↓S_rtd, ↓S_seq, ↓S_set, ↓S_drop, ↓S_ret, ↓S_if, ↓S_asg, ↓S_put, ↓S_app, ↓S_ext, ↓S_for, ↓Wp_pure, ↓Wp_opt, ↓Wp_bind, ↓Wp_ite, ↓Wp_var, ↓Wp_op, ↓Wp_un, ↓Wp_test, ↓Wp_dand, ↓Wp_dor, ↓Wp_dnot, ↓Wp_dandV, ↓Wp_dorV, ↓Wp_dnotV, ↓Wp_chain, ↓Wp_cb, ↓Wp_cons, ↓Wp_nil, ↓Wp_tup, ↓Wp_lst, ↓Wp_part, ↓Wp_nopart, ↓Wp_slice, ↓Wp_isi, ↓Wp_isi2, ↓Wp_m1, ↓Wp_call, ↓Wp_pix, ↓Wp_callP0, ↓Wp_callP1, ↓Wp_comp, ↓Wp_disp, ↓Wp_dpnil, ↓Wp_dpcons, ↓Wp_flat, ↓onNx_nx, ↓onNx_bk, ↓onNx_ct, ↓onNx_rt, ↓onRt_rt, ↓onRt_nx, ↓onS_some, ↓onB_b, ↓onI_i, ↓onStr_s, ↓onL_l, ↓lk_0, ↓lk_S, ↓onSet_0, ↓onSet_S, ↓onPut_0, ↓onPut_S, ↓ite_dec, ↓ite_ndec, ↓ite_tt, ↓ite_ff, ↓ite_nt, ↓ite_nf, ↓v_gt, ↓v_lt, ↓v_le, ↓v_ge, ↓v_ltS, ↓v_add, ↓v_addS, ↓v_addL, ↓v_addT, ↓v_addN, ↓v_sub, ↓v_mul, ↓v_mulS, ↓v_mod, ↓v_fdiv, ↓v_pow, ↓v_neg, ↓v_lenL, ↓v_lenT, ↓v_lenS, ↓v_abs, ↓v_rev, ↓v_all, ↓v_any, ↓v_sum, ↓v_eq, ↓v_ne, ↓v_in, ↓v_notIn, ↓q_ii, ↓q_ss, ↓items_l, ↓items_t, ↓items_s, ↓items_r1, ↓items_r2, ↓sl_l, ↓sl_t, ↓sl_s, ↓put_1, ↓put_2, ↓pen_0, ↓pen_1, ↓pen_2, ↓v_ixL, ↓v_ixT, ↓ins_NoneType_none, ↓ins_NoneType_bool, ↓ins_NoneType_int, ↓ins_NoneType_str, ↓ins_NoneType_list, ↓ins_NoneType_tuple, ↓ins_NoneType_dict, ↓ins_bool_none, ↓ins_bool_bool, ↓ins_bool_int, ↓ins_bool_str, ↓ins_bool_list, ↓ins_bool_tuple, ↓ins_bool_dict, ↓ins_int_none, ↓ins_int_bool, ↓ins_int_int, ↓ins_int_str, ↓ins_int_list, ↓ins_int_tuple, ↓ins_int_dict, ↓ins_str_none, ↓ins_str_bool, ↓ins_str_int, ↓ins_str_str, ↓ins_str_list, ↓ins_str_tuple, ↓ins_str_dict, ↓ins_list_none, ↓ins_list_bool, ↓ins_list_int, ↓ins_list_str, ↓ins_list_list, ↓ins_list_tuple, ↓ins_list_dict, ↓ins_tuple_none, ↓ins_tuple_bool, ↓ins_tuple_int, ↓ins_tuple_str, ↓ins_tuple_list, ↓ins_tuple_tuple, ↓ins_tuple_dict, ↓ins_dict_none, ↓ins_dict_bool, ↓ins_dict_int, ↓ins_dict_str, ↓ins_dict_list, ↓ins_dict_tuple, ↓ins_dict_dict, ↓in_sign, ↓onClr_0, ↓onClr_S, ↓onW_nil, ↓onW_cons, ↓onRe_0, ↓onRe_S, ↓onBk_nil, ↓onBk_cons, ↓onTwo_l, ↓S_par, ↓a_tup, ↓onG_name, ↓onG_tup, ↓onGs_nil, ↓onGs_cons, ↓onTurn_nx, ↓onTurn_ct, ↓onTurn_bk, ↓onTurn_rt, ↓onLD_d, ↓v_ixAd, ↓v_inAd, ↓v_notInAd, ↓S_upd, ↓v_zip, ↓Wp_flatA, ↓v_int, ↓v_intB, ↓v_min, ↓v_gin, ↓v_gnin, ↓v_gix, ↓reduceIte, ↓Cp_nil, ↓Cp_cons, ↓Fl_nil, ↓Fl_cons, ↓at_0, ↓at_1, ↓at_2, ↓at_3, ↓at_4, ↓at_5, ↓at_6, sg_wdwwwd, fl_wdwwwd, kf_promise, ↓MD.eq (is_part_w p1 h1), ↓MD.eq (is_part_d p2), ↓MD.eq (is_part_w p3 h3), ↓MD.eq (is_part_w p4 h4), ↓MD.eq (is_part_w p5 h5), ↓MD.eq (is_part_d p6), List.length_cons, List.length_nil, cut1, zipP, List.nil_append, List.cons_append, Nat.reduceAdd, Int.reduceAdd, ↓bls_cons, ↓bls_nil, lt0, le0, lt1, le1, lt2, le2, lt3, le3, lt4, le4, lt5, le5, lt6, le6, lt7, le7, lt8, le8, lt9, le9, lt10, le10, lt11, le11, lt12, le12, lt13, le13, lt14, le14, lt15, le15, lt16, le16, true_and, Option.isSome_some, ↓MD.eq (houses_promise p1 p2 p3 p4 p5 p6)]
  refine ite_i (fun h => ?_) (fun h => ?_)
  · have ha := not_all h
    unfold B_promise
    rw [ha] <;> rfl
  · have ha := not_not_all h
    unfold B_promise
    rw [ha]
    have hb := ha
    simp only [List.all_cons, List.all_nil, id, Bool.and_eq_true, Bool.and_true] at hb
    obtain ⟨z4, rfl⟩ := isW_is hb.2.2.2.1
    obtain ⟨z5, rfl⟩ := isW_is hb.2.2.2.2.1
    obtain ⟨i2, rfl⟩ := within_is hb.2.1
    obtain ⟨i6, rfl⟩ := within_is hb.2.2.2.2.2
    simp (config := { decide := true }) only [↓S_next, ↓S_bk, ↓S_ct, ↓S_rtd, ↓S_seq, ↓S_set, ↓S_drop, ↓S_ret, ↓S_if, ↓S_asg, ↓S_put, ↓S_app, ↓S_ext, ↓S_for, ↓Wp_pure, ↓Wp_opt, ↓Wp_bind, ↓Wp_ite, ↓Wp_var, ↓Wp_op, ↓Wp_un, ↓Wp_test, ↓Wp_dand, ↓Wp_dor, ↓Wp_dnot, ↓Wp_dandV, ↓Wp_dorV, ↓Wp_dnotV, ↓Wp_chain, ↓Wp_cb, ↓Wp_cons, ↓Wp_nil, ↓Wp_tup, ↓Wp_lst, ↓Wp_part, ↓Wp_nopart, ↓Wp_slice, ↓Wp_isi, ↓Wp_isi2, ↓Wp_m1, ↓Wp_call, ↓Wp_pix, ↓Wp_callP0, ↓Wp_callP1, ↓Wp_comp, ↓Wp_disp, ↓Wp_dpnil, ↓Wp_dpcons, ↓Wp_flat, ↓onNx_nx, ↓onNx_bk, ↓onNx_ct, ↓onNx_rt, ↓onRt_rt, ↓onRt_nx, ↓onS_some, ↓onB_b, ↓onI_i, ↓onStr_s, ↓onL_l, ↓lk_0, ↓lk_S, ↓onSet_0, ↓onSet_S, ↓onPut_0, ↓onPut_S, ↓ite_dec, ↓ite_ndec, ↓ite_tt, ↓ite_ff, ↓ite_nt, ↓ite_nf, ↓v_gt, ↓v_lt, ↓v_le, ↓v_ge, ↓v_ltS, ↓v_add, ↓v_addS, ↓v_addL, ↓v_addT, ↓v_addN, ↓v_sub, ↓v_mul, ↓v_mulS, ↓v_mod, ↓v_fdiv, ↓v_pow, ↓v_neg, ↓v_lenL, ↓v_lenT, ↓v_lenS, ↓v_abs, ↓v_rev, ↓v_all, ↓v_any, ↓v_sum, ↓v_eq, ↓v_ne, ↓v_in, ↓v_notIn, ↓q_ii, ↓q_ss, ↓items_l, ↓items_t, ↓items_s, ↓items_r1, ↓items_r2, ↓sl_l, ↓sl_t, ↓sl_s, ↓put_1, ↓put_2, ↓pen_0, ↓pen_1, ↓pen_2, ↓v_ixL, ↓v_ixT, ↓ins_NoneType_none, ↓ins_NoneType_bool, ↓ins_NoneType_int, ↓ins_NoneType_str, ↓ins_NoneType_list, ↓ins_NoneType_tuple, ↓ins_NoneType_dict, ↓ins_bool_none, ↓ins_bool_bool, ↓ins_bool_int, ↓ins_bool_str, ↓ins_bool_list, ↓ins_bool_tuple, ↓ins_bool_dict, ↓ins_int_none, ↓ins_int_bool, ↓ins_int_int, ↓ins_int_str, ↓ins_int_list, ↓ins_int_tuple, ↓ins_int_dict, ↓ins_str_none, ↓ins_str_bool, ↓ins_str_int, ↓ins_str_str, ↓ins_str_list, ↓ins_str_tuple, ↓ins_str_dict, ↓ins_list_none, ↓ins_list_bool, ↓ins_list_int, ↓ins_list_str, ↓ins_list_list, ↓ins_list_tuple, ↓ins_list_dict, ↓ins_tuple_none, ↓ins_tuple_bool, ↓ins_tuple_int, ↓ins_tuple_str, ↓ins_tuple_list, ↓ins_tuple_tuple, ↓ins_tuple_dict, ↓ins_dict_none, ↓ins_dict_bool, ↓ins_dict_int, ↓ins_dict_str, ↓ins_dict_list, ↓ins_dict_tuple, ↓ins_dict_dict, ↓in_sign, ↓onClr_0, ↓onClr_S, ↓onW_nil, ↓onW_cons, ↓onRe_0, ↓onRe_S, ↓onBk_nil, ↓onBk_cons, ↓onTwo_l, ↓S_par, ↓a_tup, ↓onG_name, ↓onG_tup, ↓onGs_nil, ↓onGs_cons, ↓onTurn_nx, ↓onTurn_ct, ↓onTurn_bk, ↓onTurn_rt, ↓onLD_d, ↓v_ixAd, ↓v_inAd, ↓v_notInAd, ↓S_upd, ↓v_zip, ↓Wp_flatA, ↓v_int, ↓v_intB, ↓v_min, ↓v_gin, ↓v_gnin, ↓v_gix, ↓reduceIte, ↓at_0, ↓at_1, ↓at_2, ↓at_3, ↓at_4, ↓at_5, ↓at_6, List.length_cons, List.length_nil, cut1, zipP, List.nil_append, List.cons_append, Nat.reduceAdd, Int.reduceAdd, ↓bls_cons, ↓bls_nil, lt0, le0, lt1, le1, lt2, le2, lt3, le3, lt4, le4, lt5, le5, lt6, le6, lt7, le7, lt8, le8, lt9, le9, lt10, le10, lt11, le11, lt12, le12, lt13, le13, lt14, le14, lt15, le15, lt16, le16, true_and, Option.isSome_some]
    rw [eqv_ss]
    refine ite_i (fun h2 => ?_) (fun h2 => ?_)
    · rw [decide_eq_true h2]
      rfl
    · rw [decide_eq_false h2]
      rfl
def B_loose (p1 p2 p3 : D) : Bool := [isW p1, within 0 999 p2, isW p3].all id
theorem houses_loose (p1 p2 p3 : D) : m_houses_in [.tuple [.str "loose", p1, p2, p3]] = some (.list []) := by
  refine MD.get (MD_of rfl ?_)
  show Sp2 g_houses_in [some _, none] _
  unfold g_houses_in
  simp (config := { decide := true }) only [↓S_next, ↓S_bk, ↓S_ct, ↓S_rtd, ↓S_seq, ↓S_set, ↓S_drop, ↓S_ret, ↓S_if, ↓S_asg, ↓S_put, ↓S_app, ↓S_ext, ↓S_for, ↓Wp_pure, ↓Wp_opt, ↓Wp_bind, ↓Wp_ite, ↓Wp_var, ↓Wp_op, ↓Wp_un, ↓Wp_test, ↓Wp_dand, ↓Wp_dor, ↓Wp_dnot, ↓Wp_dandV, ↓Wp_dorV, ↓Wp_dnotV, ↓Wp_chain, ↓Wp_cb, ↓Wp_cons, ↓Wp_nil, ↓Wp_tup, ↓Wp_lst, ↓Wp_part, ↓Wp_nopart, ↓Wp_slice, ↓Wp_isi, ↓Wp_isi2, ↓Wp_m1, ↓Wp_call, ↓Wp_pix, ↓Wp_callP0, ↓Wp_callP1, ↓Wp_comp, ↓Wp_disp, ↓Wp_dpnil, ↓Wp_dpcons, ↓Wp_flat, ↓onNx_nx, ↓onNx_bk, ↓onNx_ct, ↓onNx_rt, ↓onRt_rt, ↓onRt_nx, ↓onS_some, ↓onB_b, ↓onI_i, ↓onStr_s, ↓onL_l, ↓lk_0, ↓lk_S, ↓onSet_0, ↓onSet_S, ↓onPut_0, ↓onPut_S, ↓ite_dec, ↓ite_ndec, ↓ite_tt, ↓ite_ff, ↓ite_nt, ↓ite_nf, ↓v_gt, ↓v_lt, ↓v_le, ↓v_ge, ↓v_ltS, ↓v_add, ↓v_addS, ↓v_addL, ↓v_addT, ↓v_addN, ↓v_sub, ↓v_mul, ↓v_mulS, ↓v_mod, ↓v_fdiv, ↓v_pow, ↓v_neg, ↓v_lenL, ↓v_lenT, ↓v_lenS, ↓v_abs, ↓v_rev, ↓v_all, ↓v_any, ↓v_sum, ↓v_eq, ↓v_ne, ↓v_in, ↓v_notIn, ↓q_ii, ↓q_ss, ↓items_l, ↓items_t, ↓items_s, ↓items_r1, ↓items_r2, ↓sl_l, ↓sl_t, ↓sl_s, ↓put_1, ↓put_2, ↓pen_0, ↓pen_1, ↓pen_2, ↓v_ixL, ↓v_ixT, ↓ins_NoneType_none, ↓ins_NoneType_bool, ↓ins_NoneType_int, ↓ins_NoneType_str, ↓ins_NoneType_list, ↓ins_NoneType_tuple, ↓ins_NoneType_dict, ↓ins_bool_none, ↓ins_bool_bool, ↓ins_bool_int, ↓ins_bool_str, ↓ins_bool_list, ↓ins_bool_tuple, ↓ins_bool_dict, ↓ins_int_none, ↓ins_int_bool, ↓ins_int_int, ↓ins_int_str, ↓ins_int_list, ↓ins_int_tuple, ↓ins_int_dict, ↓ins_str_none, ↓ins_str_bool, ↓ins_str_int, ↓ins_str_str, ↓ins_str_list, ↓ins_str_tuple, ↓ins_str_dict, ↓ins_list_none, ↓ins_list_bool, ↓ins_list_int, ↓ins_list_str, ↓ins_list_list, ↓ins_list_tuple, ↓ins_list_dict, ↓ins_tuple_none, ↓ins_tuple_bool, ↓ins_tuple_int, ↓ins_tuple_str, ↓ins_tuple_list, ↓ins_tuple_tuple, ↓ins_tuple_dict, ↓ins_dict_none, ↓ins_dict_bool, ↓ins_dict_int, ↓ins_dict_str, ↓ins_dict_list, ↓ins_dict_tuple, ↓ins_dict_dict, ↓in_sign, ↓onClr_0, ↓onClr_S, ↓onW_nil, ↓onW_cons, ↓onRe_0, ↓onRe_S, ↓onBk_nil, ↓onBk_cons, ↓onTwo_l, ↓S_par, ↓a_tup, ↓onG_name, ↓onG_tup, ↓onGs_nil, ↓onGs_cons, ↓onTurn_nx, ↓onTurn_ct, ↓onTurn_bk, ↓onTurn_rt, ↓onLD_d, ↓v_ixAd, ↓v_inAd, ↓v_notInAd, ↓S_upd, ↓v_zip, ↓Wp_flatA, ↓v_int, ↓v_intB, ↓v_min, ↓v_gin, ↓v_gnin, ↓v_gix, ↓reduceIte, ↓Cp_nil, ↓Cp_cons, ↓Fl_nil, ↓Fl_cons, ↓at_0, ↓at_1, ↓at_2, ↓at_3, ↓at_4, ↓at_5, ↓at_6, ↓kh_loose, List.length_cons, List.length_nil, cut1, zipP, List.nil_append, List.cons_append, Nat.reduceAdd, Int.reduceAdd, ↓bls_cons, ↓bls_nil, lt0, le0, lt1, le1, lt2, le2, lt3, le3, lt4, le4, lt5, le5, lt6, le6, lt7, le7, lt8, le8, lt9, le9, lt10, le10, lt11, le11, lt12, le12, lt13, le13, lt14, le14, lt15, le15, lt16, le16, true_and, Option.isSome_some]
theorem is_page_loose (p1 p2 p3 : D) (h1 : ∀ z, p1 = .str z → z.length ≤ 1000) (h3 : ∀ z, p3 = .str z → z.length ≤ 1000) : m_is_page [.tuple [.str "loose", p1, p2, p3]] = some (.bool (B_loose p1 p2 p3)) := by
  refine MD.get (MD_of rfl ?_)
  show Sp2 g_is_page [some _, none, none, none, none] _
  unfold g_is_page
  simp only [↓S_next, ↓S_bk, ↓S_ct, ↓S_rtd, ↓S_seq, ↓S_set, ↓S_drop, ↓S_ret, ↓S_if, ↓S_asg, ↓S_put, ↓S_app, ↓S_ext, ↓S_for, ↓Wp_pure, ↓Wp_opt, ↓Wp_bind, ↓Wp_ite, ↓Wp_var, ↓Wp_op, ↓Wp_un, ↓Wp_test, ↓Wp_dand, ↓Wp_dor, ↓Wp_dnot, ↓Wp_dandV, ↓Wp_dorV, ↓Wp_dnotV, ↓Wp_chain, ↓Wp_cb, ↓Wp_cons, ↓Wp_nil, ↓Wp_tup, ↓Wp_lst, ↓Wp_part, ↓Wp_nopart, ↓Wp_slice, ↓Wp_isi, ↓Wp_isi2, ↓Wp_m1, ↓Wp_call, ↓Wp_pix, ↓Wp_callP0, ↓Wp_callP1, ↓Wp_comp, ↓Wp_disp, ↓Wp_dpnil, ↓Wp_dpcons, ↓Wp_flat, ↓onNx_nx, ↓onNx_bk, ↓onNx_ct, ↓onNx_rt, ↓onRt_rt, ↓onRt_nx, ↓onS_some, ↓onB_b, ↓onI_i, ↓onStr_s, ↓onL_l, ↓lk_0, ↓lk_S, ↓onSet_0, ↓onSet_S, ↓onPut_0, ↓onPut_S, ↓ite_dec, ↓ite_ndec, ↓ite_tt, ↓ite_ff, ↓ite_nt, ↓ite_nf, ↓v_gt, ↓v_lt, ↓v_le, ↓v_ge, ↓v_ltS, ↓v_add, ↓v_addS, ↓v_addL, ↓v_addT, ↓v_addN, ↓v_sub, ↓v_mul, ↓v_mulS, ↓v_mod, ↓v_fdiv, ↓v_pow, ↓v_neg, ↓v_lenL, ↓v_lenT, ↓v_lenS, ↓v_abs, ↓v_rev, ↓v_all, ↓v_any, ↓v_sum, ↓v_eq, ↓v_ne, ↓v_in, ↓v_notIn, ↓q_ii, ↓q_ss, ↓items_l, ↓items_t, ↓items_s, ↓items_r1, ↓items_r2, ↓sl_l, ↓sl_t, ↓sl_s, ↓put_1, ↓put_2, ↓pen_0, ↓pen_1, ↓pen_2, ↓v_ixL, ↓v_ixT, ↓ins_NoneType_none, ↓ins_NoneType_bool, ↓ins_NoneType_int, ↓ins_NoneType_str, ↓ins_NoneType_list, ↓ins_NoneType_tuple, ↓ins_NoneType_dict, ↓ins_bool_none, ↓ins_bool_bool, ↓ins_bool_int, ↓ins_bool_str, ↓ins_bool_list, ↓ins_bool_tuple, ↓ins_bool_dict, ↓ins_int_none, ↓ins_int_bool, ↓ins_int_int, ↓ins_int_str, ↓ins_int_list, ↓ins_int_tuple, ↓ins_int_dict, ↓ins_str_none, ↓ins_str_bool, ↓ins_str_int, ↓ins_str_str, ↓ins_str_list, ↓ins_str_tuple, ↓ins_str_dict, ↓ins_list_none, ↓ins_list_bool, ↓ins_list_int, ↓ins_list_str, ↓ins_list_list, ↓ins_list_tuple, ↓ins_list_dict, ↓ins_tuple_none, ↓ins_tuple_bool, ↓ins_tuple_int, ↓ins_tuple_str, ↓ins_tuple_list, ↓ins_tuple_tuple, ↓ins_tuple_dict, ↓ins_dict_none, ↓ins_dict_bool, ↓ins_dict_int, ↓ins_dict_str, ↓ins_dict_list, ↓ins_dict_tuple, ↓ins_dict_dict, ↓in_sign, ↓onClr_0, ↓onClr_S, ↓onW_nil, ↓onW_cons, ↓onRe_0, ↓onRe_S, ↓onBk_nil, ↓onBk_cons, ↓onTwo_l, ↓S_par, ↓a_tup, ↓onG_name, ↓onG_tup, ↓onGs_nil, ↓onGs_cons, ↓onTurn_nx, ↓onTurn_ct, ↓onTurn_bk, ↓onTurn_rt, ↓onLD_d, ↓v_ixAd, ↓v_inAd, ↓v_notInAd, ↓S_upd, ↓v_zip, ↓Wp_flatA, ↓v_int, ↓v_intB, ↓v_min, ↓v_gin, ↓v_gnin, ↓v_gix, ↓reduceIte, ↓Cp_nil, ↓Cp_cons, ↓Fl_nil, ↓Fl_cons, ↓at_0, ↓at_1, ↓at_2, ↓at_3, ↓at_4, ↓at_5, ↓at_6, List.length_cons, List.length_nil, cut1, ↓kf_loose]
  simp (config := { decide := true }) only [↓S_next, ↓S_bk, ↓S_ct, ↓S_rtd, ↓S_seq, ↓S_set, ↓S_drop, ↓S_ret, ↓S_if, ↓S_asg, ↓S_put, ↓S_app, ↓S_ext, ↓S_for, ↓Wp_pure, ↓Wp_opt, ↓Wp_bind, ↓Wp_ite, ↓Wp_var, ↓Wp_op, ↓Wp_un, ↓Wp_test, ↓Wp_dand, ↓Wp_dor, ↓Wp_dnot, ↓Wp_dandV, ↓Wp_dorV, ↓Wp_dnotV, ↓Wp_chain, ↓Wp_cb, ↓Wp_cons, ↓Wp_nil, ↓Wp_tup, ↓Wp_lst, ↓Wp_part, ↓Wp_nopart, ↓Wp_slice, ↓Wp_isi, ↓Wp_isi2, ↓Wp_m1, ↓Wp_call, ↓Wp_pix, ↓Wp_callP0, ↓Wp_callP1, ↓Wp_comp, ↓Wp_disp, ↓Wp_dpnil, ↓Wp_dpcons, ↓Wp_flat, ↓onNx_nx, ↓onNx_bk, ↓onNx_ct, ↓onNx_rt, ↓onRt_rt, ↓onRt_nx, ↓onS_some, ↓onB_b, ↓onI_i, ↓onStr_s, ↓onL_l, ↓lk_0, ↓lk_S, ↓onSet_0, ↓onSet_S, ↓onPut_0, ↓onPut_S, ↓ite_dec, ↓ite_ndec, ↓ite_tt, ↓ite_ff, ↓ite_nt, ↓ite_nf, ↓v_gt, ↓v_lt, ↓v_le, ↓v_ge, ↓v_ltS, ↓v_add, ↓v_addS, ↓v_addL, ↓v_addT, ↓v_addN, ↓v_sub, ↓v_mul, ↓v_mulS, ↓v_mod, ↓v_fdiv, ↓v_pow, ↓v_neg, ↓v_lenL, ↓v_lenT, ↓v_lenS, ↓v_abs, ↓v_rev, ↓v_all, ↓v_any, ↓v_sum, ↓v_eq, ↓v_ne, ↓v_in, ↓v_notIn, ↓q_ii, ↓q_ss, ↓items_l, ↓items_t, ↓items_s, ↓items_r1, ↓items_r2, ↓sl_l, ↓sl_t, ↓sl_s, ↓put_1, ↓put_2, ↓pen_0, ↓pen_1, ↓pen_2, ↓v_ixL, ↓v_ixT, ↓ins_NoneType_none, ↓ins_NoneType_bool, ↓ins_NoneType_int, ↓ins_NoneType_str, ↓ins_NoneType_list, ↓ins_NoneType_tuple, ↓ins_NoneType_dict, ↓ins_bool_none, ↓ins_bool_bool, ↓ins_bool_int, ↓ins_bool_str, ↓ins_bool_list, ↓ins_bool_tuple, ↓ins_bool_dict, ↓ins_int_none, ↓ins_int_bool, ↓ins_int_int, ↓ins_int_str, ↓ins_int_list, ↓ins_int_tuple, ↓ins_int_dict, ↓ins_str_none, ↓ins_str_bool, ↓ins_str_int, ↓ins_str_str, ↓ins_str_list, ↓ins_str_tuple, ↓ins_str_dict, ↓ins_list_none, ↓ins_list_bool, ↓ins_list_int, ↓ins_list_str, ↓ins_list_list, ↓ins_list_tuple, ↓ins_list_dict, ↓ins_tuple_none, ↓ins_tuple_bool, ↓ins_tuple_int, ↓ins_tuple_str, ↓ins_tuple_list, ↓ins_tuple_tuple, ↓ins_tuple_dict, ↓ins_dict_none, ↓ins_dict_bool, ↓ins_dict_int, ↓ins_dict_str, ↓ins_dict_list, ↓ins_dict_tuple, ↓ins_dict_dict, ↓in_sign, ↓onClr_0, ↓onClr_S, ↓onW_nil, ↓onW_cons, ↓onRe_0, ↓onRe_S, ↓onBk_nil, ↓onBk_cons, ↓onTwo_l, ↓S_par, ↓a_tup, ↓onG_name, ↓onG_tup, ↓onGs_nil, ↓onGs_cons, ↓onTurn_nx, ↓onTurn_ct, ↓onTurn_bk, ↓onTurn_rt, ↓onLD_d, ↓v_ixAd, ↓v_inAd, ↓v_notInAd, ↓S_upd, ↓v_zip, ↓Wp_flatA, ↓v_int, ↓v_intB, ↓v_min, ↓v_gin, ↓v_gnin, ↓v_gix, ↓reduceIte, ↓Cp_nil, ↓Cp_cons, ↓Fl_nil, ↓Fl_cons, ↓at_0, ↓at_1, ↓at_2, ↓at_3, ↓at_4, ↓at_5, ↓at_6, sg_wdw, fl_wdw, kf_loose, ↓MD.eq (is_part_w p1 h1), ↓MD.eq (is_part_d p2), ↓MD.eq (is_part_w p3 h3), List.length_cons, List.length_nil, cut1, zipP, List.nil_append, List.cons_append, Nat.reduceAdd, Int.reduceAdd, ↓bls_cons, ↓bls_nil, lt0, le0, lt1, le1, lt2, le2, lt3, le3, lt4, le4, lt5, le5, lt6, le6, lt7, le7, lt8, le8, lt9, le9, lt10, le10, lt11, le11, lt12, le12, lt13, le13, lt14, le14, lt15, le15, lt16, le16, true_and, Option.isSome_some, ↓MD.eq (houses_loose p1 p2 p3)]
  refine ite_i (fun h => ?_) (fun h => ?_)
  · have ha := not_all h
    unfold B_loose
    rw [ha] <;> rfl
  · have ha := not_not_all h
    unfold B_loose
    rw [ha] <;> first | rfl | (simp (config := { decide := true }) only [↓S_next, ↓S_bk, ↓S_ct, ↓S_rtd, ↓S_seq, ↓S_set, ↓S_drop, ↓S_ret, ↓S_if, ↓S_asg, ↓S_put, ↓S_app, ↓S_ext, ↓S_for, ↓Wp_pure, ↓Wp_opt, ↓Wp_bind, ↓Wp_ite, ↓Wp_var, ↓Wp_op, ↓Wp_un, ↓Wp_test, ↓Wp_dand, ↓Wp_dor, ↓Wp_dnot, ↓Wp_dandV, ↓Wp_dorV, ↓Wp_dnotV, ↓Wp_chain, ↓Wp_cb, ↓Wp_cons, ↓Wp_nil, ↓Wp_tup, ↓Wp_lst, ↓Wp_part, ↓Wp_nopart, ↓Wp_slice, ↓Wp_isi, ↓Wp_isi2, ↓Wp_m1, ↓Wp_call, ↓Wp_pix, ↓Wp_callP0, ↓Wp_callP1, ↓Wp_comp, ↓Wp_disp, ↓Wp_dpnil, ↓Wp_dpcons, ↓Wp_flat, ↓onNx_nx, ↓onNx_bk, ↓onNx_ct, ↓onNx_rt, ↓onRt_rt, ↓onRt_nx, ↓onS_some, ↓onB_b, ↓onI_i, ↓onStr_s, ↓onL_l, ↓lk_0, ↓lk_S, ↓onSet_0, ↓onSet_S, ↓onPut_0, ↓onPut_S, ↓ite_dec, ↓ite_ndec, ↓ite_tt, ↓ite_ff, ↓ite_nt, ↓ite_nf, ↓v_gt, ↓v_lt, ↓v_le, ↓v_ge, ↓v_ltS, ↓v_add, ↓v_addS, ↓v_addL, ↓v_addT, ↓v_addN, ↓v_sub, ↓v_mul, ↓v_mulS, ↓v_mod, ↓v_fdiv, ↓v_pow, ↓v_neg, ↓v_lenL, ↓v_lenT, ↓v_lenS, ↓v_abs, ↓v_rev, ↓v_all, ↓v_any, ↓v_sum, ↓v_eq, ↓v_ne, ↓v_in, ↓v_notIn, ↓q_ii, ↓q_ss, ↓items_l, ↓items_t, ↓items_s, ↓items_r1, ↓items_r2, ↓sl_l, ↓sl_t, ↓sl_s, ↓put_1, ↓put_2, ↓pen_0, ↓pen_1, ↓pen_2, ↓v_ixL, ↓v_ixT, ↓ins_NoneType_none, ↓ins_NoneType_bool, ↓ins_NoneType_int, ↓ins_NoneType_str, ↓ins_NoneType_list, ↓ins_NoneType_tuple, ↓ins_NoneType_dict, ↓ins_bool_none, ↓ins_bool_bool, ↓ins_bool_int, ↓ins_bool_str, ↓ins_bool_list, ↓ins_bool_tuple, ↓ins_bool_dict, ↓ins_int_none, ↓ins_int_bool, ↓ins_int_int, ↓ins_int_str, ↓ins_int_list, ↓ins_int_tuple, ↓ins_int_dict, ↓ins_str_none, ↓ins_str_bool, ↓ins_str_int, ↓ins_str_str, ↓ins_str_list, ↓ins_str_tuple, ↓ins_str_dict, ↓ins_list_none, ↓ins_list_bool, ↓ins_list_int, ↓ins_list_str, ↓ins_list_list, ↓ins_list_tuple, ↓ins_list_dict, ↓ins_tuple_none, ↓ins_tuple_bool, ↓ins_tuple_int, ↓ins_tuple_str, ↓ins_tuple_list, ↓ins_tuple_tuple, ↓ins_tuple_dict, ↓ins_dict_none, ↓ins_dict_bool, ↓ins_dict_int, ↓ins_dict_str, ↓ins_dict_list, ↓ins_dict_tuple, ↓ins_dict_dict, ↓in_sign, ↓onClr_0, ↓onClr_S, ↓onW_nil, ↓onW_cons, ↓onRe_0, ↓onRe_S, ↓onBk_nil, ↓onBk_cons, ↓onTwo_l, ↓S_par, ↓a_tup, ↓onG_name, ↓onG_tup, ↓onGs_nil, ↓onGs_cons, ↓onTurn_nx, ↓onTurn_ct, ↓onTurn_bk, ↓onTurn_rt, ↓onLD_d, ↓v_ixAd, ↓v_inAd, ↓v_notInAd, ↓S_upd, ↓v_zip, ↓Wp_flatA, ↓v_int, ↓v_intB, ↓v_min, ↓v_gin, ↓v_gnin, ↓v_gix, ↓reduceIte, ↓at_0, ↓at_1, ↓at_2, ↓at_3, ↓at_4, ↓at_5, ↓at_6, List.length_cons, List.length_nil, cut1, zipP, List.nil_append, List.cons_append, Nat.reduceAdd, Int.reduceAdd, ↓bls_cons, ↓bls_nil, lt0, le0, lt1, le1, lt2, le2, lt3, le3, lt4, le4, lt5, le5, lt6, le6, lt7, le7, lt8, le8, lt9, le9, lt10, le10, lt11, le11, lt12, le12, lt13, le13, lt14, le14, lt15, le15, lt16, le16, true_and, Option.isSome_some])
def B_want (p1 p2 p3 p4 p5 : D) : Bool := [isW p1, within 0 999 p2, isW p3, isW p4, within 0 9 p5].all id
theorem houses_want (p1 p2 p3 p4 p5 : D) : m_houses_in [.tuple [.str "want", p1, p2, p3, p4, p5]] = some (.list [p3]) := by
  refine MD.get (MD_of rfl ?_)
  show Sp2 g_houses_in [some _, none] _
  unfold g_houses_in
  simp (config := { decide := true }) only [↓S_next, ↓S_bk, ↓S_ct, ↓S_rtd, ↓S_seq, ↓S_set, ↓S_drop, ↓S_ret, ↓S_if, ↓S_asg, ↓S_put, ↓S_app, ↓S_ext, ↓S_for, ↓Wp_pure, ↓Wp_opt, ↓Wp_bind, ↓Wp_ite, ↓Wp_var, ↓Wp_op, ↓Wp_un, ↓Wp_test, ↓Wp_dand, ↓Wp_dor, ↓Wp_dnot, ↓Wp_dandV, ↓Wp_dorV, ↓Wp_dnotV, ↓Wp_chain, ↓Wp_cb, ↓Wp_cons, ↓Wp_nil, ↓Wp_tup, ↓Wp_lst, ↓Wp_part, ↓Wp_nopart, ↓Wp_slice, ↓Wp_isi, ↓Wp_isi2, ↓Wp_m1, ↓Wp_call, ↓Wp_pix, ↓Wp_callP0, ↓Wp_callP1, ↓Wp_comp, ↓Wp_disp, ↓Wp_dpnil, ↓Wp_dpcons, ↓Wp_flat, ↓onNx_nx, ↓onNx_bk, ↓onNx_ct, ↓onNx_rt, ↓onRt_rt, ↓onRt_nx, ↓onS_some, ↓onB_b, ↓onI_i, ↓onStr_s, ↓onL_l, ↓lk_0, ↓lk_S, ↓onSet_0, ↓onSet_S, ↓onPut_0, ↓onPut_S, ↓ite_dec, ↓ite_ndec, ↓ite_tt, ↓ite_ff, ↓ite_nt, ↓ite_nf, ↓v_gt, ↓v_lt, ↓v_le, ↓v_ge, ↓v_ltS, ↓v_add, ↓v_addS, ↓v_addL, ↓v_addT, ↓v_addN, ↓v_sub, ↓v_mul, ↓v_mulS, ↓v_mod, ↓v_fdiv, ↓v_pow, ↓v_neg, ↓v_lenL, ↓v_lenT, ↓v_lenS, ↓v_abs, ↓v_rev, ↓v_all, ↓v_any, ↓v_sum, ↓v_eq, ↓v_ne, ↓v_in, ↓v_notIn, ↓q_ii, ↓q_ss, ↓items_l, ↓items_t, ↓items_s, ↓items_r1, ↓items_r2, ↓sl_l, ↓sl_t, ↓sl_s, ↓put_1, ↓put_2, ↓pen_0, ↓pen_1, ↓pen_2, ↓v_ixL, ↓v_ixT, ↓ins_NoneType_none, ↓ins_NoneType_bool, ↓ins_NoneType_int, ↓ins_NoneType_str, ↓ins_NoneType_list, ↓ins_NoneType_tuple, ↓ins_NoneType_dict, ↓ins_bool_none, ↓ins_bool_bool, ↓ins_bool_int, ↓ins_bool_str, ↓ins_bool_list, ↓ins_bool_tuple, ↓ins_bool_dict, ↓ins_int_none, ↓ins_int_bool, ↓ins_int_int, ↓ins_int_str, ↓ins_int_list, ↓ins_int_tuple, ↓ins_int_dict, ↓ins_str_none, ↓ins_str_bool, ↓ins_str_int, ↓ins_str_str, ↓ins_str_list, ↓ins_str_tuple, ↓ins_str_dict, ↓ins_list_none, ↓ins_list_bool, ↓ins_list_int, ↓ins_list_str, ↓ins_list_list, ↓ins_list_tuple, ↓ins_list_dict, ↓ins_tuple_none, ↓ins_tuple_bool, ↓ins_tuple_int, ↓ins_tuple_str, ↓ins_tuple_list, ↓ins_tuple_tuple, ↓ins_tuple_dict, ↓ins_dict_none, ↓ins_dict_bool, ↓ins_dict_int, ↓ins_dict_str, ↓ins_dict_list, ↓ins_dict_tuple, ↓ins_dict_dict, ↓in_sign, ↓onClr_0, ↓onClr_S, ↓onW_nil, ↓onW_cons, ↓onRe_0, ↓onRe_S, ↓onBk_nil, ↓onBk_cons, ↓onTwo_l, ↓S_par, ↓a_tup, ↓onG_name, ↓onG_tup, ↓onGs_nil, ↓onGs_cons, ↓onTurn_nx, ↓onTurn_ct, ↓onTurn_bk, ↓onTurn_rt, ↓onLD_d, ↓v_ixAd, ↓v_inAd, ↓v_notInAd, ↓S_upd, ↓v_zip, ↓Wp_flatA, ↓v_int, ↓v_intB, ↓v_min, ↓v_gin, ↓v_gnin, ↓v_gix, ↓reduceIte, ↓Cp_nil, ↓Cp_cons, ↓Fl_nil, ↓Fl_cons, ↓at_0, ↓at_1, ↓at_2, ↓at_3, ↓at_4, ↓at_5, ↓at_6, ↓kh_want, List.length_cons, List.length_nil, cut1, zipP, List.nil_append, List.cons_append, Nat.reduceAdd, Int.reduceAdd, ↓bls_cons, ↓bls_nil, lt0, le0, lt1, le1, lt2, le2, lt3, le3, lt4, le4, lt5, le5, lt6, le6, lt7, le7, lt8, le8, lt9, le9, lt10, le10, lt11, le11, lt12, le12, lt13, le13, lt14, le14, lt15, le15, lt16, le16, true_and, Option.isSome_some]
theorem is_page_want (p1 p2 p3 p4 p5 : D) (h1 : ∀ z, p1 = .str z → z.length ≤ 1000) (h3 : ∀ z, p3 = .str z → z.length ≤ 1000) (h4 : ∀ z, p4 = .str z → z.length ≤ 1000) : m_is_page [.tuple [.str "want", p1, p2, p3, p4, p5]] = some (.bool (B_want p1 p2 p3 p4 p5)) := by
  refine MD.get (MD_of rfl ?_)
  show Sp2 g_is_page [some _, none, none, none, none] _
  unfold g_is_page
  simp only [↓S_next, ↓S_bk, ↓S_ct, ↓S_rtd, ↓S_seq, ↓S_set, ↓S_drop, ↓S_ret, ↓S_if, ↓S_asg, ↓S_put, ↓S_app, ↓S_ext, ↓S_for, ↓Wp_pure, ↓Wp_opt, ↓Wp_bind, ↓Wp_ite, ↓Wp_var, ↓Wp_op, ↓Wp_un, ↓Wp_test, ↓Wp_dand, ↓Wp_dor, ↓Wp_dnot, ↓Wp_dandV, ↓Wp_dorV, ↓Wp_dnotV, ↓Wp_chain, ↓Wp_cb, ↓Wp_cons, ↓Wp_nil, ↓Wp_tup, ↓Wp_lst, ↓Wp_part, ↓Wp_nopart, ↓Wp_slice, ↓Wp_isi, ↓Wp_isi2, ↓Wp_m1, ↓Wp_call, ↓Wp_pix, ↓Wp_callP0, ↓Wp_callP1, ↓Wp_comp, ↓Wp_disp, ↓Wp_dpnil, ↓Wp_dpcons, ↓Wp_flat, ↓onNx_nx, ↓onNx_bk, ↓onNx_ct, ↓onNx_rt, ↓onRt_rt, ↓onRt_nx, ↓onS_some, ↓onB_b, ↓onI_i, ↓onStr_s, ↓onL_l, ↓lk_0, ↓lk_S, ↓onSet_0, ↓onSet_S, ↓onPut_0, ↓onPut_S, ↓ite_dec, ↓ite_ndec, ↓ite_tt, ↓ite_ff, ↓ite_nt, ↓ite_nf, ↓v_gt, ↓v_lt, ↓v_le, ↓v_ge, ↓v_ltS, ↓v_add, ↓v_addS, ↓v_addL, ↓v_addT, ↓v_addN, ↓v_sub, ↓v_mul, ↓v_mulS, ↓v_mod, ↓v_fdiv, ↓v_pow, ↓v_neg, ↓v_lenL, ↓v_lenT, ↓v_lenS, ↓v_abs, ↓v_rev, ↓v_all, ↓v_any, ↓v_sum, ↓v_eq, ↓v_ne, ↓v_in, ↓v_notIn, ↓q_ii, ↓q_ss, ↓items_l, ↓items_t, ↓items_s, ↓items_r1, ↓items_r2, ↓sl_l, ↓sl_t, ↓sl_s, ↓put_1, ↓put_2, ↓pen_0, ↓pen_1, ↓pen_2, ↓v_ixL, ↓v_ixT, ↓ins_NoneType_none, ↓ins_NoneType_bool, ↓ins_NoneType_int, ↓ins_NoneType_str, ↓ins_NoneType_list, ↓ins_NoneType_tuple, ↓ins_NoneType_dict, ↓ins_bool_none, ↓ins_bool_bool, ↓ins_bool_int, ↓ins_bool_str, ↓ins_bool_list, ↓ins_bool_tuple, ↓ins_bool_dict, ↓ins_int_none, ↓ins_int_bool, ↓ins_int_int, ↓ins_int_str, ↓ins_int_list, ↓ins_int_tuple, ↓ins_int_dict, ↓ins_str_none, ↓ins_str_bool, ↓ins_str_int, ↓ins_str_str, ↓ins_str_list, ↓ins_str_tuple, ↓ins_str_dict, ↓ins_list_none, ↓ins_list_bool, ↓ins_list_int, ↓ins_list_str, ↓ins_list_list, ↓ins_list_tuple, ↓ins_list_dict, ↓ins_tuple_none, ↓ins_tuple_bool, ↓ins_tuple_int, ↓ins_tuple_str, ↓ins_tuple_list, ↓ins_tuple_tuple, ↓ins_tuple_dict, ↓ins_dict_none, ↓ins_dict_bool, ↓ins_dict_int, ↓ins_dict_str, ↓ins_dict_list, ↓ins_dict_tuple, ↓ins_dict_dict, ↓in_sign, ↓onClr_0, ↓onClr_S, ↓onW_nil, ↓onW_cons, ↓onRe_0, ↓onRe_S, ↓onBk_nil, ↓onBk_cons, ↓onTwo_l, ↓S_par, ↓a_tup, ↓onG_name, ↓onG_tup, ↓onGs_nil, ↓onGs_cons, ↓onTurn_nx, ↓onTurn_ct, ↓onTurn_bk, ↓onTurn_rt, ↓onLD_d, ↓v_ixAd, ↓v_inAd, ↓v_notInAd, ↓S_upd, ↓v_zip, ↓Wp_flatA, ↓v_int, ↓v_intB, ↓v_min, ↓v_gin, ↓v_gnin, ↓v_gix, ↓reduceIte, ↓Cp_nil, ↓Cp_cons, ↓Fl_nil, ↓Fl_cons, ↓at_0, ↓at_1, ↓at_2, ↓at_3, ↓at_4, ↓at_5, ↓at_6, List.length_cons, List.length_nil, cut1, ↓kf_want]
  simp (config := { decide := true }) only [↓S_next, ↓S_bk, ↓S_ct, ↓S_rtd, ↓S_seq, ↓S_set, ↓S_drop, ↓S_ret, ↓S_if, ↓S_asg, ↓S_put, ↓S_app, ↓S_ext, ↓S_for, ↓Wp_pure, ↓Wp_opt, ↓Wp_bind, ↓Wp_ite, ↓Wp_var, ↓Wp_op, ↓Wp_un, ↓Wp_test, ↓Wp_dand, ↓Wp_dor, ↓Wp_dnot, ↓Wp_dandV, ↓Wp_dorV, ↓Wp_dnotV, ↓Wp_chain, ↓Wp_cb, ↓Wp_cons, ↓Wp_nil, ↓Wp_tup, ↓Wp_lst, ↓Wp_part, ↓Wp_nopart, ↓Wp_slice, ↓Wp_isi, ↓Wp_isi2, ↓Wp_m1, ↓Wp_call, ↓Wp_pix, ↓Wp_callP0, ↓Wp_callP1, ↓Wp_comp, ↓Wp_disp, ↓Wp_dpnil, ↓Wp_dpcons, ↓Wp_flat, ↓onNx_nx, ↓onNx_bk, ↓onNx_ct, ↓onNx_rt, ↓onRt_rt, ↓onRt_nx, ↓onS_some, ↓onB_b, ↓onI_i, ↓onStr_s, ↓onL_l, ↓lk_0, ↓lk_S, ↓onSet_0, ↓onSet_S, ↓onPut_0, ↓onPut_S, ↓ite_dec, ↓ite_ndec, ↓ite_tt, ↓ite_ff, ↓ite_nt, ↓ite_nf, ↓v_gt, ↓v_lt, ↓v_le, ↓v_ge, ↓v_ltS, ↓v_add, ↓v_addS, ↓v_addL, ↓v_addT, ↓v_addN, ↓v_sub, ↓v_mul, ↓v_mulS, ↓v_mod, ↓v_fdiv, ↓v_pow, ↓v_neg, ↓v_lenL, ↓v_lenT, ↓v_lenS, ↓v_abs, ↓v_rev, ↓v_all, ↓v_any, ↓v_sum, ↓v_eq, ↓v_ne, ↓v_in, ↓v_notIn, ↓q_ii, ↓q_ss, ↓items_l, ↓items_t, ↓items_s, ↓items_r1, ↓items_r2, ↓sl_l, ↓sl_t, ↓sl_s, ↓put_1, ↓put_2, ↓pen_0, ↓pen_1, ↓pen_2, ↓v_ixL, ↓v_ixT, ↓ins_NoneType_none, ↓ins_NoneType_bool, ↓ins_NoneType_int, ↓ins_NoneType_str, ↓ins_NoneType_list, ↓ins_NoneType_tuple, ↓ins_NoneType_dict, ↓ins_bool_none, ↓ins_bool_bool, ↓ins_bool_int, ↓ins_bool_str, ↓ins_bool_list, ↓ins_bool_tuple, ↓ins_bool_dict, ↓ins_int_none, ↓ins_int_bool, ↓ins_int_int, ↓ins_int_str, ↓ins_int_list, ↓ins_int_tuple, ↓ins_int_dict, ↓ins_str_none, ↓ins_str_bool, ↓ins_str_int, ↓ins_str_str, ↓ins_str_list, ↓ins_str_tuple, ↓ins_str_dict, ↓ins_list_none, ↓ins_list_bool, ↓ins_list_int, ↓ins_list_str, ↓ins_list_list, ↓ins_list_tuple, ↓ins_list_dict, ↓ins_tuple_none, ↓ins_tuple_bool, ↓ins_tuple_int, ↓ins_tuple_str, ↓ins_tuple_list, ↓ins_tuple_tuple, ↓ins_tuple_dict, ↓ins_dict_none, ↓ins_dict_bool, ↓ins_dict_int, ↓ins_dict_str, ↓ins_dict_list, ↓ins_dict_tuple, ↓ins_dict_dict, ↓in_sign, ↓onClr_0, ↓onClr_S, ↓onW_nil, ↓onW_cons, ↓onRe_0, ↓onRe_S, ↓onBk_nil, ↓onBk_cons, ↓onTwo_l, ↓S_par, ↓a_tup, ↓onG_name, ↓onG_tup, ↓onGs_nil, ↓onGs_cons, ↓onTurn_nx, ↓onTurn_ct, ↓onTurn_bk, ↓onTurn_rt, ↓onLD_d, ↓v_ixAd, ↓v_inAd, ↓v_notInAd, ↓S_upd, ↓v_zip, ↓Wp_flatA, ↓v_int, ↓v_intB, ↓v_min, ↓v_gin, ↓v_gnin, ↓v_gix, ↓reduceIte, ↓Cp_nil, ↓Cp_cons, ↓Fl_nil, ↓Fl_cons, ↓at_0, ↓at_1, ↓at_2, ↓at_3, ↓at_4, ↓at_5, ↓at_6, sg_wdwwg, fl_wdwwg, kf_want, ↓MD.eq (is_part_w p1 h1), ↓MD.eq (is_part_d p2), ↓MD.eq (is_part_w p3 h3), ↓MD.eq (is_part_w p4 h4), ↓MD.eq (is_part_g p5), List.length_cons, List.length_nil, cut1, zipP, List.nil_append, List.cons_append, Nat.reduceAdd, Int.reduceAdd, ↓bls_cons, ↓bls_nil, lt0, le0, lt1, le1, lt2, le2, lt3, le3, lt4, le4, lt5, le5, lt6, le6, lt7, le7, lt8, le8, lt9, le9, lt10, le10, lt11, le11, lt12, le12, lt13, le13, lt14, le14, lt15, le15, lt16, le16, true_and, Option.isSome_some, ↓MD.eq (houses_want p1 p2 p3 p4 p5)]
  refine ite_i (fun h => ?_) (fun h => ?_)
  · have ha := not_all h
    unfold B_want
    rw [ha] <;> rfl
  · have ha := not_not_all h
    unfold B_want
    rw [ha] <;> first | rfl | (simp (config := { decide := true }) only [↓S_next, ↓S_bk, ↓S_ct, ↓S_rtd, ↓S_seq, ↓S_set, ↓S_drop, ↓S_ret, ↓S_if, ↓S_asg, ↓S_put, ↓S_app, ↓S_ext, ↓S_for, ↓Wp_pure, ↓Wp_opt, ↓Wp_bind, ↓Wp_ite, ↓Wp_var, ↓Wp_op, ↓Wp_un, ↓Wp_test, ↓Wp_dand, ↓Wp_dor, ↓Wp_dnot, ↓Wp_dandV, ↓Wp_dorV, ↓Wp_dnotV, ↓Wp_chain, ↓Wp_cb, ↓Wp_cons, ↓Wp_nil, ↓Wp_tup, ↓Wp_lst, ↓Wp_part, ↓Wp_nopart, ↓Wp_slice, ↓Wp_isi, ↓Wp_isi2, ↓Wp_m1, ↓Wp_call, ↓Wp_pix, ↓Wp_callP0, ↓Wp_callP1, ↓Wp_comp, ↓Wp_disp, ↓Wp_dpnil, ↓Wp_dpcons, ↓Wp_flat, ↓onNx_nx, ↓onNx_bk, ↓onNx_ct, ↓onNx_rt, ↓onRt_rt, ↓onRt_nx, ↓onS_some, ↓onB_b, ↓onI_i, ↓onStr_s, ↓onL_l, ↓lk_0, ↓lk_S, ↓onSet_0, ↓onSet_S, ↓onPut_0, ↓onPut_S, ↓ite_dec, ↓ite_ndec, ↓ite_tt, ↓ite_ff, ↓ite_nt, ↓ite_nf, ↓v_gt, ↓v_lt, ↓v_le, ↓v_ge, ↓v_ltS, ↓v_add, ↓v_addS, ↓v_addL, ↓v_addT, ↓v_addN, ↓v_sub, ↓v_mul, ↓v_mulS, ↓v_mod, ↓v_fdiv, ↓v_pow, ↓v_neg, ↓v_lenL, ↓v_lenT, ↓v_lenS, ↓v_abs, ↓v_rev, ↓v_all, ↓v_any, ↓v_sum, ↓v_eq, ↓v_ne, ↓v_in, ↓v_notIn, ↓q_ii, ↓q_ss, ↓items_l, ↓items_t, ↓items_s, ↓items_r1, ↓items_r2, ↓sl_l, ↓sl_t, ↓sl_s, ↓put_1, ↓put_2, ↓pen_0, ↓pen_1, ↓pen_2, ↓v_ixL, ↓v_ixT, ↓ins_NoneType_none, ↓ins_NoneType_bool, ↓ins_NoneType_int, ↓ins_NoneType_str, ↓ins_NoneType_list, ↓ins_NoneType_tuple, ↓ins_NoneType_dict, ↓ins_bool_none, ↓ins_bool_bool, ↓ins_bool_int, ↓ins_bool_str, ↓ins_bool_list, ↓ins_bool_tuple, ↓ins_bool_dict, ↓ins_int_none, ↓ins_int_bool, ↓ins_int_int, ↓ins_int_str, ↓ins_int_list, ↓ins_int_tuple, ↓ins_int_dict, ↓ins_str_none, ↓ins_str_bool, ↓ins_str_int, ↓ins_str_str, ↓ins_str_list, ↓ins_str_tuple, ↓ins_str_dict, ↓ins_list_none, ↓ins_list_bool, ↓ins_list_int, ↓ins_list_str, ↓ins_list_list, ↓ins_list_tuple, ↓ins_list_dict, ↓ins_tuple_none, ↓ins_tuple_bool, ↓ins_tuple_int, ↓ins_tuple_str, ↓ins_tuple_list, ↓ins_tuple_tuple, ↓ins_tuple_dict, ↓ins_dict_none, ↓ins_dict_bool, ↓ins_dict_int, ↓ins_dict_str, ↓ins_dict_list, ↓ins_dict_tuple, ↓ins_dict_dict, ↓in_sign, ↓onClr_0, ↓onClr_S, ↓onW_nil, ↓onW_cons, ↓onRe_0, ↓onRe_S, ↓onBk_nil, ↓onBk_cons, ↓onTwo_l, ↓S_par, ↓a_tup, ↓onG_name, ↓onG_tup, ↓onGs_nil, ↓onGs_cons, ↓onTurn_nx, ↓onTurn_ct, ↓onTurn_bk, ↓onTurn_rt, ↓onLD_d, ↓v_ixAd, ↓v_inAd, ↓v_notInAd, ↓S_upd, ↓v_zip, ↓Wp_flatA, ↓v_int, ↓v_intB, ↓v_min, ↓v_gin, ↓v_gnin, ↓v_gix, ↓reduceIte, ↓at_0, ↓at_1, ↓at_2, ↓at_3, ↓at_4, ↓at_5, ↓at_6, List.length_cons, List.length_nil, cut1, zipP, List.nil_append, List.cons_append, Nat.reduceAdd, Int.reduceAdd, ↓bls_cons, ↓bls_nil, lt0, le0, lt1, le1, lt2, le2, lt3, le3, lt4, le4, lt5, le5, lt6, le6, lt7, le7, lt8, le8, lt9, le9, lt10, le10, lt11, le11, lt12, le12, lt13, le13, lt14, le14, lt15, le15, lt16, le16, true_and, Option.isSome_some])
def B_owe (p1 p2 p3 p4 p5 : D) : Bool := [isW p1, within 0 999 p2, isW p3, isW p4, within 1 1000000000 p5].all id && !(PyData.eqv p3 p4)
theorem houses_owe (p1 p2 p3 p4 p5 : D) : m_houses_in [.tuple [.str "owe", p1, p2, p3, p4, p5]] = some (.list [p3, p4]) := by
  refine MD.get (MD_of rfl ?_)
  show Sp2 g_houses_in [some _, none] _
  unfold g_houses_in
  simp (config := { decide := true }) only [↓S_next, ↓S_bk, ↓S_ct, ↓S_rtd, ↓S_seq, ↓S_set, ↓S_drop, ↓S_ret, ↓S_if, ↓S_asg, ↓S_put, ↓S_app, ↓S_ext, ↓S_for, ↓Wp_pure, ↓Wp_opt, ↓Wp_bind, ↓Wp_ite, ↓Wp_var, ↓Wp_op, ↓Wp_un, ↓Wp_test, ↓Wp_dand, ↓Wp_dor, ↓Wp_dnot, ↓Wp_dandV, ↓Wp_dorV, ↓Wp_dnotV, ↓Wp_chain, ↓Wp_cb, ↓Wp_cons, ↓Wp_nil, ↓Wp_tup, ↓Wp_lst, ↓Wp_part, ↓Wp_nopart, ↓Wp_slice, ↓Wp_isi, ↓Wp_isi2, ↓Wp_m1, ↓Wp_call, ↓Wp_pix, ↓Wp_callP0, ↓Wp_callP1, ↓Wp_comp, ↓Wp_disp, ↓Wp_dpnil, ↓Wp_dpcons, ↓Wp_flat, ↓onNx_nx, ↓onNx_bk, ↓onNx_ct, ↓onNx_rt, ↓onRt_rt, ↓onRt_nx, ↓onS_some, ↓onB_b, ↓onI_i, ↓onStr_s, ↓onL_l, ↓lk_0, ↓lk_S, ↓onSet_0, ↓onSet_S, ↓onPut_0, ↓onPut_S, ↓ite_dec, ↓ite_ndec, ↓ite_tt, ↓ite_ff, ↓ite_nt, ↓ite_nf, ↓v_gt, ↓v_lt, ↓v_le, ↓v_ge, ↓v_ltS, ↓v_add, ↓v_addS, ↓v_addL, ↓v_addT, ↓v_addN, ↓v_sub, ↓v_mul, ↓v_mulS, ↓v_mod, ↓v_fdiv, ↓v_pow, ↓v_neg, ↓v_lenL, ↓v_lenT, ↓v_lenS, ↓v_abs, ↓v_rev, ↓v_all, ↓v_any, ↓v_sum, ↓v_eq, ↓v_ne, ↓v_in, ↓v_notIn, ↓q_ii, ↓q_ss, ↓items_l, ↓items_t, ↓items_s, ↓items_r1, ↓items_r2, ↓sl_l, ↓sl_t, ↓sl_s, ↓put_1, ↓put_2, ↓pen_0, ↓pen_1, ↓pen_2, ↓v_ixL, ↓v_ixT, ↓ins_NoneType_none, ↓ins_NoneType_bool, ↓ins_NoneType_int, ↓ins_NoneType_str, ↓ins_NoneType_list, ↓ins_NoneType_tuple, ↓ins_NoneType_dict, ↓ins_bool_none, ↓ins_bool_bool, ↓ins_bool_int, ↓ins_bool_str, ↓ins_bool_list, ↓ins_bool_tuple, ↓ins_bool_dict, ↓ins_int_none, ↓ins_int_bool, ↓ins_int_int, ↓ins_int_str, ↓ins_int_list, ↓ins_int_tuple, ↓ins_int_dict, ↓ins_str_none, ↓ins_str_bool, ↓ins_str_int, ↓ins_str_str, ↓ins_str_list, ↓ins_str_tuple, ↓ins_str_dict, ↓ins_list_none, ↓ins_list_bool, ↓ins_list_int, ↓ins_list_str, ↓ins_list_list, ↓ins_list_tuple, ↓ins_list_dict, ↓ins_tuple_none, ↓ins_tuple_bool, ↓ins_tuple_int, ↓ins_tuple_str, ↓ins_tuple_list, ↓ins_tuple_tuple, ↓ins_tuple_dict, ↓ins_dict_none, ↓ins_dict_bool, ↓ins_dict_int, ↓ins_dict_str, ↓ins_dict_list, ↓ins_dict_tuple, ↓ins_dict_dict, ↓in_sign, ↓onClr_0, ↓onClr_S, ↓onW_nil, ↓onW_cons, ↓onRe_0, ↓onRe_S, ↓onBk_nil, ↓onBk_cons, ↓onTwo_l, ↓S_par, ↓a_tup, ↓onG_name, ↓onG_tup, ↓onGs_nil, ↓onGs_cons, ↓onTurn_nx, ↓onTurn_ct, ↓onTurn_bk, ↓onTurn_rt, ↓onLD_d, ↓v_ixAd, ↓v_inAd, ↓v_notInAd, ↓S_upd, ↓v_zip, ↓Wp_flatA, ↓v_int, ↓v_intB, ↓v_min, ↓v_gin, ↓v_gnin, ↓v_gix, ↓reduceIte, ↓Cp_nil, ↓Cp_cons, ↓Fl_nil, ↓Fl_cons, ↓at_0, ↓at_1, ↓at_2, ↓at_3, ↓at_4, ↓at_5, ↓at_6, ↓kh_owe, List.length_cons, List.length_nil, cut1, zipP, List.nil_append, List.cons_append, Nat.reduceAdd, Int.reduceAdd, ↓bls_cons, ↓bls_nil, lt0, le0, lt1, le1, lt2, le2, lt3, le3, lt4, le4, lt5, le5, lt6, le6, lt7, le7, lt8, le8, lt9, le9, lt10, le10, lt11, le11, lt12, le12, lt13, le13, lt14, le14, lt15, le15, lt16, le16, true_and, Option.isSome_some]
theorem is_page_owe (p1 p2 p3 p4 p5 : D) (h1 : ∀ z, p1 = .str z → z.length ≤ 1000) (h3 : ∀ z, p3 = .str z → z.length ≤ 1000) (h4 : ∀ z, p4 = .str z → z.length ≤ 1000) : m_is_page [.tuple [.str "owe", p1, p2, p3, p4, p5]] = some (.bool (B_owe p1 p2 p3 p4 p5)) := by
  refine MD.get (MD_of rfl ?_)
  show Sp2 g_is_page [some _, none, none, none, none] _
  unfold g_is_page
  simp only [↓S_next, ↓S_bk, ↓S_ct, ↓S_rtd, ↓S_seq, ↓S_set, ↓S_drop, ↓S_ret, ↓S_if, ↓S_asg, ↓S_put, ↓S_app, ↓S_ext, ↓S_for, ↓Wp_pure, ↓Wp_opt, ↓Wp_bind, ↓Wp_ite, ↓Wp_var, ↓Wp_op, ↓Wp_un, ↓Wp_test, ↓Wp_dand, ↓Wp_dor, ↓Wp_dnot, ↓Wp_dandV, ↓Wp_dorV, ↓Wp_dnotV, ↓Wp_chain, ↓Wp_cb, ↓Wp_cons, ↓Wp_nil, ↓Wp_tup, ↓Wp_lst, ↓Wp_part, ↓Wp_nopart, ↓Wp_slice, ↓Wp_isi, ↓Wp_isi2, ↓Wp_m1, ↓Wp_call, ↓Wp_pix, ↓Wp_callP0, ↓Wp_callP1, ↓Wp_comp, ↓Wp_disp, ↓Wp_dpnil, ↓Wp_dpcons, ↓Wp_flat, ↓onNx_nx, ↓onNx_bk, ↓onNx_ct, ↓onNx_rt, ↓onRt_rt, ↓onRt_nx, ↓onS_some, ↓onB_b, ↓onI_i, ↓onStr_s, ↓onL_l, ↓lk_0, ↓lk_S, ↓onSet_0, ↓onSet_S, ↓onPut_0, ↓onPut_S, ↓ite_dec, ↓ite_ndec, ↓ite_tt, ↓ite_ff, ↓ite_nt, ↓ite_nf, ↓v_gt, ↓v_lt, ↓v_le, ↓v_ge, ↓v_ltS, ↓v_add, ↓v_addS, ↓v_addL, ↓v_addT, ↓v_addN, ↓v_sub, ↓v_mul, ↓v_mulS, ↓v_mod, ↓v_fdiv, ↓v_pow, ↓v_neg, ↓v_lenL, ↓v_lenT, ↓v_lenS, ↓v_abs, ↓v_rev, ↓v_all, ↓v_any, ↓v_sum, ↓v_eq, ↓v_ne, ↓v_in, ↓v_notIn, ↓q_ii, ↓q_ss, ↓items_l, ↓items_t, ↓items_s, ↓items_r1, ↓items_r2, ↓sl_l, ↓sl_t, ↓sl_s, ↓put_1, ↓put_2, ↓pen_0, ↓pen_1, ↓pen_2, ↓v_ixL, ↓v_ixT, ↓ins_NoneType_none, ↓ins_NoneType_bool, ↓ins_NoneType_int, ↓ins_NoneType_str, ↓ins_NoneType_list, ↓ins_NoneType_tuple, ↓ins_NoneType_dict, ↓ins_bool_none, ↓ins_bool_bool, ↓ins_bool_int, ↓ins_bool_str, ↓ins_bool_list, ↓ins_bool_tuple, ↓ins_bool_dict, ↓ins_int_none, ↓ins_int_bool, ↓ins_int_int, ↓ins_int_str, ↓ins_int_list, ↓ins_int_tuple, ↓ins_int_dict, ↓ins_str_none, ↓ins_str_bool, ↓ins_str_int, ↓ins_str_str, ↓ins_str_list, ↓ins_str_tuple, ↓ins_str_dict, ↓ins_list_none, ↓ins_list_bool, ↓ins_list_int, ↓ins_list_str, ↓ins_list_list, ↓ins_list_tuple, ↓ins_list_dict, ↓ins_tuple_none, ↓ins_tuple_bool, ↓ins_tuple_int, ↓ins_tuple_str, ↓ins_tuple_list, ↓ins_tuple_tuple, ↓ins_tuple_dict, ↓ins_dict_none, ↓ins_dict_bool, ↓ins_dict_int, ↓ins_dict_str, ↓ins_dict_list, ↓ins_dict_tuple, ↓ins_dict_dict, ↓in_sign, ↓onClr_0, ↓onClr_S, ↓onW_nil, ↓onW_cons, ↓onRe_0, ↓onRe_S, ↓onBk_nil, ↓onBk_cons, ↓onTwo_l, ↓S_par, ↓a_tup, ↓onG_name, ↓onG_tup, ↓onGs_nil, ↓onGs_cons, ↓onTurn_nx, ↓onTurn_ct, ↓onTurn_bk, ↓onTurn_rt, ↓onLD_d, ↓v_ixAd, ↓v_inAd, ↓v_notInAd, ↓S_upd, ↓v_zip, ↓Wp_flatA, ↓v_int, ↓v_intB, ↓v_min, ↓v_gin, ↓v_gnin, ↓v_gix, ↓reduceIte, ↓Cp_nil, ↓Cp_cons, ↓Fl_nil, ↓Fl_cons, ↓at_0, ↓at_1, ↓at_2, ↓at_3, ↓at_4, ↓at_5, ↓at_6, List.length_cons, List.length_nil, cut1, ↓kf_owe]
  simp (config := { decide := true }) only [↓S_next, ↓S_bk, ↓S_ct, ↓S_rtd, ↓S_seq, ↓S_set, ↓S_drop, ↓S_ret, ↓S_if, ↓S_asg, ↓S_put, ↓S_app, ↓S_ext, ↓S_for, ↓Wp_pure, ↓Wp_opt, ↓Wp_bind, ↓Wp_ite, ↓Wp_var, ↓Wp_op, ↓Wp_un, ↓Wp_test, ↓Wp_dand, ↓Wp_dor, ↓Wp_dnot, ↓Wp_dandV, ↓Wp_dorV, ↓Wp_dnotV, ↓Wp_chain, ↓Wp_cb, ↓Wp_cons, ↓Wp_nil, ↓Wp_tup, ↓Wp_lst, ↓Wp_part, ↓Wp_nopart, ↓Wp_slice, ↓Wp_isi, ↓Wp_isi2, ↓Wp_m1, ↓Wp_call, ↓Wp_pix, ↓Wp_callP0, ↓Wp_callP1, ↓Wp_comp, ↓Wp_disp, ↓Wp_dpnil, ↓Wp_dpcons, ↓Wp_flat, ↓onNx_nx, ↓onNx_bk, ↓onNx_ct, ↓onNx_rt, ↓onRt_rt, ↓onRt_nx, ↓onS_some, ↓onB_b, ↓onI_i, ↓onStr_s, ↓onL_l, ↓lk_0, ↓lk_S, ↓onSet_0, ↓onSet_S, ↓onPut_0, ↓onPut_S, ↓ite_dec, ↓ite_ndec, ↓ite_tt, ↓ite_ff, ↓ite_nt, ↓ite_nf, ↓v_gt, ↓v_lt, ↓v_le, ↓v_ge, ↓v_ltS, ↓v_add, ↓v_addS, ↓v_addL, ↓v_addT, ↓v_addN, ↓v_sub, ↓v_mul, ↓v_mulS, ↓v_mod, ↓v_fdiv, ↓v_pow, ↓v_neg, ↓v_lenL, ↓v_lenT, ↓v_lenS, ↓v_abs, ↓v_rev, ↓v_all, ↓v_any, ↓v_sum, ↓v_eq, ↓v_ne, ↓v_in, ↓v_notIn, ↓q_ii, ↓q_ss, ↓items_l, ↓items_t, ↓items_s, ↓items_r1, ↓items_r2, ↓sl_l, ↓sl_t, ↓sl_s, ↓put_1, ↓put_2, ↓pen_0, ↓pen_1, ↓pen_2, ↓v_ixL, ↓v_ixT, ↓ins_NoneType_none, ↓ins_NoneType_bool, ↓ins_NoneType_int, ↓ins_NoneType_str, ↓ins_NoneType_list, ↓ins_NoneType_tuple, ↓ins_NoneType_dict, ↓ins_bool_none, ↓ins_bool_bool, ↓ins_bool_int, ↓ins_bool_str, ↓ins_bool_list, ↓ins_bool_tuple, ↓ins_bool_dict, ↓ins_int_none, ↓ins_int_bool, ↓ins_int_int, ↓ins_int_str, ↓ins_int_list, ↓ins_int_tuple, ↓ins_int_dict, ↓ins_str_none, ↓ins_str_bool, ↓ins_str_int, ↓ins_str_str, ↓ins_str_list, ↓ins_str_tuple, ↓ins_str_dict, ↓ins_list_none, ↓ins_list_bool, ↓ins_list_int, ↓ins_list_str, ↓ins_list_list, ↓ins_list_tuple, ↓ins_list_dict, ↓ins_tuple_none, ↓ins_tuple_bool, ↓ins_tuple_int, ↓ins_tuple_str, ↓ins_tuple_list, ↓ins_tuple_tuple, ↓ins_tuple_dict, ↓ins_dict_none, ↓ins_dict_bool, ↓ins_dict_int, ↓ins_dict_str, ↓ins_dict_list, ↓ins_dict_tuple, ↓ins_dict_dict, ↓in_sign, ↓onClr_0, ↓onClr_S, ↓onW_nil, ↓onW_cons, ↓onRe_0, ↓onRe_S, ↓onBk_nil, ↓onBk_cons, ↓onTwo_l, ↓S_par, ↓a_tup, ↓onG_name, ↓onG_tup, ↓onGs_nil, ↓onGs_cons, ↓onTurn_nx, ↓onTurn_ct, ↓onTurn_bk, ↓onTurn_rt, ↓onLD_d, ↓v_ixAd, ↓v_inAd, ↓v_notInAd, ↓S_upd, ↓v_zip, ↓Wp_flatA, ↓v_int, ↓v_intB, ↓v_min, ↓v_gin, ↓v_gnin, ↓v_gix, ↓reduceIte, ↓Cp_nil, ↓Cp_cons, ↓Fl_nil, ↓Fl_cons, ↓at_0, ↓at_1, ↓at_2, ↓at_3, ↓at_4, ↓at_5, ↓at_6, sg_wdwwp, fl_wdwwp, kf_owe, ↓MD.eq (is_part_w p1 h1), ↓MD.eq (is_part_d p2), ↓MD.eq (is_part_w p3 h3), ↓MD.eq (is_part_w p4 h4), ↓MD.eq (is_part_p p5), List.length_cons, List.length_nil, cut1, zipP, List.nil_append, List.cons_append, Nat.reduceAdd, Int.reduceAdd, ↓bls_cons, ↓bls_nil, lt0, le0, lt1, le1, lt2, le2, lt3, le3, lt4, le4, lt5, le5, lt6, le6, lt7, le7, lt8, le8, lt9, le9, lt10, le10, lt11, le11, lt12, le12, lt13, le13, lt14, le14, lt15, le15, lt16, le16, true_and, Option.isSome_some, ↓MD.eq (houses_owe p1 p2 p3 p4 p5)]
  refine ite_i (fun h => ?_) (fun h => ?_)
  · have ha := not_all h
    unfold B_owe
    rw [ha] <;> rfl
  · have ha := not_not_all h
    unfold B_owe
    rw [ha]
    have hb := ha
    simp only [List.all_cons, List.all_nil, id, Bool.and_eq_true, Bool.and_true] at hb
    obtain ⟨z3, rfl⟩ := isW_is hb.2.2.1
    obtain ⟨z4, rfl⟩ := isW_is hb.2.2.2.1
    simp (config := { decide := true }) only [↓S_next, ↓S_bk, ↓S_ct, ↓S_rtd, ↓S_seq, ↓S_set, ↓S_drop, ↓S_ret, ↓S_if, ↓S_asg, ↓S_put, ↓S_app, ↓S_ext, ↓S_for, ↓Wp_pure, ↓Wp_opt, ↓Wp_bind, ↓Wp_ite, ↓Wp_var, ↓Wp_op, ↓Wp_un, ↓Wp_test, ↓Wp_dand, ↓Wp_dor, ↓Wp_dnot, ↓Wp_dandV, ↓Wp_dorV, ↓Wp_dnotV, ↓Wp_chain, ↓Wp_cb, ↓Wp_cons, ↓Wp_nil, ↓Wp_tup, ↓Wp_lst, ↓Wp_part, ↓Wp_nopart, ↓Wp_slice, ↓Wp_isi, ↓Wp_isi2, ↓Wp_m1, ↓Wp_call, ↓Wp_pix, ↓Wp_callP0, ↓Wp_callP1, ↓Wp_comp, ↓Wp_disp, ↓Wp_dpnil, ↓Wp_dpcons, ↓Wp_flat, ↓onNx_nx, ↓onNx_bk, ↓onNx_ct, ↓onNx_rt, ↓onRt_rt, ↓onRt_nx, ↓onS_some, ↓onB_b, ↓onI_i, ↓onStr_s, ↓onL_l, ↓lk_0, ↓lk_S, ↓onSet_0, ↓onSet_S, ↓onPut_0, ↓onPut_S, ↓ite_dec, ↓ite_ndec, ↓ite_tt, ↓ite_ff, ↓ite_nt, ↓ite_nf, ↓v_gt, ↓v_lt, ↓v_le, ↓v_ge, ↓v_ltS, ↓v_add, ↓v_addS, ↓v_addL, ↓v_addT, ↓v_addN, ↓v_sub, ↓v_mul, ↓v_mulS, ↓v_mod, ↓v_fdiv, ↓v_pow, ↓v_neg, ↓v_lenL, ↓v_lenT, ↓v_lenS, ↓v_abs, ↓v_rev, ↓v_all, ↓v_any, ↓v_sum, ↓v_eq, ↓v_ne, ↓v_in, ↓v_notIn, ↓q_ii, ↓q_ss, ↓items_l, ↓items_t, ↓items_s, ↓items_r1, ↓items_r2, ↓sl_l, ↓sl_t, ↓sl_s, ↓put_1, ↓put_2, ↓pen_0, ↓pen_1, ↓pen_2, ↓v_ixL, ↓v_ixT, ↓ins_NoneType_none, ↓ins_NoneType_bool, ↓ins_NoneType_int, ↓ins_NoneType_str, ↓ins_NoneType_list, ↓ins_NoneType_tuple, ↓ins_NoneType_dict, ↓ins_bool_none, ↓ins_bool_bool, ↓ins_bool_int, ↓ins_bool_str, ↓ins_bool_list, ↓ins_bool_tuple, ↓ins_bool_dict, ↓ins_int_none, ↓ins_int_bool, ↓ins_int_int, ↓ins_int_str, ↓ins_int_list, ↓ins_int_tuple, ↓ins_int_dict, ↓ins_str_none, ↓ins_str_bool, ↓ins_str_int, ↓ins_str_str, ↓ins_str_list, ↓ins_str_tuple, ↓ins_str_dict, ↓ins_list_none, ↓ins_list_bool, ↓ins_list_int, ↓ins_list_str, ↓ins_list_list, ↓ins_list_tuple, ↓ins_list_dict, ↓ins_tuple_none, ↓ins_tuple_bool, ↓ins_tuple_int, ↓ins_tuple_str, ↓ins_tuple_list, ↓ins_tuple_tuple, ↓ins_tuple_dict, ↓ins_dict_none, ↓ins_dict_bool, ↓ins_dict_int, ↓ins_dict_str, ↓ins_dict_list, ↓ins_dict_tuple, ↓ins_dict_dict, ↓in_sign, ↓onClr_0, ↓onClr_S, ↓onW_nil, ↓onW_cons, ↓onRe_0, ↓onRe_S, ↓onBk_nil, ↓onBk_cons, ↓onTwo_l, ↓S_par, ↓a_tup, ↓onG_name, ↓onG_tup, ↓onGs_nil, ↓onGs_cons, ↓onTurn_nx, ↓onTurn_ct, ↓onTurn_bk, ↓onTurn_rt, ↓onLD_d, ↓v_ixAd, ↓v_inAd, ↓v_notInAd, ↓S_upd, ↓v_zip, ↓Wp_flatA, ↓v_int, ↓v_intB, ↓v_min, ↓v_gin, ↓v_gnin, ↓v_gix, ↓reduceIte, ↓at_0, ↓at_1, ↓at_2, ↓at_3, ↓at_4, ↓at_5, ↓at_6, List.length_cons, List.length_nil, cut1, zipP, List.nil_append, List.cons_append, Nat.reduceAdd, Int.reduceAdd, ↓bls_cons, ↓bls_nil, lt0, le0, lt1, le1, lt2, le2, lt3, le3, lt4, le4, lt5, le5, lt6, le6, lt7, le7, lt8, le8, lt9, le9, lt10, le10, lt11, le11, lt12, le12, lt13, le13, lt14, le14, lt15, le15, lt16, le16, true_and, Option.isSome_some]
    rw [eqv_ss]
    refine ite_i (fun h2 => ?_) (fun h2 => ?_)
    · rw [decide_eq_true h2]
      rfl
    · rw [decide_eq_false h2]
      rfl
def B_pay (p1 p2 p3 p4 p5 : D) : Bool := [isW p1, within 0 999 p2, isW p3, isW p4, within 1 1000000000 p5].all id && !(PyData.eqv p3 p4)
theorem houses_pay (p1 p2 p3 p4 p5 : D) : m_houses_in [.tuple [.str "pay", p1, p2, p3, p4, p5]] = some (.list [p3, p4]) := by
  refine MD.get (MD_of rfl ?_)
  show Sp2 g_houses_in [some _, none] _
  unfold g_houses_in
  simp (config := { decide := true }) only [↓S_next, ↓S_bk, ↓S_ct, ↓S_rtd, ↓S_seq, ↓S_set, ↓S_drop, ↓S_ret, ↓S_if, ↓S_asg, ↓S_put, ↓S_app, ↓S_ext, ↓S_for, ↓Wp_pure, ↓Wp_opt, ↓Wp_bind, ↓Wp_ite, ↓Wp_var, ↓Wp_op, ↓Wp_un, ↓Wp_test, ↓Wp_dand, ↓Wp_dor, ↓Wp_dnot, ↓Wp_dandV, ↓Wp_dorV, ↓Wp_dnotV, ↓Wp_chain, ↓Wp_cb, ↓Wp_cons, ↓Wp_nil, ↓Wp_tup, ↓Wp_lst, ↓Wp_part, ↓Wp_nopart, ↓Wp_slice, ↓Wp_isi, ↓Wp_isi2, ↓Wp_m1, ↓Wp_call, ↓Wp_pix, ↓Wp_callP0, ↓Wp_callP1, ↓Wp_comp, ↓Wp_disp, ↓Wp_dpnil, ↓Wp_dpcons, ↓Wp_flat, ↓onNx_nx, ↓onNx_bk, ↓onNx_ct, ↓onNx_rt, ↓onRt_rt, ↓onRt_nx, ↓onS_some, ↓onB_b, ↓onI_i, ↓onStr_s, ↓onL_l, ↓lk_0, ↓lk_S, ↓onSet_0, ↓onSet_S, ↓onPut_0, ↓onPut_S, ↓ite_dec, ↓ite_ndec, ↓ite_tt, ↓ite_ff, ↓ite_nt, ↓ite_nf, ↓v_gt, ↓v_lt, ↓v_le, ↓v_ge, ↓v_ltS, ↓v_add, ↓v_addS, ↓v_addL, ↓v_addT, ↓v_addN, ↓v_sub, ↓v_mul, ↓v_mulS, ↓v_mod, ↓v_fdiv, ↓v_pow, ↓v_neg, ↓v_lenL, ↓v_lenT, ↓v_lenS, ↓v_abs, ↓v_rev, ↓v_all, ↓v_any, ↓v_sum, ↓v_eq, ↓v_ne, ↓v_in, ↓v_notIn, ↓q_ii, ↓q_ss, ↓items_l, ↓items_t, ↓items_s, ↓items_r1, ↓items_r2, ↓sl_l, ↓sl_t, ↓sl_s, ↓put_1, ↓put_2, ↓pen_0, ↓pen_1, ↓pen_2, ↓v_ixL, ↓v_ixT, ↓ins_NoneType_none, ↓ins_NoneType_bool, ↓ins_NoneType_int, ↓ins_NoneType_str, ↓ins_NoneType_list, ↓ins_NoneType_tuple, ↓ins_NoneType_dict, ↓ins_bool_none, ↓ins_bool_bool, ↓ins_bool_int, ↓ins_bool_str, ↓ins_bool_list, ↓ins_bool_tuple, ↓ins_bool_dict, ↓ins_int_none, ↓ins_int_bool, ↓ins_int_int, ↓ins_int_str, ↓ins_int_list, ↓ins_int_tuple, ↓ins_int_dict, ↓ins_str_none, ↓ins_str_bool, ↓ins_str_int, ↓ins_str_str, ↓ins_str_list, ↓ins_str_tuple, ↓ins_str_dict, ↓ins_list_none, ↓ins_list_bool, ↓ins_list_int, ↓ins_list_str, ↓ins_list_list, ↓ins_list_tuple, ↓ins_list_dict, ↓ins_tuple_none, ↓ins_tuple_bool, ↓ins_tuple_int, ↓ins_tuple_str, ↓ins_tuple_list, ↓ins_tuple_tuple, ↓ins_tuple_dict, ↓ins_dict_none, ↓ins_dict_bool, ↓ins_dict_int, ↓ins_dict_str, ↓ins_dict_list, ↓ins_dict_tuple, ↓ins_dict_dict, ↓in_sign, ↓onClr_0, ↓onClr_S, ↓onW_nil, ↓onW_cons, ↓onRe_0, ↓onRe_S, ↓onBk_nil, ↓onBk_cons, ↓onTwo_l, ↓S_par, ↓a_tup, ↓onG_name, ↓onG_tup, ↓onGs_nil, ↓onGs_cons, ↓onTurn_nx, ↓onTurn_ct, ↓onTurn_bk, ↓onTurn_rt, ↓onLD_d, ↓v_ixAd, ↓v_inAd, ↓v_notInAd, ↓S_upd, ↓v_zip, ↓Wp_flatA, ↓v_int, ↓v_intB, ↓v_min, ↓v_gin, ↓v_gnin, ↓v_gix, ↓reduceIte, ↓Cp_nil, ↓Cp_cons, ↓Fl_nil, ↓Fl_cons, ↓at_0, ↓at_1, ↓at_2, ↓at_3, ↓at_4, ↓at_5, ↓at_6, ↓kh_pay, List.length_cons, List.length_nil, cut1, zipP, List.nil_append, List.cons_append, Nat.reduceAdd, Int.reduceAdd, ↓bls_cons, ↓bls_nil, lt0, le0, lt1, le1, lt2, le2, lt3, le3, lt4, le4, lt5, le5, lt6, le6, lt7, le7, lt8, le8, lt9, le9, lt10, le10, lt11, le11, lt12, le12, lt13, le13, lt14, le14, lt15, le15, lt16, le16, true_and, Option.isSome_some]
theorem is_page_pay (p1 p2 p3 p4 p5 : D) (h1 : ∀ z, p1 = .str z → z.length ≤ 1000) (h3 : ∀ z, p3 = .str z → z.length ≤ 1000) (h4 : ∀ z, p4 = .str z → z.length ≤ 1000) : m_is_page [.tuple [.str "pay", p1, p2, p3, p4, p5]] = some (.bool (B_pay p1 p2 p3 p4 p5)) := by
  refine MD.get (MD_of rfl ?_)
  show Sp2 g_is_page [some _, none, none, none, none] _
  unfold g_is_page
  simp only [↓S_next, ↓S_bk, ↓S_ct, ↓S_rtd, ↓S_seq, ↓S_set, ↓S_drop, ↓S_ret, ↓S_if, ↓S_asg, ↓S_put, ↓S_app, ↓S_ext, ↓S_for, ↓Wp_pure, ↓Wp_opt, ↓Wp_bind, ↓Wp_ite, ↓Wp_var, ↓Wp_op, ↓Wp_un, ↓Wp_test, ↓Wp_dand, ↓Wp_dor, ↓Wp_dnot, ↓Wp_dandV, ↓Wp_dorV, ↓Wp_dnotV, ↓Wp_chain, ↓Wp_cb, ↓Wp_cons, ↓Wp_nil, ↓Wp_tup, ↓Wp_lst, ↓Wp_part, ↓Wp_nopart, ↓Wp_slice, ↓Wp_isi, ↓Wp_isi2, ↓Wp_m1, ↓Wp_call, ↓Wp_pix, ↓Wp_callP0, ↓Wp_callP1, ↓Wp_comp, ↓Wp_disp, ↓Wp_dpnil, ↓Wp_dpcons, ↓Wp_flat, ↓onNx_nx, ↓onNx_bk, ↓onNx_ct, ↓onNx_rt, ↓onRt_rt, ↓onRt_nx, ↓onS_some, ↓onB_b, ↓onI_i, ↓onStr_s, ↓onL_l, ↓lk_0, ↓lk_S, ↓onSet_0, ↓onSet_S, ↓onPut_0, ↓onPut_S, ↓ite_dec, ↓ite_ndec, ↓ite_tt, ↓ite_ff, ↓ite_nt, ↓ite_nf, ↓v_gt, ↓v_lt, ↓v_le, ↓v_ge, ↓v_ltS, ↓v_add, ↓v_addS, ↓v_addL, ↓v_addT, ↓v_addN, ↓v_sub, ↓v_mul, ↓v_mulS, ↓v_mod, ↓v_fdiv, ↓v_pow, ↓v_neg, ↓v_lenL, ↓v_lenT, ↓v_lenS, ↓v_abs, ↓v_rev, ↓v_all, ↓v_any, ↓v_sum, ↓v_eq, ↓v_ne, ↓v_in, ↓v_notIn, ↓q_ii, ↓q_ss, ↓items_l, ↓items_t, ↓items_s, ↓items_r1, ↓items_r2, ↓sl_l, ↓sl_t, ↓sl_s, ↓put_1, ↓put_2, ↓pen_0, ↓pen_1, ↓pen_2, ↓v_ixL, ↓v_ixT, ↓ins_NoneType_none, ↓ins_NoneType_bool, ↓ins_NoneType_int, ↓ins_NoneType_str, ↓ins_NoneType_list, ↓ins_NoneType_tuple, ↓ins_NoneType_dict, ↓ins_bool_none, ↓ins_bool_bool, ↓ins_bool_int, ↓ins_bool_str, ↓ins_bool_list, ↓ins_bool_tuple, ↓ins_bool_dict, ↓ins_int_none, ↓ins_int_bool, ↓ins_int_int, ↓ins_int_str, ↓ins_int_list, ↓ins_int_tuple, ↓ins_int_dict, ↓ins_str_none, ↓ins_str_bool, ↓ins_str_int, ↓ins_str_str, ↓ins_str_list, ↓ins_str_tuple, ↓ins_str_dict, ↓ins_list_none, ↓ins_list_bool, ↓ins_list_int, ↓ins_list_str, ↓ins_list_list, ↓ins_list_tuple, ↓ins_list_dict, ↓ins_tuple_none, ↓ins_tuple_bool, ↓ins_tuple_int, ↓ins_tuple_str, ↓ins_tuple_list, ↓ins_tuple_tuple, ↓ins_tuple_dict, ↓ins_dict_none, ↓ins_dict_bool, ↓ins_dict_int, ↓ins_dict_str, ↓ins_dict_list, ↓ins_dict_tuple, ↓ins_dict_dict, ↓in_sign, ↓onClr_0, ↓onClr_S, ↓onW_nil, ↓onW_cons, ↓onRe_0, ↓onRe_S, ↓onBk_nil, ↓onBk_cons, ↓onTwo_l, ↓S_par, ↓a_tup, ↓onG_name, ↓onG_tup, ↓onGs_nil, ↓onGs_cons, ↓onTurn_nx, ↓onTurn_ct, ↓onTurn_bk, ↓onTurn_rt, ↓onLD_d, ↓v_ixAd, ↓v_inAd, ↓v_notInAd, ↓S_upd, ↓v_zip, ↓Wp_flatA, ↓v_int, ↓v_intB, ↓v_min, ↓v_gin, ↓v_gnin, ↓v_gix, ↓reduceIte, ↓Cp_nil, ↓Cp_cons, ↓Fl_nil, ↓Fl_cons, ↓at_0, ↓at_1, ↓at_2, ↓at_3, ↓at_4, ↓at_5, ↓at_6, List.length_cons, List.length_nil, cut1, ↓kf_pay]
  simp (config := { decide := true }) only [↓S_next, ↓S_bk, ↓S_ct, ↓S_rtd, ↓S_seq, ↓S_set, ↓S_drop, ↓S_ret, ↓S_if, ↓S_asg, ↓S_put, ↓S_app, ↓S_ext, ↓S_for, ↓Wp_pure, ↓Wp_opt, ↓Wp_bind, ↓Wp_ite, ↓Wp_var, ↓Wp_op, ↓Wp_un, ↓Wp_test, ↓Wp_dand, ↓Wp_dor, ↓Wp_dnot, ↓Wp_dandV, ↓Wp_dorV, ↓Wp_dnotV, ↓Wp_chain, ↓Wp_cb, ↓Wp_cons, ↓Wp_nil, ↓Wp_tup, ↓Wp_lst, ↓Wp_part, ↓Wp_nopart, ↓Wp_slice, ↓Wp_isi, ↓Wp_isi2, ↓Wp_m1, ↓Wp_call, ↓Wp_pix, ↓Wp_callP0, ↓Wp_callP1, ↓Wp_comp, ↓Wp_disp, ↓Wp_dpnil, ↓Wp_dpcons, ↓Wp_flat, ↓onNx_nx, ↓onNx_bk, ↓onNx_ct, ↓onNx_rt, ↓onRt_rt, ↓onRt_nx, ↓onS_some, ↓onB_b, ↓onI_i, ↓onStr_s, ↓onL_l, ↓lk_0, ↓lk_S, ↓onSet_0, ↓onSet_S, ↓onPut_0, ↓onPut_S, ↓ite_dec, ↓ite_ndec, ↓ite_tt, ↓ite_ff, ↓ite_nt, ↓ite_nf, ↓v_gt, ↓v_lt, ↓v_le, ↓v_ge, ↓v_ltS, ↓v_add, ↓v_addS, ↓v_addL, ↓v_addT, ↓v_addN, ↓v_sub, ↓v_mul, ↓v_mulS, ↓v_mod, ↓v_fdiv, ↓v_pow, ↓v_neg, ↓v_lenL, ↓v_lenT, ↓v_lenS, ↓v_abs, ↓v_rev, ↓v_all, ↓v_any, ↓v_sum, ↓v_eq, ↓v_ne, ↓v_in, ↓v_notIn, ↓q_ii, ↓q_ss, ↓items_l, ↓items_t, ↓items_s, ↓items_r1, ↓items_r2, ↓sl_l, ↓sl_t, ↓sl_s, ↓put_1, ↓put_2, ↓pen_0, ↓pen_1, ↓pen_2, ↓v_ixL, ↓v_ixT, ↓ins_NoneType_none, ↓ins_NoneType_bool, ↓ins_NoneType_int, ↓ins_NoneType_str, ↓ins_NoneType_list, ↓ins_NoneType_tuple, ↓ins_NoneType_dict, ↓ins_bool_none, ↓ins_bool_bool, ↓ins_bool_int, ↓ins_bool_str, ↓ins_bool_list, ↓ins_bool_tuple, ↓ins_bool_dict, ↓ins_int_none, ↓ins_int_bool, ↓ins_int_int, ↓ins_int_str, ↓ins_int_list, ↓ins_int_tuple, ↓ins_int_dict, ↓ins_str_none, ↓ins_str_bool, ↓ins_str_int, ↓ins_str_str, ↓ins_str_list, ↓ins_str_tuple, ↓ins_str_dict, ↓ins_list_none, ↓ins_list_bool, ↓ins_list_int, ↓ins_list_str, ↓ins_list_list, ↓ins_list_tuple, ↓ins_list_dict, ↓ins_tuple_none, ↓ins_tuple_bool, ↓ins_tuple_int, ↓ins_tuple_str, ↓ins_tuple_list, ↓ins_tuple_tuple, ↓ins_tuple_dict, ↓ins_dict_none, ↓ins_dict_bool, ↓ins_dict_int, ↓ins_dict_str, ↓ins_dict_list, ↓ins_dict_tuple, ↓ins_dict_dict, ↓in_sign, ↓onClr_0, ↓onClr_S, ↓onW_nil, ↓onW_cons, ↓onRe_0, ↓onRe_S, ↓onBk_nil, ↓onBk_cons, ↓onTwo_l, ↓S_par, ↓a_tup, ↓onG_name, ↓onG_tup, ↓onGs_nil, ↓onGs_cons, ↓onTurn_nx, ↓onTurn_ct, ↓onTurn_bk, ↓onTurn_rt, ↓onLD_d, ↓v_ixAd, ↓v_inAd, ↓v_notInAd, ↓S_upd, ↓v_zip, ↓Wp_flatA, ↓v_int, ↓v_intB, ↓v_min, ↓v_gin, ↓v_gnin, ↓v_gix, ↓reduceIte, ↓Cp_nil, ↓Cp_cons, ↓Fl_nil, ↓Fl_cons, ↓at_0, ↓at_1, ↓at_2, ↓at_3, ↓at_4, ↓at_5, ↓at_6, sg_wdwwp, fl_wdwwp, kf_pay, ↓MD.eq (is_part_w p1 h1), ↓MD.eq (is_part_d p2), ↓MD.eq (is_part_w p3 h3), ↓MD.eq (is_part_w p4 h4), ↓MD.eq (is_part_p p5), List.length_cons, List.length_nil, cut1, zipP, List.nil_append, List.cons_append, Nat.reduceAdd, Int.reduceAdd, ↓bls_cons, ↓bls_nil, lt0, le0, lt1, le1, lt2, le2, lt3, le3, lt4, le4, lt5, le5, lt6, le6, lt7, le7, lt8, le8, lt9, le9, lt10, le10, lt11, le11, lt12, le12, lt13, le13, lt14, le14, lt15, le15, lt16, le16, true_and, Option.isSome_some, ↓MD.eq (houses_pay p1 p2 p3 p4 p5)]
  refine ite_i (fun h => ?_) (fun h => ?_)
  · have ha := not_all h
    unfold B_pay
    rw [ha] <;> rfl
  · have ha := not_not_all h
    unfold B_pay
    rw [ha]
    have hb := ha
    simp only [List.all_cons, List.all_nil, id, Bool.and_eq_true, Bool.and_true] at hb
    obtain ⟨z3, rfl⟩ := isW_is hb.2.2.1
    obtain ⟨z4, rfl⟩ := isW_is hb.2.2.2.1
    simp (config := { decide := true }) only [↓S_next, ↓S_bk, ↓S_ct, ↓S_rtd, ↓S_seq, ↓S_set, ↓S_drop, ↓S_ret, ↓S_if, ↓S_asg, ↓S_put, ↓S_app, ↓S_ext, ↓S_for, ↓Wp_pure, ↓Wp_opt, ↓Wp_bind, ↓Wp_ite, ↓Wp_var, ↓Wp_op, ↓Wp_un, ↓Wp_test, ↓Wp_dand, ↓Wp_dor, ↓Wp_dnot, ↓Wp_dandV, ↓Wp_dorV, ↓Wp_dnotV, ↓Wp_chain, ↓Wp_cb, ↓Wp_cons, ↓Wp_nil, ↓Wp_tup, ↓Wp_lst, ↓Wp_part, ↓Wp_nopart, ↓Wp_slice, ↓Wp_isi, ↓Wp_isi2, ↓Wp_m1, ↓Wp_call, ↓Wp_pix, ↓Wp_callP0, ↓Wp_callP1, ↓Wp_comp, ↓Wp_disp, ↓Wp_dpnil, ↓Wp_dpcons, ↓Wp_flat, ↓onNx_nx, ↓onNx_bk, ↓onNx_ct, ↓onNx_rt, ↓onRt_rt, ↓onRt_nx, ↓onS_some, ↓onB_b, ↓onI_i, ↓onStr_s, ↓onL_l, ↓lk_0, ↓lk_S, ↓onSet_0, ↓onSet_S, ↓onPut_0, ↓onPut_S, ↓ite_dec, ↓ite_ndec, ↓ite_tt, ↓ite_ff, ↓ite_nt, ↓ite_nf, ↓v_gt, ↓v_lt, ↓v_le, ↓v_ge, ↓v_ltS, ↓v_add, ↓v_addS, ↓v_addL, ↓v_addT, ↓v_addN, ↓v_sub, ↓v_mul, ↓v_mulS, ↓v_mod, ↓v_fdiv, ↓v_pow, ↓v_neg, ↓v_lenL, ↓v_lenT, ↓v_lenS, ↓v_abs, ↓v_rev, ↓v_all, ↓v_any, ↓v_sum, ↓v_eq, ↓v_ne, ↓v_in, ↓v_notIn, ↓q_ii, ↓q_ss, ↓items_l, ↓items_t, ↓items_s, ↓items_r1, ↓items_r2, ↓sl_l, ↓sl_t, ↓sl_s, ↓put_1, ↓put_2, ↓pen_0, ↓pen_1, ↓pen_2, ↓v_ixL, ↓v_ixT, ↓ins_NoneType_none, ↓ins_NoneType_bool, ↓ins_NoneType_int, ↓ins_NoneType_str, ↓ins_NoneType_list, ↓ins_NoneType_tuple, ↓ins_NoneType_dict, ↓ins_bool_none, ↓ins_bool_bool, ↓ins_bool_int, ↓ins_bool_str, ↓ins_bool_list, ↓ins_bool_tuple, ↓ins_bool_dict, ↓ins_int_none, ↓ins_int_bool, ↓ins_int_int, ↓ins_int_str, ↓ins_int_list, ↓ins_int_tuple, ↓ins_int_dict, ↓ins_str_none, ↓ins_str_bool, ↓ins_str_int, ↓ins_str_str, ↓ins_str_list, ↓ins_str_tuple, ↓ins_str_dict, ↓ins_list_none, ↓ins_list_bool, ↓ins_list_int, ↓ins_list_str, ↓ins_list_list, ↓ins_list_tuple, ↓ins_list_dict, ↓ins_tuple_none, ↓ins_tuple_bool, ↓ins_tuple_int, ↓ins_tuple_str, ↓ins_tuple_list, ↓ins_tuple_tuple, ↓ins_tuple_dict, ↓ins_dict_none, ↓ins_dict_bool, ↓ins_dict_int, ↓ins_dict_str, ↓ins_dict_list, ↓ins_dict_tuple, ↓ins_dict_dict, ↓in_sign, ↓onClr_0, ↓onClr_S, ↓onW_nil, ↓onW_cons, ↓onRe_0, ↓onRe_S, ↓onBk_nil, ↓onBk_cons, ↓onTwo_l, ↓S_par, ↓a_tup, ↓onG_name, ↓onG_tup, ↓onGs_nil, ↓onGs_cons, ↓onTurn_nx, ↓onTurn_ct, ↓onTurn_bk, ↓onTurn_rt, ↓onLD_d, ↓v_ixAd, ↓v_inAd, ↓v_notInAd, ↓S_upd, ↓v_zip, ↓Wp_flatA, ↓v_int, ↓v_intB, ↓v_min, ↓v_gin, ↓v_gnin, ↓v_gix, ↓reduceIte, ↓at_0, ↓at_1, ↓at_2, ↓at_3, ↓at_4, ↓at_5, ↓at_6, List.length_cons, List.length_nil, cut1, zipP, List.nil_append, List.cons_append, Nat.reduceAdd, Int.reduceAdd, ↓bls_cons, ↓bls_nil, lt0, le0, lt1, le1, lt2, le2, lt3, le3, lt4, le4, lt5, le5, lt6, le6, lt7, le7, lt8, le8, lt9, le9, lt10, le10, lt11, le11, lt12, le12, lt13, le13, lt14, le14, lt15, le15, lt16, le16, true_and, Option.isSome_some]
    rw [eqv_ss]
    refine ite_i (fun h2 => ?_) (fun h2 => ?_)
    · rw [decide_eq_true h2]
      rfl
    · rw [decide_eq_false h2]
      rfl
end DR

set_option maxRecDepth 100000
set_option maxHeartbeats 1000000
namespace DR
open PySem PySem.Spec L2
open PyProof.Rows hiding St
def dLA : List (D × D) := [(PyData.str "comes", PyData.str "wdwww"), (PyData.str "trial", PyData.str "wdwwwt"), (PyData.str "back", PyData.str "wdwwt"), (PyData.str "keep", PyData.str "wdwwf"), (PyData.str "give", PyData.str "wdwwwtf"), (PyData.str "goes", PyData.str "wdww")]
def dLB : List (D × D) := [(PyData.str "double", PyData.str "wdww"), (PyData.str "promise", PyData.str "wdwwwd"), (PyData.str "loose", PyData.str "wdw"), (PyData.str "want", PyData.str "wdwwt")]
def dLC : List (D × D) := [(PyData.str "owe", PyData.str "wdwwp"), (PyData.str "pay", PyData.str "wdwwp")]
def dLF : List (D × D) := [(PyData.str "w", PyData.tuple [.int 0, .int 0]), (PyData.str "d", PyData.tuple [.int 0, .int 999]), (PyData.str "t", PyData.tuple [.int 0, .int 9]), (PyData.str "f", PyData.tuple [.int 0, .int (10 ^ Int.toNat 9)]), (PyData.str "p", PyData.tuple [.int 1, .int (10 ^ Int.toNat 9)])]
section
variable {k : D → Prop} {kb : Bool → Prop}
theorem dspA : onS (dispD [(PyData.str "comes", PyData.str "wdwww"), (PyData.str "trial", PyData.str "wdwwwt"), (PyData.str "back", PyData.str "wdwwt"), (PyData.str "keep", PyData.str "wdwwf"), (PyData.str "give", PyData.str "wdwwwtf"), (PyData.str "goes", PyData.str "wdww")]) k ↔ k (.dict dLA) := by rw [show dispD [(PyData.str "comes", PyData.str "wdwww"), (PyData.str "trial", PyData.str "wdwwwt"), (PyData.str "back", PyData.str "wdwwt"), (PyData.str "keep", PyData.str "wdwwf"), (PyData.str "give", PyData.str "wdwwwtf"), (PyData.str "goes", PyData.str "wdww")] = some (.dict dLA) from rfl, onS_some]
theorem dspB : onS (dispD [(PyData.str "double", PyData.str "wdww"), (PyData.str "promise", PyData.str "wdwwwd"), (PyData.str "loose", PyData.str "wdw"), (PyData.str "want", PyData.str "wdwwt")]) k ↔ k (.dict dLB) := by rw [show dispD [(PyData.str "double", PyData.str "wdww"), (PyData.str "promise", PyData.str "wdwwwd"), (PyData.str "loose", PyData.str "wdw"), (PyData.str "want", PyData.str "wdwwt")] = some (.dict dLB) from rfl, onS_some]
theorem dspC : onS (dispD [(PyData.str "owe", PyData.str "wdwwp"), (PyData.str "pay", PyData.str "wdwwp")]) k ↔ k (.dict dLC) := by rw [show dispD [(PyData.str "owe", PyData.str "wdwwp"), (PyData.str "pay", PyData.str "wdwwp")] = some (.dict dLC) from rfl, onS_some]
theorem dspF : onS (dispD [(PyData.str "w", PyData.tuple [.int 0, .int 0]), (PyData.str "d", PyData.tuple [.int 0, .int 999]), (PyData.str "t", PyData.tuple [.int 0, .int 9]), (PyData.str "f", PyData.tuple [.int 0, .int (10 ^ Int.toNat 9)]), (PyData.str "p", PyData.tuple [.int 1, .int (10 ^ Int.toNat 9)])]) k ↔ k (.dict dLF) := by rw [show dispD [(PyData.str "w", PyData.tuple [.int 0, .int 0]), (PyData.str "d", PyData.tuple [.int 0, .int 999]), (PyData.str "t", PyData.tuple [.int 0, .int 9]), (PyData.str "f", PyData.tuple [.int 0, .int (10 ^ Int.toNat 9)]), (PyData.str "p", PyData.tuple [.int 1, .int (10 ^ Int.toNat 9)])] = some (.dict dLF) from rfl, onS_some]
theorem din_comes : onS (dinB (mergeD (mergeD dLA dLB) dLC) (.str "comes")) kb ↔ kb true := by rw [show dinB (mergeD (mergeD dLA dLB) dLC) (.str "comes") = some true from rfl, onS_some]
theorem dgt_comes : onS (dgetD (mergeD (mergeD dLA dLB) dLC) (.str "comes")) k ↔ k (.str "wdwww") := by rw [show dgetD (mergeD (mergeD dLA dLB) dLC) (.str "comes") = some (.str "wdwww") from rfl, onS_some]
theorem iop_comes : onS (inB (.str "comes") (.tuple [.str "owe", .str "pay"])) kb ↔ kb false := by rw [show inB (.str "comes") (.tuple [.str "owe", .str "pay"]) = some false from rfl, onS_some]
theorem itr_comes : onS (inB (.str "comes") (.tuple [.str "trial", .str "give", .str "promise"])) kb ↔ kb false := by rw [show inB (.str "comes") (.tuple [.str "trial", .str "give", .str "promise"]) = some false from rfl, onS_some]
theorem din_trial : onS (dinB (mergeD (mergeD dLA dLB) dLC) (.str "trial")) kb ↔ kb true := by rw [show dinB (mergeD (mergeD dLA dLB) dLC) (.str "trial") = some true from rfl, onS_some]
theorem dgt_trial : onS (dgetD (mergeD (mergeD dLA dLB) dLC) (.str "trial")) k ↔ k (.str "wdwwwt") := by rw [show dgetD (mergeD (mergeD dLA dLB) dLC) (.str "trial") = some (.str "wdwwwt") from rfl, onS_some]
theorem iop_trial : onS (inB (.str "trial") (.tuple [.str "owe", .str "pay"])) kb ↔ kb false := by rw [show inB (.str "trial") (.tuple [.str "owe", .str "pay"]) = some false from rfl, onS_some]
theorem itr_trial : onS (inB (.str "trial") (.tuple [.str "trial", .str "give", .str "promise"])) kb ↔ kb true := by rw [show inB (.str "trial") (.tuple [.str "trial", .str "give", .str "promise"]) = some true from rfl, onS_some]
theorem din_back : onS (dinB (mergeD (mergeD dLA dLB) dLC) (.str "back")) kb ↔ kb true := by rw [show dinB (mergeD (mergeD dLA dLB) dLC) (.str "back") = some true from rfl, onS_some]
theorem dgt_back : onS (dgetD (mergeD (mergeD dLA dLB) dLC) (.str "back")) k ↔ k (.str "wdwwt") := by rw [show dgetD (mergeD (mergeD dLA dLB) dLC) (.str "back") = some (.str "wdwwt") from rfl, onS_some]
theorem iop_back : onS (inB (.str "back") (.tuple [.str "owe", .str "pay"])) kb ↔ kb false := by rw [show inB (.str "back") (.tuple [.str "owe", .str "pay"]) = some false from rfl, onS_some]
theorem itr_back : onS (inB (.str "back") (.tuple [.str "trial", .str "give", .str "promise"])) kb ↔ kb false := by rw [show inB (.str "back") (.tuple [.str "trial", .str "give", .str "promise"]) = some false from rfl, onS_some]
theorem din_keep : onS (dinB (mergeD (mergeD dLA dLB) dLC) (.str "keep")) kb ↔ kb true := by rw [show dinB (mergeD (mergeD dLA dLB) dLC) (.str "keep") = some true from rfl, onS_some]
theorem dgt_keep : onS (dgetD (mergeD (mergeD dLA dLB) dLC) (.str "keep")) k ↔ k (.str "wdwwf") := by rw [show dgetD (mergeD (mergeD dLA dLB) dLC) (.str "keep") = some (.str "wdwwf") from rfl, onS_some]
theorem iop_keep : onS (inB (.str "keep") (.tuple [.str "owe", .str "pay"])) kb ↔ kb false := by rw [show inB (.str "keep") (.tuple [.str "owe", .str "pay"]) = some false from rfl, onS_some]
theorem itr_keep : onS (inB (.str "keep") (.tuple [.str "trial", .str "give", .str "promise"])) kb ↔ kb false := by rw [show inB (.str "keep") (.tuple [.str "trial", .str "give", .str "promise"]) = some false from rfl, onS_some]
theorem din_give : onS (dinB (mergeD (mergeD dLA dLB) dLC) (.str "give")) kb ↔ kb true := by rw [show dinB (mergeD (mergeD dLA dLB) dLC) (.str "give") = some true from rfl, onS_some]
theorem dgt_give : onS (dgetD (mergeD (mergeD dLA dLB) dLC) (.str "give")) k ↔ k (.str "wdwwwtf") := by rw [show dgetD (mergeD (mergeD dLA dLB) dLC) (.str "give") = some (.str "wdwwwtf") from rfl, onS_some]
theorem iop_give : onS (inB (.str "give") (.tuple [.str "owe", .str "pay"])) kb ↔ kb false := by rw [show inB (.str "give") (.tuple [.str "owe", .str "pay"]) = some false from rfl, onS_some]
theorem itr_give : onS (inB (.str "give") (.tuple [.str "trial", .str "give", .str "promise"])) kb ↔ kb true := by rw [show inB (.str "give") (.tuple [.str "trial", .str "give", .str "promise"]) = some true from rfl, onS_some]
theorem din_goes : onS (dinB (mergeD (mergeD dLA dLB) dLC) (.str "goes")) kb ↔ kb true := by rw [show dinB (mergeD (mergeD dLA dLB) dLC) (.str "goes") = some true from rfl, onS_some]
theorem dgt_goes : onS (dgetD (mergeD (mergeD dLA dLB) dLC) (.str "goes")) k ↔ k (.str "wdww") := by rw [show dgetD (mergeD (mergeD dLA dLB) dLC) (.str "goes") = some (.str "wdww") from rfl, onS_some]
theorem iop_goes : onS (inB (.str "goes") (.tuple [.str "owe", .str "pay"])) kb ↔ kb false := by rw [show inB (.str "goes") (.tuple [.str "owe", .str "pay"]) = some false from rfl, onS_some]
theorem itr_goes : onS (inB (.str "goes") (.tuple [.str "trial", .str "give", .str "promise"])) kb ↔ kb false := by rw [show inB (.str "goes") (.tuple [.str "trial", .str "give", .str "promise"]) = some false from rfl, onS_some]
theorem din_double : onS (dinB (mergeD (mergeD dLA dLB) dLC) (.str "double")) kb ↔ kb true := by rw [show dinB (mergeD (mergeD dLA dLB) dLC) (.str "double") = some true from rfl, onS_some]
theorem dgt_double : onS (dgetD (mergeD (mergeD dLA dLB) dLC) (.str "double")) k ↔ k (.str "wdww") := by rw [show dgetD (mergeD (mergeD dLA dLB) dLC) (.str "double") = some (.str "wdww") from rfl, onS_some]
theorem iop_double : onS (inB (.str "double") (.tuple [.str "owe", .str "pay"])) kb ↔ kb false := by rw [show inB (.str "double") (.tuple [.str "owe", .str "pay"]) = some false from rfl, onS_some]
theorem itr_double : onS (inB (.str "double") (.tuple [.str "trial", .str "give", .str "promise"])) kb ↔ kb false := by rw [show inB (.str "double") (.tuple [.str "trial", .str "give", .str "promise"]) = some false from rfl, onS_some]
theorem din_promise : onS (dinB (mergeD (mergeD dLA dLB) dLC) (.str "promise")) kb ↔ kb true := by rw [show dinB (mergeD (mergeD dLA dLB) dLC) (.str "promise") = some true from rfl, onS_some]
theorem dgt_promise : onS (dgetD (mergeD (mergeD dLA dLB) dLC) (.str "promise")) k ↔ k (.str "wdwwwd") := by rw [show dgetD (mergeD (mergeD dLA dLB) dLC) (.str "promise") = some (.str "wdwwwd") from rfl, onS_some]
theorem iop_promise : onS (inB (.str "promise") (.tuple [.str "owe", .str "pay"])) kb ↔ kb false := by rw [show inB (.str "promise") (.tuple [.str "owe", .str "pay"]) = some false from rfl, onS_some]
theorem itr_promise : onS (inB (.str "promise") (.tuple [.str "trial", .str "give", .str "promise"])) kb ↔ kb true := by rw [show inB (.str "promise") (.tuple [.str "trial", .str "give", .str "promise"]) = some true from rfl, onS_some]
theorem din_loose : onS (dinB (mergeD (mergeD dLA dLB) dLC) (.str "loose")) kb ↔ kb true := by rw [show dinB (mergeD (mergeD dLA dLB) dLC) (.str "loose") = some true from rfl, onS_some]
theorem dgt_loose : onS (dgetD (mergeD (mergeD dLA dLB) dLC) (.str "loose")) k ↔ k (.str "wdw") := by rw [show dgetD (mergeD (mergeD dLA dLB) dLC) (.str "loose") = some (.str "wdw") from rfl, onS_some]
theorem iop_loose : onS (inB (.str "loose") (.tuple [.str "owe", .str "pay"])) kb ↔ kb false := by rw [show inB (.str "loose") (.tuple [.str "owe", .str "pay"]) = some false from rfl, onS_some]
theorem itr_loose : onS (inB (.str "loose") (.tuple [.str "trial", .str "give", .str "promise"])) kb ↔ kb false := by rw [show inB (.str "loose") (.tuple [.str "trial", .str "give", .str "promise"]) = some false from rfl, onS_some]
theorem din_want : onS (dinB (mergeD (mergeD dLA dLB) dLC) (.str "want")) kb ↔ kb true := by rw [show dinB (mergeD (mergeD dLA dLB) dLC) (.str "want") = some true from rfl, onS_some]
theorem dgt_want : onS (dgetD (mergeD (mergeD dLA dLB) dLC) (.str "want")) k ↔ k (.str "wdwwt") := by rw [show dgetD (mergeD (mergeD dLA dLB) dLC) (.str "want") = some (.str "wdwwt") from rfl, onS_some]
theorem iop_want : onS (inB (.str "want") (.tuple [.str "owe", .str "pay"])) kb ↔ kb false := by rw [show inB (.str "want") (.tuple [.str "owe", .str "pay"]) = some false from rfl, onS_some]
theorem itr_want : onS (inB (.str "want") (.tuple [.str "trial", .str "give", .str "promise"])) kb ↔ kb false := by rw [show inB (.str "want") (.tuple [.str "trial", .str "give", .str "promise"]) = some false from rfl, onS_some]
theorem din_owe : onS (dinB (mergeD (mergeD dLA dLB) dLC) (.str "owe")) kb ↔ kb true := by rw [show dinB (mergeD (mergeD dLA dLB) dLC) (.str "owe") = some true from rfl, onS_some]
theorem dgt_owe : onS (dgetD (mergeD (mergeD dLA dLB) dLC) (.str "owe")) k ↔ k (.str "wdwwp") := by rw [show dgetD (mergeD (mergeD dLA dLB) dLC) (.str "owe") = some (.str "wdwwp") from rfl, onS_some]
theorem iop_owe : onS (inB (.str "owe") (.tuple [.str "owe", .str "pay"])) kb ↔ kb true := by rw [show inB (.str "owe") (.tuple [.str "owe", .str "pay"]) = some true from rfl, onS_some]
theorem itr_owe : onS (inB (.str "owe") (.tuple [.str "trial", .str "give", .str "promise"])) kb ↔ kb false := by rw [show inB (.str "owe") (.tuple [.str "trial", .str "give", .str "promise"]) = some false from rfl, onS_some]
theorem din_pay : onS (dinB (mergeD (mergeD dLA dLB) dLC) (.str "pay")) kb ↔ kb true := by rw [show dinB (mergeD (mergeD dLA dLB) dLC) (.str "pay") = some true from rfl, onS_some]
theorem dgt_pay : onS (dgetD (mergeD (mergeD dLA dLB) dLC) (.str "pay")) k ↔ k (.str "wdwwp") := by rw [show dgetD (mergeD (mergeD dLA dLB) dLC) (.str "pay") = some (.str "wdwwp") from rfl, onS_some]
theorem iop_pay : onS (inB (.str "pay") (.tuple [.str "owe", .str "pay"])) kb ↔ kb true := by rw [show inB (.str "pay") (.tuple [.str "owe", .str "pay"]) = some true from rfl, onS_some]
theorem itr_pay : onS (inB (.str "pay") (.tuple [.str "trial", .str "give", .str "promise"])) kb ↔ kb false := by rw [show inB (.str "pay") (.tuple [.str "trial", .str "give", .str "promise"]) = some false from rfl, onS_some]
theorem dk_w : onS (dgetD dLF (.str "w")) k ↔ k (.tuple [.int 0, .int 0]) := by rw [show dgetD dLF (.str "w") = some (.tuple [.int 0, .int 0]) from rfl, onS_some]
theorem dk_d : onS (dgetD dLF (.str "d")) k ↔ k (.tuple [.int 0, .int 999]) := by rw [show dgetD dLF (.str "d") = some (.tuple [.int 0, .int 999]) from rfl, onS_some]
theorem dk_t : onS (dgetD dLF (.str "t")) k ↔ k (.tuple [.int 0, .int 9]) := by rw [show dgetD dLF (.str "t") = some (.tuple [.int 0, .int 9]) from rfl, onS_some]
theorem dk_f : onS (dgetD dLF (.str "f")) k ↔ k (.tuple [.int 0, .int (10 ^ Int.toNat 9)]) := by rw [show dgetD dLF (.str "f") = some (.tuple [.int 0, .int (10 ^ Int.toNat 9)]) from rfl, onS_some]
theorem dk_p : onS (dgetD dLF (.str "p")) k ↔ k (.tuple [.int 1, .int (10 ^ Int.toNat 9)]) := by rw [show dgetD dLF (.str "p") = some (.tuple [.int 1, .int (10 ^ Int.toNat 9)]) from rfl, onS_some]
end
theorem ten9 : (10 : Int) ^ Int.toNat 9 = 1000000000 := by decide
theorem lenA : dLA.length = 6 := rfl
theorem lenB : dLB.length = 4 := rfl
theorem lenC : dLC.length = 2 := rfl
theorem lenAB : (mergeD dLA dLB).length = 10 := rfl
theorem law_is_page_comes (p1 p2 p3 p4 p5 : D) (h1 : ∀ z, p1 = .str z → Tx7 z) (h2 : ∀ z, p2 = .str z → Tx7 z) (h3 : ∀ z, p3 = .str z → Tx7 z) (h4 : ∀ z, p4 = .str z → Tx7 z) (h5 : ∀ z, p5 = .str z → Tx7 z) (hfl : flatA [p1, p2, p3, p4, p5] = true) : m__law_is_page [.tuple [.str "comes", p1, p2, p3, p4, p5]] = some (.bool (B_comes p1 p2 p3 p4 p5)) := by
  refine MD.get (MD_of rfl ?_)
  show Sp2 g__law_is_page [some _, none, none, none, none, none] _
  unfold g__law_is_page
  have w9 : ∀ d, m__law_within [d, .int 0, .int (10 ^ Int.toNat 9)] = some (.bool (within 0 1000000000 d)) := fun d => law_within_eq d 0 1000000000
  have w1 : ∀ d, m__law_within [d, .int 1, .int (10 ^ Int.toNat 9)] = some (.bool (within 1 1000000000 d)) := fun d => law_within_eq d 1 1000000000
  simp (config := { decide := true }) only [↓S_next, ↓S_bk, ↓S_ct, ↓S_rtd, ↓S_seq, ↓S_set, ↓S_drop, ↓S_ret, ↓S_if, ↓S_asg, ↓S_put, ↓S_app, ↓S_ext, ↓S_for, ↓Wp_pure, ↓Wp_opt, ↓Wp_bind, ↓Wp_ite, ↓Wp_var, ↓Wp_op, ↓Wp_un, ↓Wp_test, ↓Wp_dand, ↓Wp_dor, ↓Wp_dnot, ↓Wp_dandV, ↓Wp_dorV, ↓Wp_dnotV, ↓Wp_chain, ↓Wp_cb, ↓Wp_cons, ↓Wp_nil, ↓Wp_tup, ↓Wp_lst, ↓Wp_part, ↓Wp_nopart, ↓Wp_slice, ↓Wp_isi, ↓Wp_isi2, ↓Wp_m1, ↓Wp_call, ↓Wp_pix, ↓Wp_callP0, ↓Wp_callP1, ↓Wp_comp, ↓Wp_disp, ↓Wp_dpnil, ↓Wp_dpcons, ↓Wp_flat, ↓onNx_nx, ↓onNx_bk, ↓onNx_ct, ↓onNx_rt, ↓onRt_rt, ↓onRt_nx, ↓onS_some, ↓onB_b, ↓onI_i, ↓onStr_s, ↓onL_l, ↓lk_0, ↓lk_S, ↓onSet_0, ↓onSet_S, ↓onPut_0, ↓onPut_S, ↓ite_dec, ↓ite_ndec, ↓ite_tt, ↓ite_ff, ↓ite_nt, ↓ite_nf, ↓v_gt, ↓v_lt, ↓v_le, ↓v_ge, ↓v_ltS, ↓v_add, ↓v_addS, ↓v_addL, ↓v_addT, ↓v_addN, ↓v_sub, ↓v_mul, ↓v_mulS, ↓v_mod, ↓v_fdiv, ↓v_pow, ↓v_neg, ↓v_lenL, ↓v_lenT, ↓v_lenS, ↓v_abs, ↓v_rev, ↓v_all, ↓v_any, ↓v_sum, ↓v_eq, ↓v_ne, ↓v_in, ↓v_notIn, ↓q_ii, ↓q_ss, ↓items_l, ↓items_t, ↓items_s, ↓items_r1, ↓items_r2, ↓sl_l, ↓sl_t, ↓sl_s, ↓put_1, ↓put_2, ↓pen_0, ↓pen_1, ↓pen_2, ↓v_ixL, ↓v_ixT, ↓ins_NoneType_none, ↓ins_NoneType_bool, ↓ins_NoneType_int, ↓ins_NoneType_str, ↓ins_NoneType_list, ↓ins_NoneType_tuple, ↓ins_NoneType_dict, ↓ins_bool_none, ↓ins_bool_bool, ↓ins_bool_int, ↓ins_bool_str, ↓ins_bool_list, ↓ins_bool_tuple, ↓ins_bool_dict, ↓ins_int_none, ↓ins_int_bool, ↓ins_int_int, ↓ins_int_str, ↓ins_int_list, ↓ins_int_tuple, ↓ins_int_dict, ↓ins_str_none, ↓ins_str_bool, ↓ins_str_int, ↓ins_str_str, ↓ins_str_list, ↓ins_str_tuple, ↓ins_str_dict, ↓ins_list_none, ↓ins_list_bool, ↓ins_list_int, ↓ins_list_str, ↓ins_list_list, ↓ins_list_tuple, ↓ins_list_dict, ↓ins_tuple_none, ↓ins_tuple_bool, ↓ins_tuple_int, ↓ins_tuple_str, ↓ins_tuple_list, ↓ins_tuple_tuple, ↓ins_tuple_dict, ↓ins_dict_none, ↓ins_dict_bool, ↓ins_dict_int, ↓ins_dict_str, ↓ins_dict_list, ↓ins_dict_tuple, ↓ins_dict_dict, ↓in_sign, ↓onClr_0, ↓onClr_S, ↓onW_nil, ↓onW_cons, ↓onRe_0, ↓onRe_S, ↓onBk_nil, ↓onBk_cons, ↓onTwo_l, ↓S_par, ↓a_tup, ↓onG_name, ↓onG_tup, ↓onGs_nil, ↓onGs_cons, ↓onTurn_nx, ↓onTurn_ct, ↓onTurn_bk, ↓onTurn_rt, ↓onLD_d, ↓v_ixAd, ↓v_inAd, ↓v_notInAd, ↓S_upd, ↓v_zip, ↓Wp_flatA, ↓v_int, ↓v_intB, ↓v_min, ↓v_gin, ↓v_gnin, ↓v_gix, ↓reduceIte, ↓Cp_nil, ↓Cp_cons, ↓Fl_nil, ↓Fl_cons, ↓at_0, ↓at_1, ↓at_2, ↓at_3, ↓at_4, ↓at_5, ↓at_6, List.length_cons, List.length_nil, cut1, zipP, List.nil_append, List.cons_append, Nat.reduceAdd, Int.reduceAdd, ↓bls_cons, ↓bls_nil, lt0, le0, lt1, le1, lt2, le2, lt3, le3, lt4, le4, lt5, le5, lt6, le6, lt7, le7, lt8, le8, lt9, le9, lt10, le10, lt11, le11, lt12, le12, lt13, le13, lt14, le14, lt15, le15, lt16, le16, true_and, Option.isSome_some, ↓dk_w, ↓dk_d, ↓dk_t, ↓dk_f, ↓dk_p, ↓dspA, ↓dspB, ↓dspC, ↓dspF, ↓din_comes, ↓dgt_comes, ↓iop_comes, ↓itr_comes, lt0, sg_wdwww, fl_wdwww, lenA, lenB, lenC, lenAB, flat2, hfl, ↓MD.eq (law_is_word_eq p1 h1), ↓MD.eq (law_is_word_eq p2 h2), ↓MD.eq (law_is_word_eq p3 h3), ↓MD.eq (law_is_word_eq p4 h4), ↓MD.eq (law_is_word_eq p5 h5), ↓MD.eq (law_within_eq p1 0 0), ↓MD.eq (law_within_eq p2 0 999), ↓MD.eq (law_within_eq p3 0 0), ↓MD.eq (law_within_eq p4 0 0), ↓MD.eq (law_within_eq p5 0 0)]
  refine ite_i (fun h => by
    have e := not_all h
    unfold B_comes
    simp only [List.all_cons, id, e, Bool.false_and, Bool.and_false]) (fun h => ?_)
  have e1 := not_not_all h
  clear h
  refine ite_i (fun h => by
    have e := not_all h
    unfold B_comes
    simp only [List.all_cons, id, e, Bool.false_and, Bool.and_false]) (fun h => ?_)
  have e2 := not_not_all h
  clear h
  refine ite_i (fun h => by
    have e := not_all h
    unfold B_comes
    simp only [List.all_cons, id, e, Bool.false_and, Bool.and_false]) (fun h => ?_)
  have e3 := not_not_all h
  clear h
  refine ite_i (fun h => by
    have e := not_all h
    unfold B_comes
    simp only [List.all_cons, id, e, Bool.false_and, Bool.and_false]) (fun h => ?_)
  have e4 := not_not_all h
  clear h
  refine ite_i (fun h => by
    have e := not_all h
    unfold B_comes
    simp only [List.all_cons, id, e, Bool.false_and, Bool.and_false]) (fun h => ?_)
  have e5 := not_not_all h
  clear h
  unfold B_comes
  simp (config := { decide := true }) only [↓S_next, ↓S_bk, ↓S_ct, ↓S_rtd, ↓S_seq, ↓S_set, ↓S_drop, ↓S_ret, ↓S_if, ↓S_asg, ↓S_put, ↓S_app, ↓S_ext, ↓S_for, ↓Wp_pure, ↓Wp_opt, ↓Wp_bind, ↓Wp_ite, ↓Wp_var, ↓Wp_op, ↓Wp_un, ↓Wp_test, ↓Wp_dand, ↓Wp_dor, ↓Wp_dnot, ↓Wp_dandV, ↓Wp_dorV, ↓Wp_dnotV, ↓Wp_chain, ↓Wp_cb, ↓Wp_cons, ↓Wp_nil, ↓Wp_tup, ↓Wp_lst, ↓Wp_part, ↓Wp_nopart, ↓Wp_slice, ↓Wp_isi, ↓Wp_isi2, ↓Wp_m1, ↓Wp_call, ↓Wp_pix, ↓Wp_callP0, ↓Wp_callP1, ↓Wp_comp, ↓Wp_disp, ↓Wp_dpnil, ↓Wp_dpcons, ↓Wp_flat, ↓onNx_nx, ↓onNx_bk, ↓onNx_ct, ↓onNx_rt, ↓onRt_rt, ↓onRt_nx, ↓onS_some, ↓onB_b, ↓onI_i, ↓onStr_s, ↓onL_l, ↓lk_0, ↓lk_S, ↓onSet_0, ↓onSet_S, ↓onPut_0, ↓onPut_S, ↓ite_dec, ↓ite_ndec, ↓ite_tt, ↓ite_ff, ↓ite_nt, ↓ite_nf, ↓v_gt, ↓v_lt, ↓v_le, ↓v_ge, ↓v_ltS, ↓v_add, ↓v_addS, ↓v_addL, ↓v_addT, ↓v_addN, ↓v_sub, ↓v_mul, ↓v_mulS, ↓v_mod, ↓v_fdiv, ↓v_pow, ↓v_neg, ↓v_lenL, ↓v_lenT, ↓v_lenS, ↓v_abs, ↓v_rev, ↓v_all, ↓v_any, ↓v_sum, ↓v_eq, ↓v_ne, ↓v_in, ↓v_notIn, ↓q_ii, ↓q_ss, ↓items_l, ↓items_t, ↓items_s, ↓items_r1, ↓items_r2, ↓sl_l, ↓sl_t, ↓sl_s, ↓put_1, ↓put_2, ↓pen_0, ↓pen_1, ↓pen_2, ↓v_ixL, ↓v_ixT, ↓ins_NoneType_none, ↓ins_NoneType_bool, ↓ins_NoneType_int, ↓ins_NoneType_str, ↓ins_NoneType_list, ↓ins_NoneType_tuple, ↓ins_NoneType_dict, ↓ins_bool_none, ↓ins_bool_bool, ↓ins_bool_int, ↓ins_bool_str, ↓ins_bool_list, ↓ins_bool_tuple, ↓ins_bool_dict, ↓ins_int_none, ↓ins_int_bool, ↓ins_int_int, ↓ins_int_str, ↓ins_int_list, ↓ins_int_tuple, ↓ins_int_dict, ↓ins_str_none, ↓ins_str_bool, ↓ins_str_int, ↓ins_str_str, ↓ins_str_list, ↓ins_str_tuple, ↓ins_str_dict, ↓ins_list_none, ↓ins_list_bool, ↓ins_list_int, ↓ins_list_str, ↓ins_list_list, ↓ins_list_tuple, ↓ins_list_dict, ↓ins_tuple_none, ↓ins_tuple_bool, ↓ins_tuple_int, ↓ins_tuple_str, ↓ins_tuple_list, ↓ins_tuple_tuple, ↓ins_tuple_dict, ↓ins_dict_none, ↓ins_dict_bool, ↓ins_dict_int, ↓ins_dict_str, ↓ins_dict_list, ↓ins_dict_tuple, ↓ins_dict_dict, ↓in_sign, ↓onClr_0, ↓onClr_S, ↓onW_nil, ↓onW_cons, ↓onRe_0, ↓onRe_S, ↓onBk_nil, ↓onBk_cons, ↓onTwo_l, ↓S_par, ↓a_tup, ↓onG_name, ↓onG_tup, ↓onGs_nil, ↓onGs_cons, ↓onTurn_nx, ↓onTurn_ct, ↓onTurn_bk, ↓onTurn_rt, ↓onLD_d, ↓v_ixAd, ↓v_inAd, ↓v_notInAd, ↓S_upd, ↓v_zip, ↓Wp_flatA, ↓v_int, ↓v_intB, ↓v_min, ↓v_gin, ↓v_gnin, ↓v_gix, ↓reduceIte, List.all_cons, List.all_nil, id, e1, e2, e3, e4, e5, Bool.and_true, Bool.true_and, eqv_ss]
theorem law_is_page_trial (p1 p2 p3 p4 p5 p6 : D) (h1 : ∀ z, p1 = .str z → Tx7 z) (h2 : ∀ z, p2 = .str z → Tx7 z) (h3 : ∀ z, p3 = .str z → Tx7 z) (h4 : ∀ z, p4 = .str z → Tx7 z) (h5 : ∀ z, p5 = .str z → Tx7 z) (h6 : ∀ z, p6 = .str z → Tx7 z) (hfl : flatA [p1, p2, p3, p4, p5, p6] = true) : m__law_is_page [.tuple [.str "trial", p1, p2, p3, p4, p5, p6]] = some (.bool (B_trial p1 p2 p3 p4 p5 p6)) := by
  refine MD.get (MD_of rfl ?_)
  show Sp2 g__law_is_page [some _, none, none, none, none, none] _
  unfold g__law_is_page
  have w9 : ∀ d, m__law_within [d, .int 0, .int (10 ^ Int.toNat 9)] = some (.bool (within 0 1000000000 d)) := fun d => law_within_eq d 0 1000000000
  have w1 : ∀ d, m__law_within [d, .int 1, .int (10 ^ Int.toNat 9)] = some (.bool (within 1 1000000000 d)) := fun d => law_within_eq d 1 1000000000
  simp (config := { decide := true }) only [↓S_next, ↓S_bk, ↓S_ct, ↓S_rtd, ↓S_seq, ↓S_set, ↓S_drop, ↓S_ret, ↓S_if, ↓S_asg, ↓S_put, ↓S_app, ↓S_ext, ↓S_for, ↓Wp_pure, ↓Wp_opt, ↓Wp_bind, ↓Wp_ite, ↓Wp_var, ↓Wp_op, ↓Wp_un, ↓Wp_test, ↓Wp_dand, ↓Wp_dor, ↓Wp_dnot, ↓Wp_dandV, ↓Wp_dorV, ↓Wp_dnotV, ↓Wp_chain, ↓Wp_cb, ↓Wp_cons, ↓Wp_nil, ↓Wp_tup, ↓Wp_lst, ↓Wp_part, ↓Wp_nopart, ↓Wp_slice, ↓Wp_isi, ↓Wp_isi2, ↓Wp_m1, ↓Wp_call, ↓Wp_pix, ↓Wp_callP0, ↓Wp_callP1, ↓Wp_comp, ↓Wp_disp, ↓Wp_dpnil, ↓Wp_dpcons, ↓Wp_flat, ↓onNx_nx, ↓onNx_bk, ↓onNx_ct, ↓onNx_rt, ↓onRt_rt, ↓onRt_nx, ↓onS_some, ↓onB_b, ↓onI_i, ↓onStr_s, ↓onL_l, ↓lk_0, ↓lk_S, ↓onSet_0, ↓onSet_S, ↓onPut_0, ↓onPut_S, ↓ite_dec, ↓ite_ndec, ↓ite_tt, ↓ite_ff, ↓ite_nt, ↓ite_nf, ↓v_gt, ↓v_lt, ↓v_le, ↓v_ge, ↓v_ltS, ↓v_add, ↓v_addS, ↓v_addL, ↓v_addT, ↓v_addN, ↓v_sub, ↓v_mul, ↓v_mulS, ↓v_mod, ↓v_fdiv, ↓v_pow, ↓v_neg, ↓v_lenL, ↓v_lenT, ↓v_lenS, ↓v_abs, ↓v_rev, ↓v_all, ↓v_any, ↓v_sum, ↓v_eq, ↓v_ne, ↓v_in, ↓v_notIn, ↓q_ii, ↓q_ss, ↓items_l, ↓items_t, ↓items_s, ↓items_r1, ↓items_r2, ↓sl_l, ↓sl_t, ↓sl_s, ↓put_1, ↓put_2, ↓pen_0, ↓pen_1, ↓pen_2, ↓v_ixL, ↓v_ixT, ↓ins_NoneType_none, ↓ins_NoneType_bool, ↓ins_NoneType_int, ↓ins_NoneType_str, ↓ins_NoneType_list, ↓ins_NoneType_tuple, ↓ins_NoneType_dict, ↓ins_bool_none, ↓ins_bool_bool, ↓ins_bool_int, ↓ins_bool_str, ↓ins_bool_list, ↓ins_bool_tuple, ↓ins_bool_dict, ↓ins_int_none, ↓ins_int_bool, ↓ins_int_int, ↓ins_int_str, ↓ins_int_list, ↓ins_int_tuple, ↓ins_int_dict, ↓ins_str_none, ↓ins_str_bool, ↓ins_str_int, ↓ins_str_str, ↓ins_str_list, ↓ins_str_tuple, ↓ins_str_dict, ↓ins_list_none, ↓ins_list_bool, ↓ins_list_int, ↓ins_list_str, ↓ins_list_list, ↓ins_list_tuple, ↓ins_list_dict, ↓ins_tuple_none, ↓ins_tuple_bool, ↓ins_tuple_int, ↓ins_tuple_str, ↓ins_tuple_list, ↓ins_tuple_tuple, ↓ins_tuple_dict, ↓ins_dict_none, ↓ins_dict_bool, ↓ins_dict_int, ↓ins_dict_str, ↓ins_dict_list, ↓ins_dict_tuple, ↓ins_dict_dict, ↓in_sign, ↓onClr_0, ↓onClr_S, ↓onW_nil, ↓onW_cons, ↓onRe_0, ↓onRe_S, ↓onBk_nil, ↓onBk_cons, ↓onTwo_l, ↓S_par, ↓a_tup, ↓onG_name, ↓onG_tup, ↓onGs_nil, ↓onGs_cons, ↓onTurn_nx, ↓onTurn_ct, ↓onTurn_bk, ↓onTurn_rt, ↓onLD_d, ↓v_ixAd, ↓v_inAd, ↓v_notInAd, ↓S_upd, ↓v_zip, ↓Wp_flatA, ↓v_int, ↓v_intB, ↓v_min, ↓v_gin, ↓v_gnin, ↓v_gix, ↓reduceIte, ↓Cp_nil, ↓Cp_cons, ↓Fl_nil, ↓Fl_cons, ↓at_0, ↓at_1, ↓at_2, ↓at_3, ↓at_4, ↓at_5, ↓at_6, List.length_cons, List.length_nil, cut1, zipP, List.nil_append, List.cons_append, Nat.reduceAdd, Int.reduceAdd, ↓bls_cons, ↓bls_nil, lt0, le0, lt1, le1, lt2, le2, lt3, le3, lt4, le4, lt5, le5, lt6, le6, lt7, le7, lt8, le8, lt9, le9, lt10, le10, lt11, le11, lt12, le12, lt13, le13, lt14, le14, lt15, le15, lt16, le16, true_and, Option.isSome_some, ↓dk_w, ↓dk_d, ↓dk_t, ↓dk_f, ↓dk_p, ↓dspA, ↓dspB, ↓dspC, ↓dspF, ↓din_trial, ↓dgt_trial, ↓iop_trial, ↓itr_trial, lt0, sg_wdwwwt, fl_wdwwwt, lenA, lenB, lenC, lenAB, flat2, hfl, ↓MD.eq (law_is_word_eq p1 h1), ↓MD.eq (law_is_word_eq p2 h2), ↓MD.eq (law_is_word_eq p3 h3), ↓MD.eq (law_is_word_eq p4 h4), ↓MD.eq (law_is_word_eq p5 h5), ↓MD.eq (law_is_word_eq p6 h6), ↓MD.eq (law_within_eq p1 0 0), ↓MD.eq (law_within_eq p2 0 999), ↓MD.eq (law_within_eq p3 0 0), ↓MD.eq (law_within_eq p4 0 0), ↓MD.eq (law_within_eq p5 0 0), ↓MD.eq (law_within_eq p6 0 9)]
  refine ite_i (fun h => by
    have e := not_all h
    unfold B_trial
    simp only [List.all_cons, id, e, Bool.false_and, Bool.and_false]) (fun h => ?_)
  have e1 := not_not_all h
  clear h
  refine ite_i (fun h => by
    have e := not_all h
    unfold B_trial
    simp only [List.all_cons, id, e, Bool.false_and, Bool.and_false]) (fun h => ?_)
  have e2 := not_not_all h
  clear h
  refine ite_i (fun h => by
    have e := not_all h
    unfold B_trial
    simp only [List.all_cons, id, e, Bool.false_and, Bool.and_false]) (fun h => ?_)
  have e3 := not_not_all h
  clear h
  refine ite_i (fun h => by
    have e := not_all h
    unfold B_trial
    simp only [List.all_cons, id, e, Bool.false_and, Bool.and_false]) (fun h => ?_)
  have e4 := not_not_all h
  clear h
  refine ite_i (fun h => by
    have e := not_all h
    unfold B_trial
    simp only [List.all_cons, id, e, Bool.false_and, Bool.and_false]) (fun h => ?_)
  have e5 := not_not_all h
  clear h
  refine ite_i (fun h => by
    have e := not_all h
    unfold B_trial
    simp only [List.all_cons, id, e, Bool.false_and, Bool.and_false]) (fun h => ?_)
  have e6 := not_not_all h
  clear h
  obtain ⟨z4, rfl⟩ := isW_is e4
  obtain ⟨z5, rfl⟩ := isW_is e5
  unfold B_trial
  simp (config := { decide := true }) only [↓S_next, ↓S_bk, ↓S_ct, ↓S_rtd, ↓S_seq, ↓S_set, ↓S_drop, ↓S_ret, ↓S_if, ↓S_asg, ↓S_put, ↓S_app, ↓S_ext, ↓S_for, ↓Wp_pure, ↓Wp_opt, ↓Wp_bind, ↓Wp_ite, ↓Wp_var, ↓Wp_op, ↓Wp_un, ↓Wp_test, ↓Wp_dand, ↓Wp_dor, ↓Wp_dnot, ↓Wp_dandV, ↓Wp_dorV, ↓Wp_dnotV, ↓Wp_chain, ↓Wp_cb, ↓Wp_cons, ↓Wp_nil, ↓Wp_tup, ↓Wp_lst, ↓Wp_part, ↓Wp_nopart, ↓Wp_slice, ↓Wp_isi, ↓Wp_isi2, ↓Wp_m1, ↓Wp_call, ↓Wp_pix, ↓Wp_callP0, ↓Wp_callP1, ↓Wp_comp, ↓Wp_disp, ↓Wp_dpnil, ↓Wp_dpcons, ↓Wp_flat, ↓onNx_nx, ↓onNx_bk, ↓onNx_ct, ↓onNx_rt, ↓onRt_rt, ↓onRt_nx, ↓onS_some, ↓onB_b, ↓onI_i, ↓onStr_s, ↓onL_l, ↓lk_0, ↓lk_S, ↓onSet_0, ↓onSet_S, ↓onPut_0, ↓onPut_S, ↓ite_dec, ↓ite_ndec, ↓ite_tt, ↓ite_ff, ↓ite_nt, ↓ite_nf, ↓v_gt, ↓v_lt, ↓v_le, ↓v_ge, ↓v_ltS, ↓v_add, ↓v_addS, ↓v_addL, ↓v_addT, ↓v_addN, ↓v_sub, ↓v_mul, ↓v_mulS, ↓v_mod, ↓v_fdiv, ↓v_pow, ↓v_neg, ↓v_lenL, ↓v_lenT, ↓v_lenS, ↓v_abs, ↓v_rev, ↓v_all, ↓v_any, ↓v_sum, ↓v_eq, ↓v_ne, ↓v_in, ↓v_notIn, ↓q_ii, ↓q_ss, ↓items_l, ↓items_t, ↓items_s, ↓items_r1, ↓items_r2, ↓sl_l, ↓sl_t, ↓sl_s, ↓put_1, ↓put_2, ↓pen_0, ↓pen_1, ↓pen_2, ↓v_ixL, ↓v_ixT, ↓ins_NoneType_none, ↓ins_NoneType_bool, ↓ins_NoneType_int, ↓ins_NoneType_str, ↓ins_NoneType_list, ↓ins_NoneType_tuple, ↓ins_NoneType_dict, ↓ins_bool_none, ↓ins_bool_bool, ↓ins_bool_int, ↓ins_bool_str, ↓ins_bool_list, ↓ins_bool_tuple, ↓ins_bool_dict, ↓ins_int_none, ↓ins_int_bool, ↓ins_int_int, ↓ins_int_str, ↓ins_int_list, ↓ins_int_tuple, ↓ins_int_dict, ↓ins_str_none, ↓ins_str_bool, ↓ins_str_int, ↓ins_str_str, ↓ins_str_list, ↓ins_str_tuple, ↓ins_str_dict, ↓ins_list_none, ↓ins_list_bool, ↓ins_list_int, ↓ins_list_str, ↓ins_list_list, ↓ins_list_tuple, ↓ins_list_dict, ↓ins_tuple_none, ↓ins_tuple_bool, ↓ins_tuple_int, ↓ins_tuple_str, ↓ins_tuple_list, ↓ins_tuple_tuple, ↓ins_tuple_dict, ↓ins_dict_none, ↓ins_dict_bool, ↓ins_dict_int, ↓ins_dict_str, ↓ins_dict_list, ↓ins_dict_tuple, ↓ins_dict_dict, ↓in_sign, ↓onClr_0, ↓onClr_S, ↓onW_nil, ↓onW_cons, ↓onRe_0, ↓onRe_S, ↓onBk_nil, ↓onBk_cons, ↓onTwo_l, ↓S_par, ↓a_tup, ↓onG_name, ↓onG_tup, ↓onGs_nil, ↓onGs_cons, ↓onTurn_nx, ↓onTurn_ct, ↓onTurn_bk, ↓onTurn_rt, ↓onLD_d, ↓v_ixAd, ↓v_inAd, ↓v_notInAd, ↓S_upd, ↓v_zip, ↓Wp_flatA, ↓v_int, ↓v_intB, ↓v_min, ↓v_gin, ↓v_gnin, ↓v_gix, ↓reduceIte, List.all_cons, List.all_nil, id, e1, e2, e3, e4, e5, e6, Bool.and_true, Bool.true_and, eqv_ss]
  refine ite_i (fun h2 => ?_) (fun h2 => ?_)
  · rw [decide_eq_true h2]
    rfl
  · rw [decide_eq_false h2]
    rfl
theorem law_is_page_back (p1 p2 p3 p4 p5 : D) (h1 : ∀ z, p1 = .str z → Tx7 z) (h2 : ∀ z, p2 = .str z → Tx7 z) (h3 : ∀ z, p3 = .str z → Tx7 z) (h4 : ∀ z, p4 = .str z → Tx7 z) (h5 : ∀ z, p5 = .str z → Tx7 z) (hfl : flatA [p1, p2, p3, p4, p5] = true) : m__law_is_page [.tuple [.str "back", p1, p2, p3, p4, p5]] = some (.bool (B_back p1 p2 p3 p4 p5)) := by
  refine MD.get (MD_of rfl ?_)
  show Sp2 g__law_is_page [some _, none, none, none, none, none] _
  unfold g__law_is_page
  have w9 : ∀ d, m__law_within [d, .int 0, .int (10 ^ Int.toNat 9)] = some (.bool (within 0 1000000000 d)) := fun d => law_within_eq d 0 1000000000
  have w1 : ∀ d, m__law_within [d, .int 1, .int (10 ^ Int.toNat 9)] = some (.bool (within 1 1000000000 d)) := fun d => law_within_eq d 1 1000000000
  simp (config := { decide := true }) only [↓S_next, ↓S_bk, ↓S_ct, ↓S_rtd, ↓S_seq, ↓S_set, ↓S_drop, ↓S_ret, ↓S_if, ↓S_asg, ↓S_put, ↓S_app, ↓S_ext, ↓S_for, ↓Wp_pure, ↓Wp_opt, ↓Wp_bind, ↓Wp_ite, ↓Wp_var, ↓Wp_op, ↓Wp_un, ↓Wp_test, ↓Wp_dand, ↓Wp_dor, ↓Wp_dnot, ↓Wp_dandV, ↓Wp_dorV, ↓Wp_dnotV, ↓Wp_chain, ↓Wp_cb, ↓Wp_cons, ↓Wp_nil, ↓Wp_tup, ↓Wp_lst, ↓Wp_part, ↓Wp_nopart, ↓Wp_slice, ↓Wp_isi, ↓Wp_isi2, ↓Wp_m1, ↓Wp_call, ↓Wp_pix, ↓Wp_callP0, ↓Wp_callP1, ↓Wp_comp, ↓Wp_disp, ↓Wp_dpnil, ↓Wp_dpcons, ↓Wp_flat, ↓onNx_nx, ↓onNx_bk, ↓onNx_ct, ↓onNx_rt, ↓onRt_rt, ↓onRt_nx, ↓onS_some, ↓onB_b, ↓onI_i, ↓onStr_s, ↓onL_l, ↓lk_0, ↓lk_S, ↓onSet_0, ↓onSet_S, ↓onPut_0, ↓onPut_S, ↓ite_dec, ↓ite_ndec, ↓ite_tt, ↓ite_ff, ↓ite_nt, ↓ite_nf, ↓v_gt, ↓v_lt, ↓v_le, ↓v_ge, ↓v_ltS, ↓v_add, ↓v_addS, ↓v_addL, ↓v_addT, ↓v_addN, ↓v_sub, ↓v_mul, ↓v_mulS, ↓v_mod, ↓v_fdiv, ↓v_pow, ↓v_neg, ↓v_lenL, ↓v_lenT, ↓v_lenS, ↓v_abs, ↓v_rev, ↓v_all, ↓v_any, ↓v_sum, ↓v_eq, ↓v_ne, ↓v_in, ↓v_notIn, ↓q_ii, ↓q_ss, ↓items_l, ↓items_t, ↓items_s, ↓items_r1, ↓items_r2, ↓sl_l, ↓sl_t, ↓sl_s, ↓put_1, ↓put_2, ↓pen_0, ↓pen_1, ↓pen_2, ↓v_ixL, ↓v_ixT, ↓ins_NoneType_none, ↓ins_NoneType_bool, ↓ins_NoneType_int, ↓ins_NoneType_str, ↓ins_NoneType_list, ↓ins_NoneType_tuple, ↓ins_NoneType_dict, ↓ins_bool_none, ↓ins_bool_bool, ↓ins_bool_int, ↓ins_bool_str, ↓ins_bool_list, ↓ins_bool_tuple, ↓ins_bool_dict, ↓ins_int_none, ↓ins_int_bool, ↓ins_int_int, ↓ins_int_str, ↓ins_int_list, ↓ins_int_tuple, ↓ins_int_dict, ↓ins_str_none, ↓ins_str_bool, ↓ins_str_int, ↓ins_str_str, ↓ins_str_list, ↓ins_str_tuple, ↓ins_str_dict, ↓ins_list_none, ↓ins_list_bool, ↓ins_list_int, ↓ins_list_str, ↓ins_list_list, ↓ins_list_tuple, ↓ins_list_dict, ↓ins_tuple_none, ↓ins_tuple_bool, ↓ins_tuple_int, ↓ins_tuple_str, ↓ins_tuple_list, ↓ins_tuple_tuple, ↓ins_tuple_dict, ↓ins_dict_none, ↓ins_dict_bool, ↓ins_dict_int, ↓ins_dict_str, ↓ins_dict_list, ↓ins_dict_tuple, ↓ins_dict_dict, ↓in_sign, ↓onClr_0, ↓onClr_S, ↓onW_nil, ↓onW_cons, ↓onRe_0, ↓onRe_S, ↓onBk_nil, ↓onBk_cons, ↓onTwo_l, ↓S_par, ↓a_tup, ↓onG_name, ↓onG_tup, ↓onGs_nil, ↓onGs_cons, ↓onTurn_nx, ↓onTurn_ct, ↓onTurn_bk, ↓onTurn_rt, ↓onLD_d, ↓v_ixAd, ↓v_inAd, ↓v_notInAd, ↓S_upd, ↓v_zip, ↓Wp_flatA, ↓v_int, ↓v_intB, ↓v_min, ↓v_gin, ↓v_gnin, ↓v_gix, ↓reduceIte, ↓Cp_nil, ↓Cp_cons, ↓Fl_nil, ↓Fl_cons, ↓at_0, ↓at_1, ↓at_2, ↓at_3, ↓at_4, ↓at_5, ↓at_6, List.length_cons, List.length_nil, cut1, zipP, List.nil_append, List.cons_append, Nat.reduceAdd, Int.reduceAdd, ↓bls_cons, ↓bls_nil, lt0, le0, lt1, le1, lt2, le2, lt3, le3, lt4, le4, lt5, le5, lt6, le6, lt7, le7, lt8, le8, lt9, le9, lt10, le10, lt11, le11, lt12, le12, lt13, le13, lt14, le14, lt15, le15, lt16, le16, true_and, Option.isSome_some, ↓dk_w, ↓dk_d, ↓dk_t, ↓dk_f, ↓dk_p, ↓dspA, ↓dspB, ↓dspC, ↓dspF, ↓din_back, ↓dgt_back, ↓iop_back, ↓itr_back, lt0, sg_wdwwt, fl_wdwwt, lenA, lenB, lenC, lenAB, flat2, hfl, ↓MD.eq (law_is_word_eq p1 h1), ↓MD.eq (law_is_word_eq p2 h2), ↓MD.eq (law_is_word_eq p3 h3), ↓MD.eq (law_is_word_eq p4 h4), ↓MD.eq (law_is_word_eq p5 h5), ↓MD.eq (law_within_eq p1 0 0), ↓MD.eq (law_within_eq p2 0 999), ↓MD.eq (law_within_eq p3 0 0), ↓MD.eq (law_within_eq p4 0 0), ↓MD.eq (law_within_eq p5 0 9)]
  refine ite_i (fun h => by
    have e := not_all h
    unfold B_back
    simp only [List.all_cons, id, e, Bool.false_and, Bool.and_false]) (fun h => ?_)
  have e1 := not_not_all h
  clear h
  refine ite_i (fun h => by
    have e := not_all h
    unfold B_back
    simp only [List.all_cons, id, e, Bool.false_and, Bool.and_false]) (fun h => ?_)
  have e2 := not_not_all h
  clear h
  refine ite_i (fun h => by
    have e := not_all h
    unfold B_back
    simp only [List.all_cons, id, e, Bool.false_and, Bool.and_false]) (fun h => ?_)
  have e3 := not_not_all h
  clear h
  refine ite_i (fun h => by
    have e := not_all h
    unfold B_back
    simp only [List.all_cons, id, e, Bool.false_and, Bool.and_false]) (fun h => ?_)
  have e4 := not_not_all h
  clear h
  refine ite_i (fun h => by
    have e := not_all h
    unfold B_back
    simp only [List.all_cons, id, e, Bool.false_and, Bool.and_false]) (fun h => ?_)
  have e5 := not_not_all h
  clear h
  unfold B_back
  simp (config := { decide := true }) only [↓S_next, ↓S_bk, ↓S_ct, ↓S_rtd, ↓S_seq, ↓S_set, ↓S_drop, ↓S_ret, ↓S_if, ↓S_asg, ↓S_put, ↓S_app, ↓S_ext, ↓S_for, ↓Wp_pure, ↓Wp_opt, ↓Wp_bind, ↓Wp_ite, ↓Wp_var, ↓Wp_op, ↓Wp_un, ↓Wp_test, ↓Wp_dand, ↓Wp_dor, ↓Wp_dnot, ↓Wp_dandV, ↓Wp_dorV, ↓Wp_dnotV, ↓Wp_chain, ↓Wp_cb, ↓Wp_cons, ↓Wp_nil, ↓Wp_tup, ↓Wp_lst, ↓Wp_part, ↓Wp_nopart, ↓Wp_slice, ↓Wp_isi, ↓Wp_isi2, ↓Wp_m1, ↓Wp_call, ↓Wp_pix, ↓Wp_callP0, ↓Wp_callP1, ↓Wp_comp, ↓Wp_disp, ↓Wp_dpnil, ↓Wp_dpcons, ↓Wp_flat, ↓onNx_nx, ↓onNx_bk, ↓onNx_ct, ↓onNx_rt, ↓onRt_rt, ↓onRt_nx, ↓onS_some, ↓onB_b, ↓onI_i, ↓onStr_s, ↓onL_l, ↓lk_0, ↓lk_S, ↓onSet_0, ↓onSet_S, ↓onPut_0, ↓onPut_S, ↓ite_dec, ↓ite_ndec, ↓ite_tt, ↓ite_ff, ↓ite_nt, ↓ite_nf, ↓v_gt, ↓v_lt, ↓v_le, ↓v_ge, ↓v_ltS, ↓v_add, ↓v_addS, ↓v_addL, ↓v_addT, ↓v_addN, ↓v_sub, ↓v_mul, ↓v_mulS, ↓v_mod, ↓v_fdiv, ↓v_pow, ↓v_neg, ↓v_lenL, ↓v_lenT, ↓v_lenS, ↓v_abs, ↓v_rev, ↓v_all, ↓v_any, ↓v_sum, ↓v_eq, ↓v_ne, ↓v_in, ↓v_notIn, ↓q_ii, ↓q_ss, ↓items_l, ↓items_t, ↓items_s, ↓items_r1, ↓items_r2, ↓sl_l, ↓sl_t, ↓sl_s, ↓put_1, ↓put_2, ↓pen_0, ↓pen_1, ↓pen_2, ↓v_ixL, ↓v_ixT, ↓ins_NoneType_none, ↓ins_NoneType_bool, ↓ins_NoneType_int, ↓ins_NoneType_str, ↓ins_NoneType_list, ↓ins_NoneType_tuple, ↓ins_NoneType_dict, ↓ins_bool_none, ↓ins_bool_bool, ↓ins_bool_int, ↓ins_bool_str, ↓ins_bool_list, ↓ins_bool_tuple, ↓ins_bool_dict, ↓ins_int_none, ↓ins_int_bool, ↓ins_int_int, ↓ins_int_str, ↓ins_int_list, ↓ins_int_tuple, ↓ins_int_dict, ↓ins_str_none, ↓ins_str_bool, ↓ins_str_int, ↓ins_str_str, ↓ins_str_list, ↓ins_str_tuple, ↓ins_str_dict, ↓ins_list_none, ↓ins_list_bool, ↓ins_list_int, ↓ins_list_str, ↓ins_list_list, ↓ins_list_tuple, ↓ins_list_dict, ↓ins_tuple_none, ↓ins_tuple_bool, ↓ins_tuple_int, ↓ins_tuple_str, ↓ins_tuple_list, ↓ins_tuple_tuple, ↓ins_tuple_dict, ↓ins_dict_none, ↓ins_dict_bool, ↓ins_dict_int, ↓ins_dict_str, ↓ins_dict_list, ↓ins_dict_tuple, ↓ins_dict_dict, ↓in_sign, ↓onClr_0, ↓onClr_S, ↓onW_nil, ↓onW_cons, ↓onRe_0, ↓onRe_S, ↓onBk_nil, ↓onBk_cons, ↓onTwo_l, ↓S_par, ↓a_tup, ↓onG_name, ↓onG_tup, ↓onGs_nil, ↓onGs_cons, ↓onTurn_nx, ↓onTurn_ct, ↓onTurn_bk, ↓onTurn_rt, ↓onLD_d, ↓v_ixAd, ↓v_inAd, ↓v_notInAd, ↓S_upd, ↓v_zip, ↓Wp_flatA, ↓v_int, ↓v_intB, ↓v_min, ↓v_gin, ↓v_gnin, ↓v_gix, ↓reduceIte, List.all_cons, List.all_nil, id, e1, e2, e3, e4, e5, Bool.and_true, Bool.true_and, eqv_ss]
theorem law_is_page_keep (p1 p2 p3 p4 p5 : D) (h1 : ∀ z, p1 = .str z → Tx7 z) (h2 : ∀ z, p2 = .str z → Tx7 z) (h3 : ∀ z, p3 = .str z → Tx7 z) (h4 : ∀ z, p4 = .str z → Tx7 z) (h5 : ∀ z, p5 = .str z → Tx7 z) (hfl : flatA [p1, p2, p3, p4, p5] = true) : m__law_is_page [.tuple [.str "keep", p1, p2, p3, p4, p5]] = some (.bool (B_keep p1 p2 p3 p4 p5)) := by
  refine MD.get (MD_of rfl ?_)
  show Sp2 g__law_is_page [some _, none, none, none, none, none] _
  unfold g__law_is_page
  have w9 : ∀ d, m__law_within [d, .int 0, .int (10 ^ Int.toNat 9)] = some (.bool (within 0 1000000000 d)) := fun d => law_within_eq d 0 1000000000
  have w1 : ∀ d, m__law_within [d, .int 1, .int (10 ^ Int.toNat 9)] = some (.bool (within 1 1000000000 d)) := fun d => law_within_eq d 1 1000000000
  simp (config := { decide := true }) only [↓S_next, ↓S_bk, ↓S_ct, ↓S_rtd, ↓S_seq, ↓S_set, ↓S_drop, ↓S_ret, ↓S_if, ↓S_asg, ↓S_put, ↓S_app, ↓S_ext, ↓S_for, ↓Wp_pure, ↓Wp_opt, ↓Wp_bind, ↓Wp_ite, ↓Wp_var, ↓Wp_op, ↓Wp_un, ↓Wp_test, ↓Wp_dand, ↓Wp_dor, ↓Wp_dnot, ↓Wp_dandV, ↓Wp_dorV, ↓Wp_dnotV, ↓Wp_chain, ↓Wp_cb, ↓Wp_cons, ↓Wp_nil, ↓Wp_tup, ↓Wp_lst, ↓Wp_part, ↓Wp_nopart, ↓Wp_slice, ↓Wp_isi, ↓Wp_isi2, ↓Wp_m1, ↓Wp_call, ↓Wp_pix, ↓Wp_callP0, ↓Wp_callP1, ↓Wp_comp, ↓Wp_disp, ↓Wp_dpnil, ↓Wp_dpcons, ↓Wp_flat, ↓onNx_nx, ↓onNx_bk, ↓onNx_ct, ↓onNx_rt, ↓onRt_rt, ↓onRt_nx, ↓onS_some, ↓onB_b, ↓onI_i, ↓onStr_s, ↓onL_l, ↓lk_0, ↓lk_S, ↓onSet_0, ↓onSet_S, ↓onPut_0, ↓onPut_S, ↓ite_dec, ↓ite_ndec, ↓ite_tt, ↓ite_ff, ↓ite_nt, ↓ite_nf, ↓v_gt, ↓v_lt, ↓v_le, ↓v_ge, ↓v_ltS, ↓v_add, ↓v_addS, ↓v_addL, ↓v_addT, ↓v_addN, ↓v_sub, ↓v_mul, ↓v_mulS, ↓v_mod, ↓v_fdiv, ↓v_pow, ↓v_neg, ↓v_lenL, ↓v_lenT, ↓v_lenS, ↓v_abs, ↓v_rev, ↓v_all, ↓v_any, ↓v_sum, ↓v_eq, ↓v_ne, ↓v_in, ↓v_notIn, ↓q_ii, ↓q_ss, ↓items_l, ↓items_t, ↓items_s, ↓items_r1, ↓items_r2, ↓sl_l, ↓sl_t, ↓sl_s, ↓put_1, ↓put_2, ↓pen_0, ↓pen_1, ↓pen_2, ↓v_ixL, ↓v_ixT, ↓ins_NoneType_none, ↓ins_NoneType_bool, ↓ins_NoneType_int, ↓ins_NoneType_str, ↓ins_NoneType_list, ↓ins_NoneType_tuple, ↓ins_NoneType_dict, ↓ins_bool_none, ↓ins_bool_bool, ↓ins_bool_int, ↓ins_bool_str, ↓ins_bool_list, ↓ins_bool_tuple, ↓ins_bool_dict, ↓ins_int_none, ↓ins_int_bool, ↓ins_int_int, ↓ins_int_str, ↓ins_int_list, ↓ins_int_tuple, ↓ins_int_dict, ↓ins_str_none, ↓ins_str_bool, ↓ins_str_int, ↓ins_str_str, ↓ins_str_list, ↓ins_str_tuple, ↓ins_str_dict, ↓ins_list_none, ↓ins_list_bool, ↓ins_list_int, ↓ins_list_str, ↓ins_list_list, ↓ins_list_tuple, ↓ins_list_dict, ↓ins_tuple_none, ↓ins_tuple_bool, ↓ins_tuple_int, ↓ins_tuple_str, ↓ins_tuple_list, ↓ins_tuple_tuple, ↓ins_tuple_dict, ↓ins_dict_none, ↓ins_dict_bool, ↓ins_dict_int, ↓ins_dict_str, ↓ins_dict_list, ↓ins_dict_tuple, ↓ins_dict_dict, ↓in_sign, ↓onClr_0, ↓onClr_S, ↓onW_nil, ↓onW_cons, ↓onRe_0, ↓onRe_S, ↓onBk_nil, ↓onBk_cons, ↓onTwo_l, ↓S_par, ↓a_tup, ↓onG_name, ↓onG_tup, ↓onGs_nil, ↓onGs_cons, ↓onTurn_nx, ↓onTurn_ct, ↓onTurn_bk, ↓onTurn_rt, ↓onLD_d, ↓v_ixAd, ↓v_inAd, ↓v_notInAd, ↓S_upd, ↓v_zip, ↓Wp_flatA, ↓v_int, ↓v_intB, ↓v_min, ↓v_gin, ↓v_gnin, ↓v_gix, ↓reduceIte, ↓Cp_nil, ↓Cp_cons, ↓Fl_nil, ↓Fl_cons, ↓at_0, ↓at_1, ↓at_2, ↓at_3, ↓at_4, ↓at_5, ↓at_6, List.length_cons, List.length_nil, cut1, zipP, List.nil_append, List.cons_append, Nat.reduceAdd, Int.reduceAdd, ↓bls_cons, ↓bls_nil, lt0, le0, lt1, le1, lt2, le2, lt3, le3, lt4, le4, lt5, le5, lt6, le6, lt7, le7, lt8, le8, lt9, le9, lt10, le10, lt11, le11, lt12, le12, lt13, le13, lt14, le14, lt15, le15, lt16, le16, true_and, Option.isSome_some, ↓dk_w, ↓dk_d, ↓dk_t, ↓dk_f, ↓dk_p, ↓dspA, ↓dspB, ↓dspC, ↓dspF, ↓din_keep, ↓dgt_keep, ↓iop_keep, ↓itr_keep, lt0, sg_wdwwf, fl_wdwwf, lenA, lenB, lenC, lenAB, flat2, hfl, ↓MD.eq (law_is_word_eq p1 h1), ↓MD.eq (law_is_word_eq p2 h2), ↓MD.eq (law_is_word_eq p3 h3), ↓MD.eq (law_is_word_eq p4 h4), ↓MD.eq (law_is_word_eq p5 h5), ↓MD.eq (law_within_eq p1 0 0), ↓MD.eq (law_within_eq p2 0 999), ↓MD.eq (law_within_eq p3 0 0), ↓MD.eq (law_within_eq p4 0 0), ↓MD.eq (w9 p5)]
  refine ite_i (fun h => by
    have e := not_all h
    unfold B_keep
    simp only [List.all_cons, id, e, Bool.false_and, Bool.and_false]) (fun h => ?_)
  have e1 := not_not_all h
  clear h
  refine ite_i (fun h => by
    have e := not_all h
    unfold B_keep
    simp only [List.all_cons, id, e, Bool.false_and, Bool.and_false]) (fun h => ?_)
  have e2 := not_not_all h
  clear h
  refine ite_i (fun h => by
    have e := not_all h
    unfold B_keep
    simp only [List.all_cons, id, e, Bool.false_and, Bool.and_false]) (fun h => ?_)
  have e3 := not_not_all h
  clear h
  refine ite_i (fun h => by
    have e := not_all h
    unfold B_keep
    simp only [List.all_cons, id, e, Bool.false_and, Bool.and_false]) (fun h => ?_)
  have e4 := not_not_all h
  clear h
  refine ite_i (fun h => by
    have e := not_all h
    unfold B_keep
    simp only [List.all_cons, id, e, Bool.false_and, Bool.and_false]) (fun h => ?_)
  have e5 := not_not_all h
  clear h
  unfold B_keep
  simp (config := { decide := true }) only [↓S_next, ↓S_bk, ↓S_ct, ↓S_rtd, ↓S_seq, ↓S_set, ↓S_drop, ↓S_ret, ↓S_if, ↓S_asg, ↓S_put, ↓S_app, ↓S_ext, ↓S_for, ↓Wp_pure, ↓Wp_opt, ↓Wp_bind, ↓Wp_ite, ↓Wp_var, ↓Wp_op, ↓Wp_un, ↓Wp_test, ↓Wp_dand, ↓Wp_dor, ↓Wp_dnot, ↓Wp_dandV, ↓Wp_dorV, ↓Wp_dnotV, ↓Wp_chain, ↓Wp_cb, ↓Wp_cons, ↓Wp_nil, ↓Wp_tup, ↓Wp_lst, ↓Wp_part, ↓Wp_nopart, ↓Wp_slice, ↓Wp_isi, ↓Wp_isi2, ↓Wp_m1, ↓Wp_call, ↓Wp_pix, ↓Wp_callP0, ↓Wp_callP1, ↓Wp_comp, ↓Wp_disp, ↓Wp_dpnil, ↓Wp_dpcons, ↓Wp_flat, ↓onNx_nx, ↓onNx_bk, ↓onNx_ct, ↓onNx_rt, ↓onRt_rt, ↓onRt_nx, ↓onS_some, ↓onB_b, ↓onI_i, ↓onStr_s, ↓onL_l, ↓lk_0, ↓lk_S, ↓onSet_0, ↓onSet_S, ↓onPut_0, ↓onPut_S, ↓ite_dec, ↓ite_ndec, ↓ite_tt, ↓ite_ff, ↓ite_nt, ↓ite_nf, ↓v_gt, ↓v_lt, ↓v_le, ↓v_ge, ↓v_ltS, ↓v_add, ↓v_addS, ↓v_addL, ↓v_addT, ↓v_addN, ↓v_sub, ↓v_mul, ↓v_mulS, ↓v_mod, ↓v_fdiv, ↓v_pow, ↓v_neg, ↓v_lenL, ↓v_lenT, ↓v_lenS, ↓v_abs, ↓v_rev, ↓v_all, ↓v_any, ↓v_sum, ↓v_eq, ↓v_ne, ↓v_in, ↓v_notIn, ↓q_ii, ↓q_ss, ↓items_l, ↓items_t, ↓items_s, ↓items_r1, ↓items_r2, ↓sl_l, ↓sl_t, ↓sl_s, ↓put_1, ↓put_2, ↓pen_0, ↓pen_1, ↓pen_2, ↓v_ixL, ↓v_ixT, ↓ins_NoneType_none, ↓ins_NoneType_bool, ↓ins_NoneType_int, ↓ins_NoneType_str, ↓ins_NoneType_list, ↓ins_NoneType_tuple, ↓ins_NoneType_dict, ↓ins_bool_none, ↓ins_bool_bool, ↓ins_bool_int, ↓ins_bool_str, ↓ins_bool_list, ↓ins_bool_tuple, ↓ins_bool_dict, ↓ins_int_none, ↓ins_int_bool, ↓ins_int_int, ↓ins_int_str, ↓ins_int_list, ↓ins_int_tuple, ↓ins_int_dict, ↓ins_str_none, ↓ins_str_bool, ↓ins_str_int, ↓ins_str_str, ↓ins_str_list, ↓ins_str_tuple, ↓ins_str_dict, ↓ins_list_none, ↓ins_list_bool, ↓ins_list_int, ↓ins_list_str, ↓ins_list_list, ↓ins_list_tuple, ↓ins_list_dict, ↓ins_tuple_none, ↓ins_tuple_bool, ↓ins_tuple_int, ↓ins_tuple_str, ↓ins_tuple_list, ↓ins_tuple_tuple, ↓ins_tuple_dict, ↓ins_dict_none, ↓ins_dict_bool, ↓ins_dict_int, ↓ins_dict_str, ↓ins_dict_list, ↓ins_dict_tuple, ↓ins_dict_dict, ↓in_sign, ↓onClr_0, ↓onClr_S, ↓onW_nil, ↓onW_cons, ↓onRe_0, ↓onRe_S, ↓onBk_nil, ↓onBk_cons, ↓onTwo_l, ↓S_par, ↓a_tup, ↓onG_name, ↓onG_tup, ↓onGs_nil, ↓onGs_cons, ↓onTurn_nx, ↓onTurn_ct, ↓onTurn_bk, ↓onTurn_rt, ↓onLD_d, ↓v_ixAd, ↓v_inAd, ↓v_notInAd, ↓S_upd, ↓v_zip, ↓Wp_flatA, ↓v_int, ↓v_intB, ↓v_min, ↓v_gin, ↓v_gnin, ↓v_gix, ↓reduceIte, List.all_cons, List.all_nil, id, e1, e2, e3, e4, e5, Bool.and_true, Bool.true_and, eqv_ss]
theorem law_is_page_give (p1 p2 p3 p4 p5 p6 p7 : D) (h1 : ∀ z, p1 = .str z → Tx7 z) (h2 : ∀ z, p2 = .str z → Tx7 z) (h3 : ∀ z, p3 = .str z → Tx7 z) (h4 : ∀ z, p4 = .str z → Tx7 z) (h5 : ∀ z, p5 = .str z → Tx7 z) (h6 : ∀ z, p6 = .str z → Tx7 z) (h7 : ∀ z, p7 = .str z → Tx7 z) (hfl : flatA [p1, p2, p3, p4, p5, p6, p7] = true) : m__law_is_page [.tuple [.str "give", p1, p2, p3, p4, p5, p6, p7]] = some (.bool (B_give p1 p2 p3 p4 p5 p6 p7)) := by
  refine MD.get (MD_of rfl ?_)
  show Sp2 g__law_is_page [some _, none, none, none, none, none] _
  unfold g__law_is_page
  have w9 : ∀ d, m__law_within [d, .int 0, .int (10 ^ Int.toNat 9)] = some (.bool (within 0 1000000000 d)) := fun d => law_within_eq d 0 1000000000
  have w1 : ∀ d, m__law_within [d, .int 1, .int (10 ^ Int.toNat 9)] = some (.bool (within 1 1000000000 d)) := fun d => law_within_eq d 1 1000000000
  simp (config := { decide := true }) only [↓S_next, ↓S_bk, ↓S_ct, ↓S_rtd, ↓S_seq, ↓S_set, ↓S_drop, ↓S_ret, ↓S_if, ↓S_asg, ↓S_put, ↓S_app, ↓S_ext, ↓S_for, ↓Wp_pure, ↓Wp_opt, ↓Wp_bind, ↓Wp_ite, ↓Wp_var, ↓Wp_op, ↓Wp_un, ↓Wp_test, ↓Wp_dand, ↓Wp_dor, ↓Wp_dnot, ↓Wp_dandV, ↓Wp_dorV, ↓Wp_dnotV, ↓Wp_chain, ↓Wp_cb, ↓Wp_cons, ↓Wp_nil, ↓Wp_tup, ↓Wp_lst, ↓Wp_part, ↓Wp_nopart, ↓Wp_slice, ↓Wp_isi, ↓Wp_isi2, ↓Wp_m1, ↓Wp_call, ↓Wp_pix, ↓Wp_callP0, ↓Wp_callP1, ↓Wp_comp, ↓Wp_disp, ↓Wp_dpnil, ↓Wp_dpcons, ↓Wp_flat, ↓onNx_nx, ↓onNx_bk, ↓onNx_ct, ↓onNx_rt, ↓onRt_rt, ↓onRt_nx, ↓onS_some, ↓onB_b, ↓onI_i, ↓onStr_s, ↓onL_l, ↓lk_0, ↓lk_S, ↓onSet_0, ↓onSet_S, ↓onPut_0, ↓onPut_S, ↓ite_dec, ↓ite_ndec, ↓ite_tt, ↓ite_ff, ↓ite_nt, ↓ite_nf, ↓v_gt, ↓v_lt, ↓v_le, ↓v_ge, ↓v_ltS, ↓v_add, ↓v_addS, ↓v_addL, ↓v_addT, ↓v_addN, ↓v_sub, ↓v_mul, ↓v_mulS, ↓v_mod, ↓v_fdiv, ↓v_pow, ↓v_neg, ↓v_lenL, ↓v_lenT, ↓v_lenS, ↓v_abs, ↓v_rev, ↓v_all, ↓v_any, ↓v_sum, ↓v_eq, ↓v_ne, ↓v_in, ↓v_notIn, ↓q_ii, ↓q_ss, ↓items_l, ↓items_t, ↓items_s, ↓items_r1, ↓items_r2, ↓sl_l, ↓sl_t, ↓sl_s, ↓put_1, ↓put_2, ↓pen_0, ↓pen_1, ↓pen_2, ↓v_ixL, ↓v_ixT, ↓ins_NoneType_none, ↓ins_NoneType_bool, ↓ins_NoneType_int, ↓ins_NoneType_str, ↓ins_NoneType_list, ↓ins_NoneType_tuple, ↓ins_NoneType_dict, ↓ins_bool_none, ↓ins_bool_bool, ↓ins_bool_int, ↓ins_bool_str, ↓ins_bool_list, ↓ins_bool_tuple, ↓ins_bool_dict, ↓ins_int_none, ↓ins_int_bool, ↓ins_int_int, ↓ins_int_str, ↓ins_int_list, ↓ins_int_tuple, ↓ins_int_dict, ↓ins_str_none, ↓ins_str_bool, ↓ins_str_int, ↓ins_str_str, ↓ins_str_list, ↓ins_str_tuple, ↓ins_str_dict, ↓ins_list_none, ↓ins_list_bool, ↓ins_list_int, ↓ins_list_str, ↓ins_list_list, ↓ins_list_tuple, ↓ins_list_dict, ↓ins_tuple_none, ↓ins_tuple_bool, ↓ins_tuple_int, ↓ins_tuple_str, ↓ins_tuple_list, ↓ins_tuple_tuple, ↓ins_tuple_dict, ↓ins_dict_none, ↓ins_dict_bool, ↓ins_dict_int, ↓ins_dict_str, ↓ins_dict_list, ↓ins_dict_tuple, ↓ins_dict_dict, ↓in_sign, ↓onClr_0, ↓onClr_S, ↓onW_nil, ↓onW_cons, ↓onRe_0, ↓onRe_S, ↓onBk_nil, ↓onBk_cons, ↓onTwo_l, ↓S_par, ↓a_tup, ↓onG_name, ↓onG_tup, ↓onGs_nil, ↓onGs_cons, ↓onTurn_nx, ↓onTurn_ct, ↓onTurn_bk, ↓onTurn_rt, ↓onLD_d, ↓v_ixAd, ↓v_inAd, ↓v_notInAd, ↓S_upd, ↓v_zip, ↓Wp_flatA, ↓v_int, ↓v_intB, ↓v_min, ↓v_gin, ↓v_gnin, ↓v_gix, ↓reduceIte, ↓Cp_nil, ↓Cp_cons, ↓Fl_nil, ↓Fl_cons, ↓at_0, ↓at_1, ↓at_2, ↓at_3, ↓at_4, ↓at_5, ↓at_6, List.length_cons, List.length_nil, cut1, zipP, List.nil_append, List.cons_append, Nat.reduceAdd, Int.reduceAdd, ↓bls_cons, ↓bls_nil, lt0, le0, lt1, le1, lt2, le2, lt3, le3, lt4, le4, lt5, le5, lt6, le6, lt7, le7, lt8, le8, lt9, le9, lt10, le10, lt11, le11, lt12, le12, lt13, le13, lt14, le14, lt15, le15, lt16, le16, true_and, Option.isSome_some, ↓dk_w, ↓dk_d, ↓dk_t, ↓dk_f, ↓dk_p, ↓dspA, ↓dspB, ↓dspC, ↓dspF, ↓din_give, ↓dgt_give, ↓iop_give, ↓itr_give, lt0, sg_wdwwwtf, fl_wdwwwtf, lenA, lenB, lenC, lenAB, flat2, hfl, ↓MD.eq (law_is_word_eq p1 h1), ↓MD.eq (law_is_word_eq p2 h2), ↓MD.eq (law_is_word_eq p3 h3), ↓MD.eq (law_is_word_eq p4 h4), ↓MD.eq (law_is_word_eq p5 h5), ↓MD.eq (law_is_word_eq p6 h6), ↓MD.eq (law_is_word_eq p7 h7), ↓MD.eq (law_within_eq p1 0 0), ↓MD.eq (law_within_eq p2 0 999), ↓MD.eq (law_within_eq p3 0 0), ↓MD.eq (law_within_eq p4 0 0), ↓MD.eq (law_within_eq p5 0 0), ↓MD.eq (law_within_eq p6 0 9), ↓MD.eq (w9 p7)]
  refine ite_i (fun h => by
    have e := not_all h
    unfold B_give
    simp only [List.all_cons, id, e, Bool.false_and, Bool.and_false]) (fun h => ?_)
  have e1 := not_not_all h
  clear h
  refine ite_i (fun h => by
    have e := not_all h
    unfold B_give
    simp only [List.all_cons, id, e, Bool.false_and, Bool.and_false]) (fun h => ?_)
  have e2 := not_not_all h
  clear h
  refine ite_i (fun h => by
    have e := not_all h
    unfold B_give
    simp only [List.all_cons, id, e, Bool.false_and, Bool.and_false]) (fun h => ?_)
  have e3 := not_not_all h
  clear h
  refine ite_i (fun h => by
    have e := not_all h
    unfold B_give
    simp only [List.all_cons, id, e, Bool.false_and, Bool.and_false]) (fun h => ?_)
  have e4 := not_not_all h
  clear h
  refine ite_i (fun h => by
    have e := not_all h
    unfold B_give
    simp only [List.all_cons, id, e, Bool.false_and, Bool.and_false]) (fun h => ?_)
  have e5 := not_not_all h
  clear h
  refine ite_i (fun h => by
    have e := not_all h
    unfold B_give
    simp only [List.all_cons, id, e, Bool.false_and, Bool.and_false]) (fun h => ?_)
  have e6 := not_not_all h
  clear h
  refine ite_i (fun h => by
    have e := not_all h
    unfold B_give
    simp only [List.all_cons, id, e, Bool.false_and, Bool.and_false]) (fun h => ?_)
  have e7 := not_not_all h
  clear h
  obtain ⟨z4, rfl⟩ := isW_is e4
  obtain ⟨z5, rfl⟩ := isW_is e5
  unfold B_give
  simp (config := { decide := true }) only [↓S_next, ↓S_bk, ↓S_ct, ↓S_rtd, ↓S_seq, ↓S_set, ↓S_drop, ↓S_ret, ↓S_if, ↓S_asg, ↓S_put, ↓S_app, ↓S_ext, ↓S_for, ↓Wp_pure, ↓Wp_opt, ↓Wp_bind, ↓Wp_ite, ↓Wp_var, ↓Wp_op, ↓Wp_un, ↓Wp_test, ↓Wp_dand, ↓Wp_dor, ↓Wp_dnot, ↓Wp_dandV, ↓Wp_dorV, ↓Wp_dnotV, ↓Wp_chain, ↓Wp_cb, ↓Wp_cons, ↓Wp_nil, ↓Wp_tup, ↓Wp_lst, ↓Wp_part, ↓Wp_nopart, ↓Wp_slice, ↓Wp_isi, ↓Wp_isi2, ↓Wp_m1, ↓Wp_call, ↓Wp_pix, ↓Wp_callP0, ↓Wp_callP1, ↓Wp_comp, ↓Wp_disp, ↓Wp_dpnil, ↓Wp_dpcons, ↓Wp_flat, ↓onNx_nx, ↓onNx_bk, ↓onNx_ct, ↓onNx_rt, ↓onRt_rt, ↓onRt_nx, ↓onS_some, ↓onB_b, ↓onI_i, ↓onStr_s, ↓onL_l, ↓lk_0, ↓lk_S, ↓onSet_0, ↓onSet_S, ↓onPut_0, ↓onPut_S, ↓ite_dec, ↓ite_ndec, ↓ite_tt, ↓ite_ff, ↓ite_nt, ↓ite_nf, ↓v_gt, ↓v_lt, ↓v_le, ↓v_ge, ↓v_ltS, ↓v_add, ↓v_addS, ↓v_addL, ↓v_addT, ↓v_addN, ↓v_sub, ↓v_mul, ↓v_mulS, ↓v_mod, ↓v_fdiv, ↓v_pow, ↓v_neg, ↓v_lenL, ↓v_lenT, ↓v_lenS, ↓v_abs, ↓v_rev, ↓v_all, ↓v_any, ↓v_sum, ↓v_eq, ↓v_ne, ↓v_in, ↓v_notIn, ↓q_ii, ↓q_ss, ↓items_l, ↓items_t, ↓items_s, ↓items_r1, ↓items_r2, ↓sl_l, ↓sl_t, ↓sl_s, ↓put_1, ↓put_2, ↓pen_0, ↓pen_1, ↓pen_2, ↓v_ixL, ↓v_ixT, ↓ins_NoneType_none, ↓ins_NoneType_bool, ↓ins_NoneType_int, ↓ins_NoneType_str, ↓ins_NoneType_list, ↓ins_NoneType_tuple, ↓ins_NoneType_dict, ↓ins_bool_none, ↓ins_bool_bool, ↓ins_bool_int, ↓ins_bool_str, ↓ins_bool_list, ↓ins_bool_tuple, ↓ins_bool_dict, ↓ins_int_none, ↓ins_int_bool, ↓ins_int_int, ↓ins_int_str, ↓ins_int_list, ↓ins_int_tuple, ↓ins_int_dict, ↓ins_str_none, ↓ins_str_bool, ↓ins_str_int, ↓ins_str_str, ↓ins_str_list, ↓ins_str_tuple, ↓ins_str_dict, ↓ins_list_none, ↓ins_list_bool, ↓ins_list_int, ↓ins_list_str, ↓ins_list_list, ↓ins_list_tuple, ↓ins_list_dict, ↓ins_tuple_none, ↓ins_tuple_bool, ↓ins_tuple_int, ↓ins_tuple_str, ↓ins_tuple_list, ↓ins_tuple_tuple, ↓ins_tuple_dict, ↓ins_dict_none, ↓ins_dict_bool, ↓ins_dict_int, ↓ins_dict_str, ↓ins_dict_list, ↓ins_dict_tuple, ↓ins_dict_dict, ↓in_sign, ↓onClr_0, ↓onClr_S, ↓onW_nil, ↓onW_cons, ↓onRe_0, ↓onRe_S, ↓onBk_nil, ↓onBk_cons, ↓onTwo_l, ↓S_par, ↓a_tup, ↓onG_name, ↓onG_tup, ↓onGs_nil, ↓onGs_cons, ↓onTurn_nx, ↓onTurn_ct, ↓onTurn_bk, ↓onTurn_rt, ↓onLD_d, ↓v_ixAd, ↓v_inAd, ↓v_notInAd, ↓S_upd, ↓v_zip, ↓Wp_flatA, ↓v_int, ↓v_intB, ↓v_min, ↓v_gin, ↓v_gnin, ↓v_gix, ↓reduceIte, List.all_cons, List.all_nil, id, e1, e2, e3, e4, e5, e6, e7, Bool.and_true, Bool.true_and, eqv_ss]
  refine ite_i (fun h2 => ?_) (fun h2 => ?_)
  · rw [decide_eq_true h2]
    rfl
  · rw [decide_eq_false h2]
    rfl
theorem law_is_page_goes (p1 p2 p3 p4 : D) (h1 : ∀ z, p1 = .str z → Tx7 z) (h2 : ∀ z, p2 = .str z → Tx7 z) (h3 : ∀ z, p3 = .str z → Tx7 z) (h4 : ∀ z, p4 = .str z → Tx7 z) (hfl : flatA [p1, p2, p3, p4] = true) : m__law_is_page [.tuple [.str "goes", p1, p2, p3, p4]] = some (.bool (B_goes p1 p2 p3 p4)) := by
  refine MD.get (MD_of rfl ?_)
  show Sp2 g__law_is_page [some _, none, none, none, none, none] _
  unfold g__law_is_page
  have w9 : ∀ d, m__law_within [d, .int 0, .int (10 ^ Int.toNat 9)] = some (.bool (within 0 1000000000 d)) := fun d => law_within_eq d 0 1000000000
  have w1 : ∀ d, m__law_within [d, .int 1, .int (10 ^ Int.toNat 9)] = some (.bool (within 1 1000000000 d)) := fun d => law_within_eq d 1 1000000000
  simp (config := { decide := true }) only [↓S_next, ↓S_bk, ↓S_ct, ↓S_rtd, ↓S_seq, ↓S_set, ↓S_drop, ↓S_ret, ↓S_if, ↓S_asg, ↓S_put, ↓S_app, ↓S_ext, ↓S_for, ↓Wp_pure, ↓Wp_opt, ↓Wp_bind, ↓Wp_ite, ↓Wp_var, ↓Wp_op, ↓Wp_un, ↓Wp_test, ↓Wp_dand, ↓Wp_dor, ↓Wp_dnot, ↓Wp_dandV, ↓Wp_dorV, ↓Wp_dnotV, ↓Wp_chain, ↓Wp_cb, ↓Wp_cons, ↓Wp_nil, ↓Wp_tup, ↓Wp_lst, ↓Wp_part, ↓Wp_nopart, ↓Wp_slice, ↓Wp_isi, ↓Wp_isi2, ↓Wp_m1, ↓Wp_call, ↓Wp_pix, ↓Wp_callP0, ↓Wp_callP1, ↓Wp_comp, ↓Wp_disp, ↓Wp_dpnil, ↓Wp_dpcons, ↓Wp_flat, ↓onNx_nx, ↓onNx_bk, ↓onNx_ct, ↓onNx_rt, ↓onRt_rt, ↓onRt_nx, ↓onS_some, ↓onB_b, ↓onI_i, ↓onStr_s, ↓onL_l, ↓lk_0, ↓lk_S, ↓onSet_0, ↓onSet_S, ↓onPut_0, ↓onPut_S, ↓ite_dec, ↓ite_ndec, ↓ite_tt, ↓ite_ff, ↓ite_nt, ↓ite_nf, ↓v_gt, ↓v_lt, ↓v_le, ↓v_ge, ↓v_ltS, ↓v_add, ↓v_addS, ↓v_addL, ↓v_addT, ↓v_addN, ↓v_sub, ↓v_mul, ↓v_mulS, ↓v_mod, ↓v_fdiv, ↓v_pow, ↓v_neg, ↓v_lenL, ↓v_lenT, ↓v_lenS, ↓v_abs, ↓v_rev, ↓v_all, ↓v_any, ↓v_sum, ↓v_eq, ↓v_ne, ↓v_in, ↓v_notIn, ↓q_ii, ↓q_ss, ↓items_l, ↓items_t, ↓items_s, ↓items_r1, ↓items_r2, ↓sl_l, ↓sl_t, ↓sl_s, ↓put_1, ↓put_2, ↓pen_0, ↓pen_1, ↓pen_2, ↓v_ixL, ↓v_ixT, ↓ins_NoneType_none, ↓ins_NoneType_bool, ↓ins_NoneType_int, ↓ins_NoneType_str, ↓ins_NoneType_list, ↓ins_NoneType_tuple, ↓ins_NoneType_dict, ↓ins_bool_none, ↓ins_bool_bool, ↓ins_bool_int, ↓ins_bool_str, ↓ins_bool_list, ↓ins_bool_tuple, ↓ins_bool_dict, ↓ins_int_none, ↓ins_int_bool, ↓ins_int_int, ↓ins_int_str, ↓ins_int_list, ↓ins_int_tuple, ↓ins_int_dict, ↓ins_str_none, ↓ins_str_bool, ↓ins_str_int, ↓ins_str_str, ↓ins_str_list, ↓ins_str_tuple, ↓ins_str_dict, ↓ins_list_none, ↓ins_list_bool, ↓ins_list_int, ↓ins_list_str, ↓ins_list_list, ↓ins_list_tuple, ↓ins_list_dict, ↓ins_tuple_none, ↓ins_tuple_bool, ↓ins_tuple_int, ↓ins_tuple_str, ↓ins_tuple_list, ↓ins_tuple_tuple, ↓ins_tuple_dict, ↓ins_dict_none, ↓ins_dict_bool, ↓ins_dict_int, ↓ins_dict_str, ↓ins_dict_list, ↓ins_dict_tuple, ↓ins_dict_dict, ↓in_sign, ↓onClr_0, ↓onClr_S, ↓onW_nil, ↓onW_cons, ↓onRe_0, ↓onRe_S, ↓onBk_nil, ↓onBk_cons, ↓onTwo_l, ↓S_par, ↓a_tup, ↓onG_name, ↓onG_tup, ↓onGs_nil, ↓onGs_cons, ↓onTurn_nx, ↓onTurn_ct, ↓onTurn_bk, ↓onTurn_rt, ↓onLD_d, ↓v_ixAd, ↓v_inAd, ↓v_notInAd, ↓S_upd, ↓v_zip, ↓Wp_flatA, ↓v_int, ↓v_intB, ↓v_min, ↓v_gin, ↓v_gnin, ↓v_gix, ↓reduceIte, ↓Cp_nil, ↓Cp_cons, ↓Fl_nil, ↓Fl_cons, ↓at_0, ↓at_1, ↓at_2, ↓at_3, ↓at_4, ↓at_5, ↓at_6, List.length_cons, List.length_nil, cut1, zipP, List.nil_append, List.cons_append, Nat.reduceAdd, Int.reduceAdd, ↓bls_cons, ↓bls_nil, lt0, le0, lt1, le1, lt2, le2, lt3, le3, lt4, le4, lt5, le5, lt6, le6, lt7, le7, lt8, le8, lt9, le9, lt10, le10, lt11, le11, lt12, le12, lt13, le13, lt14, le14, lt15, le15, lt16, le16, true_and, Option.isSome_some, ↓dk_w, ↓dk_d, ↓dk_t, ↓dk_f, ↓dk_p, ↓dspA, ↓dspB, ↓dspC, ↓dspF, ↓din_goes, ↓dgt_goes, ↓iop_goes, ↓itr_goes, lt0, sg_wdww, fl_wdww, lenA, lenB, lenC, lenAB, flat2, hfl, ↓MD.eq (law_is_word_eq p1 h1), ↓MD.eq (law_is_word_eq p2 h2), ↓MD.eq (law_is_word_eq p3 h3), ↓MD.eq (law_is_word_eq p4 h4), ↓MD.eq (law_within_eq p1 0 0), ↓MD.eq (law_within_eq p2 0 999), ↓MD.eq (law_within_eq p3 0 0), ↓MD.eq (law_within_eq p4 0 0)]
  refine ite_i (fun h => by
    have e := not_all h
    unfold B_goes
    simp only [List.all_cons, id, e, Bool.false_and, Bool.and_false]) (fun h => ?_)
  have e1 := not_not_all h
  clear h
  refine ite_i (fun h => by
    have e := not_all h
    unfold B_goes
    simp only [List.all_cons, id, e, Bool.false_and, Bool.and_false]) (fun h => ?_)
  have e2 := not_not_all h
  clear h
  refine ite_i (fun h => by
    have e := not_all h
    unfold B_goes
    simp only [List.all_cons, id, e, Bool.false_and, Bool.and_false]) (fun h => ?_)
  have e3 := not_not_all h
  clear h
  refine ite_i (fun h => by
    have e := not_all h
    unfold B_goes
    simp only [List.all_cons, id, e, Bool.false_and, Bool.and_false]) (fun h => ?_)
  have e4 := not_not_all h
  clear h
  unfold B_goes
  simp (config := { decide := true }) only [↓S_next, ↓S_bk, ↓S_ct, ↓S_rtd, ↓S_seq, ↓S_set, ↓S_drop, ↓S_ret, ↓S_if, ↓S_asg, ↓S_put, ↓S_app, ↓S_ext, ↓S_for, ↓Wp_pure, ↓Wp_opt, ↓Wp_bind, ↓Wp_ite, ↓Wp_var, ↓Wp_op, ↓Wp_un, ↓Wp_test, ↓Wp_dand, ↓Wp_dor, ↓Wp_dnot, ↓Wp_dandV, ↓Wp_dorV, ↓Wp_dnotV, ↓Wp_chain, ↓Wp_cb, ↓Wp_cons, ↓Wp_nil, ↓Wp_tup, ↓Wp_lst, ↓Wp_part, ↓Wp_nopart, ↓Wp_slice, ↓Wp_isi, ↓Wp_isi2, ↓Wp_m1, ↓Wp_call, ↓Wp_pix, ↓Wp_callP0, ↓Wp_callP1, ↓Wp_comp, ↓Wp_disp, ↓Wp_dpnil, ↓Wp_dpcons, ↓Wp_flat, ↓onNx_nx, ↓onNx_bk, ↓onNx_ct, ↓onNx_rt, ↓onRt_rt, ↓onRt_nx, ↓onS_some, ↓onB_b, ↓onI_i, ↓onStr_s, ↓onL_l, ↓lk_0, ↓lk_S, ↓onSet_0, ↓onSet_S, ↓onPut_0, ↓onPut_S, ↓ite_dec, ↓ite_ndec, ↓ite_tt, ↓ite_ff, ↓ite_nt, ↓ite_nf, ↓v_gt, ↓v_lt, ↓v_le, ↓v_ge, ↓v_ltS, ↓v_add, ↓v_addS, ↓v_addL, ↓v_addT, ↓v_addN, ↓v_sub, ↓v_mul, ↓v_mulS, ↓v_mod, ↓v_fdiv, ↓v_pow, ↓v_neg, ↓v_lenL, ↓v_lenT, ↓v_lenS, ↓v_abs, ↓v_rev, ↓v_all, ↓v_any, ↓v_sum, ↓v_eq, ↓v_ne, ↓v_in, ↓v_notIn, ↓q_ii, ↓q_ss, ↓items_l, ↓items_t, ↓items_s, ↓items_r1, ↓items_r2, ↓sl_l, ↓sl_t, ↓sl_s, ↓put_1, ↓put_2, ↓pen_0, ↓pen_1, ↓pen_2, ↓v_ixL, ↓v_ixT, ↓ins_NoneType_none, ↓ins_NoneType_bool, ↓ins_NoneType_int, ↓ins_NoneType_str, ↓ins_NoneType_list, ↓ins_NoneType_tuple, ↓ins_NoneType_dict, ↓ins_bool_none, ↓ins_bool_bool, ↓ins_bool_int, ↓ins_bool_str, ↓ins_bool_list, ↓ins_bool_tuple, ↓ins_bool_dict, ↓ins_int_none, ↓ins_int_bool, ↓ins_int_int, ↓ins_int_str, ↓ins_int_list, ↓ins_int_tuple, ↓ins_int_dict, ↓ins_str_none, ↓ins_str_bool, ↓ins_str_int, ↓ins_str_str, ↓ins_str_list, ↓ins_str_tuple, ↓ins_str_dict, ↓ins_list_none, ↓ins_list_bool, ↓ins_list_int, ↓ins_list_str, ↓ins_list_list, ↓ins_list_tuple, ↓ins_list_dict, ↓ins_tuple_none, ↓ins_tuple_bool, ↓ins_tuple_int, ↓ins_tuple_str, ↓ins_tuple_list, ↓ins_tuple_tuple, ↓ins_tuple_dict, ↓ins_dict_none, ↓ins_dict_bool, ↓ins_dict_int, ↓ins_dict_str, ↓ins_dict_list, ↓ins_dict_tuple, ↓ins_dict_dict, ↓in_sign, ↓onClr_0, ↓onClr_S, ↓onW_nil, ↓onW_cons, ↓onRe_0, ↓onRe_S, ↓onBk_nil, ↓onBk_cons, ↓onTwo_l, ↓S_par, ↓a_tup, ↓onG_name, ↓onG_tup, ↓onGs_nil, ↓onGs_cons, ↓onTurn_nx, ↓onTurn_ct, ↓onTurn_bk, ↓onTurn_rt, ↓onLD_d, ↓v_ixAd, ↓v_inAd, ↓v_notInAd, ↓S_upd, ↓v_zip, ↓Wp_flatA, ↓v_int, ↓v_intB, ↓v_min, ↓v_gin, ↓v_gnin, ↓v_gix, ↓reduceIte, List.all_cons, List.all_nil, id, e1, e2, e3, e4, Bool.and_true, Bool.true_and, eqv_ss]
theorem law_is_page_double (p1 p2 p3 p4 : D) (h1 : ∀ z, p1 = .str z → Tx7 z) (h2 : ∀ z, p2 = .str z → Tx7 z) (h3 : ∀ z, p3 = .str z → Tx7 z) (h4 : ∀ z, p4 = .str z → Tx7 z) (hfl : flatA [p1, p2, p3, p4] = true) : m__law_is_page [.tuple [.str "double", p1, p2, p3, p4]] = some (.bool (B_double p1 p2 p3 p4)) := by
  refine MD.get (MD_of rfl ?_)
  show Sp2 g__law_is_page [some _, none, none, none, none, none] _
  unfold g__law_is_page
  have w9 : ∀ d, m__law_within [d, .int 0, .int (10 ^ Int.toNat 9)] = some (.bool (within 0 1000000000 d)) := fun d => law_within_eq d 0 1000000000
  have w1 : ∀ d, m__law_within [d, .int 1, .int (10 ^ Int.toNat 9)] = some (.bool (within 1 1000000000 d)) := fun d => law_within_eq d 1 1000000000
  simp (config := { decide := true }) only [↓S_next, ↓S_bk, ↓S_ct, ↓S_rtd, ↓S_seq, ↓S_set, ↓S_drop, ↓S_ret, ↓S_if, ↓S_asg, ↓S_put, ↓S_app, ↓S_ext, ↓S_for, ↓Wp_pure, ↓Wp_opt, ↓Wp_bind, ↓Wp_ite, ↓Wp_var, ↓Wp_op, ↓Wp_un, ↓Wp_test, ↓Wp_dand, ↓Wp_dor, ↓Wp_dnot, ↓Wp_dandV, ↓Wp_dorV, ↓Wp_dnotV, ↓Wp_chain, ↓Wp_cb, ↓Wp_cons, ↓Wp_nil, ↓Wp_tup, ↓Wp_lst, ↓Wp_part, ↓Wp_nopart, ↓Wp_slice, ↓Wp_isi, ↓Wp_isi2, ↓Wp_m1, ↓Wp_call, ↓Wp_pix, ↓Wp_callP0, ↓Wp_callP1, ↓Wp_comp, ↓Wp_disp, ↓Wp_dpnil, ↓Wp_dpcons, ↓Wp_flat, ↓onNx_nx, ↓onNx_bk, ↓onNx_ct, ↓onNx_rt, ↓onRt_rt, ↓onRt_nx, ↓onS_some, ↓onB_b, ↓onI_i, ↓onStr_s, ↓onL_l, ↓lk_0, ↓lk_S, ↓onSet_0, ↓onSet_S, ↓onPut_0, ↓onPut_S, ↓ite_dec, ↓ite_ndec, ↓ite_tt, ↓ite_ff, ↓ite_nt, ↓ite_nf, ↓v_gt, ↓v_lt, ↓v_le, ↓v_ge, ↓v_ltS, ↓v_add, ↓v_addS, ↓v_addL, ↓v_addT, ↓v_addN, ↓v_sub, ↓v_mul, ↓v_mulS, ↓v_mod, ↓v_fdiv, ↓v_pow, ↓v_neg, ↓v_lenL, ↓v_lenT, ↓v_lenS, ↓v_abs, ↓v_rev, ↓v_all, ↓v_any, ↓v_sum, ↓v_eq, ↓v_ne, ↓v_in, ↓v_notIn, ↓q_ii, ↓q_ss, ↓items_l, ↓items_t, ↓items_s, ↓items_r1, ↓items_r2, ↓sl_l, ↓sl_t, ↓sl_s, ↓put_1, ↓put_2, ↓pen_0, ↓pen_1, ↓pen_2, ↓v_ixL, ↓v_ixT, ↓ins_NoneType_none, ↓ins_NoneType_bool, ↓ins_NoneType_int, ↓ins_NoneType_str, ↓ins_NoneType_list, ↓ins_NoneType_tuple, ↓ins_NoneType_dict, ↓ins_bool_none, ↓ins_bool_bool, ↓ins_bool_int, ↓ins_bool_str, ↓ins_bool_list, ↓ins_bool_tuple, ↓ins_bool_dict, ↓ins_int_none, ↓ins_int_bool, ↓ins_int_int, ↓ins_int_str, ↓ins_int_list, ↓ins_int_tuple, ↓ins_int_dict, ↓ins_str_none, ↓ins_str_bool, ↓ins_str_int, ↓ins_str_str, ↓ins_str_list, ↓ins_str_tuple, ↓ins_str_dict, ↓ins_list_none, ↓ins_list_bool, ↓ins_list_int, ↓ins_list_str, ↓ins_list_list, ↓ins_list_tuple, ↓ins_list_dict, ↓ins_tuple_none, ↓ins_tuple_bool, ↓ins_tuple_int, ↓ins_tuple_str, ↓ins_tuple_list, ↓ins_tuple_tuple, ↓ins_tuple_dict, ↓ins_dict_none, ↓ins_dict_bool, ↓ins_dict_int, ↓ins_dict_str, ↓ins_dict_list, ↓ins_dict_tuple, ↓ins_dict_dict, ↓in_sign, ↓onClr_0, ↓onClr_S, ↓onW_nil, ↓onW_cons, ↓onRe_0, ↓onRe_S, ↓onBk_nil, ↓onBk_cons, ↓onTwo_l, ↓S_par, ↓a_tup, ↓onG_name, ↓onG_tup, ↓onGs_nil, ↓onGs_cons, ↓onTurn_nx, ↓onTurn_ct, ↓onTurn_bk, ↓onTurn_rt, ↓onLD_d, ↓v_ixAd, ↓v_inAd, ↓v_notInAd, ↓S_upd, ↓v_zip, ↓Wp_flatA, ↓v_int, ↓v_intB, ↓v_min, ↓v_gin, ↓v_gnin, ↓v_gix, ↓reduceIte, ↓Cp_nil, ↓Cp_cons, ↓Fl_nil, ↓Fl_cons, ↓at_0, ↓at_1, ↓at_2, ↓at_3, ↓at_4, ↓at_5, ↓at_6, List.length_cons, List.length_nil, cut1, zipP, List.nil_append, List.cons_append, Nat.reduceAdd, Int.reduceAdd, ↓bls_cons, ↓bls_nil, lt0, le0, lt1, le1, lt2, le2, lt3, le3, lt4, le4, lt5, le5, lt6, le6, lt7, le7, lt8, le8, lt9, le9, lt10, le10, lt11, le11, lt12, le12, lt13, le13, lt14, le14, lt15, le15, lt16, le16, true_and, Option.isSome_some, ↓dk_w, ↓dk_d, ↓dk_t, ↓dk_f, ↓dk_p, ↓dspA, ↓dspB, ↓dspC, ↓dspF, ↓din_double, ↓dgt_double, ↓iop_double, ↓itr_double, lt0, sg_wdww, fl_wdww, lenA, lenB, lenC, lenAB, flat2, hfl, ↓MD.eq (law_is_word_eq p1 h1), ↓MD.eq (law_is_word_eq p2 h2), ↓MD.eq (law_is_word_eq p3 h3), ↓MD.eq (law_is_word_eq p4 h4), ↓MD.eq (law_within_eq p1 0 0), ↓MD.eq (law_within_eq p2 0 999), ↓MD.eq (law_within_eq p3 0 0), ↓MD.eq (law_within_eq p4 0 0)]
  refine ite_i (fun h => by
    have e := not_all h
    unfold B_double
    simp only [List.all_cons, id, e, Bool.false_and, Bool.and_false]) (fun h => ?_)
  have e1 := not_not_all h
  clear h
  refine ite_i (fun h => by
    have e := not_all h
    unfold B_double
    simp only [List.all_cons, id, e, Bool.false_and, Bool.and_false]) (fun h => ?_)
  have e2 := not_not_all h
  clear h
  refine ite_i (fun h => by
    have e := not_all h
    unfold B_double
    simp only [List.all_cons, id, e, Bool.false_and, Bool.and_false]) (fun h => ?_)
  have e3 := not_not_all h
  clear h
  refine ite_i (fun h => by
    have e := not_all h
    unfold B_double
    simp only [List.all_cons, id, e, Bool.false_and, Bool.and_false]) (fun h => ?_)
  have e4 := not_not_all h
  clear h
  unfold B_double
  simp (config := { decide := true }) only [↓S_next, ↓S_bk, ↓S_ct, ↓S_rtd, ↓S_seq, ↓S_set, ↓S_drop, ↓S_ret, ↓S_if, ↓S_asg, ↓S_put, ↓S_app, ↓S_ext, ↓S_for, ↓Wp_pure, ↓Wp_opt, ↓Wp_bind, ↓Wp_ite, ↓Wp_var, ↓Wp_op, ↓Wp_un, ↓Wp_test, ↓Wp_dand, ↓Wp_dor, ↓Wp_dnot, ↓Wp_dandV, ↓Wp_dorV, ↓Wp_dnotV, ↓Wp_chain, ↓Wp_cb, ↓Wp_cons, ↓Wp_nil, ↓Wp_tup, ↓Wp_lst, ↓Wp_part, ↓Wp_nopart, ↓Wp_slice, ↓Wp_isi, ↓Wp_isi2, ↓Wp_m1, ↓Wp_call, ↓Wp_pix, ↓Wp_callP0, ↓Wp_callP1, ↓Wp_comp, ↓Wp_disp, ↓Wp_dpnil, ↓Wp_dpcons, ↓Wp_flat, ↓onNx_nx, ↓onNx_bk, ↓onNx_ct, ↓onNx_rt, ↓onRt_rt, ↓onRt_nx, ↓onS_some, ↓onB_b, ↓onI_i, ↓onStr_s, ↓onL_l, ↓lk_0, ↓lk_S, ↓onSet_0, ↓onSet_S, ↓onPut_0, ↓onPut_S, ↓ite_dec, ↓ite_ndec, ↓ite_tt, ↓ite_ff, ↓ite_nt, ↓ite_nf, ↓v_gt, ↓v_lt, ↓v_le, ↓v_ge, ↓v_ltS, ↓v_add, ↓v_addS, ↓v_addL, ↓v_addT, ↓v_addN, ↓v_sub, ↓v_mul, ↓v_mulS, ↓v_mod, ↓v_fdiv, ↓v_pow, ↓v_neg, ↓v_lenL, ↓v_lenT, ↓v_lenS, ↓v_abs, ↓v_rev, ↓v_all, ↓v_any, ↓v_sum, ↓v_eq, ↓v_ne, ↓v_in, ↓v_notIn, ↓q_ii, ↓q_ss, ↓items_l, ↓items_t, ↓items_s, ↓items_r1, ↓items_r2, ↓sl_l, ↓sl_t, ↓sl_s, ↓put_1, ↓put_2, ↓pen_0, ↓pen_1, ↓pen_2, ↓v_ixL, ↓v_ixT, ↓ins_NoneType_none, ↓ins_NoneType_bool, ↓ins_NoneType_int, ↓ins_NoneType_str, ↓ins_NoneType_list, ↓ins_NoneType_tuple, ↓ins_NoneType_dict, ↓ins_bool_none, ↓ins_bool_bool, ↓ins_bool_int, ↓ins_bool_str, ↓ins_bool_list, ↓ins_bool_tuple, ↓ins_bool_dict, ↓ins_int_none, ↓ins_int_bool, ↓ins_int_int, ↓ins_int_str, ↓ins_int_list, ↓ins_int_tuple, ↓ins_int_dict, ↓ins_str_none, ↓ins_str_bool, ↓ins_str_int, ↓ins_str_str, ↓ins_str_list, ↓ins_str_tuple, ↓ins_str_dict, ↓ins_list_none, ↓ins_list_bool, ↓ins_list_int, ↓ins_list_str, ↓ins_list_list, ↓ins_list_tuple, ↓ins_list_dict, ↓ins_tuple_none, ↓ins_tuple_bool, ↓ins_tuple_int, ↓ins_tuple_str, ↓ins_tuple_list, ↓ins_tuple_tuple, ↓ins_tuple_dict, ↓ins_dict_none, ↓ins_dict_bool, ↓ins_dict_int, ↓ins_dict_str, ↓ins_dict_list, ↓ins_dict_tuple, ↓ins_dict_dict, ↓in_sign, ↓onClr_0, ↓onClr_S, ↓onW_nil, ↓onW_cons, ↓onRe_0, ↓onRe_S, ↓onBk_nil, ↓onBk_cons, ↓onTwo_l, ↓S_par, ↓a_tup, ↓onG_name, ↓onG_tup, ↓onGs_nil, ↓onGs_cons, ↓onTurn_nx, ↓onTurn_ct, ↓onTurn_bk, ↓onTurn_rt, ↓onLD_d, ↓v_ixAd, ↓v_inAd, ↓v_notInAd, ↓S_upd, ↓v_zip, ↓Wp_flatA, ↓v_int, ↓v_intB, ↓v_min, ↓v_gin, ↓v_gnin, ↓v_gix, ↓reduceIte, List.all_cons, List.all_nil, id, e1, e2, e3, e4, Bool.and_true, Bool.true_and, eqv_ss]
theorem law_is_page_promise (p1 p2 p3 p4 p5 p6 : D) (h1 : ∀ z, p1 = .str z → Tx7 z) (h2 : ∀ z, p2 = .str z → Tx7 z) (h3 : ∀ z, p3 = .str z → Tx7 z) (h4 : ∀ z, p4 = .str z → Tx7 z) (h5 : ∀ z, p5 = .str z → Tx7 z) (h6 : ∀ z, p6 = .str z → Tx7 z) (hfl : flatA [p1, p2, p3, p4, p5, p6] = true) : m__law_is_page [.tuple [.str "promise", p1, p2, p3, p4, p5, p6]] = some (.bool (B_promise p1 p2 p3 p4 p5 p6)) := by
  refine MD.get (MD_of rfl ?_)
  show Sp2 g__law_is_page [some _, none, none, none, none, none] _
  unfold g__law_is_page
  have w9 : ∀ d, m__law_within [d, .int 0, .int (10 ^ Int.toNat 9)] = some (.bool (within 0 1000000000 d)) := fun d => law_within_eq d 0 1000000000
  have w1 : ∀ d, m__law_within [d, .int 1, .int (10 ^ Int.toNat 9)] = some (.bool (within 1 1000000000 d)) := fun d => law_within_eq d 1 1000000000
  simp (config := { decide := true }) only [↓S_next, ↓S_bk, ↓S_ct, ↓S_rtd, ↓S_seq, ↓S_set, ↓S_drop, ↓S_ret, ↓S_if, ↓S_asg, ↓S_put, ↓S_app, ↓S_ext, ↓S_for, ↓Wp_pure, ↓Wp_opt, ↓Wp_bind, ↓Wp_ite, ↓Wp_var, ↓Wp_op, ↓Wp_un, ↓Wp_test, ↓Wp_dand, ↓Wp_dor, ↓Wp_dnot, ↓Wp_dandV, ↓Wp_dorV, ↓Wp_dnotV, ↓Wp_chain, ↓Wp_cb, ↓Wp_cons, ↓Wp_nil, ↓Wp_tup, ↓Wp_lst, ↓Wp_part, ↓Wp_nopart, ↓Wp_slice, ↓Wp_isi, ↓Wp_isi2, ↓Wp_m1, ↓Wp_call, ↓Wp_pix, ↓Wp_callP0, ↓Wp_callP1, ↓Wp_comp, ↓Wp_disp, ↓Wp_dpnil, ↓Wp_dpcons, ↓Wp_flat, ↓onNx_nx, ↓onNx_bk, ↓onNx_ct, ↓onNx_rt, ↓onRt_rt, ↓onRt_nx, ↓onS_some, ↓onB_b, ↓onI_i, ↓onStr_s, ↓onL_l, ↓lk_0, ↓lk_S, ↓onSet_0, ↓onSet_S, ↓onPut_0, ↓onPut_S, ↓ite_dec, ↓ite_ndec, ↓ite_tt, ↓ite_ff, ↓ite_nt, ↓ite_nf, ↓v_gt, ↓v_lt, ↓v_le, ↓v_ge, ↓v_ltS, ↓v_add, ↓v_addS, ↓v_addL, ↓v_addT, ↓v_addN, ↓v_sub, ↓v_mul, ↓v_mulS, ↓v_mod, ↓v_fdiv, ↓v_pow, ↓v_neg, ↓v_lenL, ↓v_lenT, ↓v_lenS, ↓v_abs, ↓v_rev, ↓v_all, ↓v_any, ↓v_sum, ↓v_eq, ↓v_ne, ↓v_in, ↓v_notIn, ↓q_ii, ↓q_ss, ↓items_l, ↓items_t, ↓items_s, ↓items_r1, ↓items_r2, ↓sl_l, ↓sl_t, ↓sl_s, ↓put_1, ↓put_2, ↓pen_0, ↓pen_1, ↓pen_2, ↓v_ixL, ↓v_ixT, ↓ins_NoneType_none, ↓ins_NoneType_bool, ↓ins_NoneType_int, ↓ins_NoneType_str, ↓ins_NoneType_list, ↓ins_NoneType_tuple, ↓ins_NoneType_dict, ↓ins_bool_none, ↓ins_bool_bool, ↓ins_bool_int, ↓ins_bool_str, ↓ins_bool_list, ↓ins_bool_tuple, ↓ins_bool_dict, ↓ins_int_none, ↓ins_int_bool, ↓ins_int_int, ↓ins_int_str, ↓ins_int_list, ↓ins_int_tuple, ↓ins_int_dict, ↓ins_str_none, ↓ins_str_bool, ↓ins_str_int, ↓ins_str_str, ↓ins_str_list, ↓ins_str_tuple, ↓ins_str_dict, ↓ins_list_none, ↓ins_list_bool, ↓ins_list_int, ↓ins_list_str, ↓ins_list_list, ↓ins_list_tuple, ↓ins_list_dict, ↓ins_tuple_none, ↓ins_tuple_bool, ↓ins_tuple_int, ↓ins_tuple_str, ↓ins_tuple_list, ↓ins_tuple_tuple, ↓ins_tuple_dict, ↓ins_dict_none, ↓ins_dict_bool, ↓ins_dict_int, ↓ins_dict_str, ↓ins_dict_list, ↓ins_dict_tuple, ↓ins_dict_dict, ↓in_sign, ↓onClr_0, ↓onClr_S, ↓onW_nil, ↓onW_cons, ↓onRe_0, ↓onRe_S, ↓onBk_nil, ↓onBk_cons, ↓onTwo_l, ↓S_par, ↓a_tup, ↓onG_name, ↓onG_tup, ↓onGs_nil, ↓onGs_cons, ↓onTurn_nx, ↓onTurn_ct, ↓onTurn_bk, ↓onTurn_rt, ↓onLD_d, ↓v_ixAd, ↓v_inAd, ↓v_notInAd, ↓S_upd, ↓v_zip, ↓Wp_flatA, ↓v_int, ↓v_intB, ↓v_min, ↓v_gin, ↓v_gnin, ↓v_gix, ↓reduceIte, ↓Cp_nil, ↓Cp_cons, ↓Fl_nil, ↓Fl_cons, ↓at_0, ↓at_1, ↓at_2, ↓at_3, ↓at_4, ↓at_5, ↓at_6, List.length_cons, List.length_nil, cut1, zipP, List.nil_append, List.cons_append, Nat.reduceAdd, Int.reduceAdd, ↓bls_cons, ↓bls_nil, lt0, le0, lt1, le1, lt2, le2, lt3, le3, lt4, le4, lt5, le5, lt6, le6, lt7, le7, lt8, le8, lt9, le9, lt10, le10, lt11, le11, lt12, le12, lt13, le13, lt14, le14, lt15, le15, lt16, le16, true_and, Option.isSome_some, ↓dk_w, ↓dk_d, ↓dk_t, ↓dk_f, ↓dk_p, ↓dspA, ↓dspB, ↓dspC, ↓dspF, ↓din_promise, ↓dgt_promise, ↓iop_promise, ↓itr_promise, lt0, sg_wdwwwd, fl_wdwwwd, lenA, lenB, lenC, lenAB, flat2, hfl, ↓MD.eq (law_is_word_eq p1 h1), ↓MD.eq (law_is_word_eq p2 h2), ↓MD.eq (law_is_word_eq p3 h3), ↓MD.eq (law_is_word_eq p4 h4), ↓MD.eq (law_is_word_eq p5 h5), ↓MD.eq (law_is_word_eq p6 h6), ↓MD.eq (law_within_eq p1 0 0), ↓MD.eq (law_within_eq p2 0 999), ↓MD.eq (law_within_eq p3 0 0), ↓MD.eq (law_within_eq p4 0 0), ↓MD.eq (law_within_eq p5 0 0), ↓MD.eq (law_within_eq p6 0 999)]
  refine ite_i (fun h => by
    have e := not_all h
    unfold B_promise
    simp only [List.all_cons, id, e, Bool.false_and, Bool.and_false]) (fun h => ?_)
  have e1 := not_not_all h
  clear h
  refine ite_i (fun h => by
    have e := not_all h
    unfold B_promise
    simp only [List.all_cons, id, e, Bool.false_and, Bool.and_false]) (fun h => ?_)
  have e2 := not_not_all h
  clear h
  refine ite_i (fun h => by
    have e := not_all h
    unfold B_promise
    simp only [List.all_cons, id, e, Bool.false_and, Bool.and_false]) (fun h => ?_)
  have e3 := not_not_all h
  clear h
  refine ite_i (fun h => by
    have e := not_all h
    unfold B_promise
    simp only [List.all_cons, id, e, Bool.false_and, Bool.and_false]) (fun h => ?_)
  have e4 := not_not_all h
  clear h
  refine ite_i (fun h => by
    have e := not_all h
    unfold B_promise
    simp only [List.all_cons, id, e, Bool.false_and, Bool.and_false]) (fun h => ?_)
  have e5 := not_not_all h
  clear h
  refine ite_i (fun h => by
    have e := not_all h
    unfold B_promise
    simp only [List.all_cons, id, e, Bool.false_and, Bool.and_false]) (fun h => ?_)
  have e6 := not_not_all h
  clear h
  obtain ⟨z4, rfl⟩ := isW_is e4
  obtain ⟨z5, rfl⟩ := isW_is e5
  obtain ⟨i2, rfl⟩ := within_is e2
  obtain ⟨i6, rfl⟩ := within_is e6
  unfold B_promise
  simp (config := { decide := true }) only [↓S_next, ↓S_bk, ↓S_ct, ↓S_rtd, ↓S_seq, ↓S_set, ↓S_drop, ↓S_ret, ↓S_if, ↓S_asg, ↓S_put, ↓S_app, ↓S_ext, ↓S_for, ↓Wp_pure, ↓Wp_opt, ↓Wp_bind, ↓Wp_ite, ↓Wp_var, ↓Wp_op, ↓Wp_un, ↓Wp_test, ↓Wp_dand, ↓Wp_dor, ↓Wp_dnot, ↓Wp_dandV, ↓Wp_dorV, ↓Wp_dnotV, ↓Wp_chain, ↓Wp_cb, ↓Wp_cons, ↓Wp_nil, ↓Wp_tup, ↓Wp_lst, ↓Wp_part, ↓Wp_nopart, ↓Wp_slice, ↓Wp_isi, ↓Wp_isi2, ↓Wp_m1, ↓Wp_call, ↓Wp_pix, ↓Wp_callP0, ↓Wp_callP1, ↓Wp_comp, ↓Wp_disp, ↓Wp_dpnil, ↓Wp_dpcons, ↓Wp_flat, ↓onNx_nx, ↓onNx_bk, ↓onNx_ct, ↓onNx_rt, ↓onRt_rt, ↓onRt_nx, ↓onS_some, ↓onB_b, ↓onI_i, ↓onStr_s, ↓onL_l, ↓lk_0, ↓lk_S, ↓onSet_0, ↓onSet_S, ↓onPut_0, ↓onPut_S, ↓ite_dec, ↓ite_ndec, ↓ite_tt, ↓ite_ff, ↓ite_nt, ↓ite_nf, ↓v_gt, ↓v_lt, ↓v_le, ↓v_ge, ↓v_ltS, ↓v_add, ↓v_addS, ↓v_addL, ↓v_addT, ↓v_addN, ↓v_sub, ↓v_mul, ↓v_mulS, ↓v_mod, ↓v_fdiv, ↓v_pow, ↓v_neg, ↓v_lenL, ↓v_lenT, ↓v_lenS, ↓v_abs, ↓v_rev, ↓v_all, ↓v_any, ↓v_sum, ↓v_eq, ↓v_ne, ↓v_in, ↓v_notIn, ↓q_ii, ↓q_ss, ↓items_l, ↓items_t, ↓items_s, ↓items_r1, ↓items_r2, ↓sl_l, ↓sl_t, ↓sl_s, ↓put_1, ↓put_2, ↓pen_0, ↓pen_1, ↓pen_2, ↓v_ixL, ↓v_ixT, ↓ins_NoneType_none, ↓ins_NoneType_bool, ↓ins_NoneType_int, ↓ins_NoneType_str, ↓ins_NoneType_list, ↓ins_NoneType_tuple, ↓ins_NoneType_dict, ↓ins_bool_none, ↓ins_bool_bool, ↓ins_bool_int, ↓ins_bool_str, ↓ins_bool_list, ↓ins_bool_tuple, ↓ins_bool_dict, ↓ins_int_none, ↓ins_int_bool, ↓ins_int_int, ↓ins_int_str, ↓ins_int_list, ↓ins_int_tuple, ↓ins_int_dict, ↓ins_str_none, ↓ins_str_bool, ↓ins_str_int, ↓ins_str_str, ↓ins_str_list, ↓ins_str_tuple, ↓ins_str_dict, ↓ins_list_none, ↓ins_list_bool, ↓ins_list_int, ↓ins_list_str, ↓ins_list_list, ↓ins_list_tuple, ↓ins_list_dict, ↓ins_tuple_none, ↓ins_tuple_bool, ↓ins_tuple_int, ↓ins_tuple_str, ↓ins_tuple_list, ↓ins_tuple_tuple, ↓ins_tuple_dict, ↓ins_dict_none, ↓ins_dict_bool, ↓ins_dict_int, ↓ins_dict_str, ↓ins_dict_list, ↓ins_dict_tuple, ↓ins_dict_dict, ↓in_sign, ↓onClr_0, ↓onClr_S, ↓onW_nil, ↓onW_cons, ↓onRe_0, ↓onRe_S, ↓onBk_nil, ↓onBk_cons, ↓onTwo_l, ↓S_par, ↓a_tup, ↓onG_name, ↓onG_tup, ↓onGs_nil, ↓onGs_cons, ↓onTurn_nx, ↓onTurn_ct, ↓onTurn_bk, ↓onTurn_rt, ↓onLD_d, ↓v_ixAd, ↓v_inAd, ↓v_notInAd, ↓S_upd, ↓v_zip, ↓Wp_flatA, ↓v_int, ↓v_intB, ↓v_min, ↓v_gin, ↓v_gnin, ↓v_gix, ↓reduceIte, List.all_cons, List.all_nil, id, e1, e2, e3, e4, e5, e6, Bool.and_true, Bool.true_and, eqv_ss]
  refine ite_i (fun h2 => ?_) (fun h2 => ?_)
  · rw [decide_eq_true h2]
    rfl
  · rw [decide_eq_false h2]
    rfl
theorem law_is_page_loose (p1 p2 p3 : D) (h1 : ∀ z, p1 = .str z → Tx7 z) (h2 : ∀ z, p2 = .str z → Tx7 z) (h3 : ∀ z, p3 = .str z → Tx7 z) (hfl : flatA [p1, p2, p3] = true) : m__law_is_page [.tuple [.str "loose", p1, p2, p3]] = some (.bool (B_loose p1 p2 p3)) := by
  refine MD.get (MD_of rfl ?_)
  show Sp2 g__law_is_page [some _, none, none, none, none, none] _
  unfold g__law_is_page
  have w9 : ∀ d, m__law_within [d, .int 0, .int (10 ^ Int.toNat 9)] = some (.bool (within 0 1000000000 d)) := fun d => law_within_eq d 0 1000000000
  have w1 : ∀ d, m__law_within [d, .int 1, .int (10 ^ Int.toNat 9)] = some (.bool (within 1 1000000000 d)) := fun d => law_within_eq d 1 1000000000
  simp (config := { decide := true }) only [↓S_next, ↓S_bk, ↓S_ct, ↓S_rtd, ↓S_seq, ↓S_set, ↓S_drop, ↓S_ret, ↓S_if, ↓S_asg, ↓S_put, ↓S_app, ↓S_ext, ↓S_for, ↓Wp_pure, ↓Wp_opt, ↓Wp_bind, ↓Wp_ite, ↓Wp_var, ↓Wp_op, ↓Wp_un, ↓Wp_test, ↓Wp_dand, ↓Wp_dor, ↓Wp_dnot, ↓Wp_dandV, ↓Wp_dorV, ↓Wp_dnotV, ↓Wp_chain, ↓Wp_cb, ↓Wp_cons, ↓Wp_nil, ↓Wp_tup, ↓Wp_lst, ↓Wp_part, ↓Wp_nopart, ↓Wp_slice, ↓Wp_isi, ↓Wp_isi2, ↓Wp_m1, ↓Wp_call, ↓Wp_pix, ↓Wp_callP0, ↓Wp_callP1, ↓Wp_comp, ↓Wp_disp, ↓Wp_dpnil, ↓Wp_dpcons, ↓Wp_flat, ↓onNx_nx, ↓onNx_bk, ↓onNx_ct, ↓onNx_rt, ↓onRt_rt, ↓onRt_nx, ↓onS_some, ↓onB_b, ↓onI_i, ↓onStr_s, ↓onL_l, ↓lk_0, ↓lk_S, ↓onSet_0, ↓onSet_S, ↓onPut_0, ↓onPut_S, ↓ite_dec, ↓ite_ndec, ↓ite_tt, ↓ite_ff, ↓ite_nt, ↓ite_nf, ↓v_gt, ↓v_lt, ↓v_le, ↓v_ge, ↓v_ltS, ↓v_add, ↓v_addS, ↓v_addL, ↓v_addT, ↓v_addN, ↓v_sub, ↓v_mul, ↓v_mulS, ↓v_mod, ↓v_fdiv, ↓v_pow, ↓v_neg, ↓v_lenL, ↓v_lenT, ↓v_lenS, ↓v_abs, ↓v_rev, ↓v_all, ↓v_any, ↓v_sum, ↓v_eq, ↓v_ne, ↓v_in, ↓v_notIn, ↓q_ii, ↓q_ss, ↓items_l, ↓items_t, ↓items_s, ↓items_r1, ↓items_r2, ↓sl_l, ↓sl_t, ↓sl_s, ↓put_1, ↓put_2, ↓pen_0, ↓pen_1, ↓pen_2, ↓v_ixL, ↓v_ixT, ↓ins_NoneType_none, ↓ins_NoneType_bool, ↓ins_NoneType_int, ↓ins_NoneType_str, ↓ins_NoneType_list, ↓ins_NoneType_tuple, ↓ins_NoneType_dict, ↓ins_bool_none, ↓ins_bool_bool, ↓ins_bool_int, ↓ins_bool_str, ↓ins_bool_list, ↓ins_bool_tuple, ↓ins_bool_dict, ↓ins_int_none, ↓ins_int_bool, ↓ins_int_int, ↓ins_int_str, ↓ins_int_list, ↓ins_int_tuple, ↓ins_int_dict, ↓ins_str_none, ↓ins_str_bool, ↓ins_str_int, ↓ins_str_str, ↓ins_str_list, ↓ins_str_tuple, ↓ins_str_dict, ↓ins_list_none, ↓ins_list_bool, ↓ins_list_int, ↓ins_list_str, ↓ins_list_list, ↓ins_list_tuple, ↓ins_list_dict, ↓ins_tuple_none, ↓ins_tuple_bool, ↓ins_tuple_int, ↓ins_tuple_str, ↓ins_tuple_list, ↓ins_tuple_tuple, ↓ins_tuple_dict, ↓ins_dict_none, ↓ins_dict_bool, ↓ins_dict_int, ↓ins_dict_str, ↓ins_dict_list, ↓ins_dict_tuple, ↓ins_dict_dict, ↓in_sign, ↓onClr_0, ↓onClr_S, ↓onW_nil, ↓onW_cons, ↓onRe_0, ↓onRe_S, ↓onBk_nil, ↓onBk_cons, ↓onTwo_l, ↓S_par, ↓a_tup, ↓onG_name, ↓onG_tup, ↓onGs_nil, ↓onGs_cons, ↓onTurn_nx, ↓onTurn_ct, ↓onTurn_bk, ↓onTurn_rt, ↓onLD_d, ↓v_ixAd, ↓v_inAd, ↓v_notInAd, ↓S_upd, ↓v_zip, ↓Wp_flatA, ↓v_int, ↓v_intB, ↓v_min, ↓v_gin, ↓v_gnin, ↓v_gix, ↓reduceIte, ↓Cp_nil, ↓Cp_cons, ↓Fl_nil, ↓Fl_cons, ↓at_0, ↓at_1, ↓at_2, ↓at_3, ↓at_4, ↓at_5, ↓at_6, List.length_cons, List.length_nil, cut1, zipP, List.nil_append, List.cons_append, Nat.reduceAdd, Int.reduceAdd, ↓bls_cons, ↓bls_nil, lt0, le0, lt1, le1, lt2, le2, lt3, le3, lt4, le4, lt5, le5, lt6, le6, lt7, le7, lt8, le8, lt9, le9, lt10, le10, lt11, le11, lt12, le12, lt13, le13, lt14, le14, lt15, le15, lt16, le16, true_and, Option.isSome_some, ↓dk_w, ↓dk_d, ↓dk_t, ↓dk_f, ↓dk_p, ↓dspA, ↓dspB, ↓dspC, ↓dspF, ↓din_loose, ↓dgt_loose, ↓iop_loose, ↓itr_loose, lt0, sg_wdw, fl_wdw, lenA, lenB, lenC, lenAB, flat2, hfl, ↓MD.eq (law_is_word_eq p1 h1), ↓MD.eq (law_is_word_eq p2 h2), ↓MD.eq (law_is_word_eq p3 h3), ↓MD.eq (law_within_eq p1 0 0), ↓MD.eq (law_within_eq p2 0 999), ↓MD.eq (law_within_eq p3 0 0)]
  refine ite_i (fun h => by
    have e := not_all h
    unfold B_loose
    simp only [List.all_cons, id, e, Bool.false_and, Bool.and_false]) (fun h => ?_)
  have e1 := not_not_all h
  clear h
  refine ite_i (fun h => by
    have e := not_all h
    unfold B_loose
    simp only [List.all_cons, id, e, Bool.false_and, Bool.and_false]) (fun h => ?_)
  have e2 := not_not_all h
  clear h
  refine ite_i (fun h => by
    have e := not_all h
    unfold B_loose
    simp only [List.all_cons, id, e, Bool.false_and, Bool.and_false]) (fun h => ?_)
  have e3 := not_not_all h
  clear h
  unfold B_loose
  simp (config := { decide := true }) only [↓S_next, ↓S_bk, ↓S_ct, ↓S_rtd, ↓S_seq, ↓S_set, ↓S_drop, ↓S_ret, ↓S_if, ↓S_asg, ↓S_put, ↓S_app, ↓S_ext, ↓S_for, ↓Wp_pure, ↓Wp_opt, ↓Wp_bind, ↓Wp_ite, ↓Wp_var, ↓Wp_op, ↓Wp_un, ↓Wp_test, ↓Wp_dand, ↓Wp_dor, ↓Wp_dnot, ↓Wp_dandV, ↓Wp_dorV, ↓Wp_dnotV, ↓Wp_chain, ↓Wp_cb, ↓Wp_cons, ↓Wp_nil, ↓Wp_tup, ↓Wp_lst, ↓Wp_part, ↓Wp_nopart, ↓Wp_slice, ↓Wp_isi, ↓Wp_isi2, ↓Wp_m1, ↓Wp_call, ↓Wp_pix, ↓Wp_callP0, ↓Wp_callP1, ↓Wp_comp, ↓Wp_disp, ↓Wp_dpnil, ↓Wp_dpcons, ↓Wp_flat, ↓onNx_nx, ↓onNx_bk, ↓onNx_ct, ↓onNx_rt, ↓onRt_rt, ↓onRt_nx, ↓onS_some, ↓onB_b, ↓onI_i, ↓onStr_s, ↓onL_l, ↓lk_0, ↓lk_S, ↓onSet_0, ↓onSet_S, ↓onPut_0, ↓onPut_S, ↓ite_dec, ↓ite_ndec, ↓ite_tt, ↓ite_ff, ↓ite_nt, ↓ite_nf, ↓v_gt, ↓v_lt, ↓v_le, ↓v_ge, ↓v_ltS, ↓v_add, ↓v_addS, ↓v_addL, ↓v_addT, ↓v_addN, ↓v_sub, ↓v_mul, ↓v_mulS, ↓v_mod, ↓v_fdiv, ↓v_pow, ↓v_neg, ↓v_lenL, ↓v_lenT, ↓v_lenS, ↓v_abs, ↓v_rev, ↓v_all, ↓v_any, ↓v_sum, ↓v_eq, ↓v_ne, ↓v_in, ↓v_notIn, ↓q_ii, ↓q_ss, ↓items_l, ↓items_t, ↓items_s, ↓items_r1, ↓items_r2, ↓sl_l, ↓sl_t, ↓sl_s, ↓put_1, ↓put_2, ↓pen_0, ↓pen_1, ↓pen_2, ↓v_ixL, ↓v_ixT, ↓ins_NoneType_none, ↓ins_NoneType_bool, ↓ins_NoneType_int, ↓ins_NoneType_str, ↓ins_NoneType_list, ↓ins_NoneType_tuple, ↓ins_NoneType_dict, ↓ins_bool_none, ↓ins_bool_bool, ↓ins_bool_int, ↓ins_bool_str, ↓ins_bool_list, ↓ins_bool_tuple, ↓ins_bool_dict, ↓ins_int_none, ↓ins_int_bool, ↓ins_int_int, ↓ins_int_str, ↓ins_int_list, ↓ins_int_tuple, ↓ins_int_dict, ↓ins_str_none, ↓ins_str_bool, ↓ins_str_int, ↓ins_str_str, ↓ins_str_list, ↓ins_str_tuple, ↓ins_str_dict, ↓ins_list_none, ↓ins_list_bool, ↓ins_list_int, ↓ins_list_str, ↓ins_list_list, ↓ins_list_tuple, ↓ins_list_dict, ↓ins_tuple_none, ↓ins_tuple_bool, ↓ins_tuple_int, ↓ins_tuple_str, ↓ins_tuple_list, ↓ins_tuple_tuple, ↓ins_tuple_dict, ↓ins_dict_none, ↓ins_dict_bool, ↓ins_dict_int, ↓ins_dict_str, ↓ins_dict_list, ↓ins_dict_tuple, ↓ins_dict_dict, ↓in_sign, ↓onClr_0, ↓onClr_S, ↓onW_nil, ↓onW_cons, ↓onRe_0, ↓onRe_S, ↓onBk_nil, ↓onBk_cons, ↓onTwo_l, ↓S_par, ↓a_tup, ↓onG_name, ↓onG_tup, ↓onGs_nil, ↓onGs_cons, ↓onTurn_nx, ↓onTurn_ct, ↓onTurn_bk, ↓onTurn_rt, ↓onLD_d, ↓v_ixAd, ↓v_inAd, ↓v_notInAd, ↓S_upd, ↓v_zip, ↓Wp_flatA, ↓v_int, ↓v_intB, ↓v_min, ↓v_gin, ↓v_gnin, ↓v_gix, ↓reduceIte, List.all_cons, List.all_nil, id, e1, e2, e3, Bool.and_true, Bool.true_and, eqv_ss]
theorem law_is_page_want (p1 p2 p3 p4 p5 : D) (h1 : ∀ z, p1 = .str z → Tx7 z) (h2 : ∀ z, p2 = .str z → Tx7 z) (h3 : ∀ z, p3 = .str z → Tx7 z) (h4 : ∀ z, p4 = .str z → Tx7 z) (h5 : ∀ z, p5 = .str z → Tx7 z) (hfl : flatA [p1, p2, p3, p4, p5] = true) : m__law_is_page [.tuple [.str "want", p1, p2, p3, p4, p5]] = some (.bool (B_want p1 p2 p3 p4 p5)) := by
  refine MD.get (MD_of rfl ?_)
  show Sp2 g__law_is_page [some _, none, none, none, none, none] _
  unfold g__law_is_page
  have w9 : ∀ d, m__law_within [d, .int 0, .int (10 ^ Int.toNat 9)] = some (.bool (within 0 1000000000 d)) := fun d => law_within_eq d 0 1000000000
  have w1 : ∀ d, m__law_within [d, .int 1, .int (10 ^ Int.toNat 9)] = some (.bool (within 1 1000000000 d)) := fun d => law_within_eq d 1 1000000000
  simp (config := { decide := true }) only [↓S_next, ↓S_bk, ↓S_ct, ↓S_rtd, ↓S_seq, ↓S_set, ↓S_drop, ↓S_ret, ↓S_if, ↓S_asg, ↓S_put, ↓S_app, ↓S_ext, ↓S_for, ↓Wp_pure, ↓Wp_opt, ↓Wp_bind, ↓Wp_ite, ↓Wp_var, ↓Wp_op, ↓Wp_un, ↓Wp_test, ↓Wp_dand, ↓Wp_dor, ↓Wp_dnot, ↓Wp_dandV, ↓Wp_dorV, ↓Wp_dnotV, ↓Wp_chain, ↓Wp_cb, ↓Wp_cons, ↓Wp_nil, ↓Wp_tup, ↓Wp_lst, ↓Wp_part, ↓Wp_nopart, ↓Wp_slice, ↓Wp_isi, ↓Wp_isi2, ↓Wp_m1, ↓Wp_call, ↓Wp_pix, ↓Wp_callP0, ↓Wp_callP1, ↓Wp_comp, ↓Wp_disp, ↓Wp_dpnil, ↓Wp_dpcons, ↓Wp_flat, ↓onNx_nx, ↓onNx_bk, ↓onNx_ct, ↓onNx_rt, ↓onRt_rt, ↓onRt_nx, ↓onS_some, ↓onB_b, ↓onI_i, ↓onStr_s, ↓onL_l, ↓lk_0, ↓lk_S, ↓onSet_0, ↓onSet_S, ↓onPut_0, ↓onPut_S, ↓ite_dec, ↓ite_ndec, ↓ite_tt, ↓ite_ff, ↓ite_nt, ↓ite_nf, ↓v_gt, ↓v_lt, ↓v_le, ↓v_ge, ↓v_ltS, ↓v_add, ↓v_addS, ↓v_addL, ↓v_addT, ↓v_addN, ↓v_sub, ↓v_mul, ↓v_mulS, ↓v_mod, ↓v_fdiv, ↓v_pow, ↓v_neg, ↓v_lenL, ↓v_lenT, ↓v_lenS, ↓v_abs, ↓v_rev, ↓v_all, ↓v_any, ↓v_sum, ↓v_eq, ↓v_ne, ↓v_in, ↓v_notIn, ↓q_ii, ↓q_ss, ↓items_l, ↓items_t, ↓items_s, ↓items_r1, ↓items_r2, ↓sl_l, ↓sl_t, ↓sl_s, ↓put_1, ↓put_2, ↓pen_0, ↓pen_1, ↓pen_2, ↓v_ixL, ↓v_ixT, ↓ins_NoneType_none, ↓ins_NoneType_bool, ↓ins_NoneType_int, ↓ins_NoneType_str, ↓ins_NoneType_list, ↓ins_NoneType_tuple, ↓ins_NoneType_dict, ↓ins_bool_none, ↓ins_bool_bool, ↓ins_bool_int, ↓ins_bool_str, ↓ins_bool_list, ↓ins_bool_tuple, ↓ins_bool_dict, ↓ins_int_none, ↓ins_int_bool, ↓ins_int_int, ↓ins_int_str, ↓ins_int_list, ↓ins_int_tuple, ↓ins_int_dict, ↓ins_str_none, ↓ins_str_bool, ↓ins_str_int, ↓ins_str_str, ↓ins_str_list, ↓ins_str_tuple, ↓ins_str_dict, ↓ins_list_none, ↓ins_list_bool, ↓ins_list_int, ↓ins_list_str, ↓ins_list_list, ↓ins_list_tuple, ↓ins_list_dict, ↓ins_tuple_none, ↓ins_tuple_bool, ↓ins_tuple_int, ↓ins_tuple_str, ↓ins_tuple_list, ↓ins_tuple_tuple, ↓ins_tuple_dict, ↓ins_dict_none, ↓ins_dict_bool, ↓ins_dict_int, ↓ins_dict_str, ↓ins_dict_list, ↓ins_dict_tuple, ↓ins_dict_dict, ↓in_sign, ↓onClr_0, ↓onClr_S, ↓onW_nil, ↓onW_cons, ↓onRe_0, ↓onRe_S, ↓onBk_nil, ↓onBk_cons, ↓onTwo_l, ↓S_par, ↓a_tup, ↓onG_name, ↓onG_tup, ↓onGs_nil, ↓onGs_cons, ↓onTurn_nx, ↓onTurn_ct, ↓onTurn_bk, ↓onTurn_rt, ↓onLD_d, ↓v_ixAd, ↓v_inAd, ↓v_notInAd, ↓S_upd, ↓v_zip, ↓Wp_flatA, ↓v_int, ↓v_intB, ↓v_min, ↓v_gin, ↓v_gnin, ↓v_gix, ↓reduceIte, ↓Cp_nil, ↓Cp_cons, ↓Fl_nil, ↓Fl_cons, ↓at_0, ↓at_1, ↓at_2, ↓at_3, ↓at_4, ↓at_5, ↓at_6, List.length_cons, List.length_nil, cut1, zipP, List.nil_append, List.cons_append, Nat.reduceAdd, Int.reduceAdd, ↓bls_cons, ↓bls_nil, lt0, le0, lt1, le1, lt2, le2, lt3, le3, lt4, le4, lt5, le5, lt6, le6, lt7, le7, lt8, le8, lt9, le9, lt10, le10, lt11, le11, lt12, le12, lt13, le13, lt14, le14, lt15, le15, lt16, le16, true_and, Option.isSome_some, ↓dk_w, ↓dk_d, ↓dk_t, ↓dk_f, ↓dk_p, ↓dspA, ↓dspB, ↓dspC, ↓dspF, ↓din_want, ↓dgt_want, ↓iop_want, ↓itr_want, lt0, sg_wdwwt, fl_wdwwt, lenA, lenB, lenC, lenAB, flat2, hfl, ↓MD.eq (law_is_word_eq p1 h1), ↓MD.eq (law_is_word_eq p2 h2), ↓MD.eq (law_is_word_eq p3 h3), ↓MD.eq (law_is_word_eq p4 h4), ↓MD.eq (law_is_word_eq p5 h5), ↓MD.eq (law_within_eq p1 0 0), ↓MD.eq (law_within_eq p2 0 999), ↓MD.eq (law_within_eq p3 0 0), ↓MD.eq (law_within_eq p4 0 0), ↓MD.eq (law_within_eq p5 0 9)]
  refine ite_i (fun h => by
    have e := not_all h
    unfold B_want
    simp only [List.all_cons, id, e, Bool.false_and, Bool.and_false]) (fun h => ?_)
  have e1 := not_not_all h
  clear h
  refine ite_i (fun h => by
    have e := not_all h
    unfold B_want
    simp only [List.all_cons, id, e, Bool.false_and, Bool.and_false]) (fun h => ?_)
  have e2 := not_not_all h
  clear h
  refine ite_i (fun h => by
    have e := not_all h
    unfold B_want
    simp only [List.all_cons, id, e, Bool.false_and, Bool.and_false]) (fun h => ?_)
  have e3 := not_not_all h
  clear h
  refine ite_i (fun h => by
    have e := not_all h
    unfold B_want
    simp only [List.all_cons, id, e, Bool.false_and, Bool.and_false]) (fun h => ?_)
  have e4 := not_not_all h
  clear h
  refine ite_i (fun h => by
    have e := not_all h
    unfold B_want
    simp only [List.all_cons, id, e, Bool.false_and, Bool.and_false]) (fun h => ?_)
  have e5 := not_not_all h
  clear h
  unfold B_want
  simp (config := { decide := true }) only [↓S_next, ↓S_bk, ↓S_ct, ↓S_rtd, ↓S_seq, ↓S_set, ↓S_drop, ↓S_ret, ↓S_if, ↓S_asg, ↓S_put, ↓S_app, ↓S_ext, ↓S_for, ↓Wp_pure, ↓Wp_opt, ↓Wp_bind, ↓Wp_ite, ↓Wp_var, ↓Wp_op, ↓Wp_un, ↓Wp_test, ↓Wp_dand, ↓Wp_dor, ↓Wp_dnot, ↓Wp_dandV, ↓Wp_dorV, ↓Wp_dnotV, ↓Wp_chain, ↓Wp_cb, ↓Wp_cons, ↓Wp_nil, ↓Wp_tup, ↓Wp_lst, ↓Wp_part, ↓Wp_nopart, ↓Wp_slice, ↓Wp_isi, ↓Wp_isi2, ↓Wp_m1, ↓Wp_call, ↓Wp_pix, ↓Wp_callP0, ↓Wp_callP1, ↓Wp_comp, ↓Wp_disp, ↓Wp_dpnil, ↓Wp_dpcons, ↓Wp_flat, ↓onNx_nx, ↓onNx_bk, ↓onNx_ct, ↓onNx_rt, ↓onRt_rt, ↓onRt_nx, ↓onS_some, ↓onB_b, ↓onI_i, ↓onStr_s, ↓onL_l, ↓lk_0, ↓lk_S, ↓onSet_0, ↓onSet_S, ↓onPut_0, ↓onPut_S, ↓ite_dec, ↓ite_ndec, ↓ite_tt, ↓ite_ff, ↓ite_nt, ↓ite_nf, ↓v_gt, ↓v_lt, ↓v_le, ↓v_ge, ↓v_ltS, ↓v_add, ↓v_addS, ↓v_addL, ↓v_addT, ↓v_addN, ↓v_sub, ↓v_mul, ↓v_mulS, ↓v_mod, ↓v_fdiv, ↓v_pow, ↓v_neg, ↓v_lenL, ↓v_lenT, ↓v_lenS, ↓v_abs, ↓v_rev, ↓v_all, ↓v_any, ↓v_sum, ↓v_eq, ↓v_ne, ↓v_in, ↓v_notIn, ↓q_ii, ↓q_ss, ↓items_l, ↓items_t, ↓items_s, ↓items_r1, ↓items_r2, ↓sl_l, ↓sl_t, ↓sl_s, ↓put_1, ↓put_2, ↓pen_0, ↓pen_1, ↓pen_2, ↓v_ixL, ↓v_ixT, ↓ins_NoneType_none, ↓ins_NoneType_bool, ↓ins_NoneType_int, ↓ins_NoneType_str, ↓ins_NoneType_list, ↓ins_NoneType_tuple, ↓ins_NoneType_dict, ↓ins_bool_none, ↓ins_bool_bool, ↓ins_bool_int, ↓ins_bool_str, ↓ins_bool_list, ↓ins_bool_tuple, ↓ins_bool_dict, ↓ins_int_none, ↓ins_int_bool, ↓ins_int_int, ↓ins_int_str, ↓ins_int_list, ↓ins_int_tuple, ↓ins_int_dict, ↓ins_str_none, ↓ins_str_bool, ↓ins_str_int, ↓ins_str_str, ↓ins_str_list, ↓ins_str_tuple, ↓ins_str_dict, ↓ins_list_none, ↓ins_list_bool, ↓ins_list_int, ↓ins_list_str, ↓ins_list_list, ↓ins_list_tuple, ↓ins_list_dict, ↓ins_tuple_none, ↓ins_tuple_bool, ↓ins_tuple_int, ↓ins_tuple_str, ↓ins_tuple_list, ↓ins_tuple_tuple, ↓ins_tuple_dict, ↓ins_dict_none, ↓ins_dict_bool, ↓ins_dict_int, ↓ins_dict_str, ↓ins_dict_list, ↓ins_dict_tuple, ↓ins_dict_dict, ↓in_sign, ↓onClr_0, ↓onClr_S, ↓onW_nil, ↓onW_cons, ↓onRe_0, ↓onRe_S, ↓onBk_nil, ↓onBk_cons, ↓onTwo_l, ↓S_par, ↓a_tup, ↓onG_name, ↓onG_tup, ↓onGs_nil, ↓onGs_cons, ↓onTurn_nx, ↓onTurn_ct, ↓onTurn_bk, ↓onTurn_rt, ↓onLD_d, ↓v_ixAd, ↓v_inAd, ↓v_notInAd, ↓S_upd, ↓v_zip, ↓Wp_flatA, ↓v_int, ↓v_intB, ↓v_min, ↓v_gin, ↓v_gnin, ↓v_gix, ↓reduceIte, List.all_cons, List.all_nil, id, e1, e2, e3, e4, e5, Bool.and_true, Bool.true_and, eqv_ss]
theorem law_is_page_owe (p1 p2 p3 p4 p5 : D) (h1 : ∀ z, p1 = .str z → Tx7 z) (h2 : ∀ z, p2 = .str z → Tx7 z) (h3 : ∀ z, p3 = .str z → Tx7 z) (h4 : ∀ z, p4 = .str z → Tx7 z) (h5 : ∀ z, p5 = .str z → Tx7 z) (hfl : flatA [p1, p2, p3, p4, p5] = true) : m__law_is_page [.tuple [.str "owe", p1, p2, p3, p4, p5]] = some (.bool (B_owe p1 p2 p3 p4 p5)) := by
  refine MD.get (MD_of rfl ?_)
  show Sp2 g__law_is_page [some _, none, none, none, none, none] _
  unfold g__law_is_page
  have w9 : ∀ d, m__law_within [d, .int 0, .int (10 ^ Int.toNat 9)] = some (.bool (within 0 1000000000 d)) := fun d => law_within_eq d 0 1000000000
  have w1 : ∀ d, m__law_within [d, .int 1, .int (10 ^ Int.toNat 9)] = some (.bool (within 1 1000000000 d)) := fun d => law_within_eq d 1 1000000000
  simp (config := { decide := true }) only [↓S_next, ↓S_bk, ↓S_ct, ↓S_rtd, ↓S_seq, ↓S_set, ↓S_drop, ↓S_ret, ↓S_if, ↓S_asg, ↓S_put, ↓S_app, ↓S_ext, ↓S_for, ↓Wp_pure, ↓Wp_opt, ↓Wp_bind, ↓Wp_ite, ↓Wp_var, ↓Wp_op, ↓Wp_un, ↓Wp_test, ↓Wp_dand, ↓Wp_dor, ↓Wp_dnot, ↓Wp_dandV, ↓Wp_dorV, ↓Wp_dnotV, ↓Wp_chain, ↓Wp_cb, ↓Wp_cons, ↓Wp_nil, ↓Wp_tup, ↓Wp_lst, ↓Wp_part, ↓Wp_nopart, ↓Wp_slice, ↓Wp_isi, ↓Wp_isi2, ↓Wp_m1, ↓Wp_call, ↓Wp_pix, ↓Wp_callP0, ↓Wp_callP1, ↓Wp_comp, ↓Wp_disp, ↓Wp_dpnil, ↓Wp_dpcons, ↓Wp_flat, ↓onNx_nx, ↓onNx_bk, ↓onNx_ct, ↓onNx_rt, ↓onRt_rt, ↓onRt_nx, ↓onS_some, ↓onB_b, ↓onI_i, ↓onStr_s, ↓onL_l, ↓lk_0, ↓lk_S, ↓onSet_0, ↓onSet_S, ↓onPut_0, ↓onPut_S, ↓ite_dec, ↓ite_ndec, ↓ite_tt, ↓ite_ff, ↓ite_nt, ↓ite_nf, ↓v_gt, ↓v_lt, ↓v_le, ↓v_ge, ↓v_ltS, ↓v_add, ↓v_addS, ↓v_addL, ↓v_addT, ↓v_addN, ↓v_sub, ↓v_mul, ↓v_mulS, ↓v_mod, ↓v_fdiv, ↓v_pow, ↓v_neg, ↓v_lenL, ↓v_lenT, ↓v_lenS, ↓v_abs, ↓v_rev, ↓v_all, ↓v_any, ↓v_sum, ↓v_eq, ↓v_ne, ↓v_in, ↓v_notIn, ↓q_ii, ↓q_ss, ↓items_l, ↓items_t, ↓items_s, ↓items_r1, ↓items_r2, ↓sl_l, ↓sl_t, ↓sl_s, ↓put_1, ↓put_2, ↓pen_0, ↓pen_1, ↓pen_2, ↓v_ixL, ↓v_ixT, ↓ins_NoneType_none, ↓ins_NoneType_bool, ↓ins_NoneType_int, ↓ins_NoneType_str, ↓ins_NoneType_list, ↓ins_NoneType_tuple, ↓ins_NoneType_dict, ↓ins_bool_none, ↓ins_bool_bool, ↓ins_bool_int, ↓ins_bool_str, ↓ins_bool_list, ↓ins_bool_tuple, ↓ins_bool_dict, ↓ins_int_none, ↓ins_int_bool, ↓ins_int_int, ↓ins_int_str, ↓ins_int_list, ↓ins_int_tuple, ↓ins_int_dict, ↓ins_str_none, ↓ins_str_bool, ↓ins_str_int, ↓ins_str_str, ↓ins_str_list, ↓ins_str_tuple, ↓ins_str_dict, ↓ins_list_none, ↓ins_list_bool, ↓ins_list_int, ↓ins_list_str, ↓ins_list_list, ↓ins_list_tuple, ↓ins_list_dict, ↓ins_tuple_none, ↓ins_tuple_bool, ↓ins_tuple_int, ↓ins_tuple_str, ↓ins_tuple_list, ↓ins_tuple_tuple, ↓ins_tuple_dict, ↓ins_dict_none, ↓ins_dict_bool, ↓ins_dict_int, ↓ins_dict_str, ↓ins_dict_list, ↓ins_dict_tuple, ↓ins_dict_dict, ↓in_sign, ↓onClr_0, ↓onClr_S, ↓onW_nil, ↓onW_cons, ↓onRe_0, ↓onRe_S, ↓onBk_nil, ↓onBk_cons, ↓onTwo_l, ↓S_par, ↓a_tup, ↓onG_name, ↓onG_tup, ↓onGs_nil, ↓onGs_cons, ↓onTurn_nx, ↓onTurn_ct, ↓onTurn_bk, ↓onTurn_rt, ↓onLD_d, ↓v_ixAd, ↓v_inAd, ↓v_notInAd, ↓S_upd, ↓v_zip, ↓Wp_flatA, ↓v_int, ↓v_intB, ↓v_min, ↓v_gin, ↓v_gnin, ↓v_gix, ↓reduceIte, ↓Cp_nil, ↓Cp_cons, ↓Fl_nil, ↓Fl_cons, ↓at_0, ↓at_1, ↓at_2, ↓at_3, ↓at_4, ↓at_5, ↓at_6, List.length_cons, List.length_nil, cut1, zipP, List.nil_append, List.cons_append, Nat.reduceAdd, Int.reduceAdd, ↓bls_cons, ↓bls_nil, lt0, le0, lt1, le1, lt2, le2, lt3, le3, lt4, le4, lt5, le5, lt6, le6, lt7, le7, lt8, le8, lt9, le9, lt10, le10, lt11, le11, lt12, le12, lt13, le13, lt14, le14, lt15, le15, lt16, le16, true_and, Option.isSome_some, ↓dk_w, ↓dk_d, ↓dk_t, ↓dk_f, ↓dk_p, ↓dspA, ↓dspB, ↓dspC, ↓dspF, ↓din_owe, ↓dgt_owe, ↓iop_owe, ↓itr_owe, lt0, sg_wdwwp, fl_wdwwp, lenA, lenB, lenC, lenAB, flat2, hfl, ↓MD.eq (law_is_word_eq p1 h1), ↓MD.eq (law_is_word_eq p2 h2), ↓MD.eq (law_is_word_eq p3 h3), ↓MD.eq (law_is_word_eq p4 h4), ↓MD.eq (law_is_word_eq p5 h5), ↓MD.eq (law_within_eq p1 0 0), ↓MD.eq (law_within_eq p2 0 999), ↓MD.eq (law_within_eq p3 0 0), ↓MD.eq (law_within_eq p4 0 0), ↓MD.eq (w1 p5)]
  refine ite_i (fun h => by
    have e := not_all h
    unfold B_owe
    simp only [List.all_cons, id, e, Bool.false_and, Bool.and_false]) (fun h => ?_)
  have e1 := not_not_all h
  clear h
  refine ite_i (fun h => by
    have e := not_all h
    unfold B_owe
    simp only [List.all_cons, id, e, Bool.false_and, Bool.and_false]) (fun h => ?_)
  have e2 := not_not_all h
  clear h
  refine ite_i (fun h => by
    have e := not_all h
    unfold B_owe
    simp only [List.all_cons, id, e, Bool.false_and, Bool.and_false]) (fun h => ?_)
  have e3 := not_not_all h
  clear h
  refine ite_i (fun h => by
    have e := not_all h
    unfold B_owe
    simp only [List.all_cons, id, e, Bool.false_and, Bool.and_false]) (fun h => ?_)
  have e4 := not_not_all h
  clear h
  refine ite_i (fun h => by
    have e := not_all h
    unfold B_owe
    simp only [List.all_cons, id, e, Bool.false_and, Bool.and_false]) (fun h => ?_)
  have e5 := not_not_all h
  clear h
  obtain ⟨z3, rfl⟩ := isW_is e3
  obtain ⟨z4, rfl⟩ := isW_is e4
  unfold B_owe
  simp (config := { decide := true }) only [↓S_next, ↓S_bk, ↓S_ct, ↓S_rtd, ↓S_seq, ↓S_set, ↓S_drop, ↓S_ret, ↓S_if, ↓S_asg, ↓S_put, ↓S_app, ↓S_ext, ↓S_for, ↓Wp_pure, ↓Wp_opt, ↓Wp_bind, ↓Wp_ite, ↓Wp_var, ↓Wp_op, ↓Wp_un, ↓Wp_test, ↓Wp_dand, ↓Wp_dor, ↓Wp_dnot, ↓Wp_dandV, ↓Wp_dorV, ↓Wp_dnotV, ↓Wp_chain, ↓Wp_cb, ↓Wp_cons, ↓Wp_nil, ↓Wp_tup, ↓Wp_lst, ↓Wp_part, ↓Wp_nopart, ↓Wp_slice, ↓Wp_isi, ↓Wp_isi2, ↓Wp_m1, ↓Wp_call, ↓Wp_pix, ↓Wp_callP0, ↓Wp_callP1, ↓Wp_comp, ↓Wp_disp, ↓Wp_dpnil, ↓Wp_dpcons, ↓Wp_flat, ↓onNx_nx, ↓onNx_bk, ↓onNx_ct, ↓onNx_rt, ↓onRt_rt, ↓onRt_nx, ↓onS_some, ↓onB_b, ↓onI_i, ↓onStr_s, ↓onL_l, ↓lk_0, ↓lk_S, ↓onSet_0, ↓onSet_S, ↓onPut_0, ↓onPut_S, ↓ite_dec, ↓ite_ndec, ↓ite_tt, ↓ite_ff, ↓ite_nt, ↓ite_nf, ↓v_gt, ↓v_lt, ↓v_le, ↓v_ge, ↓v_ltS, ↓v_add, ↓v_addS, ↓v_addL, ↓v_addT, ↓v_addN, ↓v_sub, ↓v_mul, ↓v_mulS, ↓v_mod, ↓v_fdiv, ↓v_pow, ↓v_neg, ↓v_lenL, ↓v_lenT, ↓v_lenS, ↓v_abs, ↓v_rev, ↓v_all, ↓v_any, ↓v_sum, ↓v_eq, ↓v_ne, ↓v_in, ↓v_notIn, ↓q_ii, ↓q_ss, ↓items_l, ↓items_t, ↓items_s, ↓items_r1, ↓items_r2, ↓sl_l, ↓sl_t, ↓sl_s, ↓put_1, ↓put_2, ↓pen_0, ↓pen_1, ↓pen_2, ↓v_ixL, ↓v_ixT, ↓ins_NoneType_none, ↓ins_NoneType_bool, ↓ins_NoneType_int, ↓ins_NoneType_str, ↓ins_NoneType_list, ↓ins_NoneType_tuple, ↓ins_NoneType_dict, ↓ins_bool_none, ↓ins_bool_bool, ↓ins_bool_int, ↓ins_bool_str, ↓ins_bool_list, ↓ins_bool_tuple, ↓ins_bool_dict, ↓ins_int_none, ↓ins_int_bool, ↓ins_int_int, ↓ins_int_str, ↓ins_int_list, ↓ins_int_tuple, ↓ins_int_dict, ↓ins_str_none, ↓ins_str_bool, ↓ins_str_int, ↓ins_str_str, ↓ins_str_list, ↓ins_str_tuple, ↓ins_str_dict, ↓ins_list_none, ↓ins_list_bool, ↓ins_list_int, ↓ins_list_str, ↓ins_list_list, ↓ins_list_tuple, ↓ins_list_dict, ↓ins_tuple_none, ↓ins_tuple_bool, ↓ins_tuple_int, ↓ins_tuple_str, ↓ins_tuple_list, ↓ins_tuple_tuple, ↓ins_tuple_dict, ↓ins_dict_none, ↓ins_dict_bool, ↓ins_dict_int, ↓ins_dict_str, ↓ins_dict_list, ↓ins_dict_tuple, ↓ins_dict_dict, ↓in_sign, ↓onClr_0, ↓onClr_S, ↓onW_nil, ↓onW_cons, ↓onRe_0, ↓onRe_S, ↓onBk_nil, ↓onBk_cons, ↓onTwo_l, ↓S_par, ↓a_tup, ↓onG_name, ↓onG_tup, ↓onGs_nil, ↓onGs_cons, ↓onTurn_nx, ↓onTurn_ct, ↓onTurn_bk, ↓onTurn_rt, ↓onLD_d, ↓v_ixAd, ↓v_inAd, ↓v_notInAd, ↓S_upd, ↓v_zip, ↓Wp_flatA, ↓v_int, ↓v_intB, ↓v_min, ↓v_gin, ↓v_gnin, ↓v_gix, ↓reduceIte, List.all_cons, List.all_nil, id, e1, e2, e3, e4, e5, Bool.and_true, Bool.true_and, eqv_ss]
theorem law_is_page_pay (p1 p2 p3 p4 p5 : D) (h1 : ∀ z, p1 = .str z → Tx7 z) (h2 : ∀ z, p2 = .str z → Tx7 z) (h3 : ∀ z, p3 = .str z → Tx7 z) (h4 : ∀ z, p4 = .str z → Tx7 z) (h5 : ∀ z, p5 = .str z → Tx7 z) (hfl : flatA [p1, p2, p3, p4, p5] = true) : m__law_is_page [.tuple [.str "pay", p1, p2, p3, p4, p5]] = some (.bool (B_pay p1 p2 p3 p4 p5)) := by
  refine MD.get (MD_of rfl ?_)
  show Sp2 g__law_is_page [some _, none, none, none, none, none] _
  unfold g__law_is_page
  have w9 : ∀ d, m__law_within [d, .int 0, .int (10 ^ Int.toNat 9)] = some (.bool (within 0 1000000000 d)) := fun d => law_within_eq d 0 1000000000
  have w1 : ∀ d, m__law_within [d, .int 1, .int (10 ^ Int.toNat 9)] = some (.bool (within 1 1000000000 d)) := fun d => law_within_eq d 1 1000000000
  simp (config := { decide := true }) only [↓S_next, ↓S_bk, ↓S_ct, ↓S_rtd, ↓S_seq, ↓S_set, ↓S_drop, ↓S_ret, ↓S_if, ↓S_asg, ↓S_put, ↓S_app, ↓S_ext, ↓S_for, ↓Wp_pure, ↓Wp_opt, ↓Wp_bind, ↓Wp_ite, ↓Wp_var, ↓Wp_op, ↓Wp_un, ↓Wp_test, ↓Wp_dand, ↓Wp_dor, ↓Wp_dnot, ↓Wp_dandV, ↓Wp_dorV, ↓Wp_dnotV, ↓Wp_chain, ↓Wp_cb, ↓Wp_cons, ↓Wp_nil, ↓Wp_tup, ↓Wp_lst, ↓Wp_part, ↓Wp_nopart, ↓Wp_slice, ↓Wp_isi, ↓Wp_isi2, ↓Wp_m1, ↓Wp_call, ↓Wp_pix, ↓Wp_callP0, ↓Wp_callP1, ↓Wp_comp, ↓Wp_disp, ↓Wp_dpnil, ↓Wp_dpcons, ↓Wp_flat, ↓onNx_nx, ↓onNx_bk, ↓onNx_ct, ↓onNx_rt, ↓onRt_rt, ↓onRt_nx, ↓onS_some, ↓onB_b, ↓onI_i, ↓onStr_s, ↓onL_l, ↓lk_0, ↓lk_S, ↓onSet_0, ↓onSet_S, ↓onPut_0, ↓onPut_S, ↓ite_dec, ↓ite_ndec, ↓ite_tt, ↓ite_ff, ↓ite_nt, ↓ite_nf, ↓v_gt, ↓v_lt, ↓v_le, ↓v_ge, ↓v_ltS, ↓v_add, ↓v_addS, ↓v_addL, ↓v_addT, ↓v_addN, ↓v_sub, ↓v_mul, ↓v_mulS, ↓v_mod, ↓v_fdiv, ↓v_pow, ↓v_neg, ↓v_lenL, ↓v_lenT, ↓v_lenS, ↓v_abs, ↓v_rev, ↓v_all, ↓v_any, ↓v_sum, ↓v_eq, ↓v_ne, ↓v_in, ↓v_notIn, ↓q_ii, ↓q_ss, ↓items_l, ↓items_t, ↓items_s, ↓items_r1, ↓items_r2, ↓sl_l, ↓sl_t, ↓sl_s, ↓put_1, ↓put_2, ↓pen_0, ↓pen_1, ↓pen_2, ↓v_ixL, ↓v_ixT, ↓ins_NoneType_none, ↓ins_NoneType_bool, ↓ins_NoneType_int, ↓ins_NoneType_str, ↓ins_NoneType_list, ↓ins_NoneType_tuple, ↓ins_NoneType_dict, ↓ins_bool_none, ↓ins_bool_bool, ↓ins_bool_int, ↓ins_bool_str, ↓ins_bool_list, ↓ins_bool_tuple, ↓ins_bool_dict, ↓ins_int_none, ↓ins_int_bool, ↓ins_int_int, ↓ins_int_str, ↓ins_int_list, ↓ins_int_tuple, ↓ins_int_dict, ↓ins_str_none, ↓ins_str_bool, ↓ins_str_int, ↓ins_str_str, ↓ins_str_list, ↓ins_str_tuple, ↓ins_str_dict, ↓ins_list_none, ↓ins_list_bool, ↓ins_list_int, ↓ins_list_str, ↓ins_list_list, ↓ins_list_tuple, ↓ins_list_dict, ↓ins_tuple_none, ↓ins_tuple_bool, ↓ins_tuple_int, ↓ins_tuple_str, ↓ins_tuple_list, ↓ins_tuple_tuple, ↓ins_tuple_dict, ↓ins_dict_none, ↓ins_dict_bool, ↓ins_dict_int, ↓ins_dict_str, ↓ins_dict_list, ↓ins_dict_tuple, ↓ins_dict_dict, ↓in_sign, ↓onClr_0, ↓onClr_S, ↓onW_nil, ↓onW_cons, ↓onRe_0, ↓onRe_S, ↓onBk_nil, ↓onBk_cons, ↓onTwo_l, ↓S_par, ↓a_tup, ↓onG_name, ↓onG_tup, ↓onGs_nil, ↓onGs_cons, ↓onTurn_nx, ↓onTurn_ct, ↓onTurn_bk, ↓onTurn_rt, ↓onLD_d, ↓v_ixAd, ↓v_inAd, ↓v_notInAd, ↓S_upd, ↓v_zip, ↓Wp_flatA, ↓v_int, ↓v_intB, ↓v_min, ↓v_gin, ↓v_gnin, ↓v_gix, ↓reduceIte, ↓Cp_nil, ↓Cp_cons, ↓Fl_nil, ↓Fl_cons, ↓at_0, ↓at_1, ↓at_2, ↓at_3, ↓at_4, ↓at_5, ↓at_6, List.length_cons, List.length_nil, cut1, zipP, List.nil_append, List.cons_append, Nat.reduceAdd, Int.reduceAdd, ↓bls_cons, ↓bls_nil, lt0, le0, lt1, le1, lt2, le2, lt3, le3, lt4, le4, lt5, le5, lt6, le6, lt7, le7, lt8, le8, lt9, le9, lt10, le10, lt11, le11, lt12, le12, lt13, le13, lt14, le14, lt15, le15, lt16, le16, true_and, Option.isSome_some, ↓dk_w, ↓dk_d, ↓dk_t, ↓dk_f, ↓dk_p, ↓dspA, ↓dspB, ↓dspC, ↓dspF, ↓din_pay, ↓dgt_pay, ↓iop_pay, ↓itr_pay, lt0, sg_wdwwp, fl_wdwwp, lenA, lenB, lenC, lenAB, flat2, hfl, ↓MD.eq (law_is_word_eq p1 h1), ↓MD.eq (law_is_word_eq p2 h2), ↓MD.eq (law_is_word_eq p3 h3), ↓MD.eq (law_is_word_eq p4 h4), ↓MD.eq (law_is_word_eq p5 h5), ↓MD.eq (law_within_eq p1 0 0), ↓MD.eq (law_within_eq p2 0 999), ↓MD.eq (law_within_eq p3 0 0), ↓MD.eq (law_within_eq p4 0 0), ↓MD.eq (w1 p5)]
  refine ite_i (fun h => by
    have e := not_all h
    unfold B_pay
    simp only [List.all_cons, id, e, Bool.false_and, Bool.and_false]) (fun h => ?_)
  have e1 := not_not_all h
  clear h
  refine ite_i (fun h => by
    have e := not_all h
    unfold B_pay
    simp only [List.all_cons, id, e, Bool.false_and, Bool.and_false]) (fun h => ?_)
  have e2 := not_not_all h
  clear h
  refine ite_i (fun h => by
    have e := not_all h
    unfold B_pay
    simp only [List.all_cons, id, e, Bool.false_and, Bool.and_false]) (fun h => ?_)
  have e3 := not_not_all h
  clear h
  refine ite_i (fun h => by
    have e := not_all h
    unfold B_pay
    simp only [List.all_cons, id, e, Bool.false_and, Bool.and_false]) (fun h => ?_)
  have e4 := not_not_all h
  clear h
  refine ite_i (fun h => by
    have e := not_all h
    unfold B_pay
    simp only [List.all_cons, id, e, Bool.false_and, Bool.and_false]) (fun h => ?_)
  have e5 := not_not_all h
  clear h
  obtain ⟨z3, rfl⟩ := isW_is e3
  obtain ⟨z4, rfl⟩ := isW_is e4
  unfold B_pay
  simp (config := { decide := true }) only [↓S_next, ↓S_bk, ↓S_ct, ↓S_rtd, ↓S_seq, ↓S_set, ↓S_drop, ↓S_ret, ↓S_if, ↓S_asg, ↓S_put, ↓S_app, ↓S_ext, ↓S_for, ↓Wp_pure, ↓Wp_opt, ↓Wp_bind, ↓Wp_ite, ↓Wp_var, ↓Wp_op, ↓Wp_un, ↓Wp_test, ↓Wp_dand, ↓Wp_dor, ↓Wp_dnot, ↓Wp_dandV, ↓Wp_dorV, ↓Wp_dnotV, ↓Wp_chain, ↓Wp_cb, ↓Wp_cons, ↓Wp_nil, ↓Wp_tup, ↓Wp_lst, ↓Wp_part, ↓Wp_nopart, ↓Wp_slice, ↓Wp_isi, ↓Wp_isi2, ↓Wp_m1, ↓Wp_call, ↓Wp_pix, ↓Wp_callP0, ↓Wp_callP1, ↓Wp_comp, ↓Wp_disp, ↓Wp_dpnil, ↓Wp_dpcons, ↓Wp_flat, ↓onNx_nx, ↓onNx_bk, ↓onNx_ct, ↓onNx_rt, ↓onRt_rt, ↓onRt_nx, ↓onS_some, ↓onB_b, ↓onI_i, ↓onStr_s, ↓onL_l, ↓lk_0, ↓lk_S, ↓onSet_0, ↓onSet_S, ↓onPut_0, ↓onPut_S, ↓ite_dec, ↓ite_ndec, ↓ite_tt, ↓ite_ff, ↓ite_nt, ↓ite_nf, ↓v_gt, ↓v_lt, ↓v_le, ↓v_ge, ↓v_ltS, ↓v_add, ↓v_addS, ↓v_addL, ↓v_addT, ↓v_addN, ↓v_sub, ↓v_mul, ↓v_mulS, ↓v_mod, ↓v_fdiv, ↓v_pow, ↓v_neg, ↓v_lenL, ↓v_lenT, ↓v_lenS, ↓v_abs, ↓v_rev, ↓v_all, ↓v_any, ↓v_sum, ↓v_eq, ↓v_ne, ↓v_in, ↓v_notIn, ↓q_ii, ↓q_ss, ↓items_l, ↓items_t, ↓items_s, ↓items_r1, ↓items_r2, ↓sl_l, ↓sl_t, ↓sl_s, ↓put_1, ↓put_2, ↓pen_0, ↓pen_1, ↓pen_2, ↓v_ixL, ↓v_ixT, ↓ins_NoneType_none, ↓ins_NoneType_bool, ↓ins_NoneType_int, ↓ins_NoneType_str, ↓ins_NoneType_list, ↓ins_NoneType_tuple, ↓ins_NoneType_dict, ↓ins_bool_none, ↓ins_bool_bool, ↓ins_bool_int, ↓ins_bool_str, ↓ins_bool_list, ↓ins_bool_tuple, ↓ins_bool_dict, ↓ins_int_none, ↓ins_int_bool, ↓ins_int_int, ↓ins_int_str, ↓ins_int_list, ↓ins_int_tuple, ↓ins_int_dict, ↓ins_str_none, ↓ins_str_bool, ↓ins_str_int, ↓ins_str_str, ↓ins_str_list, ↓ins_str_tuple, ↓ins_str_dict, ↓ins_list_none, ↓ins_list_bool, ↓ins_list_int, ↓ins_list_str, ↓ins_list_list, ↓ins_list_tuple, ↓ins_list_dict, ↓ins_tuple_none, ↓ins_tuple_bool, ↓ins_tuple_int, ↓ins_tuple_str, ↓ins_tuple_list, ↓ins_tuple_tuple, ↓ins_tuple_dict, ↓ins_dict_none, ↓ins_dict_bool, ↓ins_dict_int, ↓ins_dict_str, ↓ins_dict_list, ↓ins_dict_tuple, ↓ins_dict_dict, ↓in_sign, ↓onClr_0, ↓onClr_S, ↓onW_nil, ↓onW_cons, ↓onRe_0, ↓onRe_S, ↓onBk_nil, ↓onBk_cons, ↓onTwo_l, ↓S_par, ↓a_tup, ↓onG_name, ↓onG_tup, ↓onGs_nil, ↓onGs_cons, ↓onTurn_nx, ↓onTurn_ct, ↓onTurn_bk, ↓onTurn_rt, ↓onLD_d, ↓v_ixAd, ↓v_inAd, ↓v_notInAd, ↓S_upd, ↓v_zip, ↓Wp_flatA, ↓v_int, ↓v_intB, ↓v_min, ↓v_gin, ↓v_gnin, ↓v_gix, ↓reduceIte, List.all_cons, List.all_nil, id, e1, e2, e3, e4, e5, Bool.and_true, Bool.true_and, eqv_ss]
end DR

set_option maxRecDepth 100000
set_option maxHeartbeats 1000000
namespace DR
open PySem PySem.Spec L2
open PyProof.Rows hiding St
theorem joinL_nil : ∀ cs : List Nat, TL.joinL [] (cs.map fun c => [c]) = cs
  | [] => rfl
  | [c] => rfl
  | c :: d :: r => by
    show [c] ++ ([] ++ TL.joinL [] ((d :: r).map fun c => [c])) = c :: d :: r
    rw [joinL_nil (d :: r)]
    rfl
theorem join_signs (cs : List Nat) : (Txt.join ("" : Str) (cs.map fun c => (⟨#[c]⟩ : Str))).cps.toList = cs := by
  rw [TL.join_eq]
  refine (TL.tl_join _ _).trans ?_
  rw [List.map_map]
  exact joinL_nil cs
theorem strsD_signs : ∀ cs : List Nat, strsD (cs.map fun c => PyData.str ⟨#[c]⟩) = some (cs.map fun c => (⟨#[c]⟩ : Str))
  | [] => rfl
  | c :: r => by
    rw [List.map_cons, strsD, strsD_signs r]
    rfl
theorem len_toList (z : Str) : z.cps.toList.length = z.length := Array.length_toList
theorem sum_ones : ∀ cs : List Nat, ((cs.map fun c => (⟨#[c]⟩ : Str)).map (·.length)).sum = cs.length
  | [] => rfl
  | c :: r => by
    rw [List.map_cons, List.map_cons, List.sum_cons, sum_ones r, List.length_cons]
    show 1 + r.length = _
    omega
theorem joinD_signs {cs : List Nat} (h : cs.length ≤ 1000) : joinD "" (.list (cs.map fun c => PyData.str ⟨#[c]⟩)) = some (.str (Txt.join "" (cs.map fun c => (⟨#[c]⟩ : Str)))) := by
  show (match strsD (cs.map fun c => PyData.str ⟨#[c]⟩) with | some ys => if (ys.map (fun y : Str => y.length)).sum + ys.length * ("" : Str).length ≤ 16777216 then some (PyData.str (Txt.join "" ys)) else none | none => none) = _
  rw [strsD_signs]
  refine if_pos ?_
  rw [sum_ones]
  have : ("" : Str).length = 0 := rfl
  rw [this]
  omega
theorem tx7_app {x y : Str} {n m : Nat} (hx : x.length ≤ n ∧ ∀ c ∈ x.cps.toList, c < 128) (hy : y.length ≤ m ∧ ∀ c ∈ y.cps.toList, c < 128) : (x ++ y).length ≤ n + m ∧ ∀ c ∈ (x ++ y).cps.toList, c < 128 := by
  refine ⟨by rw [app_len]; omega, fun c hc => ?_⟩
  have e : (x ++ y).cps.toList = x.cps.toList ++ y.cps.toList := Array.toList_append
  rw [e] at hc
  rcases List.mem_append.mp hc with h | h
  · exact hx.2 c h
  · exact hy.2 c h
theorem tx7_cut {x : Str} {n : Nat} (hx : x.length ≤ n ∧ ∀ c ∈ x.cps.toList, c < 128) (lo hi : Option Int) : (cutS x lo hi).length ≤ n ∧ ∀ c ∈ (cutS x lo hi).cps.toList, c < 128 := by
  refine ⟨Nat.le_trans (cutS_len x lo hi) hx.1, fun c hc => hx.2 c ?_⟩
  have e : (cutS x lo hi).cps.toList = (x.cps.toList.drop (HT.sIx x.length 0 lo)).take (HT.sIx x.length x.length hi - HT.sIx x.length 0 lo) := List.toList_toArray
  rw [e] at hc
  exact List.mem_of_mem_drop (List.mem_of_mem_take hc)
theorem strTimes_rep (z : Str) (n : Int) : (strTimes z n).cps.toList = (List.replicate n.toNat z.cps.toList).flatten := by
  have key : ∀ (k : Nat) (acc : Array Nat), ((List.replicate k z.cps).foldl (· ++ ·) acc).toList = acc.toList ++ (List.replicate k z.cps.toList).flatten := by
    intro k
    induction k with
    | zero => intro acc; simp
    | succ k ih =>
      intro acc
      rw [List.replicate_succ, List.foldl_cons, ih, List.replicate_succ, List.flatten_cons, Array.toList_append, List.append_assoc]
  exact key n.toNat #[]
theorem tx7_times {c : Nat} (hc : c < 128) (n : Int) {m : Nat} (h : n.toNat ≤ m) : (strTimes ⟨#[c]⟩ n).length ≤ m ∧ ∀ a ∈ (strTimes ⟨#[c]⟩ n).cps.toList, a < 128 := by
  have e := strTimes_rep ⟨#[c]⟩ n
  have e2 : ∀ k : Nat, (List.replicate k ([c] : List Nat)).flatten = List.replicate k c := by
    intro k
    induction k with
    | zero => rfl
    | succ k ih =>
      rw [List.replicate_succ, List.flatten_cons, ih, List.replicate_succ]
      rfl
  have e3 : (strTimes ⟨#[c]⟩ n).cps.toList = List.replicate n.toNat c := e.trans (e2 _)
  constructor
  · rw [← len_toList, e3, List.length_replicate]
    exact h
  · intro a ha
    rw [e3] at ha
    rw [List.eq_of_mem_replicate ha]
    exact hc
theorem abc_len : abc.length = 26 := by decide +kernel
theorem abc_128 : ∀ c ∈ abc.cps.toList, c < 128 := by decide +kernel
theorem at_strE {z : Str} {i : Int} (h0 : 0 ≤ i) (h1 : i < z.length) (h2 : z.length ≤ 10000) : ixD (.str z) (.int i) = some (.str ⟨#[z.cps.toList.getD i.toNat 0]⟩) ∧ z.cps.toList.getD i.toNat 0 ∈ z.cps.toList := by
  have h : i.toNat < z.cps.toList.length := by
    have : z.cps.toList.length = z.length := Array.length_toList
    omega
  have e : z.cps.toList.getD i.toNat 0 = z.cps.toList[i.toNat] := by
    rw [List.getD_eq_getElem?_getD, List.getElem?_eq_getElem h]
    rfl
  rw [e]
  refine ⟨?_, List.getElem_mem h⟩
  show (if z.length ≤ sizeLine then (L2.atI z.cps.toList i).map fun c => PyData.str ⟨#[c]⟩ else none) = _
  rw [if_pos (lineB h2)]
  unfold L2.atI ixN
  rw [if_pos h0, if_pos (by rw [Array.length_toList]; exact h1)]
  show (z.cps.toList[i.toNat]?).map _ = _
  rw [List.getElem?_eq_getElem h]
  rfl
theorem lineB_lt {n : Nat} (h : n ≤ 9999) : n < sizeLine := by
  rw [sizeLine_eq]
  omega
theorem rangeL_cons {lo : Int} {m : Nat} : rangeL lo (m + 1) = .int lo :: rangeL (lo + 1) m := by
  unfold rangeL
  rw [List.range_succ_eq_map, List.map_cons, List.map_map]
  simp only [Int.natCast_zero, Int.add_zero]
  congr 1
  refine List.map_congr_left fun k _ => ?_
  show PyData.int (lo + ((k + 1 : Nat) : Int)) = PyData.int (lo + 1 + (k : Int))
  congr 1
  omega
def lets (f l : Int) (i : Nat) : Nat := abc.cps.toList.getD ((f + l * i) % 26).toNat 0
theorem abc_inj : ∀ i < 26, ∀ j < 26, abc.cps.toList.getD i 0 = abc.cps.toList.getD j 0 → i = j := by decide +kernel
theorem lets_ne {f l : Int} (hf : 0 ≤ f) (hl : l = 1 ∨ l = 3 ∨ l = 5 ∨ l = 7 ∨ l = 9 ∨ l = 11) {i j : Nat} (hi : i < 20) (hj : j < 20) (h : lets f l i = lets f l j) : i = j := by
  have e := abc_inj _ (by omega) _ (by omega) h
  rcases hl with rfl | rfl | rfl | rfl | rfl | rfl <;> omega
def smallS (z : Str) : Prop := ∀ c ∈ z.cps.toList, small c = true
theorem small_128 {c : Nat} (h : small c = true) : c < 128 := abc_128 c (of_decide_eq_true h)
theorem smallS_app {x y : Str} (hx : smallS x) (hy : smallS y) : smallS (x ++ y) := fun c hc => by
  have e : (x ++ y).cps.toList = x.cps.toList ++ y.cps.toList := Array.toList_append
  rw [e] at hc
  rcases List.mem_append.mp hc with h | h
  · exact hx c h
  · exact hy c h
theorem smallS_cut {x : Str} (hx : smallS x) (lo hi : Option Int) : smallS (cutS x lo hi) := fun c hc => by
  have e : (cutS x lo hi).cps.toList = (x.cps.toList.drop (HT.sIx x.length 0 lo)).take (HT.sIx x.length x.length hi - HT.sIx x.length 0 lo) := List.toList_toArray
  rw [e] at hc
  exact hx c (List.mem_of_mem_drop (List.mem_of_mem_take hc))
theorem sIx_some {n d : Nat} {s : Int} (h0 : 0 ≤ s) : HT.sIx n d (some s) = min s.toNat n := by
  show (if s < 0 then _ else _) = _
  rw [if_neg (by omega)]
theorem cutS_lenE (z : Str) (lo hi : Option Int) : (cutS z lo hi).length = min (HT.sIx z.length z.length hi - HT.sIx z.length 0 lo) (z.length - HT.sIx z.length 0 lo) := by
  unfold cutS
  show (List.toArray _).size = _
  rw [List.size_toArray, List.length_take, List.length_drop, len_toList]
theorem cut_two (W : Str) {s : Int} (h0 : 0 ≤ s) (h1 : s ≤ W.length) : (cutS W none (some s)).length + (cutS W (some s) none).length ≤ W.length := by
  rw [cutS_lenE, cutS_lenE, sIx_some h0, sIx_some h0]
  show min (_ - 0) (_ - 0) + min (W.length - _) _ ≤ _
  omega
/-- what _law_words tells -/
structure WordsD (ds : List D) (n : Nat) : Prop where
  len : ds.length = n
  word : ∀ d ∈ ds, ∃ z, d = .str z ∧ Tx7 z ∧ isW (.str z) = true
  ne : ∀ (i j : Nat) (d e : D), ds[i]? = some d → ds[j]? = some e → i ≠ j → d ≠ e
theorem words_ok {p : D} (hp : Pen p) {n : Nat} (h1 : n ≤ 20) {Q : D → D → Prop} (q : ∀ ds p', Pen p' → WordsD ds n → Q (.list ds) p') : MP m__law_words p [.int n] Q := by
  refine MP_of rfl ?_
  show Sp2 g__law_words [some _, some _, none, none, none, none, none, none, none, none] _
  unfold g__law_words
  simp only [↓S_next, ↓S_bk, ↓S_ct, ↓S_rtd, ↓S_seq, ↓S_set, ↓S_drop, ↓S_ret, ↓S_if, ↓S_asg, ↓S_put, ↓S_app, ↓S_ext, ↓S_for, ↓Wp_pure, ↓Wp_opt, ↓Wp_bind, ↓Wp_ite, ↓Wp_var, ↓Wp_op, ↓Wp_un, ↓Wp_test, ↓Wp_dand, ↓Wp_dor, ↓Wp_dnot, ↓Wp_dandV, ↓Wp_dorV, ↓Wp_dnotV, ↓Wp_chain, ↓Wp_cb, ↓Wp_cons, ↓Wp_nil, ↓Wp_tup, ↓Wp_lst, ↓Wp_part, ↓Wp_nopart, ↓Wp_slice, ↓Wp_isi, ↓Wp_isi2, ↓Wp_m1, ↓Wp_call, ↓Wp_pix, ↓Wp_callP0, ↓Wp_callP1, ↓Wp_comp, ↓Wp_disp, ↓Wp_dpnil, ↓Wp_dpcons, ↓Wp_flat, ↓onNx_nx, ↓onNx_bk, ↓onNx_ct, ↓onNx_rt, ↓onRt_rt, ↓onRt_nx, ↓onS_some, ↓onB_b, ↓onI_i, ↓onStr_s, ↓onL_l, ↓lk_0, ↓lk_S, ↓onSet_0, ↓onSet_S, ↓onPut_0, ↓onPut_S, ↓ite_dec, ↓ite_ndec, ↓ite_tt, ↓ite_ff, ↓ite_nt, ↓ite_nf, ↓v_gt, ↓v_lt, ↓v_le, ↓v_ge, ↓v_ltS, ↓v_add, ↓v_addS, ↓v_addL, ↓v_addT, ↓v_addN, ↓v_sub, ↓v_mul, ↓v_mulS, ↓v_mod, ↓v_fdiv, ↓v_pow, ↓v_neg, ↓v_lenL, ↓v_lenT, ↓v_lenS, ↓v_abs, ↓v_rev, ↓v_all, ↓v_any, ↓v_sum, ↓v_eq, ↓v_ne, ↓v_in, ↓v_notIn, ↓q_ii, ↓q_ss, ↓items_l, ↓items_t, ↓items_s, ↓items_r1, ↓items_r2, ↓sl_l, ↓sl_t, ↓sl_s, ↓put_1, ↓put_2, ↓pen_0, ↓pen_1, ↓pen_2, ↓v_ixL, ↓v_ixT, ↓ins_NoneType_none, ↓ins_NoneType_bool, ↓ins_NoneType_int, ↓ins_NoneType_str, ↓ins_NoneType_list, ↓ins_NoneType_tuple, ↓ins_NoneType_dict, ↓ins_bool_none, ↓ins_bool_bool, ↓ins_bool_int, ↓ins_bool_str, ↓ins_bool_list, ↓ins_bool_tuple, ↓ins_bool_dict, ↓ins_int_none, ↓ins_int_bool, ↓ins_int_int, ↓ins_int_str, ↓ins_int_list, ↓ins_int_tuple, ↓ins_int_dict, ↓ins_str_none, ↓ins_str_bool, ↓ins_str_int, ↓ins_str_str, ↓ins_str_list, ↓ins_str_tuple, ↓ins_str_dict, ↓ins_list_none, ↓ins_list_bool, ↓ins_list_int, ↓ins_list_str, ↓ins_list_list, ↓ins_list_tuple, ↓ins_list_dict, ↓ins_tuple_none, ↓ins_tuple_bool, ↓ins_tuple_int, ↓ins_tuple_str, ↓ins_tuple_list, ↓ins_tuple_tuple, ↓ins_tuple_dict, ↓ins_dict_none, ↓ins_dict_bool, ↓ins_dict_int, ↓ins_dict_str, ↓ins_dict_list, ↓ins_dict_tuple, ↓ins_dict_dict, ↓in_sign, ↓onClr_0, ↓onClr_S, ↓onW_nil, ↓onW_cons, ↓onRe_0, ↓onRe_S, ↓onBk_nil, ↓onBk_cons, ↓onTwo_l, ↓S_par, ↓a_tup, ↓onG_name, ↓onG_tup, ↓onGs_nil, ↓onGs_cons, ↓onTurn_nx, ↓onTurn_ct, ↓onTurn_bk, ↓onTurn_rt, ↓onLD_d, ↓v_ixAd, ↓v_inAd, ↓v_notInAd, ↓S_upd, ↓v_zip, ↓Wp_flatA, ↓v_int, ↓v_intB, ↓v_min, ↓v_gin, ↓v_gnin, ↓v_gix, ↓reduceIte]
  refine draw_ok hp (by decide) (by decide) fun k1 p1 hp1 h10 h11 => ?_
  simp only [↓S_next, ↓S_bk, ↓S_ct, ↓S_rtd, ↓S_seq, ↓S_set, ↓S_drop, ↓S_ret, ↓S_if, ↓S_asg, ↓S_put, ↓S_app, ↓S_ext, ↓S_for, ↓Wp_pure, ↓Wp_opt, ↓Wp_bind, ↓Wp_ite, ↓Wp_var, ↓Wp_op, ↓Wp_un, ↓Wp_test, ↓Wp_dand, ↓Wp_dor, ↓Wp_dnot, ↓Wp_dandV, ↓Wp_dorV, ↓Wp_dnotV, ↓Wp_chain, ↓Wp_cb, ↓Wp_cons, ↓Wp_nil, ↓Wp_tup, ↓Wp_lst, ↓Wp_part, ↓Wp_nopart, ↓Wp_slice, ↓Wp_isi, ↓Wp_isi2, ↓Wp_m1, ↓Wp_call, ↓Wp_pix, ↓Wp_callP0, ↓Wp_callP1, ↓Wp_comp, ↓Wp_disp, ↓Wp_dpnil, ↓Wp_dpcons, ↓Wp_flat, ↓onNx_nx, ↓onNx_bk, ↓onNx_ct, ↓onNx_rt, ↓onRt_rt, ↓onRt_nx, ↓onS_some, ↓onB_b, ↓onI_i, ↓onStr_s, ↓onL_l, ↓lk_0, ↓lk_S, ↓onSet_0, ↓onSet_S, ↓onPut_0, ↓onPut_S, ↓ite_dec, ↓ite_ndec, ↓ite_tt, ↓ite_ff, ↓ite_nt, ↓ite_nf, ↓v_gt, ↓v_lt, ↓v_le, ↓v_ge, ↓v_ltS, ↓v_add, ↓v_addS, ↓v_addL, ↓v_addT, ↓v_addN, ↓v_sub, ↓v_mul, ↓v_mulS, ↓v_mod, ↓v_fdiv, ↓v_pow, ↓v_neg, ↓v_lenL, ↓v_lenT, ↓v_lenS, ↓v_abs, ↓v_rev, ↓v_all, ↓v_any, ↓v_sum, ↓v_eq, ↓v_ne, ↓v_in, ↓v_notIn, ↓q_ii, ↓q_ss, ↓items_l, ↓items_t, ↓items_s, ↓items_r1, ↓items_r2, ↓sl_l, ↓sl_t, ↓sl_s, ↓put_1, ↓put_2, ↓pen_0, ↓pen_1, ↓pen_2, ↓v_ixL, ↓v_ixT, ↓ins_NoneType_none, ↓ins_NoneType_bool, ↓ins_NoneType_int, ↓ins_NoneType_str, ↓ins_NoneType_list, ↓ins_NoneType_tuple, ↓ins_NoneType_dict, ↓ins_bool_none, ↓ins_bool_bool, ↓ins_bool_int, ↓ins_bool_str, ↓ins_bool_list, ↓ins_bool_tuple, ↓ins_bool_dict, ↓ins_int_none, ↓ins_int_bool, ↓ins_int_int, ↓ins_int_str, ↓ins_int_list, ↓ins_int_tuple, ↓ins_int_dict, ↓ins_str_none, ↓ins_str_bool, ↓ins_str_int, ↓ins_str_str, ↓ins_str_list, ↓ins_str_tuple, ↓ins_str_dict, ↓ins_list_none, ↓ins_list_bool, ↓ins_list_int, ↓ins_list_str, ↓ins_list_list, ↓ins_list_tuple, ↓ins_list_dict, ↓ins_tuple_none, ↓ins_tuple_bool, ↓ins_tuple_int, ↓ins_tuple_str, ↓ins_tuple_list, ↓ins_tuple_tuple, ↓ins_tuple_dict, ↓ins_dict_none, ↓ins_dict_bool, ↓ins_dict_int, ↓ins_dict_str, ↓ins_dict_list, ↓ins_dict_tuple, ↓ins_dict_dict, ↓in_sign, ↓onClr_0, ↓onClr_S, ↓onW_nil, ↓onW_cons, ↓onRe_0, ↓onRe_S, ↓onBk_nil, ↓onBk_cons, ↓onTwo_l, ↓S_par, ↓a_tup, ↓onG_name, ↓onG_tup, ↓onGs_nil, ↓onGs_cons, ↓onTurn_nx, ↓onTurn_ct, ↓onTurn_bk, ↓onTurn_rt, ↓onLD_d, ↓v_ixAd, ↓v_inAd, ↓v_notInAd, ↓S_upd, ↓v_zip, ↓Wp_flatA, ↓v_int, ↓v_intB, ↓v_min, ↓v_gin, ↓v_gnin, ↓v_gix, ↓reduceIte]
  refine ⟨by omega, ?_⟩
  refine Cp_inv (fun s => ∃ p, Pen p ∧ s = [some p, some (.int n), some (.str abc), none, none, none, none, none, none, none]) (fun d => ∃ c, d = .str ⟨#[c]⟩ ∧ small c = true) ⟨p1, hp1, rfl⟩ (fun _ h => nomatch h) (by rw [rangeL_len]; exact lineB (by simp; omega)) (fun d hd s ⟨p, hp, e⟩ => ?_) fun r s' ⟨p2, hp2, e⟩ hr hl => ?_
  · subst e
    refine ⟨[some p, some (.int n), some (.str abc), none, none, none, none, none, some d, none], rfl, ?_⟩
    simp only [↓S_next, ↓S_bk, ↓S_ct, ↓S_rtd, ↓S_seq, ↓S_set, ↓S_drop, ↓S_ret, ↓S_if, ↓S_asg, ↓S_put, ↓S_app, ↓S_ext, ↓S_for, ↓Wp_pure, ↓Wp_opt, ↓Wp_bind, ↓Wp_ite, ↓Wp_var, ↓Wp_op, ↓Wp_un, ↓Wp_test, ↓Wp_dand, ↓Wp_dor, ↓Wp_dnot, ↓Wp_dandV, ↓Wp_dorV, ↓Wp_dnotV, ↓Wp_chain, ↓Wp_cb, ↓Wp_cons, ↓Wp_nil, ↓Wp_tup, ↓Wp_lst, ↓Wp_part, ↓Wp_nopart, ↓Wp_slice, ↓Wp_isi, ↓Wp_isi2, ↓Wp_m1, ↓Wp_call, ↓Wp_pix, ↓Wp_callP0, ↓Wp_callP1, ↓Wp_comp, ↓Wp_disp, ↓Wp_dpnil, ↓Wp_dpcons, ↓Wp_flat, ↓onNx_nx, ↓onNx_bk, ↓onNx_ct, ↓onNx_rt, ↓onRt_rt, ↓onRt_nx, ↓onS_some, ↓onB_b, ↓onI_i, ↓onStr_s, ↓onL_l, ↓lk_0, ↓lk_S, ↓onSet_0, ↓onSet_S, ↓onPut_0, ↓onPut_S, ↓ite_dec, ↓ite_ndec, ↓ite_tt, ↓ite_ff, ↓ite_nt, ↓ite_nf, ↓v_gt, ↓v_lt, ↓v_le, ↓v_ge, ↓v_ltS, ↓v_add, ↓v_addS, ↓v_addL, ↓v_addT, ↓v_addN, ↓v_sub, ↓v_mul, ↓v_mulS, ↓v_mod, ↓v_fdiv, ↓v_pow, ↓v_neg, ↓v_lenL, ↓v_lenT, ↓v_lenS, ↓v_abs, ↓v_rev, ↓v_all, ↓v_any, ↓v_sum, ↓v_eq, ↓v_ne, ↓v_in, ↓v_notIn, ↓q_ii, ↓q_ss, ↓items_l, ↓items_t, ↓items_s, ↓items_r1, ↓items_r2, ↓sl_l, ↓sl_t, ↓sl_s, ↓put_1, ↓put_2, ↓pen_0, ↓pen_1, ↓pen_2, ↓v_ixL, ↓v_ixT, ↓ins_NoneType_none, ↓ins_NoneType_bool, ↓ins_NoneType_int, ↓ins_NoneType_str, ↓ins_NoneType_list, ↓ins_NoneType_tuple, ↓ins_NoneType_dict, ↓ins_bool_none, ↓ins_bool_bool, ↓ins_bool_int, ↓ins_bool_str, ↓ins_bool_list, ↓ins_bool_tuple, ↓ins_bool_dict, ↓ins_int_none, ↓ins_int_bool, ↓ins_int_int, ↓ins_int_str, ↓ins_int_list, ↓ins_int_tuple, ↓ins_int_dict, ↓ins_str_none, ↓ins_str_bool, ↓ins_str_int, ↓ins_str_str, ↓ins_str_list, ↓ins_str_tuple, ↓ins_str_dict, ↓ins_list_none, ↓ins_list_bool, ↓ins_list_int, ↓ins_list_str, ↓ins_list_list, ↓ins_list_tuple, ↓ins_list_dict, ↓ins_tuple_none, ↓ins_tuple_bool, ↓ins_tuple_int, ↓ins_tuple_str, ↓ins_tuple_list, ↓ins_tuple_tuple, ↓ins_tuple_dict, ↓ins_dict_none, ↓ins_dict_bool, ↓ins_dict_int, ↓ins_dict_str, ↓ins_dict_list, ↓ins_dict_tuple, ↓ins_dict_dict, ↓in_sign, ↓onClr_0, ↓onClr_S, ↓onW_nil, ↓onW_cons, ↓onRe_0, ↓onRe_S, ↓onBk_nil, ↓onBk_cons, ↓onTwo_l, ↓S_par, ↓a_tup, ↓onG_name, ↓onG_tup, ↓onGs_nil, ↓onGs_cons, ↓onTurn_nx, ↓onTurn_ct, ↓onTurn_bk, ↓onTurn_rt, ↓onLD_d, ↓v_ixAd, ↓v_inAd, ↓v_notInAd, ↓S_upd, ↓v_zip, ↓Wp_flatA, ↓v_int, ↓v_intB, ↓v_min, ↓v_gin, ↓v_gnin, ↓v_gix, ↓reduceIte]
    refine ⟨trivial, draw_ok hp (by decide) (by decide) fun k p' hp' h0 h1 => ?_⟩
    obtain ⟨e, hc⟩ := at_strE (z := abc) h0 (by rw [abc_len]; exact h1) (by rw [abc_len]; decide)
    exact ⟨_, e, ⟨_, rfl, decide_eq_true hc⟩, p', hp', rfl⟩
  · subst e
    obtain ⟨cs, rfl, hcs⟩ := strs_of hr
    rw [rangeL_len, List.length_map, List.length_nil] at hl
    rw [joinD_signs (by omega)]
    simp only [↓S_next, ↓S_bk, ↓S_ct, ↓S_rtd, ↓S_seq, ↓S_set, ↓S_drop, ↓S_ret, ↓S_if, ↓S_asg, ↓S_put, ↓S_app, ↓S_ext, ↓S_for, ↓Wp_pure, ↓Wp_opt, ↓Wp_bind, ↓Wp_ite, ↓Wp_var, ↓Wp_op, ↓Wp_un, ↓Wp_test, ↓Wp_dand, ↓Wp_dor, ↓Wp_dnot, ↓Wp_dandV, ↓Wp_dorV, ↓Wp_dnotV, ↓Wp_chain, ↓Wp_cb, ↓Wp_cons, ↓Wp_nil, ↓Wp_tup, ↓Wp_lst, ↓Wp_part, ↓Wp_nopart, ↓Wp_slice, ↓Wp_isi, ↓Wp_isi2, ↓Wp_m1, ↓Wp_call, ↓Wp_pix, ↓Wp_callP0, ↓Wp_callP1, ↓Wp_comp, ↓Wp_disp, ↓Wp_dpnil, ↓Wp_dpcons, ↓Wp_flat, ↓onNx_nx, ↓onNx_bk, ↓onNx_ct, ↓onNx_rt, ↓onRt_rt, ↓onRt_nx, ↓onS_some, ↓onB_b, ↓onI_i, ↓onStr_s, ↓onL_l, ↓lk_0, ↓lk_S, ↓onSet_0, ↓onSet_S, ↓onPut_0, ↓onPut_S, ↓ite_dec, ↓ite_ndec, ↓ite_tt, ↓ite_ff, ↓ite_nt, ↓ite_nf, ↓v_gt, ↓v_lt, ↓v_le, ↓v_ge, ↓v_ltS, ↓v_add, ↓v_addS, ↓v_addL, ↓v_addT, ↓v_addN, ↓v_sub, ↓v_mul, ↓v_mulS, ↓v_mod, ↓v_fdiv, ↓v_pow, ↓v_neg, ↓v_lenL, ↓v_lenT, ↓v_lenS, ↓v_abs, ↓v_rev, ↓v_all, ↓v_any, ↓v_sum, ↓v_eq, ↓v_ne, ↓v_in, ↓v_notIn, ↓q_ii, ↓q_ss, ↓items_l, ↓items_t, ↓items_s, ↓items_r1, ↓items_r2, ↓sl_l, ↓sl_t, ↓sl_s, ↓put_1, ↓put_2, ↓pen_0, ↓pen_1, ↓pen_2, ↓v_ixL, ↓v_ixT, ↓ins_NoneType_none, ↓ins_NoneType_bool, ↓ins_NoneType_int, ↓ins_NoneType_str, ↓ins_NoneType_list, ↓ins_NoneType_tuple, ↓ins_NoneType_dict, ↓ins_bool_none, ↓ins_bool_bool, ↓ins_bool_int, ↓ins_bool_str, ↓ins_bool_list, ↓ins_bool_tuple, ↓ins_bool_dict, ↓ins_int_none, ↓ins_int_bool, ↓ins_int_int, ↓ins_int_str, ↓ins_int_list, ↓ins_int_tuple, ↓ins_int_dict, ↓ins_str_none, ↓ins_str_bool, ↓ins_str_int, ↓ins_str_str, ↓ins_str_list, ↓ins_str_tuple, ↓ins_str_dict, ↓ins_list_none, ↓ins_list_bool, ↓ins_list_int, ↓ins_list_str, ↓ins_list_list, ↓ins_list_tuple, ↓ins_list_dict, ↓ins_tuple_none, ↓ins_tuple_bool, ↓ins_tuple_int, ↓ins_tuple_str, ↓ins_tuple_list, ↓ins_tuple_tuple, ↓ins_tuple_dict, ↓ins_dict_none, ↓ins_dict_bool, ↓ins_dict_int, ↓ins_dict_str, ↓ins_dict_list, ↓ins_dict_tuple, ↓ins_dict_dict, ↓in_sign, ↓onClr_0, ↓onClr_S, ↓onW_nil, ↓onW_cons, ↓onRe_0, ↓onRe_S, ↓onBk_nil, ↓onBk_cons, ↓onTwo_l, ↓S_par, ↓a_tup, ↓onG_name, ↓onG_tup, ↓onGs_nil, ↓onGs_cons, ↓onTurn_nx, ↓onTurn_ct, ↓onTurn_bk, ↓onTurn_rt, ↓onLD_d, ↓v_ixAd, ↓v_inAd, ↓v_notInAd, ↓S_upd, ↓v_zip, ↓Wp_flatA, ↓v_int, ↓v_intB, ↓v_min, ↓v_gin, ↓v_gnin, ↓v_gix, ↓reduceIte]
    have hw := join_signs cs
    generalize hW : Txt.join ("" : Str) (cs.map fun c => (⟨#[c]⟩ : Str)) = W at hw ⊢
    have hWl : W.length = cs.length := by rw [← len_toList, hw]
    have hWs : smallS W := fun c hc => hcs c (by rw [← hw]; exact hc)
    have lW : W.length ≤ sizeLine := lineB (by omega)
    clear hW
    refine ⟨lW, draw_ok hp2 (by omega) (by omega) fun spot p3 hp3 h30 h31 => ?_⟩
    try simp only [↓S_next, ↓S_bk, ↓S_ct, ↓S_rtd, ↓S_seq, ↓S_set, ↓S_drop, ↓S_ret, ↓S_if, ↓S_asg, ↓S_put, ↓S_app, ↓S_ext, ↓S_for, ↓Wp_pure, ↓Wp_opt, ↓Wp_bind, ↓Wp_ite, ↓Wp_var, ↓Wp_op, ↓Wp_un, ↓Wp_test, ↓Wp_dand, ↓Wp_dor, ↓Wp_dnot, ↓Wp_dandV, ↓Wp_dorV, ↓Wp_dnotV, ↓Wp_chain, ↓Wp_cb, ↓Wp_cons, ↓Wp_nil, ↓Wp_tup, ↓Wp_lst, ↓Wp_part, ↓Wp_nopart, ↓Wp_slice, ↓Wp_isi, ↓Wp_isi2, ↓Wp_m1, ↓Wp_call, ↓Wp_pix, ↓Wp_callP0, ↓Wp_callP1, ↓Wp_comp, ↓Wp_disp, ↓Wp_dpnil, ↓Wp_dpcons, ↓Wp_flat, ↓onNx_nx, ↓onNx_bk, ↓onNx_ct, ↓onNx_rt, ↓onRt_rt, ↓onRt_nx, ↓onS_some, ↓onB_b, ↓onI_i, ↓onStr_s, ↓onL_l, ↓lk_0, ↓lk_S, ↓onSet_0, ↓onSet_S, ↓onPut_0, ↓onPut_S, ↓ite_dec, ↓ite_ndec, ↓ite_tt, ↓ite_ff, ↓ite_nt, ↓ite_nf, ↓v_gt, ↓v_lt, ↓v_le, ↓v_ge, ↓v_ltS, ↓v_add, ↓v_addS, ↓v_addL, ↓v_addT, ↓v_addN, ↓v_sub, ↓v_mul, ↓v_mulS, ↓v_mod, ↓v_fdiv, ↓v_pow, ↓v_neg, ↓v_lenL, ↓v_lenT, ↓v_lenS, ↓v_abs, ↓v_rev, ↓v_all, ↓v_any, ↓v_sum, ↓v_eq, ↓v_ne, ↓v_in, ↓v_notIn, ↓q_ii, ↓q_ss, ↓items_l, ↓items_t, ↓items_s, ↓items_r1, ↓items_r2, ↓sl_l, ↓sl_t, ↓sl_s, ↓put_1, ↓put_2, ↓pen_0, ↓pen_1, ↓pen_2, ↓v_ixL, ↓v_ixT, ↓ins_NoneType_none, ↓ins_NoneType_bool, ↓ins_NoneType_int, ↓ins_NoneType_str, ↓ins_NoneType_list, ↓ins_NoneType_tuple, ↓ins_NoneType_dict, ↓ins_bool_none, ↓ins_bool_bool, ↓ins_bool_int, ↓ins_bool_str, ↓ins_bool_list, ↓ins_bool_tuple, ↓ins_bool_dict, ↓ins_int_none, ↓ins_int_bool, ↓ins_int_int, ↓ins_int_str, ↓ins_int_list, ↓ins_int_tuple, ↓ins_int_dict, ↓ins_str_none, ↓ins_str_bool, ↓ins_str_int, ↓ins_str_str, ↓ins_str_list, ↓ins_str_tuple, ↓ins_str_dict, ↓ins_list_none, ↓ins_list_bool, ↓ins_list_int, ↓ins_list_str, ↓ins_list_list, ↓ins_list_tuple, ↓ins_list_dict, ↓ins_tuple_none, ↓ins_tuple_bool, ↓ins_tuple_int, ↓ins_tuple_str, ↓ins_tuple_list, ↓ins_tuple_tuple, ↓ins_tuple_dict, ↓ins_dict_none, ↓ins_dict_bool, ↓ins_dict_int, ↓ins_dict_str, ↓ins_dict_list, ↓ins_dict_tuple, ↓ins_dict_dict, ↓in_sign, ↓onClr_0, ↓onClr_S, ↓onW_nil, ↓onW_cons, ↓onRe_0, ↓onRe_S, ↓onBk_nil, ↓onBk_cons, ↓onTwo_l, ↓S_par, ↓a_tup, ↓onG_name, ↓onG_tup, ↓onGs_nil, ↓onGs_cons, ↓onTurn_nx, ↓onTurn_ct, ↓onTurn_bk, ↓onTurn_rt, ↓onLD_d, ↓v_ixAd, ↓v_inAd, ↓v_notInAd, ↓S_upd, ↓v_zip, ↓Wp_flatA, ↓v_int, ↓v_intB, ↓v_min, ↓v_gin, ↓v_gnin, ↓v_gix, ↓reduceIte]
    refine draw_ok hp3 (by decide) (by decide) fun f p4 hp4 h40 h41 => ?_
    try simp only [↓S_next, ↓S_bk, ↓S_ct, ↓S_rtd, ↓S_seq, ↓S_set, ↓S_drop, ↓S_ret, ↓S_if, ↓S_asg, ↓S_put, ↓S_app, ↓S_ext, ↓S_for, ↓Wp_pure, ↓Wp_opt, ↓Wp_bind, ↓Wp_ite, ↓Wp_var, ↓Wp_op, ↓Wp_un, ↓Wp_test, ↓Wp_dand, ↓Wp_dor, ↓Wp_dnot, ↓Wp_dandV, ↓Wp_dorV, ↓Wp_dnotV, ↓Wp_chain, ↓Wp_cb, ↓Wp_cons, ↓Wp_nil, ↓Wp_tup, ↓Wp_lst, ↓Wp_part, ↓Wp_nopart, ↓Wp_slice, ↓Wp_isi, ↓Wp_isi2, ↓Wp_m1, ↓Wp_call, ↓Wp_pix, ↓Wp_callP0, ↓Wp_callP1, ↓Wp_comp, ↓Wp_disp, ↓Wp_dpnil, ↓Wp_dpcons, ↓Wp_flat, ↓onNx_nx, ↓onNx_bk, ↓onNx_ct, ↓onNx_rt, ↓onRt_rt, ↓onRt_nx, ↓onS_some, ↓onB_b, ↓onI_i, ↓onStr_s, ↓onL_l, ↓lk_0, ↓lk_S, ↓onSet_0, ↓onSet_S, ↓onPut_0, ↓onPut_S, ↓ite_dec, ↓ite_ndec, ↓ite_tt, ↓ite_ff, ↓ite_nt, ↓ite_nf, ↓v_gt, ↓v_lt, ↓v_le, ↓v_ge, ↓v_ltS, ↓v_add, ↓v_addS, ↓v_addL, ↓v_addT, ↓v_addN, ↓v_sub, ↓v_mul, ↓v_mulS, ↓v_mod, ↓v_fdiv, ↓v_pow, ↓v_neg, ↓v_lenL, ↓v_lenT, ↓v_lenS, ↓v_abs, ↓v_rev, ↓v_all, ↓v_any, ↓v_sum, ↓v_eq, ↓v_ne, ↓v_in, ↓v_notIn, ↓q_ii, ↓q_ss, ↓items_l, ↓items_t, ↓items_s, ↓items_r1, ↓items_r2, ↓sl_l, ↓sl_t, ↓sl_s, ↓put_1, ↓put_2, ↓pen_0, ↓pen_1, ↓pen_2, ↓v_ixL, ↓v_ixT, ↓ins_NoneType_none, ↓ins_NoneType_bool, ↓ins_NoneType_int, ↓ins_NoneType_str, ↓ins_NoneType_list, ↓ins_NoneType_tuple, ↓ins_NoneType_dict, ↓ins_bool_none, ↓ins_bool_bool, ↓ins_bool_int, ↓ins_bool_str, ↓ins_bool_list, ↓ins_bool_tuple, ↓ins_bool_dict, ↓ins_int_none, ↓ins_int_bool, ↓ins_int_int, ↓ins_int_str, ↓ins_int_list, ↓ins_int_tuple, ↓ins_int_dict, ↓ins_str_none, ↓ins_str_bool, ↓ins_str_int, ↓ins_str_str, ↓ins_str_list, ↓ins_str_tuple, ↓ins_str_dict, ↓ins_list_none, ↓ins_list_bool, ↓ins_list_int, ↓ins_list_str, ↓ins_list_list, ↓ins_list_tuple, ↓ins_list_dict, ↓ins_tuple_none, ↓ins_tuple_bool, ↓ins_tuple_int, ↓ins_tuple_str, ↓ins_tuple_list, ↓ins_tuple_tuple, ↓ins_tuple_dict, ↓ins_dict_none, ↓ins_dict_bool, ↓ins_dict_int, ↓ins_dict_str, ↓ins_dict_list, ↓ins_dict_tuple, ↓ins_dict_dict, ↓in_sign, ↓onClr_0, ↓onClr_S, ↓onW_nil, ↓onW_cons, ↓onRe_0, ↓onRe_S, ↓onBk_nil, ↓onBk_cons, ↓onTwo_l, ↓S_par, ↓a_tup, ↓onG_name, ↓onG_tup, ↓onGs_nil, ↓onGs_cons, ↓onTurn_nx, ↓onTurn_ct, ↓onTurn_bk, ↓onTurn_rt, ↓onLD_d, ↓v_ixAd, ↓v_inAd, ↓v_notInAd, ↓S_upd, ↓v_zip, ↓Wp_flatA, ↓v_int, ↓v_intB, ↓v_min, ↓v_gin, ↓v_gnin, ↓v_gix, ↓reduceIte]
    refine ⟨lineB (by simp), draw_ok hp4 (by decide) (by decide) fun k5 p5 hp5 h50 h51 => ?_⟩
    try simp only [↓S_next, ↓S_bk, ↓S_ct, ↓S_rtd, ↓S_seq, ↓S_set, ↓S_drop, ↓S_ret, ↓S_if, ↓S_asg, ↓S_put, ↓S_app, ↓S_ext, ↓S_for, ↓Wp_pure, ↓Wp_opt, ↓Wp_bind, ↓Wp_ite, ↓Wp_var, ↓Wp_op, ↓Wp_un, ↓Wp_test, ↓Wp_dand, ↓Wp_dor, ↓Wp_dnot, ↓Wp_dandV, ↓Wp_dorV, ↓Wp_dnotV, ↓Wp_chain, ↓Wp_cb, ↓Wp_cons, ↓Wp_nil, ↓Wp_tup, ↓Wp_lst, ↓Wp_part, ↓Wp_nopart, ↓Wp_slice, ↓Wp_isi, ↓Wp_isi2, ↓Wp_m1, ↓Wp_call, ↓Wp_pix, ↓Wp_callP0, ↓Wp_callP1, ↓Wp_comp, ↓Wp_disp, ↓Wp_dpnil, ↓Wp_dpcons, ↓Wp_flat, ↓onNx_nx, ↓onNx_bk, ↓onNx_ct, ↓onNx_rt, ↓onRt_rt, ↓onRt_nx, ↓onS_some, ↓onB_b, ↓onI_i, ↓onStr_s, ↓onL_l, ↓lk_0, ↓lk_S, ↓onSet_0, ↓onSet_S, ↓onPut_0, ↓onPut_S, ↓ite_dec, ↓ite_ndec, ↓ite_tt, ↓ite_ff, ↓ite_nt, ↓ite_nf, ↓v_gt, ↓v_lt, ↓v_le, ↓v_ge, ↓v_ltS, ↓v_add, ↓v_addS, ↓v_addL, ↓v_addT, ↓v_addN, ↓v_sub, ↓v_mul, ↓v_mulS, ↓v_mod, ↓v_fdiv, ↓v_pow, ↓v_neg, ↓v_lenL, ↓v_lenT, ↓v_lenS, ↓v_abs, ↓v_rev, ↓v_all, ↓v_any, ↓v_sum, ↓v_eq, ↓v_ne, ↓v_in, ↓v_notIn, ↓q_ii, ↓q_ss, ↓items_l, ↓items_t, ↓items_s, ↓items_r1, ↓items_r2, ↓sl_l, ↓sl_t, ↓sl_s, ↓put_1, ↓put_2, ↓pen_0, ↓pen_1, ↓pen_2, ↓v_ixL, ↓v_ixT, ↓ins_NoneType_none, ↓ins_NoneType_bool, ↓ins_NoneType_int, ↓ins_NoneType_str, ↓ins_NoneType_list, ↓ins_NoneType_tuple, ↓ins_NoneType_dict, ↓ins_bool_none, ↓ins_bool_bool, ↓ins_bool_int, ↓ins_bool_str, ↓ins_bool_list, ↓ins_bool_tuple, ↓ins_bool_dict, ↓ins_int_none, ↓ins_int_bool, ↓ins_int_int, ↓ins_int_str, ↓ins_int_list, ↓ins_int_tuple, ↓ins_int_dict, ↓ins_str_none, ↓ins_str_bool, ↓ins_str_int, ↓ins_str_str, ↓ins_str_list, ↓ins_str_tuple, ↓ins_str_dict, ↓ins_list_none, ↓ins_list_bool, ↓ins_list_int, ↓ins_list_str, ↓ins_list_list, ↓ins_list_tuple, ↓ins_list_dict, ↓ins_tuple_none, ↓ins_tuple_bool, ↓ins_tuple_int, ↓ins_tuple_str, ↓ins_tuple_list, ↓ins_tuple_tuple, ↓ins_tuple_dict, ↓ins_dict_none, ↓ins_dict_bool, ↓ins_dict_int, ↓ins_dict_str, ↓ins_dict_list, ↓ins_dict_tuple, ↓ins_dict_dict, ↓in_sign, ↓onClr_0, ↓onClr_S, ↓onW_nil, ↓onW_cons, ↓onRe_0, ↓onRe_S, ↓onBk_nil, ↓onBk_cons, ↓onTwo_l, ↓S_par, ↓a_tup, ↓onG_name, ↓onG_tup, ↓onGs_nil, ↓onGs_cons, ↓onTurn_nx, ↓onTurn_ct, ↓onTurn_bk, ↓onTurn_rt, ↓onLD_d, ↓v_ixAd, ↓v_inAd, ↓v_notInAd, ↓S_upd, ↓v_zip, ↓Wp_flatA, ↓v_int, ↓v_intB, ↓v_min, ↓v_gin, ↓v_gnin, ↓v_gix, ↓reduceIte]
    obtain ⟨dl, el, ml⟩ := at_in (ds := [PyData.int 1, .int 3, .int 5, .int 7, .int 9, .int 11]) h50 (by simpa using h51)
    obtain ⟨l, hl6, rfl⟩ : ∃ l : Int, (l = 1 ∨ l = 3 ∨ l = 5 ∨ l = 7 ∨ l = 9 ∨ l = 11) ∧ dl = .int l := by
      simp only [List.mem_cons, List.not_mem_nil, or_false] at ml
      rcases ml with h | h | h | h | h | h
      · exact ⟨1, by decide, h⟩
      · exact ⟨3, by decide, h⟩
      · exact ⟨5, by decide, h⟩
      · exact ⟨7, by decide, h⟩
      · exact ⟨9, by decide, h⟩
      · exact ⟨11, by decide, h⟩
    refine ⟨_, el, ?_⟩
    refine ⟨lineB (by simp), by omega, ?_⟩
    have hWk : ∀ i j : Option Int, smallS (cutS W i j) := smallS_cut hWs
    refine Fl_inv (I := fun rest s => ∃ (k : Nat) (p : D) (zs : List Str) (x8 x9 : Option D), rest = rangeL k (n - k) ∧ k ≤ n ∧ Pen p ∧ zs.length = k ∧
      (∀ (i : Nat) (z : Str), zs[i]? = some z → smallS z ∧ 1 ≤ z.length ∧ z.length ≤ 8 ∧ ∃ tl, z.cps.toList = (cutS W none (some spot)).cps.toList ++ lets f l i :: tl) ∧
      s = [some p, some (.int n), some (.str abc), some (.str W), some (.int spot), some (.int f), some (.int l), some (.list (zs.map PyData.str)), x8, x9])
      ⟨0, p5, [], none, none, by simp, Nat.zero_le _, hp5, rfl, fun i z h => by simp at h, rfl⟩ ?_ ?_
    · rintro d r s ⟨k, p, zs, x8, x9, hr, hk, hp, hlz, hz, rfl⟩
      obtain ⟨m, hm⟩ : ∃ m, n - k = m + 1 := by
        cases e : n - k with
        | zero =>
          rw [e] at hr
          cases hr
        | succ m => exact ⟨m, rfl⟩
      rw [hm, rangeL_cons] at hr
      obtain ⟨rfl, rfl⟩ := List.cons.inj hr
      refine ⟨[some p, some (.int n), some (.str abc), some (.str W), some (.int spot), some (.int f), some (.int l), some (.list (zs.map PyData.str)), some (.int k), x9], rfl, ?_⟩
      simp only [↓S_next, ↓S_bk, ↓S_ct, ↓S_rtd, ↓S_seq, ↓S_set, ↓S_drop, ↓S_ret, ↓S_if, ↓S_asg, ↓S_put, ↓S_app, ↓S_ext, ↓S_for, ↓Wp_pure, ↓Wp_opt, ↓Wp_bind, ↓Wp_ite, ↓Wp_var, ↓Wp_op, ↓Wp_un, ↓Wp_test, ↓Wp_dand, ↓Wp_dor, ↓Wp_dnot, ↓Wp_dandV, ↓Wp_dorV, ↓Wp_dnotV, ↓Wp_chain, ↓Wp_cb, ↓Wp_cons, ↓Wp_nil, ↓Wp_tup, ↓Wp_lst, ↓Wp_part, ↓Wp_nopart, ↓Wp_slice, ↓Wp_isi, ↓Wp_isi2, ↓Wp_m1, ↓Wp_call, ↓Wp_pix, ↓Wp_callP0, ↓Wp_callP1, ↓Wp_comp, ↓Wp_disp, ↓Wp_dpnil, ↓Wp_dpcons, ↓Wp_flat, ↓onNx_nx, ↓onNx_bk, ↓onNx_ct, ↓onNx_rt, ↓onRt_rt, ↓onRt_nx, ↓onS_some, ↓onB_b, ↓onI_i, ↓onStr_s, ↓onL_l, ↓lk_0, ↓lk_S, ↓onSet_0, ↓onSet_S, ↓onPut_0, ↓onPut_S, ↓ite_dec, ↓ite_ndec, ↓ite_tt, ↓ite_ff, ↓ite_nt, ↓ite_nf, ↓v_gt, ↓v_lt, ↓v_le, ↓v_ge, ↓v_ltS, ↓v_add, ↓v_addS, ↓v_addL, ↓v_addT, ↓v_addN, ↓v_sub, ↓v_mul, ↓v_mulS, ↓v_mod, ↓v_fdiv, ↓v_pow, ↓v_neg, ↓v_lenL, ↓v_lenT, ↓v_lenS, ↓v_abs, ↓v_rev, ↓v_all, ↓v_any, ↓v_sum, ↓v_eq, ↓v_ne, ↓v_in, ↓v_notIn, ↓q_ii, ↓q_ss, ↓items_l, ↓items_t, ↓items_s, ↓items_r1, ↓items_r2, ↓sl_l, ↓sl_t, ↓sl_s, ↓put_1, ↓put_2, ↓pen_0, ↓pen_1, ↓pen_2, ↓v_ixL, ↓v_ixT, ↓ins_NoneType_none, ↓ins_NoneType_bool, ↓ins_NoneType_int, ↓ins_NoneType_str, ↓ins_NoneType_list, ↓ins_NoneType_tuple, ↓ins_NoneType_dict, ↓ins_bool_none, ↓ins_bool_bool, ↓ins_bool_int, ↓ins_bool_str, ↓ins_bool_list, ↓ins_bool_tuple, ↓ins_bool_dict, ↓ins_int_none, ↓ins_int_bool, ↓ins_int_int, ↓ins_int_str, ↓ins_int_list, ↓ins_int_tuple, ↓ins_int_dict, ↓ins_str_none, ↓ins_str_bool, ↓ins_str_int, ↓ins_str_str, ↓ins_str_list, ↓ins_str_tuple, ↓ins_str_dict, ↓ins_list_none, ↓ins_list_bool, ↓ins_list_int, ↓ins_list_str, ↓ins_list_list, ↓ins_list_tuple, ↓ins_list_dict, ↓ins_tuple_none, ↓ins_tuple_bool, ↓ins_tuple_int, ↓ins_tuple_str, ↓ins_tuple_list, ↓ins_tuple_tuple, ↓ins_tuple_dict, ↓ins_dict_none, ↓ins_dict_bool, ↓ins_dict_int, ↓ins_dict_str, ↓ins_dict_list, ↓ins_dict_tuple, ↓ins_dict_dict, ↓in_sign, ↓onClr_0, ↓onClr_S, ↓onW_nil, ↓onW_cons, ↓onRe_0, ↓onRe_S, ↓onBk_nil, ↓onBk_cons, ↓onTwo_l, ↓S_par, ↓a_tup, ↓onG_name, ↓onG_tup, ↓onGs_nil, ↓onGs_cons, ↓onTurn_nx, ↓onTurn_ct, ↓onTurn_bk, ↓onTurn_rt, ↓onLD_d, ↓v_ixAd, ↓v_inAd, ↓v_notInAd, ↓S_upd, ↓v_zip, ↓Wp_flatA, ↓v_int, ↓v_intB, ↓v_min, ↓v_gin, ↓v_gnin, ↓v_gix, ↓reduceIte]
      have lc1 := cutS_len W (some spot) none
      refine ⟨lW, lW, draw_ok hp (by omega) (by omega) fun t p' hp' ht0 ht1 => ?_⟩
      simp only [↓S_next, ↓S_bk, ↓S_ct, ↓S_rtd, ↓S_seq, ↓S_set, ↓S_drop, ↓S_ret, ↓S_if, ↓S_asg, ↓S_put, ↓S_app, ↓S_ext, ↓S_for, ↓Wp_pure, ↓Wp_opt, ↓Wp_bind, ↓Wp_ite, ↓Wp_var, ↓Wp_op, ↓Wp_un, ↓Wp_test, ↓Wp_dand, ↓Wp_dor, ↓Wp_dnot, ↓Wp_dandV, ↓Wp_dorV, ↓Wp_dnotV, ↓Wp_chain, ↓Wp_cb, ↓Wp_cons, ↓Wp_nil, ↓Wp_tup, ↓Wp_lst, ↓Wp_part, ↓Wp_nopart, ↓Wp_slice, ↓Wp_isi, ↓Wp_isi2, ↓Wp_m1, ↓Wp_call, ↓Wp_pix, ↓Wp_callP0, ↓Wp_callP1, ↓Wp_comp, ↓Wp_disp, ↓Wp_dpnil, ↓Wp_dpcons, ↓Wp_flat, ↓onNx_nx, ↓onNx_bk, ↓onNx_ct, ↓onNx_rt, ↓onRt_rt, ↓onRt_nx, ↓onS_some, ↓onB_b, ↓onI_i, ↓onStr_s, ↓onL_l, ↓lk_0, ↓lk_S, ↓onSet_0, ↓onSet_S, ↓onPut_0, ↓onPut_S, ↓ite_dec, ↓ite_ndec, ↓ite_tt, ↓ite_ff, ↓ite_nt, ↓ite_nf, ↓v_gt, ↓v_lt, ↓v_le, ↓v_ge, ↓v_ltS, ↓v_add, ↓v_addS, ↓v_addL, ↓v_addT, ↓v_addN, ↓v_sub, ↓v_mul, ↓v_mulS, ↓v_mod, ↓v_fdiv, ↓v_pow, ↓v_neg, ↓v_lenL, ↓v_lenT, ↓v_lenS, ↓v_abs, ↓v_rev, ↓v_all, ↓v_any, ↓v_sum, ↓v_eq, ↓v_ne, ↓v_in, ↓v_notIn, ↓q_ii, ↓q_ss, ↓items_l, ↓items_t, ↓items_s, ↓items_r1, ↓items_r2, ↓sl_l, ↓sl_t, ↓sl_s, ↓put_1, ↓put_2, ↓pen_0, ↓pen_1, ↓pen_2, ↓v_ixL, ↓v_ixT, ↓ins_NoneType_none, ↓ins_NoneType_bool, ↓ins_NoneType_int, ↓ins_NoneType_str, ↓ins_NoneType_list, ↓ins_NoneType_tuple, ↓ins_NoneType_dict, ↓ins_bool_none, ↓ins_bool_bool, ↓ins_bool_int, ↓ins_bool_str, ↓ins_bool_list, ↓ins_bool_tuple, ↓ins_bool_dict, ↓ins_int_none, ↓ins_int_bool, ↓ins_int_int, ↓ins_int_str, ↓ins_int_list, ↓ins_int_tuple, ↓ins_int_dict, ↓ins_str_none, ↓ins_str_bool, ↓ins_str_int, ↓ins_str_str, ↓ins_str_list, ↓ins_str_tuple, ↓ins_str_dict, ↓ins_list_none, ↓ins_list_bool, ↓ins_list_int, ↓ins_list_str, ↓ins_list_list, ↓ins_list_tuple, ↓ins_list_dict, ↓ins_tuple_none, ↓ins_tuple_bool, ↓ins_tuple_int, ↓ins_tuple_str, ↓ins_tuple_list, ↓ins_tuple_tuple, ↓ins_tuple_dict, ↓ins_dict_none, ↓ins_dict_bool, ↓ins_dict_int, ↓ins_dict_str, ↓ins_dict_list, ↓ins_dict_tuple, ↓ins_dict_dict, ↓in_sign, ↓onClr_0, ↓onClr_S, ↓onW_nil, ↓onW_cons, ↓onRe_0, ↓onRe_S, ↓onBk_nil, ↓onBk_cons, ↓onTwo_l, ↓S_par, ↓a_tup, ↓onG_name, ↓onG_tup, ↓onGs_nil, ↓onGs_cons, ↓onTurn_nx, ↓onTurn_ct, ↓onTurn_bk, ↓onTurn_rt, ↓onLD_d, ↓v_ixAd, ↓v_inAd, ↓v_notInAd, ↓S_upd, ↓v_zip, ↓Wp_flatA, ↓v_int, ↓v_intB, ↓v_min, ↓v_gin, ↓v_gnin, ↓v_gix, ↓reduceIte]
      have lc2 := cutS_len (cutS W (some spot) none) none (some t)
      obtain ⟨ec, hc⟩ := at_strE (z := abc) (i := (f + l * (k : Int)) % 26) (Int.emod_nonneg _ (by decide)) (by rw [abc_len]; exact Int.emod_lt_of_pos _ (by decide)) (by rw [abc_len]; decide)
      rw [ec]
      simp only [↓S_next, ↓S_bk, ↓S_ct, ↓S_rtd, ↓S_seq, ↓S_set, ↓S_drop, ↓S_ret, ↓S_if, ↓S_asg, ↓S_put, ↓S_app, ↓S_ext, ↓S_for, ↓Wp_pure, ↓Wp_opt, ↓Wp_bind, ↓Wp_ite, ↓Wp_var, ↓Wp_op, ↓Wp_un, ↓Wp_test, ↓Wp_dand, ↓Wp_dor, ↓Wp_dnot, ↓Wp_dandV, ↓Wp_dorV, ↓Wp_dnotV, ↓Wp_chain, ↓Wp_cb, ↓Wp_cons, ↓Wp_nil, ↓Wp_tup, ↓Wp_lst, ↓Wp_part, ↓Wp_nopart, ↓Wp_slice, ↓Wp_isi, ↓Wp_isi2, ↓Wp_m1, ↓Wp_call, ↓Wp_pix, ↓Wp_callP0, ↓Wp_callP1, ↓Wp_comp, ↓Wp_disp, ↓Wp_dpnil, ↓Wp_dpcons, ↓Wp_flat, ↓onNx_nx, ↓onNx_bk, ↓onNx_ct, ↓onNx_rt, ↓onRt_rt, ↓onRt_nx, ↓onS_some, ↓onB_b, ↓onI_i, ↓onStr_s, ↓onL_l, ↓lk_0, ↓lk_S, ↓onSet_0, ↓onSet_S, ↓onPut_0, ↓onPut_S, ↓ite_dec, ↓ite_ndec, ↓ite_tt, ↓ite_ff, ↓ite_nt, ↓ite_nf, ↓v_gt, ↓v_lt, ↓v_le, ↓v_ge, ↓v_ltS, ↓v_add, ↓v_addS, ↓v_addL, ↓v_addT, ↓v_addN, ↓v_sub, ↓v_mul, ↓v_mulS, ↓v_mod, ↓v_fdiv, ↓v_pow, ↓v_neg, ↓v_lenL, ↓v_lenT, ↓v_lenS, ↓v_abs, ↓v_rev, ↓v_all, ↓v_any, ↓v_sum, ↓v_eq, ↓v_ne, ↓v_in, ↓v_notIn, ↓q_ii, ↓q_ss, ↓items_l, ↓items_t, ↓items_s, ↓items_r1, ↓items_r2, ↓sl_l, ↓sl_t, ↓sl_s, ↓put_1, ↓put_2, ↓pen_0, ↓pen_1, ↓pen_2, ↓v_ixL, ↓v_ixT, ↓ins_NoneType_none, ↓ins_NoneType_bool, ↓ins_NoneType_int, ↓ins_NoneType_str, ↓ins_NoneType_list, ↓ins_NoneType_tuple, ↓ins_NoneType_dict, ↓ins_bool_none, ↓ins_bool_bool, ↓ins_bool_int, ↓ins_bool_str, ↓ins_bool_list, ↓ins_bool_tuple, ↓ins_bool_dict, ↓ins_int_none, ↓ins_int_bool, ↓ins_int_int, ↓ins_int_str, ↓ins_int_list, ↓ins_int_tuple, ↓ins_int_dict, ↓ins_str_none, ↓ins_str_bool, ↓ins_str_int, ↓ins_str_str, ↓ins_str_list, ↓ins_str_tuple, ↓ins_str_dict, ↓ins_list_none, ↓ins_list_bool, ↓ins_list_int, ↓ins_list_str, ↓ins_list_list, ↓ins_list_tuple, ↓ins_list_dict, ↓ins_tuple_none, ↓ins_tuple_bool, ↓ins_tuple_int, ↓ins_tuple_str, ↓ins_tuple_list, ↓ins_tuple_tuple, ↓ins_tuple_dict, ↓ins_dict_none, ↓ins_dict_bool, ↓ins_dict_int, ↓ins_dict_str, ↓ins_dict_list, ↓ins_dict_tuple, ↓ins_dict_dict, ↓in_sign, ↓onClr_0, ↓onClr_S, ↓onW_nil, ↓onW_cons, ↓onRe_0, ↓onRe_S, ↓onBk_nil, ↓onBk_cons, ↓onTwo_l, ↓S_par, ↓a_tup, ↓onG_name, ↓onG_tup, ↓onGs_nil, ↓onGs_cons, ↓onTurn_nx, ↓onTurn_ct, ↓onTurn_bk, ↓onTurn_rt, ↓onLD_d, ↓v_ixAd, ↓v_inAd, ↓v_notInAd, ↓S_upd, ↓v_zip, ↓Wp_flatA, ↓v_int, ↓v_intB, ↓v_min, ↓v_gin, ↓v_gnin, ↓v_gix, ↓reduceIte]
      have lt := cut_two W h30 (by omega)
      have ls1 : (⟨#[abc.cps.toList.getD ((f + l * (k : Int)) % 26).toNat 0]⟩ : Str).length = 1 := rfl
      have hlz' : (zs.map PyData.str).length = k := by rw [List.length_map]; exact hlz
      refine ⟨lineB (by omega), lW, Or.inl (by omega), by decide, lineB (by omega), lineB (by rw [app_len]; omega), lineB_lt (by omega), ?_⟩
      refine ⟨k + 1, p', zs ++ [cutS W none (some spot) ++ ⟨#[abc.cps.toList.getD ((f + l * (k : Int)) % 26).toNat 0]⟩ ++ cutS (cutS W (some spot) none) none (some t)], some (.int k), some (.str (cutS (cutS W (some spot) none) none (some t))), ?_, by omega, hp', by rw [List.length_append, hlz]; rfl, fun i z hi => ?_, ?_⟩
      · rw [show n - (k + 1) = m by omega]
        rfl
      · by_cases hik : i < k
        · rw [List.getElem?_append_left (by omega)] at hi
          exact hz i z hi
        · rw [List.getElem?_append_right (by omega)] at hi
          have h0 : i - zs.length = 0 := by
            cases e : i - zs.length with
            | zero => rfl
            | succ j =>
              rw [e] at hi
              simp at hi
          rw [h0] at hi
          have hi' := Option.some.inj hi
          subst hi'
          have hi2 : i = k := by omega
          subst hi2
          have hs1 : smallS ⟨#[abc.cps.toList.getD ((f + l * (i : Int)) % 26).toNat 0]⟩ := fun c hcc => by
            have : c = abc.cps.toList.getD ((f + l * (i : Int)) % 26).toNat 0 := by simpa using hcc
            rw [this]
            exact decide_eq_true hc
          refine ⟨smallS_app (smallS_app (hWk _ _) hs1) (smallS_cut (hWk _ _) _ _), by rw [app_len, app_len]; omega, by rw [app_len, app_len]; omega, (cutS (cutS W (some spot) none) none (some t)).cps.toList, ?_⟩
          show ((cutS W none (some spot) ++ _).cps ++ _).toList = _
          rw [Array.toList_append]
          show ((cutS W none (some spot)).cps ++ _).toList ++ _ = _
          rw [Array.toList_append, List.append_assoc]
          rfl
      · rw [List.map_append]
        rfl
    · rintro s ⟨k, p, zs, x8, x9, hr, hk, hp, hlz, hz, rfl⟩
      have hkn : k = n := by
        have := congrArg List.length hr
        rw [rangeL_len] at this
        have h0 : ([] : List D).length = 0 := rfl
        omega
      subst hkn
      simp only [↓S_next, ↓S_bk, ↓S_ct, ↓S_rtd, ↓S_seq, ↓S_set, ↓S_drop, ↓S_ret, ↓S_if, ↓S_asg, ↓S_put, ↓S_app, ↓S_ext, ↓S_for, ↓Wp_pure, ↓Wp_opt, ↓Wp_bind, ↓Wp_ite, ↓Wp_var, ↓Wp_op, ↓Wp_un, ↓Wp_test, ↓Wp_dand, ↓Wp_dor, ↓Wp_dnot, ↓Wp_dandV, ↓Wp_dorV, ↓Wp_dnotV, ↓Wp_chain, ↓Wp_cb, ↓Wp_cons, ↓Wp_nil, ↓Wp_tup, ↓Wp_lst, ↓Wp_part, ↓Wp_nopart, ↓Wp_slice, ↓Wp_isi, ↓Wp_isi2, ↓Wp_m1, ↓Wp_call, ↓Wp_pix, ↓Wp_callP0, ↓Wp_callP1, ↓Wp_comp, ↓Wp_disp, ↓Wp_dpnil, ↓Wp_dpcons, ↓Wp_flat, ↓onNx_nx, ↓onNx_bk, ↓onNx_ct, ↓onNx_rt, ↓onRt_rt, ↓onRt_nx, ↓onS_some, ↓onB_b, ↓onI_i, ↓onStr_s, ↓onL_l, ↓lk_0, ↓lk_S, ↓onSet_0, ↓onSet_S, ↓onPut_0, ↓onPut_S, ↓ite_dec, ↓ite_ndec, ↓ite_tt, ↓ite_ff, ↓ite_nt, ↓ite_nf, ↓v_gt, ↓v_lt, ↓v_le, ↓v_ge, ↓v_ltS, ↓v_add, ↓v_addS, ↓v_addL, ↓v_addT, ↓v_addN, ↓v_sub, ↓v_mul, ↓v_mulS, ↓v_mod, ↓v_fdiv, ↓v_pow, ↓v_neg, ↓v_lenL, ↓v_lenT, ↓v_lenS, ↓v_abs, ↓v_rev, ↓v_all, ↓v_any, ↓v_sum, ↓v_eq, ↓v_ne, ↓v_in, ↓v_notIn, ↓q_ii, ↓q_ss, ↓items_l, ↓items_t, ↓items_s, ↓items_r1, ↓items_r2, ↓sl_l, ↓sl_t, ↓sl_s, ↓put_1, ↓put_2, ↓pen_0, ↓pen_1, ↓pen_2, ↓v_ixL, ↓v_ixT, ↓ins_NoneType_none, ↓ins_NoneType_bool, ↓ins_NoneType_int, ↓ins_NoneType_str, ↓ins_NoneType_list, ↓ins_NoneType_tuple, ↓ins_NoneType_dict, ↓ins_bool_none, ↓ins_bool_bool, ↓ins_bool_int, ↓ins_bool_str, ↓ins_bool_list, ↓ins_bool_tuple, ↓ins_bool_dict, ↓ins_int_none, ↓ins_int_bool, ↓ins_int_int, ↓ins_int_str, ↓ins_int_list, ↓ins_int_tuple, ↓ins_int_dict, ↓ins_str_none, ↓ins_str_bool, ↓ins_str_int, ↓ins_str_str, ↓ins_str_list, ↓ins_str_tuple, ↓ins_str_dict, ↓ins_list_none, ↓ins_list_bool, ↓ins_list_int, ↓ins_list_str, ↓ins_list_list, ↓ins_list_tuple, ↓ins_list_dict, ↓ins_tuple_none, ↓ins_tuple_bool, ↓ins_tuple_int, ↓ins_tuple_str, ↓ins_tuple_list, ↓ins_tuple_tuple, ↓ins_tuple_dict, ↓ins_dict_none, ↓ins_dict_bool, ↓ins_dict_int, ↓ins_dict_str, ↓ins_dict_list, ↓ins_dict_tuple, ↓ins_dict_dict, ↓in_sign, ↓onClr_0, ↓onClr_S, ↓onW_nil, ↓onW_cons, ↓onRe_0, ↓onRe_S, ↓onBk_nil, ↓onBk_cons, ↓onTwo_l, ↓S_par, ↓a_tup, ↓onG_name, ↓onG_tup, ↓onGs_nil, ↓onGs_cons, ↓onTurn_nx, ↓onTurn_ct, ↓onTurn_bk, ↓onTurn_rt, ↓onLD_d, ↓v_ixAd, ↓v_inAd, ↓v_notInAd, ↓S_upd, ↓v_zip, ↓Wp_flatA, ↓v_int, ↓v_intB, ↓v_min, ↓v_gin, ↓v_gnin, ↓v_gix, ↓reduceIte]
      refine q _ _ hp ⟨by rw [List.length_map]; exact hlz, fun d hd => ?_, fun i j d e hi hj hij hde => ?_⟩
      · obtain ⟨z, hzm, rfl⟩ := List.mem_map.mp hd
        obtain ⟨i, hi⟩ := List.getElem?_of_mem hzm
        obtain ⟨g1, g2, g3, _⟩ := hz i z hi
        refine ⟨z, rfl, ⟨by omega, fun c hc => small_128 (g1 c hc)⟩, ?_⟩
        rw [isW_str, decide_eq_true (show 1 ≤ z.length ∧ z.length ≤ 8 from ⟨g2, g3⟩), Bool.true_and, List.all_eq_true]
        exact g1
      · subst hde
        rw [List.getElem?_map] at hi hj
        obtain ⟨z, hzi, rfl⟩ := Option.map_eq_some_iff.mp hi
        obtain ⟨y, hyj, ey⟩ := Option.map_eq_some_iff.mp hj
        cases ey
        obtain ⟨_, _, _, t1, e1⟩ := hz i z hzi
        obtain ⟨_, _, _, t2, e2⟩ := hz j z hyj
        rw [e1] at e2
        have e3 := List.append_cancel_left e2
        injection e3 with e4 _
        have hin : i < k := by
          have := (List.getElem?_eq_some_iff.mp hzi).1
          omega
        have hjn : j < k := by
          have := (List.getElem?_eq_some_iff.mp hyj).1
          omega
        exact hij (lets_ne h40 hl6 (by omega) (by omega) e4)
end DR

set_option maxRecDepth 100000
set_option maxHeartbeats 1000000
namespace DR
open PySem PySem.Spec L2
open PyProof.Rows hiding St
def Pl (p : D) : Prop := (∃ i, p = .int i) ∨ ∃ z, p = .str z ∧ Tx7 z
theorem Pl.str {p : D} (h : Pl p) : ∀ z, p = .str z → Tx7 z := fun z e => by
  rcases h with ⟨i, rfl⟩ | ⟨y, rfl, h⟩
  · cases e
  · cases e
    exact h
theorem Pl.len {p : D} (h : Pl p) : ∀ z, p = .str z → z.length ≤ 1000 := fun z e => (h.str z e).1
theorem Pl.flat {p : D} (h : Pl p) : flat p = true := by
  rcases h with ⟨i, rfl⟩ | ⟨y, rfl, _⟩ <;> rfl
theorem flatA_pl : ∀ {ps : List D}, (∀ p ∈ ps, Pl p) → flatA ps = true
  | [], _ => rfl
  | p :: r, h => by
    unfold flatA
    rw [(h p List.mem_cons_self).flat, flatA_pl fun q hq => h q (List.mem_cons_of_mem _ hq)]
    rfl
def shapes : List (Str × Nat) := [("comes", 5), ("trial", 6), ("back", 5), ("keep", 5), ("give", 7), ("goes", 4), ("double", 4), ("promise", 6), ("loose", 3), ("want", 5), ("owe", 5), ("pay", 5)]
theorem pg_any {w : Str} {ps : List D} (hs : (w, ps.length) ∈ shapes) (hp : ∀ p ∈ ps, Pl p) : ∃ b, m_is_page [.tuple (.str w :: ps)] = some (.bool b) ∧ m__law_is_page [.tuple (.str w :: ps)] = some (.bool b) := by
  unfold shapes at hs
  simp only [List.mem_cons, List.not_mem_nil, or_false, Prod.mk.injEq] at hs
  rcases hs with ⟨rfl, hl⟩ | ⟨rfl, hl⟩ | ⟨rfl, hl⟩ | ⟨rfl, hl⟩ | ⟨rfl, hl⟩ | ⟨rfl, hl⟩ | ⟨rfl, hl⟩ | ⟨rfl, hl⟩ | ⟨rfl, hl⟩ | ⟨rfl, hl⟩ | ⟨rfl, hl⟩ | ⟨rfl, hl⟩
  · match ps, hl with
    | [p1, p2, p3, p4, p5], _ => exact ⟨B_comes p1 p2 p3 p4 p5, is_page_comes p1 p2 p3 p4 p5 (hp p1 (by simp)).len (hp p3 (by simp)).len (hp p4 (by simp)).len (hp p5 (by simp)).len, law_is_page_comes p1 p2 p3 p4 p5 (hp p1 (by simp)).str (hp p2 (by simp)).str (hp p3 (by simp)).str (hp p4 (by simp)).str (hp p5 (by simp)).str (flatA_pl hp)⟩
  · match ps, hl with
    | [p1, p2, p3, p4, p5, p6], _ => exact ⟨B_trial p1 p2 p3 p4 p5 p6, is_page_trial p1 p2 p3 p4 p5 p6 (hp p1 (by simp)).len (hp p3 (by simp)).len (hp p4 (by simp)).len (hp p5 (by simp)).len, law_is_page_trial p1 p2 p3 p4 p5 p6 (hp p1 (by simp)).str (hp p2 (by simp)).str (hp p3 (by simp)).str (hp p4 (by simp)).str (hp p5 (by simp)).str (hp p6 (by simp)).str (flatA_pl hp)⟩
  · match ps, hl with
    | [p1, p2, p3, p4, p5], _ => exact ⟨B_back p1 p2 p3 p4 p5, is_page_back p1 p2 p3 p4 p5 (hp p1 (by simp)).len (hp p3 (by simp)).len (hp p4 (by simp)).len, law_is_page_back p1 p2 p3 p4 p5 (hp p1 (by simp)).str (hp p2 (by simp)).str (hp p3 (by simp)).str (hp p4 (by simp)).str (hp p5 (by simp)).str (flatA_pl hp)⟩
  · match ps, hl with
    | [p1, p2, p3, p4, p5], _ => exact ⟨B_keep p1 p2 p3 p4 p5, is_page_keep p1 p2 p3 p4 p5 (hp p1 (by simp)).len (hp p3 (by simp)).len (hp p4 (by simp)).len, law_is_page_keep p1 p2 p3 p4 p5 (hp p1 (by simp)).str (hp p2 (by simp)).str (hp p3 (by simp)).str (hp p4 (by simp)).str (hp p5 (by simp)).str (flatA_pl hp)⟩
  · match ps, hl with
    | [p1, p2, p3, p4, p5, p6, p7], _ => exact ⟨B_give p1 p2 p3 p4 p5 p6 p7, is_page_give p1 p2 p3 p4 p5 p6 p7 (hp p1 (by simp)).len (hp p3 (by simp)).len (hp p4 (by simp)).len (hp p5 (by simp)).len, law_is_page_give p1 p2 p3 p4 p5 p6 p7 (hp p1 (by simp)).str (hp p2 (by simp)).str (hp p3 (by simp)).str (hp p4 (by simp)).str (hp p5 (by simp)).str (hp p6 (by simp)).str (hp p7 (by simp)).str (flatA_pl hp)⟩
  · match ps, hl with
    | [p1, p2, p3, p4], _ => exact ⟨B_goes p1 p2 p3 p4, is_page_goes p1 p2 p3 p4 (hp p1 (by simp)).len (hp p3 (by simp)).len (hp p4 (by simp)).len, law_is_page_goes p1 p2 p3 p4 (hp p1 (by simp)).str (hp p2 (by simp)).str (hp p3 (by simp)).str (hp p4 (by simp)).str (flatA_pl hp)⟩
  · match ps, hl with
    | [p1, p2, p3, p4], _ => exact ⟨B_double p1 p2 p3 p4, is_page_double p1 p2 p3 p4 (hp p1 (by simp)).len (hp p3 (by simp)).len (hp p4 (by simp)).len, law_is_page_double p1 p2 p3 p4 (hp p1 (by simp)).str (hp p2 (by simp)).str (hp p3 (by simp)).str (hp p4 (by simp)).str (flatA_pl hp)⟩
  · match ps, hl with
    | [p1, p2, p3, p4, p5, p6], _ => exact ⟨B_promise p1 p2 p3 p4 p5 p6, is_page_promise p1 p2 p3 p4 p5 p6 (hp p1 (by simp)).len (hp p3 (by simp)).len (hp p4 (by simp)).len (hp p5 (by simp)).len, law_is_page_promise p1 p2 p3 p4 p5 p6 (hp p1 (by simp)).str (hp p2 (by simp)).str (hp p3 (by simp)).str (hp p4 (by simp)).str (hp p5 (by simp)).str (hp p6 (by simp)).str (flatA_pl hp)⟩
  · match ps, hl with
    | [p1, p2, p3], _ => exact ⟨B_loose p1 p2 p3, is_page_loose p1 p2 p3 (hp p1 (by simp)).len (hp p3 (by simp)).len, law_is_page_loose p1 p2 p3 (hp p1 (by simp)).str (hp p2 (by simp)).str (hp p3 (by simp)).str (flatA_pl hp)⟩
  · match ps, hl with
    | [p1, p2, p3, p4, p5], _ => exact ⟨B_want p1 p2 p3 p4 p5, is_page_want p1 p2 p3 p4 p5 (hp p1 (by simp)).len (hp p3 (by simp)).len (hp p4 (by simp)).len, law_is_page_want p1 p2 p3 p4 p5 (hp p1 (by simp)).str (hp p2 (by simp)).str (hp p3 (by simp)).str (hp p4 (by simp)).str (hp p5 (by simp)).str (flatA_pl hp)⟩
  · match ps, hl with
    | [p1, p2, p3, p4, p5], _ => exact ⟨B_owe p1 p2 p3 p4 p5, is_page_owe p1 p2 p3 p4 p5 (hp p1 (by simp)).len (hp p3 (by simp)).len (hp p4 (by simp)).len, law_is_page_owe p1 p2 p3 p4 p5 (hp p1 (by simp)).str (hp p2 (by simp)).str (hp p3 (by simp)).str (hp p4 (by simp)).str (hp p5 (by simp)).str (flatA_pl hp)⟩
  · match ps, hl with
    | [p1, p2, p3, p4, p5], _ => exact ⟨B_pay p1 p2 p3 p4 p5, is_page_pay p1 p2 p3 p4 p5 (hp p1 (by simp)).len (hp p3 (by simp)).len (hp p4 (by simp)).len, law_is_page_pay p1 p2 p3 p4 p5 (hp p1 (by simp)).str (hp p2 (by simp)).str (hp p3 (by simp)).str (hp p4 (by simp)).str (hp p5 (by simp)).str (flatA_pl hp)⟩
theorem atI_get {ds : List D} {i : Int} {d : D} (h : L2.atI ds i = some d) (h0 : 0 ≤ i) : ds[i.toNat]? = some d := by
  unfold L2.atI ixN at h
  rw [if_pos h0] at h
  split at h
  · exact h
  · cases h
/-- lists of words, of days -/
def WL (ds : List D) : Prop := 0 < ds.length ∧ ds.length ≤ 100 ∧ ∀ d ∈ ds, ∃ z, d = .str z ∧ Tx7 z ∧ isW (.str z) = true
theorem WL.at {ds : List D} (h : WL ds) {k : Int} (h0 : 0 ≤ k) (h1 : k < ds.length) : ∃ z, L2.atI ds k = some (.str z) ∧ Tx7 z ∧ isW (.str z) = true := by
  obtain ⟨d, e, m⟩ := at_in h0 h1
  obtain ⟨z, rfl, h2, h3⟩ := h.2.2 d m
  exact ⟨z, e, h2, h3⟩
theorem pick_int {l : List D} {k : Int} (h0 : 0 ≤ k) (h1 : k < l.length) (P : Int → Prop) (hl : ∀ d ∈ l, ∃ i, d = .int i ∧ P i) {Q : D → Prop} (q : ∀ i, P i → Q (.int i)) : onS (ixD (.list l) (.int k)) Q := by
  obtain ⟨d, e, m⟩ := at_in h0 h1
  obtain ⟨i, rfl, hi⟩ := hl d m
  exact ⟨_, e, q i hi⟩
theorem pick_word {ds : List D} (h : WL ds) {k : Int} (h0 : 0 ≤ k) (h1 : k < ds.length) {Q : D → Prop} (q : ∀ z, Tx7 z → isW (.str z) = true → Q (.str z)) : onS (ixD (.list ds) (.int k)) Q := by
  obtain ⟨z, e, h2, h3⟩ := h.at h0 h1
  exact ⟨_, e, q z h2 h3⟩
theorem WL.pos {ds : List D} (h : WL ds) : 0 < (ds.length : Int) := by
  have := h.1
  omega
theorem WL.low {ds : List D} (h : WL ds) : (ds.length : Int) < 18446744073709551616 := by
  have := h.2.1
  omega
theorem mul01 {i : Int} {b : Bool} {k : D → Prop} (hi : 0 ≤ i ∧ i ≤ 1000000000) (q : ∀ j, 0 ≤ j ∧ j ≤ 1000000000 → k (.int j)) : onS (intD [.bool b]) fun z => onS (mulD (.int i) z) k := by
  rw [v_intB]
  cases b
  · rw [if_neg (by decide), v_mul]
    exact ⟨by omega, q _ (by omega)⟩
  · rw [if_pos rfl, v_mul]
    exact ⟨by omega, q _ (by omega)⟩
section
variable {k : D → Prop} {a_comes a_trial a_back a_keep a_give a_goes a_double a_promise a_loose a_want a_owe a_pay : D}
theorem gd0 : onS (dispD [(PyData.str "comes", a_comes), (PyData.str "trial", a_trial), (PyData.str "back", a_back)]) k ↔ k (.dict [(PyData.str "comes", a_comes), (PyData.str "trial", a_trial), (PyData.str "back", a_back)]) := by rw [show dispD [(PyData.str "comes", a_comes), (PyData.str "trial", a_trial), (PyData.str "back", a_back)] = some (.dict [(PyData.str "comes", a_comes), (PyData.str "trial", a_trial), (PyData.str "back", a_back)]) from rfl, onS_some]
theorem gd1 : onS (dispD [(PyData.str "keep", a_keep), (PyData.str "give", a_give), (PyData.str "goes", a_goes)]) k ↔ k (.dict [(PyData.str "keep", a_keep), (PyData.str "give", a_give), (PyData.str "goes", a_goes)]) := by rw [show dispD [(PyData.str "keep", a_keep), (PyData.str "give", a_give), (PyData.str "goes", a_goes)] = some (.dict [(PyData.str "keep", a_keep), (PyData.str "give", a_give), (PyData.str "goes", a_goes)]) from rfl, onS_some]
theorem gd2 : onS (dispD [(PyData.str "double", a_double), (PyData.str "promise", a_promise)]) k ↔ k (.dict [(PyData.str "double", a_double), (PyData.str "promise", a_promise)]) := by rw [show dispD [(PyData.str "double", a_double), (PyData.str "promise", a_promise)] = some (.dict [(PyData.str "double", a_double), (PyData.str "promise", a_promise)]) from rfl, onS_some]
theorem gd3 : onS (dispD [(PyData.str "loose", a_loose), (PyData.str "want", a_want)]) k ↔ k (.dict [(PyData.str "loose", a_loose), (PyData.str "want", a_want)]) := by rw [show dispD [(PyData.str "loose", a_loose), (PyData.str "want", a_want)] = some (.dict [(PyData.str "loose", a_loose), (PyData.str "want", a_want)]) from rfl, onS_some]
theorem gd4 : onS (dispD [(PyData.str "owe", a_owe), (PyData.str "pay", a_pay)]) k ↔ k (.dict [(PyData.str "owe", a_owe), (PyData.str "pay", a_pay)]) := by rw [show dispD [(PyData.str "owe", a_owe), (PyData.str "pay", a_pay)] = some (.dict [(PyData.str "owe", a_owe), (PyData.str "pay", a_pay)]) from rfl, onS_some]
theorem gm0 : mergeD [(PyData.str "comes", a_comes), (PyData.str "trial", a_trial), (PyData.str "back", a_back)] [(PyData.str "keep", a_keep), (PyData.str "give", a_give), (PyData.str "goes", a_goes)] = [(PyData.str "comes", a_comes), (PyData.str "trial", a_trial), (PyData.str "back", a_back), (PyData.str "keep", a_keep), (PyData.str "give", a_give), (PyData.str "goes", a_goes)] := rfl
theorem gm1 : mergeD [(PyData.str "comes", a_comes), (PyData.str "trial", a_trial), (PyData.str "back", a_back), (PyData.str "keep", a_keep), (PyData.str "give", a_give), (PyData.str "goes", a_goes)] [(PyData.str "double", a_double), (PyData.str "promise", a_promise)] = [(PyData.str "comes", a_comes), (PyData.str "trial", a_trial), (PyData.str "back", a_back), (PyData.str "keep", a_keep), (PyData.str "give", a_give), (PyData.str "goes", a_goes), (PyData.str "double", a_double), (PyData.str "promise", a_promise)] := rfl
theorem gm2 : mergeD [(PyData.str "comes", a_comes), (PyData.str "trial", a_trial), (PyData.str "back", a_back), (PyData.str "keep", a_keep), (PyData.str "give", a_give), (PyData.str "goes", a_goes), (PyData.str "double", a_double), (PyData.str "promise", a_promise)] [(PyData.str "loose", a_loose), (PyData.str "want", a_want)] = [(PyData.str "comes", a_comes), (PyData.str "trial", a_trial), (PyData.str "back", a_back), (PyData.str "keep", a_keep), (PyData.str "give", a_give), (PyData.str "goes", a_goes), (PyData.str "double", a_double), (PyData.str "promise", a_promise), (PyData.str "loose", a_loose), (PyData.str "want", a_want)] := rfl
theorem gm3 : mergeD [(PyData.str "comes", a_comes), (PyData.str "trial", a_trial), (PyData.str "back", a_back), (PyData.str "keep", a_keep), (PyData.str "give", a_give), (PyData.str "goes", a_goes), (PyData.str "double", a_double), (PyData.str "promise", a_promise), (PyData.str "loose", a_loose), (PyData.str "want", a_want)] [(PyData.str "owe", a_owe), (PyData.str "pay", a_pay)] = [(PyData.str "comes", a_comes), (PyData.str "trial", a_trial), (PyData.str "back", a_back), (PyData.str "keep", a_keep), (PyData.str "give", a_give), (PyData.str "goes", a_goes), (PyData.str "double", a_double), (PyData.str "promise", a_promise), (PyData.str "loose", a_loose), (PyData.str "want", a_want), (PyData.str "owe", a_owe), (PyData.str "pay", a_pay)] := rfl
theorem gg_comes : dgetD [(PyData.str "comes", a_comes), (PyData.str "trial", a_trial), (PyData.str "back", a_back), (PyData.str "keep", a_keep), (PyData.str "give", a_give), (PyData.str "goes", a_goes), (PyData.str "double", a_double), (PyData.str "promise", a_promise), (PyData.str "loose", a_loose), (PyData.str "want", a_want), (PyData.str "owe", a_owe), (PyData.str "pay", a_pay)] (.str "comes") = some a_comes := rfl
theorem gg_trial : dgetD [(PyData.str "comes", a_comes), (PyData.str "trial", a_trial), (PyData.str "back", a_back), (PyData.str "keep", a_keep), (PyData.str "give", a_give), (PyData.str "goes", a_goes), (PyData.str "double", a_double), (PyData.str "promise", a_promise), (PyData.str "loose", a_loose), (PyData.str "want", a_want), (PyData.str "owe", a_owe), (PyData.str "pay", a_pay)] (.str "trial") = some a_trial := rfl
theorem gg_back : dgetD [(PyData.str "comes", a_comes), (PyData.str "trial", a_trial), (PyData.str "back", a_back), (PyData.str "keep", a_keep), (PyData.str "give", a_give), (PyData.str "goes", a_goes), (PyData.str "double", a_double), (PyData.str "promise", a_promise), (PyData.str "loose", a_loose), (PyData.str "want", a_want), (PyData.str "owe", a_owe), (PyData.str "pay", a_pay)] (.str "back") = some a_back := rfl
theorem gg_keep : dgetD [(PyData.str "comes", a_comes), (PyData.str "trial", a_trial), (PyData.str "back", a_back), (PyData.str "keep", a_keep), (PyData.str "give", a_give), (PyData.str "goes", a_goes), (PyData.str "double", a_double), (PyData.str "promise", a_promise), (PyData.str "loose", a_loose), (PyData.str "want", a_want), (PyData.str "owe", a_owe), (PyData.str "pay", a_pay)] (.str "keep") = some a_keep := rfl
theorem gg_give : dgetD [(PyData.str "comes", a_comes), (PyData.str "trial", a_trial), (PyData.str "back", a_back), (PyData.str "keep", a_keep), (PyData.str "give", a_give), (PyData.str "goes", a_goes), (PyData.str "double", a_double), (PyData.str "promise", a_promise), (PyData.str "loose", a_loose), (PyData.str "want", a_want), (PyData.str "owe", a_owe), (PyData.str "pay", a_pay)] (.str "give") = some a_give := rfl
theorem gg_goes : dgetD [(PyData.str "comes", a_comes), (PyData.str "trial", a_trial), (PyData.str "back", a_back), (PyData.str "keep", a_keep), (PyData.str "give", a_give), (PyData.str "goes", a_goes), (PyData.str "double", a_double), (PyData.str "promise", a_promise), (PyData.str "loose", a_loose), (PyData.str "want", a_want), (PyData.str "owe", a_owe), (PyData.str "pay", a_pay)] (.str "goes") = some a_goes := rfl
theorem gg_double : dgetD [(PyData.str "comes", a_comes), (PyData.str "trial", a_trial), (PyData.str "back", a_back), (PyData.str "keep", a_keep), (PyData.str "give", a_give), (PyData.str "goes", a_goes), (PyData.str "double", a_double), (PyData.str "promise", a_promise), (PyData.str "loose", a_loose), (PyData.str "want", a_want), (PyData.str "owe", a_owe), (PyData.str "pay", a_pay)] (.str "double") = some a_double := rfl
theorem gg_promise : dgetD [(PyData.str "comes", a_comes), (PyData.str "trial", a_trial), (PyData.str "back", a_back), (PyData.str "keep", a_keep), (PyData.str "give", a_give), (PyData.str "goes", a_goes), (PyData.str "double", a_double), (PyData.str "promise", a_promise), (PyData.str "loose", a_loose), (PyData.str "want", a_want), (PyData.str "owe", a_owe), (PyData.str "pay", a_pay)] (.str "promise") = some a_promise := rfl
theorem gg_loose : dgetD [(PyData.str "comes", a_comes), (PyData.str "trial", a_trial), (PyData.str "back", a_back), (PyData.str "keep", a_keep), (PyData.str "give", a_give), (PyData.str "goes", a_goes), (PyData.str "double", a_double), (PyData.str "promise", a_promise), (PyData.str "loose", a_loose), (PyData.str "want", a_want), (PyData.str "owe", a_owe), (PyData.str "pay", a_pay)] (.str "loose") = some a_loose := rfl
theorem gg_want : dgetD [(PyData.str "comes", a_comes), (PyData.str "trial", a_trial), (PyData.str "back", a_back), (PyData.str "keep", a_keep), (PyData.str "give", a_give), (PyData.str "goes", a_goes), (PyData.str "double", a_double), (PyData.str "promise", a_promise), (PyData.str "loose", a_loose), (PyData.str "want", a_want), (PyData.str "owe", a_owe), (PyData.str "pay", a_pay)] (.str "want") = some a_want := rfl
theorem gg_owe : dgetD [(PyData.str "comes", a_comes), (PyData.str "trial", a_trial), (PyData.str "back", a_back), (PyData.str "keep", a_keep), (PyData.str "give", a_give), (PyData.str "goes", a_goes), (PyData.str "double", a_double), (PyData.str "promise", a_promise), (PyData.str "loose", a_loose), (PyData.str "want", a_want), (PyData.str "owe", a_owe), (PyData.str "pay", a_pay)] (.str "owe") = some a_owe := rfl
theorem gg_pay : dgetD [(PyData.str "comes", a_comes), (PyData.str "trial", a_trial), (PyData.str "back", a_back), (PyData.str "keep", a_keep), (PyData.str "give", a_give), (PyData.str "goes", a_goes), (PyData.str "double", a_double), (PyData.str "promise", a_promise), (PyData.str "loose", a_loose), (PyData.str "want", a_want), (PyData.str "owe", a_owe), (PyData.str "pay", a_pay)] (.str "pay") = some a_pay := rfl
end
theorem sh_comes : (("comes" : Str), 5) ∈ shapes := by decide
theorem sh_trial : (("trial" : Str), 6) ∈ shapes := by decide
theorem sh_back : (("back" : Str), 5) ∈ shapes := by decide
theorem sh_keep : (("keep" : Str), 5) ∈ shapes := by decide
theorem sh_give : (("give" : Str), 7) ∈ shapes := by decide
theorem sh_goes : (("goes" : Str), 4) ∈ shapes := by decide
theorem sh_double : (("double" : Str), 4) ∈ shapes := by decide
theorem sh_promise : (("promise" : Str), 6) ∈ shapes := by decide
theorem sh_loose : (("loose" : Str), 3) ∈ shapes := by decide
theorem sh_want : (("want" : Str), 5) ∈ shapes := by decide
theorem sh_owe : (("owe" : Str), 5) ∈ shapes := by decide
theorem sh_pay : (("pay" : Str), 5) ∈ shapes := by decide
structure Sorts (d : D) : Prop where
  ex : ∃ hs ts ks ns, d = .tuple [.list hs, .list ts, .list ks, .list ns] ∧ WordsD hs 4 ∧ WL ts ∧ WL ks ∧ WL ns
def Days (ds : List D) : Prop := ds.length = 4 ∧ ∀ d ∈ ds, ∃ i : Int, d = .int i ∧ 0 ≤ i ∧ i ≤ 999
/-- a page that was made -/
structure Made (d : D) : Prop where
  ex : ∃ w ps, d = .tuple (.str w :: ps) ∧ (w, ps.length) ∈ shapes ∧ (∀ p ∈ ps, (∃ i, p = .int i) ∨ ∃ z, p = .str z ∧ Tx7 z ∧ isW (.str z) = true) ∧ (∃ i, ps[1]? = some (.int i)) ∧ m_is_page [d] = some (.bool true)
theorem page_ok {p : D} (hp : Pen p) {z : Str} (hz : Tx7 z) (hzw : isW (.str z) = true) {sorts : D} (hso : Sorts sorts) {days : List D} (hd : Days days) {Q : D → D → Prop} (q : ∀ d p', Pen p' → Made d → Q d p') : MP m__law_page p [.str z, sorts, .list days] Q := by
  obtain ⟨hs, ts, ks, ns, rfl, h1, h2, h3, h4⟩ := hso.ex
  refine MP_of rfl ?_
  show Sp2 g__law_page [some _, some _, some _, some _, none, none, none, none, none, none, none, none, none, none, none, none, none, none, none, none, none] _
  unfold g__law_page
  simp only [↓S_next, ↓S_bk, ↓S_ct, ↓S_rtd, ↓S_seq, ↓S_set, ↓S_drop, ↓S_ret, ↓S_if, ↓S_asg, ↓S_put, ↓S_app, ↓S_ext, ↓S_for, ↓Wp_pure, ↓Wp_opt, ↓Wp_bind, ↓Wp_ite, ↓Wp_var, ↓Wp_op, ↓Wp_un, ↓Wp_test, ↓Wp_dand, ↓Wp_dor, ↓Wp_dnot, ↓Wp_dandV, ↓Wp_dorV, ↓Wp_dnotV, ↓Wp_chain, ↓Wp_cb, ↓Wp_cons, ↓Wp_nil, ↓Wp_tup, ↓Wp_lst, ↓Wp_part, ↓Wp_nopart, ↓Wp_slice, ↓Wp_isi, ↓Wp_isi2, ↓Wp_m1, ↓Wp_call, ↓Wp_pix, ↓Wp_callP0, ↓Wp_callP1, ↓Wp_comp, ↓Wp_disp, ↓Wp_dpnil, ↓Wp_dpcons, ↓Wp_flat, ↓onNx_nx, ↓onNx_bk, ↓onNx_ct, ↓onNx_rt, ↓onRt_rt, ↓onRt_nx, ↓onS_some, ↓onB_b, ↓onI_i, ↓onStr_s, ↓onL_l, ↓lk_0, ↓lk_S, ↓onSet_0, ↓onSet_S, ↓onPut_0, ↓onPut_S, ↓ite_dec, ↓ite_ndec, ↓ite_tt, ↓ite_ff, ↓ite_nt, ↓ite_nf, ↓v_gt, ↓v_lt, ↓v_le, ↓v_ge, ↓v_ltS, ↓v_add, ↓v_addS, ↓v_addL, ↓v_addT, ↓v_addN, ↓v_sub, ↓v_mul, ↓v_mulS, ↓v_mod, ↓v_fdiv, ↓v_pow, ↓v_neg, ↓v_lenL, ↓v_lenT, ↓v_lenS, ↓v_abs, ↓v_rev, ↓v_all, ↓v_any, ↓v_sum, ↓v_eq, ↓v_ne, ↓v_in, ↓v_notIn, ↓q_ii, ↓q_ss, ↓items_l, ↓items_t, ↓items_s, ↓items_r1, ↓items_r2, ↓sl_l, ↓sl_t, ↓sl_s, ↓put_1, ↓put_2, ↓pen_0, ↓pen_1, ↓pen_2, ↓v_ixL, ↓v_ixT, ↓ins_NoneType_none, ↓ins_NoneType_bool, ↓ins_NoneType_int, ↓ins_NoneType_str, ↓ins_NoneType_list, ↓ins_NoneType_tuple, ↓ins_NoneType_dict, ↓ins_bool_none, ↓ins_bool_bool, ↓ins_bool_int, ↓ins_bool_str, ↓ins_bool_list, ↓ins_bool_tuple, ↓ins_bool_dict, ↓ins_int_none, ↓ins_int_bool, ↓ins_int_int, ↓ins_int_str, ↓ins_int_list, ↓ins_int_tuple, ↓ins_int_dict, ↓ins_str_none, ↓ins_str_bool, ↓ins_str_int, ↓ins_str_str, ↓ins_str_list, ↓ins_str_tuple, ↓ins_str_dict, ↓ins_list_none, ↓ins_list_bool, ↓ins_list_int, ↓ins_list_str, ↓ins_list_list, ↓ins_list_tuple, ↓ins_list_dict, ↓ins_tuple_none, ↓ins_tuple_bool, ↓ins_tuple_int, ↓ins_tuple_str, ↓ins_tuple_list, ↓ins_tuple_tuple, ↓ins_tuple_dict, ↓ins_dict_none, ↓ins_dict_bool, ↓ins_dict_int, ↓ins_dict_str, ↓ins_dict_list, ↓ins_dict_tuple, ↓ins_dict_dict, ↓in_sign, ↓onClr_0, ↓onClr_S, ↓onW_nil, ↓onW_cons, ↓onRe_0, ↓onRe_S, ↓onBk_nil, ↓onBk_cons, ↓onTwo_l, ↓S_par, ↓a_tup, ↓onG_name, ↓onG_tup, ↓onGs_nil, ↓onGs_cons, ↓onTurn_nx, ↓onTurn_ct, ↓onTurn_bk, ↓onTurn_rt, ↓onLD_d, ↓v_ixAd, ↓v_inAd, ↓v_notInAd, ↓S_upd, ↓v_zip, ↓Wp_flatA, ↓v_int, ↓v_intB, ↓v_min, ↓v_gin, ↓v_gnin, ↓v_gix, ↓reduceIte]
  refine ⟨rfl, lineB (by simp), draw_ok hp (by decide) (by decide) fun k1 p1 hp1 a1 b1 => ?_⟩
  obtain ⟨dw, ew, mw⟩ := at_in (ds := [PyData.str "comes", .str "trial", .str "back", .str "keep", .str "give", .str "goes", .str "double", .str "promise", .str "loose", .str "want", .str "owe", .str "pay"]) a1 (by simpa using b1)
  refine ⟨dw, ew, draw_ok hp1 (by rw [hd.1]; decide) (by rw [hd.1]; decide) fun k2 p2 hp2 a2 b2 => ?_⟩
  obtain ⟨dd, ed, md⟩ := at_in (ds := days) a2 b2
  obtain ⟨day, rfl, hday0, hday1⟩ := hd.2 dd md
  refine ⟨_, ed, draw_ok hp2 (by rw [h1.len]; decide) (by rw [h1.len]; decide) fun k3 p3 hp3 a3 b3 => ?_⟩
  simp only [↓S_next, ↓S_bk, ↓S_ct, ↓S_rtd, ↓S_seq, ↓S_set, ↓S_drop, ↓S_ret, ↓S_if, ↓S_asg, ↓S_put, ↓S_app, ↓S_ext, ↓S_for, ↓Wp_pure, ↓Wp_opt, ↓Wp_bind, ↓Wp_ite, ↓Wp_var, ↓Wp_op, ↓Wp_un, ↓Wp_test, ↓Wp_dand, ↓Wp_dor, ↓Wp_dnot, ↓Wp_dandV, ↓Wp_dorV, ↓Wp_dnotV, ↓Wp_chain, ↓Wp_cb, ↓Wp_cons, ↓Wp_nil, ↓Wp_tup, ↓Wp_lst, ↓Wp_part, ↓Wp_nopart, ↓Wp_slice, ↓Wp_isi, ↓Wp_isi2, ↓Wp_m1, ↓Wp_call, ↓Wp_pix, ↓Wp_callP0, ↓Wp_callP1, ↓Wp_comp, ↓Wp_disp, ↓Wp_dpnil, ↓Wp_dpcons, ↓Wp_flat, ↓onNx_nx, ↓onNx_bk, ↓onNx_ct, ↓onNx_rt, ↓onRt_rt, ↓onRt_nx, ↓onS_some, ↓onB_b, ↓onI_i, ↓onStr_s, ↓onL_l, ↓lk_0, ↓lk_S, ↓onSet_0, ↓onSet_S, ↓onPut_0, ↓onPut_S, ↓ite_dec, ↓ite_ndec, ↓ite_tt, ↓ite_ff, ↓ite_nt, ↓ite_nf, ↓v_gt, ↓v_lt, ↓v_le, ↓v_ge, ↓v_ltS, ↓v_add, ↓v_addS, ↓v_addL, ↓v_addT, ↓v_addN, ↓v_sub, ↓v_mul, ↓v_mulS, ↓v_mod, ↓v_fdiv, ↓v_pow, ↓v_neg, ↓v_lenL, ↓v_lenT, ↓v_lenS, ↓v_abs, ↓v_rev, ↓v_all, ↓v_any, ↓v_sum, ↓v_eq, ↓v_ne, ↓v_in, ↓v_notIn, ↓q_ii, ↓q_ss, ↓items_l, ↓items_t, ↓items_s, ↓items_r1, ↓items_r2, ↓sl_l, ↓sl_t, ↓sl_s, ↓put_1, ↓put_2, ↓pen_0, ↓pen_1, ↓pen_2, ↓v_ixL, ↓v_ixT, ↓ins_NoneType_none, ↓ins_NoneType_bool, ↓ins_NoneType_int, ↓ins_NoneType_str, ↓ins_NoneType_list, ↓ins_NoneType_tuple, ↓ins_NoneType_dict, ↓ins_bool_none, ↓ins_bool_bool, ↓ins_bool_int, ↓ins_bool_str, ↓ins_bool_list, ↓ins_bool_tuple, ↓ins_bool_dict, ↓ins_int_none, ↓ins_int_bool, ↓ins_int_int, ↓ins_int_str, ↓ins_int_list, ↓ins_int_tuple, ↓ins_int_dict, ↓ins_str_none, ↓ins_str_bool, ↓ins_str_int, ↓ins_str_str, ↓ins_str_list, ↓ins_str_tuple, ↓ins_str_dict, ↓ins_list_none, ↓ins_list_bool, ↓ins_list_int, ↓ins_list_str, ↓ins_list_list, ↓ins_list_tuple, ↓ins_list_dict, ↓ins_tuple_none, ↓ins_tuple_bool, ↓ins_tuple_int, ↓ins_tuple_str, ↓ins_tuple_list, ↓ins_tuple_tuple, ↓ins_tuple_dict, ↓ins_dict_none, ↓ins_dict_bool, ↓ins_dict_int, ↓ins_dict_str, ↓ins_dict_list, ↓ins_dict_tuple, ↓ins_dict_dict, ↓in_sign, ↓onClr_0, ↓onClr_S, ↓onW_nil, ↓onW_cons, ↓onRe_0, ↓onRe_S, ↓onBk_nil, ↓onBk_cons, ↓onTwo_l, ↓S_par, ↓a_tup, ↓onG_name, ↓onG_tup, ↓onGs_nil, ↓onGs_cons, ↓onTurn_nx, ↓onTurn_ct, ↓onTurn_bk, ↓onTurn_rt, ↓onLD_d, ↓v_ixAd, ↓v_inAd, ↓v_notInAd, ↓S_upd, ↓v_zip, ↓Wp_flatA, ↓v_int, ↓v_intB, ↓v_min, ↓v_gin, ↓v_gnin, ↓v_gix, ↓reduceIte]
  obtain ⟨do_, eo, mo⟩ := at_in (ds := hs) a3 b3
  obtain ⟨zo, rfl, hzo, hzow⟩ := h1.word do_ mo
  refine ⟨_, eo, draw_ok hp3 (by rw [h1.len]; decide) (by rw [h1.len]; decide) fun k4 p4 hp4 a4 b4 => ?_⟩
  rw [h1.len] at b3 b4
  have hm4 : (k3 + 1 + k4) % (4 : Int) < 4 := Int.emod_lt_of_pos _ (by decide)
  have hm0 : 0 ≤ (k3 + 1 + k4) % (4 : Int) := Int.emod_nonneg _ (by decide)
  obtain ⟨dh, eh, mh⟩ := at_in (ds := hs) (i := (k3 + 1 + k4) % (4 : Int)) hm0 (by rw [h1.len]; exact hm4)
  obtain ⟨zh, rfl, hzh, hzhw⟩ := h1.word dh mh
  have hne : zo ≠ zh := fun e => by
    subst e
    have g1 := atI_get eo a3
    have g2 := atI_get eh hm0
    exact h1.ne _ _ _ _ g1 g2 (by omega) rfl
  simp only [↓S_next, ↓S_bk, ↓S_ct, ↓S_rtd, ↓S_seq, ↓S_set, ↓S_drop, ↓S_ret, ↓S_if, ↓S_asg, ↓S_put, ↓S_app, ↓S_ext, ↓S_for, ↓Wp_pure, ↓Wp_opt, ↓Wp_bind, ↓Wp_ite, ↓Wp_var, ↓Wp_op, ↓Wp_un, ↓Wp_test, ↓Wp_dand, ↓Wp_dor, ↓Wp_dnot, ↓Wp_dandV, ↓Wp_dorV, ↓Wp_dnotV, ↓Wp_chain, ↓Wp_cb, ↓Wp_cons, ↓Wp_nil, ↓Wp_tup, ↓Wp_lst, ↓Wp_part, ↓Wp_nopart, ↓Wp_slice, ↓Wp_isi, ↓Wp_isi2, ↓Wp_m1, ↓Wp_call, ↓Wp_pix, ↓Wp_callP0, ↓Wp_callP1, ↓Wp_comp, ↓Wp_disp, ↓Wp_dpnil, ↓Wp_dpcons, ↓Wp_flat, ↓onNx_nx, ↓onNx_bk, ↓onNx_ct, ↓onNx_rt, ↓onRt_rt, ↓onRt_nx, ↓onS_some, ↓onB_b, ↓onI_i, ↓onStr_s, ↓onL_l, ↓lk_0, ↓lk_S, ↓onSet_0, ↓onSet_S, ↓onPut_0, ↓onPut_S, ↓ite_dec, ↓ite_ndec, ↓ite_tt, ↓ite_ff, ↓ite_nt, ↓ite_nf, ↓v_gt, ↓v_lt, ↓v_le, ↓v_ge, ↓v_ltS, ↓v_add, ↓v_addS, ↓v_addL, ↓v_addT, ↓v_addN, ↓v_sub, ↓v_mul, ↓v_mulS, ↓v_mod, ↓v_fdiv, ↓v_pow, ↓v_neg, ↓v_lenL, ↓v_lenT, ↓v_lenS, ↓v_abs, ↓v_rev, ↓v_all, ↓v_any, ↓v_sum, ↓v_eq, ↓v_ne, ↓v_in, ↓v_notIn, ↓q_ii, ↓q_ss, ↓items_l, ↓items_t, ↓items_s, ↓items_r1, ↓items_r2, ↓sl_l, ↓sl_t, ↓sl_s, ↓put_1, ↓put_2, ↓pen_0, ↓pen_1, ↓pen_2, ↓v_ixL, ↓v_ixT, ↓ins_NoneType_none, ↓ins_NoneType_bool, ↓ins_NoneType_int, ↓ins_NoneType_str, ↓ins_NoneType_list, ↓ins_NoneType_tuple, ↓ins_NoneType_dict, ↓ins_bool_none, ↓ins_bool_bool, ↓ins_bool_int, ↓ins_bool_str, ↓ins_bool_list, ↓ins_bool_tuple, ↓ins_bool_dict, ↓ins_int_none, ↓ins_int_bool, ↓ins_int_int, ↓ins_int_str, ↓ins_int_list, ↓ins_int_tuple, ↓ins_int_dict, ↓ins_str_none, ↓ins_str_bool, ↓ins_str_int, ↓ins_str_str, ↓ins_str_list, ↓ins_str_tuple, ↓ins_str_dict, ↓ins_list_none, ↓ins_list_bool, ↓ins_list_int, ↓ins_list_str, ↓ins_list_list, ↓ins_list_tuple, ↓ins_list_dict, ↓ins_tuple_none, ↓ins_tuple_bool, ↓ins_tuple_int, ↓ins_tuple_str, ↓ins_tuple_list, ↓ins_tuple_tuple, ↓ins_tuple_dict, ↓ins_dict_none, ↓ins_dict_bool, ↓ins_dict_int, ↓ins_dict_str, ↓ins_dict_list, ↓ins_dict_tuple, ↓ins_dict_dict, ↓in_sign, ↓onClr_0, ↓onClr_S, ↓onW_nil, ↓onW_cons, ↓onRe_0, ↓onRe_S, ↓onBk_nil, ↓onBk_cons, ↓onTwo_l, ↓S_par, ↓a_tup, ↓onG_name, ↓onG_tup, ↓onGs_nil, ↓onGs_cons, ↓onTurn_nx, ↓onTurn_ct, ↓onTurn_bk, ↓onTurn_rt, ↓onLD_d, ↓v_ixAd, ↓v_inAd, ↓v_notInAd, ↓S_upd, ↓v_zip, ↓Wp_flatA, ↓v_int, ↓v_intB, ↓v_min, ↓v_gin, ↓v_gnin, ↓v_gix, ↓reduceIte, h1.len]
  refine ⟨by decide, _, eh, ?_⟩
  simp only [ten9]
  refine draw_ok hp4 h2.pos h2.low fun k5 p5 hp5 a5 b5 => pick_word h2 a5 b5 fun zt hzt hztw => draw_ok hp5 h3.pos h3.low fun k6 p6 hp6 a6 b6 => pick_word h3 a6 b6 fun zk hzk hzkw => draw_ok hp6 (by decide) (by decide) fun k7 p7 hp7 a7 b7 => ⟨lineB (by simp), draw_ok hp7 (by decide) (by decide) fun k8 p8 hp8 a8 b8 =>
    pick_int a8 (by simpa using b8) (fun i => 0 ≤ i ∧ i ≤ 9) (fun d m => ?_) fun many hmany => ⟨by decide, draw_ok hp8 (by decide) (by decide) fun k9 p9 hp9 a9 b9 => v_add.mpr ⟨by decide, draw_ok hp9 (by decide) (by decide) fun k10 p10 hp10 a10 b10 => v_add.mpr ⟨lineB (by simp), ?_⟩⟩⟩⟩
  · simp only [List.mem_cons, List.not_mem_nil, or_false] at m
    rcases m with h | h | h | h
    · exact ⟨_, h, by decide⟩
    · exact ⟨_, h, by decide⟩
    · exact ⟨_, h, by decide⟩
    · exact ⟨_, h, a7, by omega⟩
  refine draw_ok hp10 (by decide) (by decide) fun k11 p11 hp11 a11 b11 => pick_int a11 (by simpa using b11) (fun i => 1 ≤ i ∧ i ≤ 1000000000) (fun d m => ?_) fun worth hworth => draw_ok hp11 (by decide) (by decide) fun k12 p12 hp12 a12 b12 => v_gt.mpr (mul01 (by omega) fun free hfree => ?_)
  · simp only [List.mem_cons, List.not_mem_nil, or_false] at m
    rcases m with h | h | h | h
    · exact ⟨_, h, by decide⟩
    · exact ⟨_, h, by decide⟩
    · exact ⟨_, h, by omega⟩
    · exact ⟨_, h, by omega⟩
  refine draw_ok hp12 (by decide) (by decide) fun k13 p13 hp13 a13 b13 => v_add.mpr (v_min.mpr ⟨lineB (by simp), draw_ok hp13 (by decide) (by decide) fun k14 p14 hp14 a14 b14 => pick_int a14 (by simpa using b14) (fun i => day ≤ i ∧ i ≤ 999) (fun d m => ?_) fun due hdue => ?_⟩)
  · simp only [List.mem_cons, List.not_mem_nil, or_false] at m
    rcases m with h | h | h
    · exact ⟨_, h, by omega⟩
    · exact ⟨_, h, by split <;> omega⟩
    · exact ⟨_, h, by omega⟩
  simp only [↓S_next, ↓S_bk, ↓S_ct, ↓S_rtd, ↓S_seq, ↓S_set, ↓S_drop, ↓S_ret, ↓S_if, ↓S_asg, ↓S_put, ↓S_app, ↓S_ext, ↓S_for, ↓Wp_pure, ↓Wp_opt, ↓Wp_bind, ↓Wp_ite, ↓Wp_var, ↓Wp_op, ↓Wp_un, ↓Wp_test, ↓Wp_dand, ↓Wp_dor, ↓Wp_dnot, ↓Wp_dandV, ↓Wp_dorV, ↓Wp_dnotV, ↓Wp_chain, ↓Wp_cb, ↓Wp_cons, ↓Wp_nil, ↓Wp_tup, ↓Wp_lst, ↓Wp_part, ↓Wp_nopart, ↓Wp_slice, ↓Wp_isi, ↓Wp_isi2, ↓Wp_m1, ↓Wp_call, ↓Wp_pix, ↓Wp_callP0, ↓Wp_callP1, ↓Wp_comp, ↓Wp_disp, ↓Wp_dpnil, ↓Wp_dpcons, ↓Wp_flat, ↓onNx_nx, ↓onNx_bk, ↓onNx_ct, ↓onNx_rt, ↓onRt_rt, ↓onRt_nx, ↓onS_some, ↓onB_b, ↓onI_i, ↓onStr_s, ↓onL_l, ↓lk_0, ↓lk_S, ↓onSet_0, ↓onSet_S, ↓onPut_0, ↓onPut_S, ↓ite_dec, ↓ite_ndec, ↓ite_tt, ↓ite_ff, ↓ite_nt, ↓ite_nf, ↓v_gt, ↓v_lt, ↓v_le, ↓v_ge, ↓v_ltS, ↓v_add, ↓v_addS, ↓v_addL, ↓v_addT, ↓v_addN, ↓v_sub, ↓v_mul, ↓v_mulS, ↓v_mod, ↓v_fdiv, ↓v_pow, ↓v_neg, ↓v_lenL, ↓v_lenT, ↓v_lenS, ↓v_abs, ↓v_rev, ↓v_all, ↓v_any, ↓v_sum, ↓v_eq, ↓v_ne, ↓v_in, ↓v_notIn, ↓q_ii, ↓q_ss, ↓items_l, ↓items_t, ↓items_s, ↓items_r1, ↓items_r2, ↓sl_l, ↓sl_t, ↓sl_s, ↓put_1, ↓put_2, ↓pen_0, ↓pen_1, ↓pen_2, ↓v_ixL, ↓v_ixT, ↓ins_NoneType_none, ↓ins_NoneType_bool, ↓ins_NoneType_int, ↓ins_NoneType_str, ↓ins_NoneType_list, ↓ins_NoneType_tuple, ↓ins_NoneType_dict, ↓ins_bool_none, ↓ins_bool_bool, ↓ins_bool_int, ↓ins_bool_str, ↓ins_bool_list, ↓ins_bool_tuple, ↓ins_bool_dict, ↓ins_int_none, ↓ins_int_bool, ↓ins_int_int, ↓ins_int_str, ↓ins_int_list, ↓ins_int_tuple, ↓ins_int_dict, ↓ins_str_none, ↓ins_str_bool, ↓ins_str_int, ↓ins_str_str, ↓ins_str_list, ↓ins_str_tuple, ↓ins_str_dict, ↓ins_list_none, ↓ins_list_bool, ↓ins_list_int, ↓ins_list_str, ↓ins_list_list, ↓ins_list_tuple, ↓ins_list_dict, ↓ins_tuple_none, ↓ins_tuple_bool, ↓ins_tuple_int, ↓ins_tuple_str, ↓ins_tuple_list, ↓ins_tuple_tuple, ↓ins_tuple_dict, ↓ins_dict_none, ↓ins_dict_bool, ↓ins_dict_int, ↓ins_dict_str, ↓ins_dict_list, ↓ins_dict_tuple, ↓ins_dict_dict, ↓in_sign, ↓onClr_0, ↓onClr_S, ↓onW_nil, ↓onW_cons, ↓onRe_0, ↓onRe_S, ↓onBk_nil, ↓onBk_cons, ↓onTwo_l, ↓S_par, ↓a_tup, ↓onG_name, ↓onG_tup, ↓onGs_nil, ↓onGs_cons, ↓onTurn_nx, ↓onTurn_ct, ↓onTurn_bk, ↓onTurn_rt, ↓onLD_d, ↓v_ixAd, ↓v_inAd, ↓v_notInAd, ↓S_upd, ↓v_zip, ↓Wp_flatA, ↓v_int, ↓v_intB, ↓v_min, ↓v_gin, ↓v_gnin, ↓v_gix, ↓reduceIte, ↓gd0, ↓gd1, ↓gd2, ↓gd3, ↓gd4]
  refine ⟨lineB (by simp), lineB (by simp), lineB (by simp), lineB (by simp), lineB (by simp), lineB (by simp), lineB (by simp), lineB (by simp), lineB (by simp), lineB (by rw [gm0]; simp), draw_ok hp14 h4.pos h4.low fun k15 p15 hp15 a15 b15 => pick_word h4 a15 b15 fun zn hzn hznw => ?_⟩
  rw [gm0, gm1, gm2, gm3]
  refine ⟨lineB (by simp), lineB (by simp), lineB (by simp), lineB (by simp), lineB (by simp), lineB (by simp), lineB (by simp), ?_⟩
  simp only [List.mem_cons, List.not_mem_nil, or_false] at mw
  have wi : ∀ {x y i : Int}, x ≤ i → i ≤ y → within x y (.int i) = true := fun h1 h2 => decide_eq_true ⟨h1, h2⟩
  have hs8 : ∀ {y : Str}, Tx7 y → ∀ w, PyData.str y = .str w → w.length ≤ 1000 := fun h w e => by cases e; exact h.1
  have hq : ∀ {y : Str}, Tx7 y → isW (.str y) = true → (∃ i, PyData.str y = .int i) ∨ ∃ w, PyData.str y = .str w ∧ Tx7 w ∧ isW (.str w) = true := fun h1 h2 => .inr ⟨_, rfl, h1, h2⟩
  have hi : ∀ {i : Int}, (∃ j, PyData.int i = .int j) ∨ ∃ w, PyData.int i = .str w ∧ Tx7 w ∧ isW (.str w) = true := .inl ⟨_, rfl⟩
  rcases mw with rfl | rfl | rfl | rfl | rfl | rfl | rfl | rfl | rfl | rfl | rfl | rfl
  · rw [gg_comes, onS_some, v_addT]
    refine ⟨lineB (by simp), q _ _ hp15 ⟨"comes", [(.str z), (.int day), (.str zt), (.str zk), (.str zo)], rfl, sh_comes, fun p hp => ?_, ⟨day, rfl⟩, (is_page_comes (.str z) (.int day) (.str zt) (.str zk) (.str zo) (hs8 hz) (hs8 hzt) (hs8 hzk) (hs8 hzo)).trans ?_⟩⟩
    · simp only [List.mem_cons, List.not_mem_nil, or_false] at hp
      rcases hp with rfl | rfl | rfl | rfl | rfl
      · exact hq hz hzw
      · exact hi
      · exact hq hzt hztw
      · exact hq hzk hzkw
      · exact hq hzo hzow
    · unfold B_comes
      simp only [List.all_cons, List.all_nil, id, hzw, show within 0 999 (.int day) = true from wi hday0 hday1, hztw, hzkw, hzow, Bool.and_true, Bool.not_false, Bool.and_self]
  · rw [gg_trial, onS_some, v_addT]
    refine ⟨lineB (by simp), q _ _ hp15 ⟨"trial", [(.str z), (.int day), (.str zt), (.str zo), (.str zh), (.int many)], rfl, sh_trial, fun p hp => ?_, ⟨day, rfl⟩, (is_page_trial (.str z) (.int day) (.str zt) (.str zo) (.str zh) (.int many) (hs8 hz) (hs8 hzt) (hs8 hzo) (hs8 hzh)).trans ?_⟩⟩
    · simp only [List.mem_cons, List.not_mem_nil, or_false] at hp
      rcases hp with rfl | rfl | rfl | rfl | rfl | rfl
      · exact hq hz hzw
      · exact hi
      · exact hq hzt hztw
      · exact hq hzo hzow
      · exact hq hzh hzhw
      · exact hi
    · unfold B_trial
      simp only [List.all_cons, List.all_nil, id, hzw, show within 0 999 (.int day) = true from wi hday0 hday1, hztw, hzow, hzhw, show within 0 9 (.int many) = true from wi hmany.1 hmany.2, eqv_ss, decide_eq_false hne, Bool.and_true, Bool.not_false, Bool.and_self]
  · rw [gg_back, onS_some, v_addT]
    refine ⟨lineB (by simp), q _ _ hp15 ⟨"back", [(.str z), (.int day), (.str zt), (.str zo), (.int many)], rfl, sh_back, fun p hp => ?_, ⟨day, rfl⟩, (is_page_back (.str z) (.int day) (.str zt) (.str zo) (.int many) (hs8 hz) (hs8 hzt) (hs8 hzo)).trans ?_⟩⟩
    · simp only [List.mem_cons, List.not_mem_nil, or_false] at hp
      rcases hp with rfl | rfl | rfl | rfl | rfl
      · exact hq hz hzw
      · exact hi
      · exact hq hzt hztw
      · exact hq hzo hzow
      · exact hi
    · unfold B_back
      simp only [List.all_cons, List.all_nil, id, hzw, show within 0 999 (.int day) = true from wi hday0 hday1, hztw, hzow, show within 0 9 (.int many) = true from wi hmany.1 hmany.2, Bool.and_true, Bool.not_false, Bool.and_self]
  · rw [gg_keep, onS_some, v_addT]
    refine ⟨lineB (by simp), q _ _ hp15 ⟨"keep", [(.str z), (.int day), (.str zt), (.str zo), (.int free)], rfl, sh_keep, fun p hp => ?_, ⟨day, rfl⟩, (is_page_keep (.str z) (.int day) (.str zt) (.str zo) (.int free) (hs8 hz) (hs8 hzt) (hs8 hzo)).trans ?_⟩⟩
    · simp only [List.mem_cons, List.not_mem_nil, or_false] at hp
      rcases hp with rfl | rfl | rfl | rfl | rfl
      · exact hq hz hzw
      · exact hi
      · exact hq hzt hztw
      · exact hq hzo hzow
      · exact hi
    · unfold B_keep
      simp only [List.all_cons, List.all_nil, id, hzw, show within 0 999 (.int day) = true from wi hday0 hday1, hztw, hzow, show within 0 1000000000 (.int free) = true from wi hfree.1 hfree.2, Bool.and_true, Bool.not_false, Bool.and_self]
  · rw [gg_give, onS_some, v_addT]
    refine ⟨lineB (by simp), q _ _ hp15 ⟨"give", [(.str z), (.int day), (.str zt), (.str zo), (.str zh), (.int many), (.int free)], rfl, sh_give, fun p hp => ?_, ⟨day, rfl⟩, (is_page_give (.str z) (.int day) (.str zt) (.str zo) (.str zh) (.int many) (.int free) (hs8 hz) (hs8 hzt) (hs8 hzo) (hs8 hzh)).trans ?_⟩⟩
    · simp only [List.mem_cons, List.not_mem_nil, or_false] at hp
      rcases hp with rfl | rfl | rfl | rfl | rfl | rfl | rfl
      · exact hq hz hzw
      · exact hi
      · exact hq hzt hztw
      · exact hq hzo hzow
      · exact hq hzh hzhw
      · exact hi
      · exact hi
    · unfold B_give
      simp only [List.all_cons, List.all_nil, id, hzw, show within 0 999 (.int day) = true from wi hday0 hday1, hztw, hzow, hzhw, show within 0 9 (.int many) = true from wi hmany.1 hmany.2, show within 0 1000000000 (.int free) = true from wi hfree.1 hfree.2, eqv_ss, decide_eq_false hne, Bool.and_true, Bool.not_false, Bool.and_self]
  · rw [gg_goes, onS_some, v_addT]
    refine ⟨lineB (by simp), q _ _ hp15 ⟨"goes", [(.str z), (.int day), (.str zt), (.str zo)], rfl, sh_goes, fun p hp => ?_, ⟨day, rfl⟩, (is_page_goes (.str z) (.int day) (.str zt) (.str zo) (hs8 hz) (hs8 hzt) (hs8 hzo)).trans ?_⟩⟩
    · simp only [List.mem_cons, List.not_mem_nil, or_false] at hp
      rcases hp with rfl | rfl | rfl | rfl
      · exact hq hz hzw
      · exact hi
      · exact hq hzt hztw
      · exact hq hzo hzow
    · unfold B_goes
      simp only [List.all_cons, List.all_nil, id, hzw, show within 0 999 (.int day) = true from wi hday0 hday1, hztw, hzow, Bool.and_true, Bool.not_false, Bool.and_self]
  · rw [gg_double, onS_some, v_addT]
    refine ⟨lineB (by simp), q _ _ hp15 ⟨"double", [(.str z), (.int day), (.str zt), (.str zo)], rfl, sh_double, fun p hp => ?_, ⟨day, rfl⟩, (is_page_double (.str z) (.int day) (.str zt) (.str zo) (hs8 hz) (hs8 hzt) (hs8 hzo)).trans ?_⟩⟩
    · simp only [List.mem_cons, List.not_mem_nil, or_false] at hp
      rcases hp with rfl | rfl | rfl | rfl
      · exact hq hz hzw
      · exact hi
      · exact hq hzt hztw
      · exact hq hzo hzow
    · unfold B_double
      simp only [List.all_cons, List.all_nil, id, hzw, show within 0 999 (.int day) = true from wi hday0 hday1, hztw, hzow, Bool.and_true, Bool.not_false, Bool.and_self]
  · rw [gg_promise, onS_some, v_addT]
    refine ⟨lineB (by simp), q _ _ hp15 ⟨"promise", [(.str z), (.int day), (.str zt), (.str zo), (.str zh), (.int due)], rfl, sh_promise, fun p hp => ?_, ⟨day, rfl⟩, (is_page_promise (.str z) (.int day) (.str zt) (.str zo) (.str zh) (.int due) (hs8 hz) (hs8 hzt) (hs8 hzo) (hs8 hzh)).trans ?_⟩⟩
    · simp only [List.mem_cons, List.not_mem_nil, or_false] at hp
      rcases hp with rfl | rfl | rfl | rfl | rfl | rfl
      · exact hq hz hzw
      · exact hi
      · exact hq hzt hztw
      · exact hq hzo hzow
      · exact hq hzh hzhw
      · exact hi
    · unfold B_promise
      simp only [List.all_cons, List.all_nil, id, hzw, show within 0 999 (.int day) = true from wi hday0 hday1, hztw, hzow, hzhw, show within 0 999 (.int due) = true from wi (by omega) hdue.2, eqv_ss, decide_eq_false hne, leB, decide_eq_true hdue.1, Bool.and_true, Bool.not_false, Bool.and_self]
  · rw [gg_loose, onS_some, v_addT]
    refine ⟨lineB (by simp), q _ _ hp15 ⟨"loose", [(.str z), (.int day), (.str zn)], rfl, sh_loose, fun p hp => ?_, ⟨day, rfl⟩, (is_page_loose (.str z) (.int day) (.str zn) (hs8 hz) (hs8 hzn)).trans ?_⟩⟩
    · simp only [List.mem_cons, List.not_mem_nil, or_false] at hp
      rcases hp with rfl | rfl | rfl
      · exact hq hz hzw
      · exact hi
      · exact hq hzn hznw
    · unfold B_loose
      simp only [List.all_cons, List.all_nil, id, hzw, show within 0 999 (.int day) = true from wi hday0 hday1, hznw, Bool.and_true, Bool.not_false, Bool.and_self]
  · rw [gg_want, onS_some, v_addT]
    refine ⟨lineB (by simp), q _ _ hp15 ⟨"want", [(.str z), (.int day), (.str zo), (.str zk), (.int many)], rfl, sh_want, fun p hp => ?_, ⟨day, rfl⟩, (is_page_want (.str z) (.int day) (.str zo) (.str zk) (.int many) (hs8 hz) (hs8 hzo) (hs8 hzk)).trans ?_⟩⟩
    · simp only [List.mem_cons, List.not_mem_nil, or_false] at hp
      rcases hp with rfl | rfl | rfl | rfl | rfl
      · exact hq hz hzw
      · exact hi
      · exact hq hzo hzow
      · exact hq hzk hzkw
      · exact hi
    · unfold B_want
      simp only [List.all_cons, List.all_nil, id, hzw, show within 0 999 (.int day) = true from wi hday0 hday1, hzow, hzkw, show within 0 9 (.int many) = true from wi hmany.1 hmany.2, Bool.and_true, Bool.not_false, Bool.and_self]
  · rw [gg_owe, onS_some, v_addT]
    refine ⟨lineB (by simp), q _ _ hp15 ⟨"owe", [(.str z), (.int day), (.str zo), (.str zh), (.int worth)], rfl, sh_owe, fun p hp => ?_, ⟨day, rfl⟩, (is_page_owe (.str z) (.int day) (.str zo) (.str zh) (.int worth) (hs8 hz) (hs8 hzo) (hs8 hzh)).trans ?_⟩⟩
    · simp only [List.mem_cons, List.not_mem_nil, or_false] at hp
      rcases hp with rfl | rfl | rfl | rfl | rfl
      · exact hq hz hzw
      · exact hi
      · exact hq hzo hzow
      · exact hq hzh hzhw
      · exact hi
    · unfold B_owe
      simp only [List.all_cons, List.all_nil, id, hzw, show within 0 999 (.int day) = true from wi hday0 hday1, hzow, hzhw, show within 1 1000000000 (.int worth) = true from wi hworth.1 hworth.2, eqv_ss, decide_eq_false hne, Bool.and_true, Bool.not_false, Bool.and_self]
  · rw [gg_pay, onS_some, v_addT]
    refine ⟨lineB (by simp), q _ _ hp15 ⟨"pay", [(.str z), (.int day), (.str zo), (.str zh), (.int worth)], rfl, sh_pay, fun p hp => ?_, ⟨day, rfl⟩, (is_page_pay (.str z) (.int day) (.str zo) (.str zh) (.int worth) (hs8 hz) (hs8 hzo) (hs8 hzh)).trans ?_⟩⟩
    · simp only [List.mem_cons, List.not_mem_nil, or_false] at hp
      rcases hp with rfl | rfl | rfl | rfl | rfl
      · exact hq hz hzw
      · exact hi
      · exact hq hzo hzow
      · exact hq hzh hzhw
      · exact hi
    · unfold B_pay
      simp only [List.all_cons, List.all_nil, id, hzw, show within 0 999 (.int day) = true from wi hday0 hday1, hzow, hzhw, show within 1 1000000000 (.int worth) = true from wi hworth.1 hworth.2, eqv_ss, decide_eq_false hne, Bool.and_true, Bool.not_false, Bool.and_self]
end DR

set_option maxRecDepth 100000
set_option maxHeartbeats 1000000
namespace DR
open PySem PySem.Spec L2
open PyProof.Rows hiding St
theorem cut_take {ds : List D} {n : Nat} : cutL ds none (some (n : Int)) = ds.take n := by
  unfold cutL
  rw [sIx_some (by omega)]
  show (ds.drop 0).take (_ - 0) = _
  rw [List.drop_zero, Nat.sub_zero]
  rw [show ((n : Int)).toNat = n by omega]
  by_cases h : n ≤ ds.length
  · rw [Nat.min_eq_left h]
  · rw [Nat.min_eq_right (by omega), List.take_length, List.take_of_length_le (by omega)]
theorem cut_drop {ds : List D} {n : Nat} : cutL ds (some (n : Int)) none = ds.drop n := by
  unfold cutL
  rw [sIx_some (by omega)]
  show (ds.drop (min ((n : Int)).toNat ds.length)).take (ds.length - _) = _
  rw [show ((n : Int)).toNat = n by omega]
  by_cases h : n ≤ ds.length
  · rw [Nat.min_eq_left h]
    exact List.take_of_length_le (by rw [List.length_drop]; omega)
  · rw [Nat.min_eq_right (by omega), List.drop_length, List.drop_of_length_le (by omega), List.take_nil]
theorem WordsD.wl {ds : List D} {n : Nat} (h : WordsD ds n) (h0 : 0 < n) (h1 : n ≤ 20) : WL ds := ⟨by rw [h.len]; exact h0, by rw [h.len]; omega, h.word⟩
theorem WordsD.take {ds : List D} {n : Nat} (h : WordsD ds n) {m : Nat} (hm : m ≤ n) : WordsD (ds.take m) m where
  len := by rw [List.length_take, h.len]; omega
  word := fun d hd => h.word d (List.mem_of_mem_take hd)
  ne := fun i j d e hi hj hij => by
    have g : ∀ (i : Nat) (d : D), (ds.take m)[i]? = some d → ds[i]? = some d := fun i d hi => by
      rw [List.getElem?_take] at hi
      split at hi
      · exact hi
      · cases hi
    exact h.ne i j d e (g i d hi) (g j e hj) hij
theorem sorts_ok {p : D} (hp : Pen p) {Q : D → D → Prop} (q : ∀ d p', Pen p' → Sorts d → Q d p') : MP m__law_sorts p [] Q := by
  refine MP_of rfl ?_
  show Sp2 g__law_sorts [some _, none] _
  unfold g__law_sorts
  simp only [↓S_next, ↓S_bk, ↓S_ct, ↓S_rtd, ↓S_seq, ↓S_set, ↓S_drop, ↓S_ret, ↓S_if, ↓S_asg, ↓S_put, ↓S_app, ↓S_ext, ↓S_for, ↓Wp_pure, ↓Wp_opt, ↓Wp_bind, ↓Wp_ite, ↓Wp_var, ↓Wp_op, ↓Wp_un, ↓Wp_test, ↓Wp_dand, ↓Wp_dor, ↓Wp_dnot, ↓Wp_dandV, ↓Wp_dorV, ↓Wp_dnotV, ↓Wp_chain, ↓Wp_cb, ↓Wp_cons, ↓Wp_nil, ↓Wp_tup, ↓Wp_lst, ↓Wp_part, ↓Wp_nopart, ↓Wp_slice, ↓Wp_isi, ↓Wp_isi2, ↓Wp_m1, ↓Wp_call, ↓Wp_pix, ↓Wp_callP0, ↓Wp_callP1, ↓Wp_comp, ↓Wp_disp, ↓Wp_dpnil, ↓Wp_dpcons, ↓Wp_flat, ↓onNx_nx, ↓onNx_bk, ↓onNx_ct, ↓onNx_rt, ↓onRt_rt, ↓onRt_nx, ↓onS_some, ↓onB_b, ↓onI_i, ↓onStr_s, ↓onL_l, ↓lk_0, ↓lk_S, ↓onSet_0, ↓onSet_S, ↓onPut_0, ↓onPut_S, ↓ite_dec, ↓ite_ndec, ↓ite_tt, ↓ite_ff, ↓ite_nt, ↓ite_nf, ↓v_gt, ↓v_lt, ↓v_le, ↓v_ge, ↓v_ltS, ↓v_add, ↓v_addS, ↓v_addL, ↓v_addT, ↓v_addN, ↓v_sub, ↓v_mul, ↓v_mulS, ↓v_mod, ↓v_fdiv, ↓v_pow, ↓v_neg, ↓v_lenL, ↓v_lenT, ↓v_lenS, ↓v_abs, ↓v_rev, ↓v_all, ↓v_any, ↓v_sum, ↓v_eq, ↓v_ne, ↓v_in, ↓v_notIn, ↓q_ii, ↓q_ss, ↓items_l, ↓items_t, ↓items_s, ↓items_r1, ↓items_r2, ↓sl_l, ↓sl_t, ↓sl_s, ↓put_1, ↓put_2, ↓pen_0, ↓pen_1, ↓pen_2, ↓v_ixL, ↓v_ixT, ↓ins_NoneType_none, ↓ins_NoneType_bool, ↓ins_NoneType_int, ↓ins_NoneType_str, ↓ins_NoneType_list, ↓ins_NoneType_tuple, ↓ins_NoneType_dict, ↓ins_bool_none, ↓ins_bool_bool, ↓ins_bool_int, ↓ins_bool_str, ↓ins_bool_list, ↓ins_bool_tuple, ↓ins_bool_dict, ↓ins_int_none, ↓ins_int_bool, ↓ins_int_int, ↓ins_int_str, ↓ins_int_list, ↓ins_int_tuple, ↓ins_int_dict, ↓ins_str_none, ↓ins_str_bool, ↓ins_str_int, ↓ins_str_str, ↓ins_str_list, ↓ins_str_tuple, ↓ins_str_dict, ↓ins_list_none, ↓ins_list_bool, ↓ins_list_int, ↓ins_list_str, ↓ins_list_list, ↓ins_list_tuple, ↓ins_list_dict, ↓ins_tuple_none, ↓ins_tuple_bool, ↓ins_tuple_int, ↓ins_tuple_str, ↓ins_tuple_list, ↓ins_tuple_tuple, ↓ins_tuple_dict, ↓ins_dict_none, ↓ins_dict_bool, ↓ins_dict_int, ↓ins_dict_str, ↓ins_dict_list, ↓ins_dict_tuple, ↓ins_dict_dict, ↓in_sign, ↓onClr_0, ↓onClr_S, ↓onW_nil, ↓onW_cons, ↓onRe_0, ↓onRe_S, ↓onBk_nil, ↓onBk_cons, ↓onTwo_l, ↓S_par, ↓a_tup, ↓onG_name, ↓onG_tup, ↓onGs_nil, ↓onGs_cons, ↓onTurn_nx, ↓onTurn_ct, ↓onTurn_bk, ↓onTurn_rt, ↓onLD_d, ↓v_ixAd, ↓v_inAd, ↓v_notInAd, ↓S_upd, ↓v_zip, ↓Wp_flatA, ↓v_int, ↓v_intB, ↓v_min, ↓v_gin, ↓v_gnin, ↓v_gix, ↓reduceIte]
  refine words_ok (n := 8) hp (by decide) fun ds p1 hp1 hds => ?_
  refine draw_ok hp1 (by decide) (by decide) fun k p2 hp2 h0 h1 => ?_
  simp only [↓S_next, ↓S_bk, ↓S_ct, ↓S_rtd, ↓S_seq, ↓S_set, ↓S_drop, ↓S_ret, ↓S_if, ↓S_asg, ↓S_put, ↓S_app, ↓S_ext, ↓S_for, ↓Wp_pure, ↓Wp_opt, ↓Wp_bind, ↓Wp_ite, ↓Wp_var, ↓Wp_op, ↓Wp_un, ↓Wp_test, ↓Wp_dand, ↓Wp_dor, ↓Wp_dnot, ↓Wp_dandV, ↓Wp_dorV, ↓Wp_dnotV, ↓Wp_chain, ↓Wp_cb, ↓Wp_cons, ↓Wp_nil, ↓Wp_tup, ↓Wp_lst, ↓Wp_part, ↓Wp_nopart, ↓Wp_slice, ↓Wp_isi, ↓Wp_isi2, ↓Wp_m1, ↓Wp_call, ↓Wp_pix, ↓Wp_callP0, ↓Wp_callP1, ↓Wp_comp, ↓Wp_disp, ↓Wp_dpnil, ↓Wp_dpcons, ↓Wp_flat, ↓onNx_nx, ↓onNx_bk, ↓onNx_ct, ↓onNx_rt, ↓onRt_rt, ↓onRt_nx, ↓onS_some, ↓onB_b, ↓onI_i, ↓onStr_s, ↓onL_l, ↓lk_0, ↓lk_S, ↓onSet_0, ↓onSet_S, ↓onPut_0, ↓onPut_S, ↓ite_dec, ↓ite_ndec, ↓ite_tt, ↓ite_ff, ↓ite_nt, ↓ite_nf, ↓v_gt, ↓v_lt, ↓v_le, ↓v_ge, ↓v_ltS, ↓v_add, ↓v_addS, ↓v_addL, ↓v_addT, ↓v_addN, ↓v_sub, ↓v_mul, ↓v_mulS, ↓v_mod, ↓v_fdiv, ↓v_pow, ↓v_neg, ↓v_lenL, ↓v_lenT, ↓v_lenS, ↓v_abs, ↓v_rev, ↓v_all, ↓v_any, ↓v_sum, ↓v_eq, ↓v_ne, ↓v_in, ↓v_notIn, ↓q_ii, ↓q_ss, ↓items_l, ↓items_t, ↓items_s, ↓items_r1, ↓items_r2, ↓sl_l, ↓sl_t, ↓sl_s, ↓put_1, ↓put_2, ↓pen_0, ↓pen_1, ↓pen_2, ↓v_ixL, ↓v_ixT, ↓ins_NoneType_none, ↓ins_NoneType_bool, ↓ins_NoneType_int, ↓ins_NoneType_str, ↓ins_NoneType_list, ↓ins_NoneType_tuple, ↓ins_NoneType_dict, ↓ins_bool_none, ↓ins_bool_bool, ↓ins_bool_int, ↓ins_bool_str, ↓ins_bool_list, ↓ins_bool_tuple, ↓ins_bool_dict, ↓ins_int_none, ↓ins_int_bool, ↓ins_int_int, ↓ins_int_str, ↓ins_int_list, ↓ins_int_tuple, ↓ins_int_dict, ↓ins_str_none, ↓ins_str_bool, ↓ins_str_int, ↓ins_str_str, ↓ins_str_list, ↓ins_str_tuple, ↓ins_str_dict, ↓ins_list_none, ↓ins_list_bool, ↓ins_list_int, ↓ins_list_str, ↓ins_list_list, ↓ins_list_tuple, ↓ins_list_dict, ↓ins_tuple_none, ↓ins_tuple_bool, ↓ins_tuple_int, ↓ins_tuple_str, ↓ins_tuple_list, ↓ins_tuple_tuple, ↓ins_tuple_dict, ↓ins_dict_none, ↓ins_dict_bool, ↓ins_dict_int, ↓ins_dict_str, ↓ins_dict_list, ↓ins_dict_tuple, ↓ins_dict_dict, ↓in_sign, ↓onClr_0, ↓onClr_S, ↓onW_nil, ↓onW_cons, ↓onRe_0, ↓onRe_S, ↓onBk_nil, ↓onBk_cons, ↓onTwo_l, ↓S_par, ↓a_tup, ↓onG_name, ↓onG_tup, ↓onGs_nil, ↓onGs_cons, ↓onTurn_nx, ↓onTurn_ct, ↓onTurn_bk, ↓onTurn_rt, ↓onLD_d, ↓v_ixAd, ↓v_inAd, ↓v_notInAd, ↓S_upd, ↓v_zip, ↓Wp_flatA, ↓v_int, ↓v_intB, ↓v_min, ↓v_gin, ↓v_gnin, ↓v_gix, ↓reduceIte]
  have h4 : cutL ds none (some 4) = ds.take 4 := cut_take (n := 4)
  rw [h4]
  refine ite_i (fun _ => ⟨lineB (by simp), q _ _ hp2 ⟨_, _, _, _, rfl, hds.take (by decide), hds.wl (by decide) (by decide), hds.wl (by decide) (by decide), hds.wl (by decide) (by decide)⟩⟩) fun _ => ?_
  refine words_ok (n := 5) hp2 (by decide) fun d5 p3 hp3 h5 => words_ok (n := 3) hp3 (by decide) fun d3 p4 hp4 h3 => words_ok (n := 6) hp4 (by decide) fun d6 p5 hp5 h6 => ?_
  exact ⟨lineB (by simp), q _ _ hp5 ⟨_, _, _, _, rfl, hds.take (by decide), h5.wl (by decide) (by decide), h3.wl (by decide) (by decide), h6.wl (by decide) (by decide)⟩⟩
theorem atI_nat {ds : List D} {i : Int} (h0 : 0 ≤ i) (h1 : i < ds.length) : L2.atI ds i = ds[i.toNat]? := by
  unfold L2.atI ixN
  rw [if_pos h0, if_pos h1]
  rfl
theorem atI_last {ds : List D} (h : 0 < ds.length) : ∃ d, L2.atI ds (-1) = some d ∧ ds[ds.length - 1]? = some d := by
  have hl : ds.length - 1 < ds.length := by omega
  refine ⟨ds[ds.length - 1], ?_, List.getElem?_eq_getElem hl⟩
  unfold L2.atI ixN
  rw [if_neg (by decide), if_pos (by omega)]
  show ds[((-1 : Int) + ds.length).toNat]? = _
  rw [show ((-1 : Int) + ds.length).toNat = ds.length - 1 by omega]
  exact List.getElem?_eq_getElem hl
theorem isW_len {z : Str} (h : isW (.str z) = true) : z.length ≤ 8 := by
  rw [isW_str, Bool.and_eq_true] at h
  have := of_decide_eq_true h.1
  omega
theorem rep_flat_len (l : List Nat) : ∀ n : Nat, (List.replicate n l).flatten.length = n * l.length
  | 0 => by simp
  | n + 1 => by
    rw [List.replicate_succ, List.flatten_cons, List.length_append, rep_flat_len l n, Nat.succ_mul]
    omega
theorem tx7_rep {z : Str} (hz : Tx7 z) (h8 : z.length ≤ 8) : Tx7 (strTimes z 9) := by
  have e := strTimes_rep z 9
  refine ⟨?_, fun c hc => ?_⟩
  · rw [← len_toList, e, rep_flat_len, len_toList]
    show 9 * z.length ≤ 1000
    omega
  · rw [e] at hc
    obtain ⟨l, hl, hcl⟩ := List.mem_flatten.mp hc
    rw [List.eq_of_mem_replicate hl] at hcl
    exact hz.2 c hcl
theorem abcdefgh7 : (("abcdefgh" : Str)).length = 8 ∧ ∀ c ∈ (("abcdefgh" : Str)).cps.toList, c < 128 := by decide +kernel
theorem exch_ok {p : D} (hp : Pen p) {d : D} (hd : Made d) {Q : D → D → Prop} (q : ∀ e p', Pen p' → (∃ b, m_is_page [e] = some (.bool b) ∧ m__law_is_page [e] = some (.bool b)) → Q e p') : MP m__law_exchanged p [d] Q := by
  obtain ⟨w, ps, rfl, hsh, hps, ⟨i2, hi2⟩, _⟩ := hd.ex
  have hn : 3 ≤ ps.length ∧ ps.length ≤ 7 := by
    unfold shapes at hsh
    simp only [List.mem_cons, List.not_mem_nil, or_false, Prod.mk.injEq] at hsh
    omega
  have hpl : ∀ x ∈ ps, Pl x := fun x hx => by
    rcases hps x hx with h | ⟨z, h1, h2, _⟩
    · exact .inl h
    · exact .inr ⟨z, h1, h2⟩
  refine MP_of rfl ?_
  show Sp2 g__law_exchanged [some _, some _, none, none, none] _
  unfold g__law_exchanged
  simp only [↓S_next, ↓S_bk, ↓S_ct, ↓S_rtd, ↓S_seq, ↓S_set, ↓S_drop, ↓S_ret, ↓S_if, ↓S_asg, ↓S_put, ↓S_app, ↓S_ext, ↓S_for, ↓Wp_pure, ↓Wp_opt, ↓Wp_bind, ↓Wp_ite, ↓Wp_var, ↓Wp_op, ↓Wp_un, ↓Wp_test, ↓Wp_dand, ↓Wp_dor, ↓Wp_dnot, ↓Wp_dandV, ↓Wp_dorV, ↓Wp_dnotV, ↓Wp_chain, ↓Wp_cb, ↓Wp_cons, ↓Wp_nil, ↓Wp_tup, ↓Wp_lst, ↓Wp_part, ↓Wp_nopart, ↓Wp_slice, ↓Wp_isi, ↓Wp_isi2, ↓Wp_m1, ↓Wp_call, ↓Wp_pix, ↓Wp_callP0, ↓Wp_callP1, ↓Wp_comp, ↓Wp_disp, ↓Wp_dpnil, ↓Wp_dpcons, ↓Wp_flat, ↓onNx_nx, ↓onNx_bk, ↓onNx_ct, ↓onNx_rt, ↓onRt_rt, ↓onRt_nx, ↓onS_some, ↓onB_b, ↓onI_i, ↓onStr_s, ↓onL_l, ↓lk_0, ↓lk_S, ↓onSet_0, ↓onSet_S, ↓onPut_0, ↓onPut_S, ↓ite_dec, ↓ite_ndec, ↓ite_tt, ↓ite_ff, ↓ite_nt, ↓ite_nf, ↓v_gt, ↓v_lt, ↓v_le, ↓v_ge, ↓v_ltS, ↓v_add, ↓v_addS, ↓v_addL, ↓v_addT, ↓v_addN, ↓v_sub, ↓v_mul, ↓v_mulS, ↓v_mod, ↓v_fdiv, ↓v_pow, ↓v_neg, ↓v_lenL, ↓v_lenT, ↓v_lenS, ↓v_abs, ↓v_rev, ↓v_all, ↓v_any, ↓v_sum, ↓v_eq, ↓v_ne, ↓v_in, ↓v_notIn, ↓q_ii, ↓q_ss, ↓items_l, ↓items_t, ↓items_s, ↓items_r1, ↓items_r2, ↓sl_l, ↓sl_t, ↓sl_s, ↓put_1, ↓put_2, ↓pen_0, ↓pen_1, ↓pen_2, ↓v_ixL, ↓v_ixT, ↓ins_NoneType_none, ↓ins_NoneType_bool, ↓ins_NoneType_int, ↓ins_NoneType_str, ↓ins_NoneType_list, ↓ins_NoneType_tuple, ↓ins_NoneType_dict, ↓ins_bool_none, ↓ins_bool_bool, ↓ins_bool_int, ↓ins_bool_str, ↓ins_bool_list, ↓ins_bool_tuple, ↓ins_bool_dict, ↓ins_int_none, ↓ins_int_bool, ↓ins_int_int, ↓ins_int_str, ↓ins_int_list, ↓ins_int_tuple, ↓ins_int_dict, ↓ins_str_none, ↓ins_str_bool, ↓ins_str_int, ↓ins_str_str, ↓ins_str_list, ↓ins_str_tuple, ↓ins_str_dict, ↓ins_list_none, ↓ins_list_bool, ↓ins_list_int, ↓ins_list_str, ↓ins_list_list, ↓ins_list_tuple, ↓ins_list_dict, ↓ins_tuple_none, ↓ins_tuple_bool, ↓ins_tuple_int, ↓ins_tuple_str, ↓ins_tuple_list, ↓ins_tuple_tuple, ↓ins_tuple_dict, ↓ins_dict_none, ↓ins_dict_bool, ↓ins_dict_int, ↓ins_dict_str, ↓ins_dict_list, ↓ins_dict_tuple, ↓ins_dict_dict, ↓in_sign, ↓onClr_0, ↓onClr_S, ↓onW_nil, ↓onW_cons, ↓onRe_0, ↓onRe_S, ↓onBk_nil, ↓onBk_cons, ↓onTwo_l, ↓S_par, ↓a_tup, ↓onG_name, ↓onG_tup, ↓onGs_nil, ↓onGs_cons, ↓onTurn_nx, ↓onTurn_ct, ↓onTurn_bk, ↓onTurn_rt, ↓onLD_d, ↓v_ixAd, ↓v_inAd, ↓v_notInAd, ↓S_upd, ↓v_zip, ↓Wp_flatA, ↓v_int, ↓v_intB, ↓v_min, ↓v_gin, ↓v_gnin, ↓v_gix, ↓reduceIte]
  have hlen : (((PyData.str w :: ps).length : Nat) : Int) - 1 = ps.length := by
    rw [List.length_cons]
    omega
  rw [hlen]
  refine draw_ok hp (by omega) (by omega) fun k p1 hp1 h0 h1 => ?_
  simp only [↓S_next, ↓S_bk, ↓S_ct, ↓S_rtd, ↓S_seq, ↓S_set, ↓S_drop, ↓S_ret, ↓S_if, ↓S_asg, ↓S_put, ↓S_app, ↓S_ext, ↓S_for, ↓Wp_pure, ↓Wp_opt, ↓Wp_bind, ↓Wp_ite, ↓Wp_var, ↓Wp_op, ↓Wp_un, ↓Wp_test, ↓Wp_dand, ↓Wp_dor, ↓Wp_dnot, ↓Wp_dandV, ↓Wp_dorV, ↓Wp_dnotV, ↓Wp_chain, ↓Wp_cb, ↓Wp_cons, ↓Wp_nil, ↓Wp_tup, ↓Wp_lst, ↓Wp_part, ↓Wp_nopart, ↓Wp_slice, ↓Wp_isi, ↓Wp_isi2, ↓Wp_m1, ↓Wp_call, ↓Wp_pix, ↓Wp_callP0, ↓Wp_callP1, ↓Wp_comp, ↓Wp_disp, ↓Wp_dpnil, ↓Wp_dpcons, ↓Wp_flat, ↓onNx_nx, ↓onNx_bk, ↓onNx_ct, ↓onNx_rt, ↓onRt_rt, ↓onRt_nx, ↓onS_some, ↓onB_b, ↓onI_i, ↓onStr_s, ↓onL_l, ↓lk_0, ↓lk_S, ↓onSet_0, ↓onSet_S, ↓onPut_0, ↓onPut_S, ↓ite_dec, ↓ite_ndec, ↓ite_tt, ↓ite_ff, ↓ite_nt, ↓ite_nf, ↓v_gt, ↓v_lt, ↓v_le, ↓v_ge, ↓v_ltS, ↓v_add, ↓v_addS, ↓v_addL, ↓v_addT, ↓v_addN, ↓v_sub, ↓v_mul, ↓v_mulS, ↓v_mod, ↓v_fdiv, ↓v_pow, ↓v_neg, ↓v_lenL, ↓v_lenT, ↓v_lenS, ↓v_abs, ↓v_rev, ↓v_all, ↓v_any, ↓v_sum, ↓v_eq, ↓v_ne, ↓v_in, ↓v_notIn, ↓q_ii, ↓q_ss, ↓items_l, ↓items_t, ↓items_s, ↓items_r1, ↓items_r2, ↓sl_l, ↓sl_t, ↓sl_s, ↓put_1, ↓put_2, ↓pen_0, ↓pen_1, ↓pen_2, ↓v_ixL, ↓v_ixT, ↓ins_NoneType_none, ↓ins_NoneType_bool, ↓ins_NoneType_int, ↓ins_NoneType_str, ↓ins_NoneType_list, ↓ins_NoneType_tuple, ↓ins_NoneType_dict, ↓ins_bool_none, ↓ins_bool_bool, ↓ins_bool_int, ↓ins_bool_str, ↓ins_bool_list, ↓ins_bool_tuple, ↓ins_bool_dict, ↓ins_int_none, ↓ins_int_bool, ↓ins_int_int, ↓ins_int_str, ↓ins_int_list, ↓ins_int_tuple, ↓ins_int_dict, ↓ins_str_none, ↓ins_str_bool, ↓ins_str_int, ↓ins_str_str, ↓ins_str_list, ↓ins_str_tuple, ↓ins_str_dict, ↓ins_list_none, ↓ins_list_bool, ↓ins_list_int, ↓ins_list_str, ↓ins_list_list, ↓ins_list_tuple, ↓ins_list_dict, ↓ins_tuple_none, ↓ins_tuple_bool, ↓ins_tuple_int, ↓ins_tuple_str, ↓ins_tuple_list, ↓ins_tuple_tuple, ↓ins_tuple_dict, ↓ins_dict_none, ↓ins_dict_bool, ↓ins_dict_int, ↓ins_dict_str, ↓ins_dict_list, ↓ins_dict_tuple, ↓ins_dict_dict, ↓in_sign, ↓onClr_0, ↓onClr_S, ↓onW_nil, ↓onW_cons, ↓onRe_0, ↓onRe_S, ↓onBk_nil, ↓onBk_cons, ↓onTwo_l, ↓S_par, ↓a_tup, ↓onG_name, ↓onG_tup, ↓onGs_nil, ↓onGs_cons, ↓onTurn_nx, ↓onTurn_ct, ↓onTurn_bk, ↓onTurn_rt, ↓onLD_d, ↓v_ixAd, ↓v_inAd, ↓v_notInAd, ↓S_upd, ↓v_zip, ↓Wp_flatA, ↓v_int, ↓v_intB, ↓v_min, ↓v_gin, ↓v_gnin, ↓v_gix, ↓reduceIte]
  obtain ⟨m, rfl⟩ : ∃ m : Nat, k = m := ⟨k.toNat, by omega⟩
  have hm : m < ps.length := by omega
  have e1 : L2.atI (PyData.str w :: ps) (1 + (m : Int)) = some ps[m] := by
    rw [atI_nat (by omega) (by rw [List.length_cons]; omega), show (1 + (m : Int)).toNat = m + 1 by omega, List.getElem?_cons_succ, List.getElem?_eq_getElem hm]
  have fin : ∀ y, Pl y → ∀ p', Pen p' → [y].length ≤ sizeLine ∧ (cutL (PyData.str w :: ps) none (some (1 + (m : Int)))).length + [y].length ≤ sizeLine ∧ (cutL (PyData.str w :: ps) none (some (1 + (m : Int))) ++ [y]).length + (cutL (PyData.str w :: ps) (some (1 + (m : Int) + 1)) none).length ≤ sizeLine ∧
      Q (.tuple (cutL (PyData.str w :: ps) none (some (1 + (m : Int))) ++ [y] ++ cutL (PyData.str w :: ps) (some (1 + (m : Int) + 1)) none)) p' := fun y hy p' hp' => by
    have c1 : cutL (PyData.str w :: ps) none (some (1 + (m : Int))) = .str w :: ps.take m := by
      rw [show (1 + (m : Int)) = ((m + 1 : Nat) : Int) by omega, cut_take, List.take_succ_cons]
    have c2 : cutL (PyData.str w :: ps) (some (1 + (m : Int) + 1)) none = ps.drop (m + 1) := by
      rw [show (1 + (m : Int) + 1) = ((m + 1 + 1 : Nat) : Int) by omega, cut_drop, List.drop_succ_cons]
    rw [c1, c2]
    refine ⟨lineB (by simp), lineB (by simp; omega), lineB (by simp; omega), ?_⟩
    have e : (PyData.str w :: ps.take m) ++ [y] ++ ps.drop (m + 1) = .str w :: (ps.take m ++ y :: ps.drop (m + 1)) := by simp
    rw [e]
    refine q _ p' hp' (pg_any ?_ fun x hx => ?_)
    · have : (ps.take m ++ y :: ps.drop (m + 1)).length = ps.length := by
        rw [List.length_append, List.length_take, List.length_cons, List.length_drop]
        omega
      rw [this]
      exact hsh
    · rcases List.mem_append.mp hx with h | h
      · exact hpl x (List.mem_of_mem_take h)
      · rcases List.mem_cons.mp h with rfl | h
        · exact hy
        · exact hpl x (List.mem_of_mem_drop h)
  rw [e1]
  simp only [↓S_next, ↓S_bk, ↓S_ct, ↓S_rtd, ↓S_seq, ↓S_set, ↓S_drop, ↓S_ret, ↓S_if, ↓S_asg, ↓S_put, ↓S_app, ↓S_ext, ↓S_for, ↓Wp_pure, ↓Wp_opt, ↓Wp_bind, ↓Wp_ite, ↓Wp_var, ↓Wp_op, ↓Wp_un, ↓Wp_test, ↓Wp_dand, ↓Wp_dor, ↓Wp_dnot, ↓Wp_dandV, ↓Wp_dorV, ↓Wp_dnotV, ↓Wp_chain, ↓Wp_cb, ↓Wp_cons, ↓Wp_nil, ↓Wp_tup, ↓Wp_lst, ↓Wp_part, ↓Wp_nopart, ↓Wp_slice, ↓Wp_isi, ↓Wp_isi2, ↓Wp_m1, ↓Wp_call, ↓Wp_pix, ↓Wp_callP0, ↓Wp_callP1, ↓Wp_comp, ↓Wp_disp, ↓Wp_dpnil, ↓Wp_dpcons, ↓Wp_flat, ↓onNx_nx, ↓onNx_bk, ↓onNx_ct, ↓onNx_rt, ↓onRt_rt, ↓onRt_nx, ↓onS_some, ↓onB_b, ↓onI_i, ↓onStr_s, ↓onL_l, ↓lk_0, ↓lk_S, ↓onSet_0, ↓onSet_S, ↓onPut_0, ↓onPut_S, ↓ite_dec, ↓ite_ndec, ↓ite_tt, ↓ite_ff, ↓ite_nt, ↓ite_nf, ↓v_gt, ↓v_lt, ↓v_le, ↓v_ge, ↓v_ltS, ↓v_add, ↓v_addS, ↓v_addL, ↓v_addT, ↓v_addN, ↓v_sub, ↓v_mul, ↓v_mulS, ↓v_mod, ↓v_fdiv, ↓v_pow, ↓v_neg, ↓v_lenL, ↓v_lenT, ↓v_lenS, ↓v_abs, ↓v_rev, ↓v_all, ↓v_any, ↓v_sum, ↓v_eq, ↓v_ne, ↓v_in, ↓v_notIn, ↓q_ii, ↓q_ss, ↓items_l, ↓items_t, ↓items_s, ↓items_r1, ↓items_r2, ↓sl_l, ↓sl_t, ↓sl_s, ↓put_1, ↓put_2, ↓pen_0, ↓pen_1, ↓pen_2, ↓v_ixL, ↓v_ixT, ↓ins_NoneType_none, ↓ins_NoneType_bool, ↓ins_NoneType_int, ↓ins_NoneType_str, ↓ins_NoneType_list, ↓ins_NoneType_tuple, ↓ins_NoneType_dict, ↓ins_bool_none, ↓ins_bool_bool, ↓ins_bool_int, ↓ins_bool_str, ↓ins_bool_list, ↓ins_bool_tuple, ↓ins_bool_dict, ↓ins_int_none, ↓ins_int_bool, ↓ins_int_int, ↓ins_int_str, ↓ins_int_list, ↓ins_int_tuple, ↓ins_int_dict, ↓ins_str_none, ↓ins_str_bool, ↓ins_str_int, ↓ins_str_str, ↓ins_str_list, ↓ins_str_tuple, ↓ins_str_dict, ↓ins_list_none, ↓ins_list_bool, ↓ins_list_int, ↓ins_list_str, ↓ins_list_list, ↓ins_list_tuple, ↓ins_list_dict, ↓ins_tuple_none, ↓ins_tuple_bool, ↓ins_tuple_int, ↓ins_tuple_str, ↓ins_tuple_list, ↓ins_tuple_tuple, ↓ins_tuple_dict, ↓ins_dict_none, ↓ins_dict_bool, ↓ins_dict_int, ↓ins_dict_str, ↓ins_dict_list, ↓ins_dict_tuple, ↓ins_dict_dict, ↓in_sign, ↓onClr_0, ↓onClr_S, ↓onW_nil, ↓onW_cons, ↓onRe_0, ↓onRe_S, ↓onBk_nil, ↓onBk_cons, ↓onTwo_l, ↓S_par, ↓a_tup, ↓onG_name, ↓onG_tup, ↓onGs_nil, ↓onGs_cons, ↓onTurn_nx, ↓onTurn_ct, ↓onTurn_bk, ↓onTurn_rt, ↓onLD_d, ↓v_ixAd, ↓v_inAd, ↓v_notInAd, ↓S_upd, ↓v_zip, ↓Wp_flatA, ↓v_int, ↓v_intB, ↓v_min, ↓v_gin, ↓v_gnin, ↓v_gix, ↓reduceIte]
  have h3 : L2.atI (PyData.str w :: ps) 3 = some ps[2] := by
    rw [atI_nat (by omega) (by rw [List.length_cons]; omega)]
    show (PyData.str w :: ps)[3]? = _
    rw [List.getElem?_cons_succ, List.getElem?_eq_getElem (by omega)]
  have h2 : L2.atI (PyData.str w :: ps) 2 = some (.int i2) := by
    rw [atI_nat (by omega) (by rw [List.length_cons]; omega)]
    show (PyData.str w :: ps)[2]? = _
    rw [List.getElem?_cons_succ]
    exact hi2
  obtain ⟨dl, hl1, hl2⟩ := atI_last (ds := PyData.str w :: ps) (by simp)
  have hdl : Pl dl := by
    rw [List.length_cons, Nat.add_sub_cancel] at hl2
    obtain ⟨j, hj⟩ : ∃ j, ps.length = j + 1 := ⟨ps.length - 1, by omega⟩
    rw [hj, List.getElem?_cons_succ] at hl2
    exact hpl dl (List.mem_of_getElem? hl2)
  rcases hps _ (List.getElem_mem hm) with ⟨i, ei⟩ | ⟨z, ez, hz, hzw⟩
  · rw [ei]
    simp only [↓S_next, ↓S_bk, ↓S_ct, ↓S_rtd, ↓S_seq, ↓S_set, ↓S_drop, ↓S_ret, ↓S_if, ↓S_asg, ↓S_put, ↓S_app, ↓S_ext, ↓S_for, ↓Wp_pure, ↓Wp_opt, ↓Wp_bind, ↓Wp_ite, ↓Wp_var, ↓Wp_op, ↓Wp_un, ↓Wp_test, ↓Wp_dand, ↓Wp_dor, ↓Wp_dnot, ↓Wp_dandV, ↓Wp_dorV, ↓Wp_dnotV, ↓Wp_chain, ↓Wp_cb, ↓Wp_cons, ↓Wp_nil, ↓Wp_tup, ↓Wp_lst, ↓Wp_part, ↓Wp_nopart, ↓Wp_slice, ↓Wp_isi, ↓Wp_isi2, ↓Wp_m1, ↓Wp_call, ↓Wp_pix, ↓Wp_callP0, ↓Wp_callP1, ↓Wp_comp, ↓Wp_disp, ↓Wp_dpnil, ↓Wp_dpcons, ↓Wp_flat, ↓onNx_nx, ↓onNx_bk, ↓onNx_ct, ↓onNx_rt, ↓onRt_rt, ↓onRt_nx, ↓onS_some, ↓onB_b, ↓onI_i, ↓onStr_s, ↓onL_l, ↓lk_0, ↓lk_S, ↓onSet_0, ↓onSet_S, ↓onPut_0, ↓onPut_S, ↓ite_dec, ↓ite_ndec, ↓ite_tt, ↓ite_ff, ↓ite_nt, ↓ite_nf, ↓v_gt, ↓v_lt, ↓v_le, ↓v_ge, ↓v_ltS, ↓v_add, ↓v_addS, ↓v_addL, ↓v_addT, ↓v_addN, ↓v_sub, ↓v_mul, ↓v_mulS, ↓v_mod, ↓v_fdiv, ↓v_pow, ↓v_neg, ↓v_lenL, ↓v_lenT, ↓v_lenS, ↓v_abs, ↓v_rev, ↓v_all, ↓v_any, ↓v_sum, ↓v_eq, ↓v_ne, ↓v_in, ↓v_notIn, ↓q_ii, ↓q_ss, ↓items_l, ↓items_t, ↓items_s, ↓items_r1, ↓items_r2, ↓sl_l, ↓sl_t, ↓sl_s, ↓put_1, ↓put_2, ↓pen_0, ↓pen_1, ↓pen_2, ↓v_ixL, ↓v_ixT, ↓ins_NoneType_none, ↓ins_NoneType_bool, ↓ins_NoneType_int, ↓ins_NoneType_str, ↓ins_NoneType_list, ↓ins_NoneType_tuple, ↓ins_NoneType_dict, ↓ins_bool_none, ↓ins_bool_bool, ↓ins_bool_int, ↓ins_bool_str, ↓ins_bool_list, ↓ins_bool_tuple, ↓ins_bool_dict, ↓ins_int_none, ↓ins_int_bool, ↓ins_int_int, ↓ins_int_str, ↓ins_int_list, ↓ins_int_tuple, ↓ins_int_dict, ↓ins_str_none, ↓ins_str_bool, ↓ins_str_int, ↓ins_str_str, ↓ins_str_list, ↓ins_str_tuple, ↓ins_str_dict, ↓ins_list_none, ↓ins_list_bool, ↓ins_list_int, ↓ins_list_str, ↓ins_list_list, ↓ins_list_tuple, ↓ins_list_dict, ↓ins_tuple_none, ↓ins_tuple_bool, ↓ins_tuple_int, ↓ins_tuple_str, ↓ins_tuple_list, ↓ins_tuple_tuple, ↓ins_tuple_dict, ↓ins_dict_none, ↓ins_dict_bool, ↓ins_dict_int, ↓ins_dict_str, ↓ins_dict_list, ↓ins_dict_tuple, ↓ins_dict_dict, ↓in_sign, ↓onClr_0, ↓onClr_S, ↓onW_nil, ↓onW_cons, ↓onRe_0, ↓onRe_S, ↓onBk_nil, ↓onBk_cons, ↓onTwo_l, ↓S_par, ↓a_tup, ↓onG_name, ↓onG_tup, ↓onGs_nil, ↓onGs_cons, ↓onTurn_nx, ↓onTurn_ct, ↓onTurn_bk, ↓onTurn_rt, ↓onLD_d, ↓v_ixAd, ↓v_inAd, ↓v_notInAd, ↓S_upd, ↓v_zip, ↓Wp_flatA, ↓v_int, ↓v_intB, ↓v_min, ↓v_gin, ↓v_gnin, ↓v_gix, ↓reduceIte]
    refine ⟨by decide, by decide, ?_⟩
    rw [h2]
    simp only [↓S_next, ↓S_bk, ↓S_ct, ↓S_rtd, ↓S_seq, ↓S_set, ↓S_drop, ↓S_ret, ↓S_if, ↓S_asg, ↓S_put, ↓S_app, ↓S_ext, ↓S_for, ↓Wp_pure, ↓Wp_opt, ↓Wp_bind, ↓Wp_ite, ↓Wp_var, ↓Wp_op, ↓Wp_un, ↓Wp_test, ↓Wp_dand, ↓Wp_dor, ↓Wp_dnot, ↓Wp_dandV, ↓Wp_dorV, ↓Wp_dnotV, ↓Wp_chain, ↓Wp_cb, ↓Wp_cons, ↓Wp_nil, ↓Wp_tup, ↓Wp_lst, ↓Wp_part, ↓Wp_nopart, ↓Wp_slice, ↓Wp_isi, ↓Wp_isi2, ↓Wp_m1, ↓Wp_call, ↓Wp_pix, ↓Wp_callP0, ↓Wp_callP1, ↓Wp_comp, ↓Wp_disp, ↓Wp_dpnil, ↓Wp_dpcons, ↓Wp_flat, ↓onNx_nx, ↓onNx_bk, ↓onNx_ct, ↓onNx_rt, ↓onRt_rt, ↓onRt_nx, ↓onS_some, ↓onB_b, ↓onI_i, ↓onStr_s, ↓onL_l, ↓lk_0, ↓lk_S, ↓onSet_0, ↓onSet_S, ↓onPut_0, ↓onPut_S, ↓ite_dec, ↓ite_ndec, ↓ite_tt, ↓ite_ff, ↓ite_nt, ↓ite_nf, ↓v_gt, ↓v_lt, ↓v_le, ↓v_ge, ↓v_ltS, ↓v_add, ↓v_addS, ↓v_addL, ↓v_addT, ↓v_addN, ↓v_sub, ↓v_mul, ↓v_mulS, ↓v_mod, ↓v_fdiv, ↓v_pow, ↓v_neg, ↓v_lenL, ↓v_lenT, ↓v_lenS, ↓v_abs, ↓v_rev, ↓v_all, ↓v_any, ↓v_sum, ↓v_eq, ↓v_ne, ↓v_in, ↓v_notIn, ↓q_ii, ↓q_ss, ↓items_l, ↓items_t, ↓items_s, ↓items_r1, ↓items_r2, ↓sl_l, ↓sl_t, ↓sl_s, ↓put_1, ↓put_2, ↓pen_0, ↓pen_1, ↓pen_2, ↓v_ixL, ↓v_ixT, ↓ins_NoneType_none, ↓ins_NoneType_bool, ↓ins_NoneType_int, ↓ins_NoneType_str, ↓ins_NoneType_list, ↓ins_NoneType_tuple, ↓ins_NoneType_dict, ↓ins_bool_none, ↓ins_bool_bool, ↓ins_bool_int, ↓ins_bool_str, ↓ins_bool_list, ↓ins_bool_tuple, ↓ins_bool_dict, ↓ins_int_none, ↓ins_int_bool, ↓ins_int_int, ↓ins_int_str, ↓ins_int_list, ↓ins_int_tuple, ↓ins_int_dict, ↓ins_str_none, ↓ins_str_bool, ↓ins_str_int, ↓ins_str_str, ↓ins_str_list, ↓ins_str_tuple, ↓ins_str_dict, ↓ins_list_none, ↓ins_list_bool, ↓ins_list_int, ↓ins_list_str, ↓ins_list_list, ↓ins_list_tuple, ↓ins_list_dict, ↓ins_tuple_none, ↓ins_tuple_bool, ↓ins_tuple_int, ↓ins_tuple_str, ↓ins_tuple_list, ↓ins_tuple_tuple, ↓ins_tuple_dict, ↓ins_dict_none, ↓ins_dict_bool, ↓ins_dict_int, ↓ins_dict_str, ↓ins_dict_list, ↓ins_dict_tuple, ↓ins_dict_dict, ↓in_sign, ↓onClr_0, ↓onClr_S, ↓onW_nil, ↓onW_cons, ↓onRe_0, ↓onRe_S, ↓onBk_nil, ↓onBk_cons, ↓onTwo_l, ↓S_par, ↓a_tup, ↓onG_name, ↓onG_tup, ↓onGs_nil, ↓onGs_cons, ↓onTurn_nx, ↓onTurn_ct, ↓onTurn_bk, ↓onTurn_rt, ↓onLD_d, ↓v_ixAd, ↓v_inAd, ↓v_notInAd, ↓S_upd, ↓v_zip, ↓Wp_flatA, ↓v_int, ↓v_intB, ↓v_min, ↓v_gin, ↓v_gnin, ↓v_gix, ↓reduceIte]
    refine ⟨lineB (by simp), draw_ok hp1 (by decide) (by decide) fun k2 p2 hp2 a2 b2 => pick_int a2 (by simpa using b2) (fun _ => True) (fun d m => ?_) fun j _ => fin _ (.inl ⟨j, rfl⟩) p2 hp2⟩
    simp only [List.mem_cons, List.not_mem_nil, or_false] at m
    rcases m with h | h | h | h | h | h | h | h | h | h | h <;> exact ⟨_, h, trivial⟩
  · rw [ez]
    have h8 := isW_len hzw
    simp only [↓S_next, ↓S_bk, ↓S_ct, ↓S_rtd, ↓S_seq, ↓S_set, ↓S_drop, ↓S_ret, ↓S_if, ↓S_asg, ↓S_put, ↓S_app, ↓S_ext, ↓S_for, ↓Wp_pure, ↓Wp_opt, ↓Wp_bind, ↓Wp_ite, ↓Wp_var, ↓Wp_op, ↓Wp_un, ↓Wp_test, ↓Wp_dand, ↓Wp_dor, ↓Wp_dnot, ↓Wp_dandV, ↓Wp_dorV, ↓Wp_dnotV, ↓Wp_chain, ↓Wp_cb, ↓Wp_cons, ↓Wp_nil, ↓Wp_tup, ↓Wp_lst, ↓Wp_part, ↓Wp_nopart, ↓Wp_slice, ↓Wp_isi, ↓Wp_isi2, ↓Wp_m1, ↓Wp_call, ↓Wp_pix, ↓Wp_callP0, ↓Wp_callP1, ↓Wp_comp, ↓Wp_disp, ↓Wp_dpnil, ↓Wp_dpcons, ↓Wp_flat, ↓onNx_nx, ↓onNx_bk, ↓onNx_ct, ↓onNx_rt, ↓onRt_rt, ↓onRt_nx, ↓onS_some, ↓onB_b, ↓onI_i, ↓onStr_s, ↓onL_l, ↓lk_0, ↓lk_S, ↓onSet_0, ↓onSet_S, ↓onPut_0, ↓onPut_S, ↓ite_dec, ↓ite_ndec, ↓ite_tt, ↓ite_ff, ↓ite_nt, ↓ite_nf, ↓v_gt, ↓v_lt, ↓v_le, ↓v_ge, ↓v_ltS, ↓v_add, ↓v_addS, ↓v_addL, ↓v_addT, ↓v_addN, ↓v_sub, ↓v_mul, ↓v_mulS, ↓v_mod, ↓v_fdiv, ↓v_pow, ↓v_neg, ↓v_lenL, ↓v_lenT, ↓v_lenS, ↓v_abs, ↓v_rev, ↓v_all, ↓v_any, ↓v_sum, ↓v_eq, ↓v_ne, ↓v_in, ↓v_notIn, ↓q_ii, ↓q_ss, ↓items_l, ↓items_t, ↓items_s, ↓items_r1, ↓items_r2, ↓sl_l, ↓sl_t, ↓sl_s, ↓put_1, ↓put_2, ↓pen_0, ↓pen_1, ↓pen_2, ↓v_ixL, ↓v_ixT, ↓ins_NoneType_none, ↓ins_NoneType_bool, ↓ins_NoneType_int, ↓ins_NoneType_str, ↓ins_NoneType_list, ↓ins_NoneType_tuple, ↓ins_NoneType_dict, ↓ins_bool_none, ↓ins_bool_bool, ↓ins_bool_int, ↓ins_bool_str, ↓ins_bool_list, ↓ins_bool_tuple, ↓ins_bool_dict, ↓ins_int_none, ↓ins_int_bool, ↓ins_int_int, ↓ins_int_str, ↓ins_int_list, ↓ins_int_tuple, ↓ins_int_dict, ↓ins_str_none, ↓ins_str_bool, ↓ins_str_int, ↓ins_str_str, ↓ins_str_list, ↓ins_str_tuple, ↓ins_str_dict, ↓ins_list_none, ↓ins_list_bool, ↓ins_list_int, ↓ins_list_str, ↓ins_list_list, ↓ins_list_tuple, ↓ins_list_dict, ↓ins_tuple_none, ↓ins_tuple_bool, ↓ins_tuple_int, ↓ins_tuple_str, ↓ins_tuple_list, ↓ins_tuple_tuple, ↓ins_tuple_dict, ↓ins_dict_none, ↓ins_dict_bool, ↓ins_dict_int, ↓ins_dict_str, ↓ins_dict_list, ↓ins_dict_tuple, ↓ins_dict_dict, ↓in_sign, ↓onClr_0, ↓onClr_S, ↓onW_nil, ↓onW_cons, ↓onRe_0, ↓onRe_S, ↓onBk_nil, ↓onBk_cons, ↓onTwo_l, ↓S_par, ↓a_tup, ↓onG_name, ↓onG_tup, ↓onGs_nil, ↓onGs_cons, ↓onTurn_nx, ↓onTurn_ct, ↓onTurn_bk, ↓onTurn_rt, ↓onLD_d, ↓v_ixAd, ↓v_inAd, ↓v_notInAd, ↓S_upd, ↓v_zip, ↓Wp_flatA, ↓v_int, ↓v_intB, ↓v_min, ↓v_gin, ↓v_gnin, ↓v_gix, ↓reduceIte, h3, hl1]
    have hab := tx7_app (n := 8) (m := 8) ⟨h8, hz.2⟩ ⟨Nat.le_of_eq abcdefgh7.1, abcdefgh7.2⟩
    refine ⟨⟨by decide, by decide, by omega⟩, lineB (by rw [abcdefgh7.1]; omega), lineB (by have := hab.1; omega), lineB (by rw [abcdefgh7.1]; omega), lineB (by have := hab.1; omega), lineB (by simp), draw_ok hp1 (by decide) (by decide) fun k2 p2 hp2 a2 b2 => ?_⟩
    obtain ⟨y, ey, my⟩ := at_in (ds := [PyData.str "", .str (strTimes z 9), .str (cutS (z ++ "abcdefgh") none (some 9)), .str (cutS (z ++ "abcdefgh") none (some 8)), ps[2], dl]) a2 (by simpa using b2)
    have hy : Pl y := by
      simp only [List.mem_cons, List.not_mem_nil, or_false] at my
      have hc : ∀ o, Tx7 (cutS (z ++ "abcdefgh") none o) := fun o => by
        have := tx7_cut hab none o
        exact ⟨Nat.le_trans this.1 (by decide), this.2⟩
      rcases my with h | h | h | h | h | h
      · exact .inr ⟨_, h, Nat.zero_le _, fun c hc => nomatch hc⟩
      · exact .inr ⟨_, h, tx7_rep hz h8⟩
      · exact .inr ⟨_, h, hc _⟩
      · exact .inr ⟨_, h, hc _⟩
      · rw [h]
        exact hpl _ (List.getElem_mem _)
      · rw [h]
        exact hdl
    exact ⟨y, ey, fin y hy p2 hp2⟩
end DR

set_option maxRecDepth 100000
set_option maxHeartbeats 1000000
namespace DR
open PySem PySem.Spec L2
open PyProof.Rows hiding St
theorem eqB_bb {a b : Bool} {k : Bool → Prop} : onS (eqB (.bool a) (.bool b)) k ↔ k (decide (a = b)) := by
  have h : eqB (.bool a) (.bool b) = some (decide (a = b)) := by
    unfold eqB
    rw [if_pos (by exact Or.inl rfl), PyData.eqv]
    exact congrArg some (Bool.eq_iff_iff.mpr (by simp))
  rw [h, onS_some]
theorem math : ∀ ns : List Int, ns.length ≤ 63 → ∃ st', g_law (startL 10 ns) = some (.rt (.bool true) st') := by
  intro ns hl
  have hp0 := Pen.start hl
  suffices h : Sp2 g_law (startL 10 ns) (fun o => ∃ st', o = .rt (.bool true) st') by
    obtain ⟨o, e, _, st', rfl⟩ := h
    exact ⟨st', e⟩
  show Sp2 g_law [some _, some (penL ns), none, none, none, none, none, none, none, none] _
  generalize penL ns = p0 at hp0
  unfold g_law
  simp only [↓S_next, ↓S_bk, ↓S_ct, ↓S_rtd, ↓S_seq, ↓S_set, ↓S_drop, ↓S_ret, ↓S_if, ↓S_asg, ↓S_put, ↓S_app, ↓S_ext, ↓S_for, ↓Wp_pure, ↓Wp_opt, ↓Wp_bind, ↓Wp_ite, ↓Wp_var, ↓Wp_op, ↓Wp_un, ↓Wp_test, ↓Wp_dand, ↓Wp_dor, ↓Wp_dnot, ↓Wp_dandV, ↓Wp_dorV, ↓Wp_dnotV, ↓Wp_chain, ↓Wp_cb, ↓Wp_cons, ↓Wp_nil, ↓Wp_tup, ↓Wp_lst, ↓Wp_part, ↓Wp_nopart, ↓Wp_slice, ↓Wp_isi, ↓Wp_isi2, ↓Wp_m1, ↓Wp_call, ↓Wp_pix, ↓Wp_callP0, ↓Wp_callP1, ↓Wp_comp, ↓Wp_disp, ↓Wp_dpnil, ↓Wp_dpcons, ↓Wp_flat, ↓onNx_nx, ↓onNx_bk, ↓onNx_ct, ↓onNx_rt, ↓onRt_rt, ↓onRt_nx, ↓onS_some, ↓onB_b, ↓onI_i, ↓onStr_s, ↓onL_l, ↓lk_0, ↓lk_S, ↓onSet_0, ↓onSet_S, ↓onPut_0, ↓onPut_S, ↓ite_dec, ↓ite_ndec, ↓ite_tt, ↓ite_ff, ↓ite_nt, ↓ite_nf, ↓v_gt, ↓v_lt, ↓v_le, ↓v_ge, ↓v_ltS, ↓v_add, ↓v_addS, ↓v_addL, ↓v_addT, ↓v_addN, ↓v_sub, ↓v_mul, ↓v_mulS, ↓v_mod, ↓v_fdiv, ↓v_pow, ↓v_neg, ↓v_lenL, ↓v_lenT, ↓v_lenS, ↓v_abs, ↓v_rev, ↓v_all, ↓v_any, ↓v_sum, ↓v_eq, ↓v_ne, ↓v_in, ↓v_notIn, ↓q_ii, ↓q_ss, ↓items_l, ↓items_t, ↓items_s, ↓items_r1, ↓items_r2, ↓sl_l, ↓sl_t, ↓sl_s, ↓put_1, ↓put_2, ↓pen_0, ↓pen_1, ↓pen_2, ↓v_ixL, ↓v_ixT, ↓ins_NoneType_none, ↓ins_NoneType_bool, ↓ins_NoneType_int, ↓ins_NoneType_str, ↓ins_NoneType_list, ↓ins_NoneType_tuple, ↓ins_NoneType_dict, ↓ins_bool_none, ↓ins_bool_bool, ↓ins_bool_int, ↓ins_bool_str, ↓ins_bool_list, ↓ins_bool_tuple, ↓ins_bool_dict, ↓ins_int_none, ↓ins_int_bool, ↓ins_int_int, ↓ins_int_str, ↓ins_int_list, ↓ins_int_tuple, ↓ins_int_dict, ↓ins_str_none, ↓ins_str_bool, ↓ins_str_int, ↓ins_str_str, ↓ins_str_list, ↓ins_str_tuple, ↓ins_str_dict, ↓ins_list_none, ↓ins_list_bool, ↓ins_list_int, ↓ins_list_str, ↓ins_list_list, ↓ins_list_tuple, ↓ins_list_dict, ↓ins_tuple_none, ↓ins_tuple_bool, ↓ins_tuple_int, ↓ins_tuple_str, ↓ins_tuple_list, ↓ins_tuple_tuple, ↓ins_tuple_dict, ↓ins_dict_none, ↓ins_dict_bool, ↓ins_dict_int, ↓ins_dict_str, ↓ins_dict_list, ↓ins_dict_tuple, ↓ins_dict_dict, ↓in_sign, ↓onClr_0, ↓onClr_S, ↓onW_nil, ↓onW_cons, ↓onRe_0, ↓onRe_S, ↓onBk_nil, ↓onBk_cons, ↓onTwo_l, ↓S_par, ↓a_tup, ↓onG_name, ↓onG_tup, ↓onGs_nil, ↓onGs_cons, ↓onTurn_nx, ↓onTurn_ct, ↓onTurn_bk, ↓onTurn_rt, ↓onLD_d, ↓v_ixAd, ↓v_inAd, ↓v_notInAd, ↓S_upd, ↓v_zip, ↓Wp_flatA, ↓v_int, ↓v_intB, ↓v_min, ↓v_gin, ↓v_gnin, ↓v_gix, ↓reduceIte]
  refine sorts_ok hp0 fun so p1 hp1 hso => draw_ok hp1 (by decide) (by decide) fun k1 p2 hp2 a1 b1 => draw_ok hp2 (by decide) (by decide) fun k2 p3 hp3 a2 b2 => ⟨lineB (by simp), by decide, ?_⟩
  have hdays : Days [PyData.int 0, PyData.int 999, PyData.int k1, PyData.int k2] := ⟨rfl, fun d hd => by
    simp only [List.mem_cons, List.not_mem_nil, or_false] at hd
    rcases hd with h | h | h | h
    · exact ⟨_, h, by decide, by decide⟩
    · exact ⟨_, h, by decide, by decide⟩
    · exact ⟨_, h, a1, by omega⟩
    · exact ⟨_, h, a2, by omega⟩⟩
  refine Fl_inv (I := fun _ s => ∃ p x4 x5 x6 x7 x8 x9, Pen p ∧ s = [some (.list (ns.map PyData.int)), some p, some so, some (.list [PyData.int 0, PyData.int 999, PyData.int k1, PyData.int k2]), x4, x5, x6, x7, x8, x9]) ⟨p3, _, _, _, _, _, _, hp3, rfl⟩ ?_ ?_
  · rintro d r s ⟨p, x4, x5, x6, x7, x8, x9, hp, rfl⟩
    refine ⟨[some (.list (ns.map PyData.int)), some p, some so, some (.list [PyData.int 0, PyData.int 999, PyData.int k1, PyData.int k2]), some d, x5, x6, x7, x8, x9], rfl, ?_⟩
    obtain ⟨hs, ts, ks, nm, rfl, w1, w2, w3, w4⟩ := hso.ex
    simp only [↓S_next, ↓S_bk, ↓S_ct, ↓S_rtd, ↓S_seq, ↓S_set, ↓S_drop, ↓S_ret, ↓S_if, ↓S_asg, ↓S_put, ↓S_app, ↓S_ext, ↓S_for, ↓Wp_pure, ↓Wp_opt, ↓Wp_bind, ↓Wp_ite, ↓Wp_var, ↓Wp_op, ↓Wp_un, ↓Wp_test, ↓Wp_dand, ↓Wp_dor, ↓Wp_dnot, ↓Wp_dandV, ↓Wp_dorV, ↓Wp_dnotV, ↓Wp_chain, ↓Wp_cb, ↓Wp_cons, ↓Wp_nil, ↓Wp_tup, ↓Wp_lst, ↓Wp_part, ↓Wp_nopart, ↓Wp_slice, ↓Wp_isi, ↓Wp_isi2, ↓Wp_m1, ↓Wp_call, ↓Wp_pix, ↓Wp_callP0, ↓Wp_callP1, ↓Wp_comp, ↓Wp_disp, ↓Wp_dpnil, ↓Wp_dpcons, ↓Wp_flat, ↓onNx_nx, ↓onNx_bk, ↓onNx_ct, ↓onNx_rt, ↓onRt_rt, ↓onRt_nx, ↓onS_some, ↓onB_b, ↓onI_i, ↓onStr_s, ↓onL_l, ↓lk_0, ↓lk_S, ↓onSet_0, ↓onSet_S, ↓onPut_0, ↓onPut_S, ↓ite_dec, ↓ite_ndec, ↓ite_tt, ↓ite_ff, ↓ite_nt, ↓ite_nf, ↓v_gt, ↓v_lt, ↓v_le, ↓v_ge, ↓v_ltS, ↓v_add, ↓v_addS, ↓v_addL, ↓v_addT, ↓v_addN, ↓v_sub, ↓v_mul, ↓v_mulS, ↓v_mod, ↓v_fdiv, ↓v_pow, ↓v_neg, ↓v_lenL, ↓v_lenT, ↓v_lenS, ↓v_abs, ↓v_rev, ↓v_all, ↓v_any, ↓v_sum, ↓v_eq, ↓v_ne, ↓v_in, ↓v_notIn, ↓q_ii, ↓q_ss, ↓items_l, ↓items_t, ↓items_s, ↓items_r1, ↓items_r2, ↓sl_l, ↓sl_t, ↓sl_s, ↓put_1, ↓put_2, ↓pen_0, ↓pen_1, ↓pen_2, ↓v_ixL, ↓v_ixT, ↓ins_NoneType_none, ↓ins_NoneType_bool, ↓ins_NoneType_int, ↓ins_NoneType_str, ↓ins_NoneType_list, ↓ins_NoneType_tuple, ↓ins_NoneType_dict, ↓ins_bool_none, ↓ins_bool_bool, ↓ins_bool_int, ↓ins_bool_str, ↓ins_bool_list, ↓ins_bool_tuple, ↓ins_bool_dict, ↓ins_int_none, ↓ins_int_bool, ↓ins_int_int, ↓ins_int_str, ↓ins_int_list, ↓ins_int_tuple, ↓ins_int_dict, ↓ins_str_none, ↓ins_str_bool, ↓ins_str_int, ↓ins_str_str, ↓ins_str_list, ↓ins_str_tuple, ↓ins_str_dict, ↓ins_list_none, ↓ins_list_bool, ↓ins_list_int, ↓ins_list_str, ↓ins_list_list, ↓ins_list_tuple, ↓ins_list_dict, ↓ins_tuple_none, ↓ins_tuple_bool, ↓ins_tuple_int, ↓ins_tuple_str, ↓ins_tuple_list, ↓ins_tuple_tuple, ↓ins_tuple_dict, ↓ins_dict_none, ↓ins_dict_bool, ↓ins_dict_int, ↓ins_dict_str, ↓ins_dict_list, ↓ins_dict_tuple, ↓ins_dict_dict, ↓in_sign, ↓onClr_0, ↓onClr_S, ↓onW_nil, ↓onW_cons, ↓onRe_0, ↓onRe_S, ↓onBk_nil, ↓onBk_cons, ↓onTwo_l, ↓S_par, ↓a_tup, ↓onG_name, ↓onG_tup, ↓onGs_nil, ↓onGs_cons, ↓onTurn_nx, ↓onTurn_ct, ↓onTurn_bk, ↓onTurn_rt, ↓onLD_d, ↓v_ixAd, ↓v_inAd, ↓v_notInAd, ↓S_upd, ↓v_zip, ↓Wp_flatA, ↓v_int, ↓v_intB, ↓v_min, ↓v_gin, ↓v_gnin, ↓v_gix, ↓reduceIte, ↓at_3]
    refine draw_ok hp w4.pos w4.low fun k3 p4 hp4 a3 b3 => pick_word w4 a3 b3 fun z hz hzw => page_ok hp4 hz hzw hso hdays fun d p5 hp5 hd => ?_
    refine exch_ok hp5 hd fun e p6 hp6 ⟨b, hb1, hb2⟩ => ?_
    have hd1 : m_is_page [d] = some (.bool true) := by
      obtain ⟨_, _, _, _, _, _, h⟩ := hd.ex
      exact h
    simp (config := { decide := true }) only [↓S_next, ↓S_bk, ↓S_ct, ↓S_rtd, ↓S_seq, ↓S_set, ↓S_drop, ↓S_ret, ↓S_if, ↓S_asg, ↓S_put, ↓S_app, ↓S_ext, ↓S_for, ↓Wp_pure, ↓Wp_opt, ↓Wp_bind, ↓Wp_ite, ↓Wp_var, ↓Wp_op, ↓Wp_un, ↓Wp_test, ↓Wp_dand, ↓Wp_dor, ↓Wp_dnot, ↓Wp_dandV, ↓Wp_dorV, ↓Wp_dnotV, ↓Wp_chain, ↓Wp_cb, ↓Wp_cons, ↓Wp_nil, ↓Wp_tup, ↓Wp_lst, ↓Wp_part, ↓Wp_nopart, ↓Wp_slice, ↓Wp_isi, ↓Wp_isi2, ↓Wp_m1, ↓Wp_call, ↓Wp_pix, ↓Wp_callP0, ↓Wp_callP1, ↓Wp_comp, ↓Wp_disp, ↓Wp_dpnil, ↓Wp_dpcons, ↓Wp_flat, ↓onNx_nx, ↓onNx_bk, ↓onNx_ct, ↓onNx_rt, ↓onRt_rt, ↓onRt_nx, ↓onS_some, ↓onB_b, ↓onI_i, ↓onStr_s, ↓onL_l, ↓lk_0, ↓lk_S, ↓onSet_0, ↓onSet_S, ↓onPut_0, ↓onPut_S, ↓ite_dec, ↓ite_ndec, ↓ite_tt, ↓ite_ff, ↓ite_nt, ↓ite_nf, ↓v_gt, ↓v_lt, ↓v_le, ↓v_ge, ↓v_ltS, ↓v_add, ↓v_addS, ↓v_addL, ↓v_addT, ↓v_addN, ↓v_sub, ↓v_mul, ↓v_mulS, ↓v_mod, ↓v_fdiv, ↓v_pow, ↓v_neg, ↓v_lenL, ↓v_lenT, ↓v_lenS, ↓v_abs, ↓v_rev, ↓v_all, ↓v_any, ↓v_sum, ↓v_eq, ↓v_ne, ↓v_in, ↓v_notIn, ↓q_ii, ↓q_ss, ↓items_l, ↓items_t, ↓items_s, ↓items_r1, ↓items_r2, ↓sl_l, ↓sl_t, ↓sl_s, ↓put_1, ↓put_2, ↓pen_0, ↓pen_1, ↓pen_2, ↓v_ixL, ↓v_ixT, ↓ins_NoneType_none, ↓ins_NoneType_bool, ↓ins_NoneType_int, ↓ins_NoneType_str, ↓ins_NoneType_list, ↓ins_NoneType_tuple, ↓ins_NoneType_dict, ↓ins_bool_none, ↓ins_bool_bool, ↓ins_bool_int, ↓ins_bool_str, ↓ins_bool_list, ↓ins_bool_tuple, ↓ins_bool_dict, ↓ins_int_none, ↓ins_int_bool, ↓ins_int_int, ↓ins_int_str, ↓ins_int_list, ↓ins_int_tuple, ↓ins_int_dict, ↓ins_str_none, ↓ins_str_bool, ↓ins_str_int, ↓ins_str_str, ↓ins_str_list, ↓ins_str_tuple, ↓ins_str_dict, ↓ins_list_none, ↓ins_list_bool, ↓ins_list_int, ↓ins_list_str, ↓ins_list_list, ↓ins_list_tuple, ↓ins_list_dict, ↓ins_tuple_none, ↓ins_tuple_bool, ↓ins_tuple_int, ↓ins_tuple_str, ↓ins_tuple_list, ↓ins_tuple_tuple, ↓ins_tuple_dict, ↓ins_dict_none, ↓ins_dict_bool, ↓ins_dict_int, ↓ins_dict_str, ↓ins_dict_list, ↓ins_dict_tuple, ↓ins_dict_dict, ↓in_sign, ↓onClr_0, ↓onClr_S, ↓onW_nil, ↓onW_cons, ↓onRe_0, ↓onRe_S, ↓onBk_nil, ↓onBk_cons, ↓onTwo_l, ↓S_par, ↓a_tup, ↓onG_name, ↓onG_tup, ↓onGs_nil, ↓onGs_cons, ↓onTurn_nx, ↓onTurn_ct, ↓onTurn_bk, ↓onTurn_rt, ↓onLD_d, ↓v_ixAd, ↓v_inAd, ↓v_notInAd, ↓S_upd, ↓v_zip, ↓Wp_flatA, ↓v_int, ↓v_intB, ↓v_min, ↓v_gin, ↓v_gnin, ↓v_gix, ↓reduceIte, ↓Cp_nil, ↓Cp_cons, ↓Fl_nil, ↓Fl_cons, MD.eq hd1, MD.eq hb1, MD.eq hb2, ↓eqB_bb, List.length_cons, List.length_nil, Nat.reduceAdd, lt0, le2, le3, true_and]
    exact ⟨p6, _, _, _, _, _, _, hp6, rfl⟩
  · rintro s ⟨p, x4, x5, x6, x7, x8, x9, hp, rfl⟩
    simp only [↓S_next, ↓S_bk, ↓S_ct, ↓S_rtd, ↓S_seq, ↓S_set, ↓S_drop, ↓S_ret, ↓S_if, ↓S_asg, ↓S_put, ↓S_app, ↓S_ext, ↓S_for, ↓Wp_pure, ↓Wp_opt, ↓Wp_bind, ↓Wp_ite, ↓Wp_var, ↓Wp_op, ↓Wp_un, ↓Wp_test, ↓Wp_dand, ↓Wp_dor, ↓Wp_dnot, ↓Wp_dandV, ↓Wp_dorV, ↓Wp_dnotV, ↓Wp_chain, ↓Wp_cb, ↓Wp_cons, ↓Wp_nil, ↓Wp_tup, ↓Wp_lst, ↓Wp_part, ↓Wp_nopart, ↓Wp_slice, ↓Wp_isi, ↓Wp_isi2, ↓Wp_m1, ↓Wp_call, ↓Wp_pix, ↓Wp_callP0, ↓Wp_callP1, ↓Wp_comp, ↓Wp_disp, ↓Wp_dpnil, ↓Wp_dpcons, ↓Wp_flat, ↓onNx_nx, ↓onNx_bk, ↓onNx_ct, ↓onNx_rt, ↓onRt_rt, ↓onRt_nx, ↓onS_some, ↓onB_b, ↓onI_i, ↓onStr_s, ↓onL_l, ↓lk_0, ↓lk_S, ↓onSet_0, ↓onSet_S, ↓onPut_0, ↓onPut_S, ↓ite_dec, ↓ite_ndec, ↓ite_tt, ↓ite_ff, ↓ite_nt, ↓ite_nf, ↓v_gt, ↓v_lt, ↓v_le, ↓v_ge, ↓v_ltS, ↓v_add, ↓v_addS, ↓v_addL, ↓v_addT, ↓v_addN, ↓v_sub, ↓v_mul, ↓v_mulS, ↓v_mod, ↓v_fdiv, ↓v_pow, ↓v_neg, ↓v_lenL, ↓v_lenT, ↓v_lenS, ↓v_abs, ↓v_rev, ↓v_all, ↓v_any, ↓v_sum, ↓v_eq, ↓v_ne, ↓v_in, ↓v_notIn, ↓q_ii, ↓q_ss, ↓items_l, ↓items_t, ↓items_s, ↓items_r1, ↓items_r2, ↓sl_l, ↓sl_t, ↓sl_s, ↓put_1, ↓put_2, ↓pen_0, ↓pen_1, ↓pen_2, ↓v_ixL, ↓v_ixT, ↓ins_NoneType_none, ↓ins_NoneType_bool, ↓ins_NoneType_int, ↓ins_NoneType_str, ↓ins_NoneType_list, ↓ins_NoneType_tuple, ↓ins_NoneType_dict, ↓ins_bool_none, ↓ins_bool_bool, ↓ins_bool_int, ↓ins_bool_str, ↓ins_bool_list, ↓ins_bool_tuple, ↓ins_bool_dict, ↓ins_int_none, ↓ins_int_bool, ↓ins_int_int, ↓ins_int_str, ↓ins_int_list, ↓ins_int_tuple, ↓ins_int_dict, ↓ins_str_none, ↓ins_str_bool, ↓ins_str_int, ↓ins_str_str, ↓ins_str_list, ↓ins_str_tuple, ↓ins_str_dict, ↓ins_list_none, ↓ins_list_bool, ↓ins_list_int, ↓ins_list_str, ↓ins_list_list, ↓ins_list_tuple, ↓ins_list_dict, ↓ins_tuple_none, ↓ins_tuple_bool, ↓ins_tuple_int, ↓ins_tuple_str, ↓ins_tuple_list, ↓ins_tuple_tuple, ↓ins_tuple_dict, ↓ins_dict_none, ↓ins_dict_bool, ↓ins_dict_int, ↓ins_dict_str, ↓ins_dict_list, ↓ins_dict_tuple, ↓ins_dict_dict, ↓in_sign, ↓onClr_0, ↓onClr_S, ↓onW_nil, ↓onW_cons, ↓onRe_0, ↓onRe_S, ↓onBk_nil, ↓onBk_cons, ↓onTwo_l, ↓S_par, ↓a_tup, ↓onG_name, ↓onG_tup, ↓onGs_nil, ↓onGs_cons, ↓onTurn_nx, ↓onTurn_ct, ↓onTurn_bk, ↓onTurn_rt, ↓onLD_d, ↓v_ixAd, ↓v_inAd, ↓v_notInAd, ↓S_upd, ↓v_zip, ↓Wp_flatA, ↓v_int, ↓v_intB, ↓v_min, ↓v_gin, ↓v_gnin, ↓v_gix, ↓reduceIte]
    exact ⟨_, rfl⟩
end DR

open PySem PySem.W PySem.Calls PyProof.Rows
theorem PySem.Challenge.cw_doublerings_k02_what_is_a_page_holds : PySem.Challenge.rw_doublerings_k02_what_is_a_page.Holds := by
  w_on; o_law
  refine HandSHeadRun.head_any (r := OpenLaw.row PySem.Challenge.rw_doublerings_k02_what_is_a_page) (q := view (OpenLaw.row PySem.Challenge.rw_doublerings_k02_what_is_a_page).prog [25]) (H := DR.hk) (ob := DR.ob) (M := 4000) (loose := DR.loose) (d := HandSHeadRun.topDef (OpenLaw.row PySem.Challenge.rw_doublerings_k02_what_is_a_page).prog 25) (kwd := []) DR.ob_eq
    (by kernel_rfl) (fun s => by kernel_rfl) DR.run (by kernel_rfl) (by kernel_rfl) (by kernel_rfl) (by rfl) (by first | assumption | decide +kernel) (by decide +kernel) ⟨rfl, rfl, rfl, rfl, rfl, by decide +kernel⟩ ?hw ?hc
  case hw => w_witness2
  case hc =>
    refine L2.walk_ofE (l := PySem.Challenge.rw_doublerings_k02_what_is_a_page) (n := 63) (k := 5) (x := "_law_script") (CX := L2.CX0) rfl (by decide) (by kernel_rfl) ⟨rfl, by decide, by decide⟩ ?F (fun _ _ _ _ z => z)
    intro w mg fa h Y G hmg0
    obtain ⟨K, KX, c⟩ := Y
    have hmg : mg ("law" : PySem.Str) = some (.ref fa) := by
      have e : (HandSHeadRun.topDef (OpenLaw.row PySem.Challenge.rw_doublerings_k02_what_is_a_page).prog 25).name = ("law" : PySem.Str) := by kernel_rfl
      rw [← e]
      exact hmg0
    obtain ⟨fd, hb, hF⟩ := DR.facts_ok (P := (PySem.Challenge.rw_doublerings_k02_what_is_a_page).prog) (w := w) DR.math KX G hmg c
    exact ⟨K, fd, DR.spLaw K, KX, hb, fun H a ns hl _ hS => ⟨a, ns, rfl, DR.noLists_rd (DR.all_at c.more (i := 0) rfl) hS, hl, fun _ => rfl⟩, hF⟩
