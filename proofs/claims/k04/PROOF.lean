import PyProof.Rows.All
import Wide.All
import OpenK.AllK
import Wide.FinOn
import HandS.ForMost
import HandS.Evl
import HandS.HeadHook4
import HandS.IsInst
import HandS.Wide
import HandS.TupAny
import HandS.Walk
import HandS.Zip
import HandS.Deep
import HandS.Style
import HandS.Defaults
import HandS.Dict
import PyProof.DictUpdate
import KE.GoesZip
import KE.GoesMore
import HandS.Text
import HandS.Ends
import PyProof.ReprRoads
import HandS.HeadEnd
import HandS.More
import KE.KSortKeyAny
import KE.KSortTupG
import HandS.Sort
import HandS.SortOrd
import HandS.SortRule
import HandS.SortKw
import HandS.Strs
import HandS.RaiseMore
import KE.DataCmp
import HandS.Steps
import HandS.Head0
import HandS.Head1
import HandS.Head2
import KE.KStateDown
import Lean
import PySem.Challenge.RW_doublerings_k04_which_page_goes_ahead
set_option Elab.async false
set_option linter.all false
set_option autoImplicit false
set_option maxRecDepth 100000
set_option maxHeartbeats 1000000
namespace DR
open PySem PySem.Spec L2
open PyProof.Rows hiding St
open Evl (Ex ex_l ex_t ex_rd)

/-! ### data, and what represents it -/
abbrev D := PyData
abbrev DS := List (Option D)
def kD : Key → D
  | .inl i => .int i
  | .inr x => .str x
mutual
inductive Rep (K : PySem.W.Frag) (H : Hp) : V → D → Prop
  | non : Rep K H .non .none
  | bl (b : Bool) : Rep K H (.bl b) (.bool b)
  | int (i : Int) : Rep K H (.int i) (.int i)
  | str (x : Str) : Rep K H (.str x) (.str x)
  | lst {a : Addr} {xs : List V} {ds : List D} : Rd H a (.lst xs) → RepA K H xs ds → Rep K H (.ref a) (.list ds)
  | tup {a : Addr} {xs : List V} {ds : List D} : SqT K H a xs → RepA K H xs ds → Rep K H (.ref a) (.tuple ds)
  | dct {a : Addr} {kvs : List (Key × V)} {ds : List (D × D)} : H a = some (.dK kvs) → (kvs.map (·.1)).Nodup → RepK K H kvs ds → Rep K H (.ref a) (.dict ds)
inductive RepA (K : PySem.W.Frag) (H : Hp) : List V → List D → Prop
  | nil : RepA K H [] []
  | cons {v : V} {vs : List V} {d : D} {ds : List D} : Rep K H v d → RepA K H vs ds → RepA K H (v :: vs) (d :: ds)
inductive RepK (K : PySem.W.Frag) (H : Hp) : List (Key × V) → List (D × D) → Prop
  | nil : RepK K H [] []
  | cons {k : Key} {v : V} {vs : List (Key × V)} {d : D} {ds : List (D × D)} : Rep K H v d → RepK K H vs ds → RepK K H ((k, v) :: vs) ((kD k, d) :: ds)
end
section
variable {K : PySem.W.Frag} {H H' B : Hp}
mutual
theorem Rep.mono (e : Ex H H') : ∀ {v : V} {d : D}, Rep K H v d → Rep K H' v d
  | _, _, .non => .non
  | _, _, .bl b => .bl b
  | _, _, .int i => .int i
  | _, _, .str x => .str x
  | _, _, .lst h a => .lst (ex_rd e h) (RepA.mono e a)
  | _, _, .tup h a => .tup (ex_t e h) (RepA.mono e a)
  | _, _, .dct h n a => .dct (e _ _ h) n (RepK.mono e a)
theorem RepA.mono (e : Ex H H') : ∀ {vs : List V} {ds : List D}, RepA K H vs ds → RepA K H' vs ds
  | _, _, .nil => .nil
  | _, _, .cons h t => .cons (Rep.mono e h) (RepA.mono e t)
theorem RepK.mono (e : Ex H H') : ∀ {vs : List (Key × V)} {ds : List (D × D)}, RepK K H vs ds → RepK K H' vs ds
  | _, _, .nil => .nil
  | _, _, .cons h t => .cons (Rep.mono e h) (RepK.mono e t)
end
theorem RepA.length : ∀ {vs : List V} {ds : List D}, RepA K H vs ds → vs.length = ds.length
  | _, _, .nil => rfl
  | _, _, .cons _ t => congrArg Nat.succ (RepA.length t)
theorem RepA.append : ∀ {vs ws : List V} {ds es : List D}, RepA K H vs ds → RepA K H ws es → RepA K H (vs ++ ws) (ds ++ es)
  | _, _, _, _, .nil, s => s
  | _, _, _, _, .cons r t, s => .cons r (RepA.append t s)
theorem RepA.get : ∀ {vs : List V} {ds : List D} {i : Nat} {d : D}, RepA K H vs ds → ds[i]? = some d → ∃ v, vs[i]? = some v ∧ Rep K H v d
  | _, _, _, _, .nil, e => by simp at e
  | _, _, 0, _, .cons r _, e => by
    simp at e
    subst e
    exact ⟨_, rfl, r⟩
  | _, _, i + 1, d, .cons _ t, e => by
    obtain ⟨u, h1, h2⟩ := RepA.get (i := i) (d := d) t (by simpa using e)
    exact ⟨u, by simpa using h1, h2⟩
theorem RepA.getV : ∀ {vs : List V} {ds : List D} {i : Nat} {v : V}, RepA K H vs ds → vs[i]? = some v → ∃ d, ds[i]? = some d ∧ Rep K H v d
  | _, _, _, _, .nil, e => by simp at e
  | _, _, 0, _, .cons r _, e => by
    simp at e
    subst e
    exact ⟨_, rfl, r⟩
  | _, _, i + 1, d, .cons _ t, e => by
    obtain ⟨u, h1, h2⟩ := RepA.getV (i := i) (v := d) t (by simpa using e)
    exact ⟨u, by simpa using h1, h2⟩
theorem RepA.set {x : V} {d : D} (r : Rep K H x d) : ∀ {vs : List V} {ds : List D} (i : Nat), RepA K H vs ds → RepA K H (vs.set i x) (ds.set i d)
  | _, _, _, .nil => .nil
  | _, _, 0, .cons _ t => .cons r t
  | _, _, i + 1, .cons q t => .cons q (RepA.set r i t)
theorem RepA.take : ∀ {vs : List V} {ds : List D} (n : Nat), RepA K H vs ds → RepA K H (vs.take n) (ds.take n)
  | _, _, 0, _ => .nil
  | _, _, _ + 1, .nil => .nil
  | _, _, n + 1, .cons r t => .cons r (RepA.take n t)
theorem RepA.drop : ∀ {vs : List V} {ds : List D} (n : Nat), RepA K H vs ds → RepA K H (vs.drop n) (ds.drop n)
  | _, _, 0, r => r
  | _, _, _ + 1, .nil => .nil
  | _, _, n + 1, .cons _ t => RepA.drop n t
theorem RepA.reverse {vs : List V} {ds : List D} (h : RepA K H vs ds) : RepA K H vs.reverse ds.reverse := by
  induction vs generalizing ds with
  | nil =>
    cases h
    exact .nil
  | cons v vs ih =>
    cases h with
    | cons r t =>
      rw [List.reverse_cons, List.reverse_cons]
      exact (ih t).append (.cons r .nil)
theorem RepA.rep {vs : List V} {ds : List D} (h : RepA K H vs ds) : ∀ k : Nat, RepA K H (List.replicate k vs).flatten (List.replicate k ds).flatten
  | 0 => .nil
  | k + 1 => by
    rw [List.replicate_succ, List.replicate_succ, List.flatten_cons, List.flatten_cons]
    exact h.append (h.rep k)
/-- ints, texts, truths as data -/
theorem repA_ints : ∀ (ns : List Int), RepA K H (ns.map V.int) (ns.map PyData.int)
  | [] => .nil
  | n :: ns => .cons (.int n) (repA_ints ns)
theorem repA_strs : ∀ (xs : List Str), RepA K H (xs.map V.str) (xs.map PyData.str)
  | [] => .nil
  | n :: ns => .cons (.str n) (repA_strs ns)
end

/-! ### flat data: no list, no dict within -/
mutual
def flat : D → Bool
  | .list _ => false
  | .dict _ => false
  | .tuple ds => flatA ds
  | _ => true
def flatA : List D → Bool
  | [] => true
  | d :: ds => flat d && flatA ds
end
def cut (B : Hp) (Z : Addr → Bool) : Hp := fun a => if Z a = true then none else B a
theorem cut_ex {B : Hp} {Z : Addr → Bool} : Ex (cut B Z) B := fun a o h => by
  unfold cut at h
  split at h
  · cases h
  · exact h
theorem cut_mono {B B' : Hp} {Z : Addr → Bool} (e : Ex B B') : Ex (cut B Z) (cut B' Z) := fun a o h => by
  unfold cut at h ⊢
  split at h
  · cases h
  · rename_i hz
    rw [if_neg hz]
    exact e a o h
theorem cut_none {B : Hp} {Z : Addr → Bool} (h : ∀ a, Z a = false) : cut B Z = B := by
  funext a
  unfold cut
  rw [h a]
  rfl
/-- what may stand at a cell -/
def isCell : HO → Bool
  | .lst _ => true
  | .dK _ => true
  | .dT _ => true
  | .set _ _ => true
  | .ins _ _ _ => true
  | _ => false
section
variable {K : PySem.W.Frag} {B : Hp} {Z : Addr → Bool}
theorem cut_t (zo : ∀ a, Z a = true → ∃ o, B a = some o ∧ isCell o = true) {a : Addr} {xs : List V} (h : SqT K B a xs) : SqT K (cut B Z) a xs := by
  rcases h with h | h
  · refine Or.inl ?_
    have hz : Z a = false := by
      cases e : Z a with
      | false => rfl
      | true =>
        obtain ⟨o, e1, e2⟩ := zo a e
        rcases h with h | ⟨ob, h⟩
        · rw [h] at e1
          cases e1
          cases e2
        · rw [h] at e1
          cases e1
          cases e2
    have e : cut B Z a = B a := by
      unfold cut
      rw [hz]
      rfl
    rcases h with h | ⟨ob, h⟩
    · exact Or.inl (e.trans h)
    · exact Or.inr ⟨ob, e.trans h⟩
  · exact Or.inr h
mutual
theorem Rep.cut (zo : ∀ a, Z a = true → ∃ o, B a = some o ∧ isCell o = true) : ∀ {v : V} {d : D}, flat d = true → Rep K B v d → Rep K (cut B Z) v d
  | _, _, _, .non => .non
  | _, _, _, .bl b => .bl b
  | _, _, _, .int i => .int i
  | _, _, _, .str x => .str x
  | _, _, f, .lst h a => nomatch f
  | _, _, f, .tup h a => .tup (cut_t zo h) (RepA.cut zo f a)
  | _, _, f, .dct h n a => nomatch f
theorem RepA.cut (zo : ∀ a, Z a = true → ∃ o, B a = some o ∧ isCell o = true) : ∀ {vs : List V} {ds : List D}, flatA ds = true → RepA K B vs ds → RepA K (cut B Z) vs ds
  | _, _, _, .nil => .nil
  | _, _, f, .cons h t => .cons (Rep.cut zo (Bool.and_eq_true_iff.mp f).1 h) (RepA.cut zo (Bool.and_eq_true_iff.mp f).2 t)
end
end

/-! ### owned objects: a tree of lists, dicts, instances that nothing else knows; F: where they stand; s: which of the parts are owned -/
inductive Shp where
  | flat
  | all (s : Shp)
  | keys (l : List (Str × Shp))
  | obj (x : Str) (l : List (Str × Shp))
mutual
def Shp.plain : Shp → Bool
  | .flat => true
  | .all s => s.plain
  | .keys l => Shp.plainL l
  | .obj _ _ => false
def Shp.plainL : List (Str × Shp) → Bool
  | [] => true
  | (_, s) :: r => s.plain && Shp.plainL r
end
def Shp.selL : Shp → Option (Option Shp)
  | .flat => some none
  | .all s => some (some s)
  | _ => none
def keyS (l : List (Str × Shp)) : Key → Option Shp
  | .inr x => l.lookup x
  | _ => none
def Shp.selK : Shp → Option (Key → Option Shp)
  | .flat => some fun _ => none
  | .all s => some fun _ => some s
  | .keys l => some (keyS l)
  | .obj _ _ => none
theorem Shp.plain_lookup {x : Str} {s : Shp} : ∀ {l : List (Str × Shp)}, Shp.plainL l = true → l.lookup x = some s → s.plain = true
  | (y, u) :: r, h, e => by
    obtain ⟨h1, h2⟩ := Bool.and_eq_true_iff.mp (show (u.plain && Shp.plainL r) = true from h)
    have e2 : (match x == y with | true => some u | false => r.lookup x) = some s := e
    split at e2
    · cases e2
      exact h1
    · exact Shp.plain_lookup h2 e2
theorem Shp.plain_selK {s u : Shp} {q : Key → Option Shp} {k : Key} (h : s.plain = true) (hq : s.selK = some q) (hk : q k = some u) : u.plain = true := by
  cases s with
  | flat =>
    cases hq
    cases hk
  | all s =>
    cases hq
    cases hk
    exact h
  | keys l =>
    cases hq
    cases k with
    | inl i => cases hk
    | inr x => exact Shp.plain_lookup h hk
  | obj x l => cases hq
theorem Shp.plain_selL {s u : Shp} {o : Option Shp} (h : s.plain = true) (hq : s.selL = some o) (hk : o = some u) : u.plain = true := by
  cases s with
  | flat =>
    cases hq
    cases hk
  | all s =>
    cases hq
    cases hk
    exact h
  | keys l => cases hq
  | obj x l => cases hq
mutual
inductive Own (K : PySem.W.Frag) (B H : Hp) : Shp → List Addr → Addr → D → Prop
  | lst {s : Shp} {o : Option Shp} {a : Addr} {xs : List V} {ds : List D} {F : List Addr} : s.selL = some o → H a = some (.lst xs) → OwnA K B H o F xs ds → a ∉ F → Own K B H s (a :: F) a (.list ds)
  | dct {s : Shp} {q : Key → Option Shp} {a : Addr} {kvs : List (Key × V)} {ds : List (D × D)} {F : List Addr} : s.selK = some q → H a = some (.dK kvs) → (kvs.map (·.1)).Nodup → OwnK K B H q F kvs ds → a ∉ F → Own K B H s (a :: F) a (.dict ds)
  | ins {l : List (Str × Shp)} {a dx : Addr} {x : Str} {fs : List (Str × V)} {ds : List (D × D)} {F : List Addr} : H a = some (.ins (He.ga K x) dx fs) → H dx = some (.own a) → dx ≠ a → OwnF K B H (fun k => l.lookup k) F fs ds → a ∉ F → dx ∉ F → Own K B H (.obj x l) (a :: dx :: F) a (.dict ((.none, .str x) :: ds))
inductive OwnA (K : PySem.W.Frag) (B H : Hp) : Option Shp → List Addr → List V → List D → Prop
  | nil {o : Option Shp} : OwnA K B H o [] [] []
  | rep {v : V} {vs : List V} {d : D} {ds : List D} {F : List Addr} : Rep K B v d → OwnA K B H none F vs ds → OwnA K B H none F (v :: vs) (d :: ds)
  | own {s : Shp} {b : Addr} {vs : List V} {d : D} {ds : List D} {F G : List Addr} : Own K B H s G b d → OwnA K B H (some s) F vs ds → (∀ x ∈ G, x ∉ F) → OwnA K B H (some s) (G ++ F) (.ref b :: vs) (d :: ds)
inductive OwnK (K : PySem.W.Frag) (B H : Hp) : (Key → Option Shp) → List Addr → List (Key × V) → List (D × D) → Prop
  | nil {q : Key → Option Shp} : OwnK K B H q [] [] []
  | rep {q : Key → Option Shp} {k : Key} {v : V} {vs : List (Key × V)} {d : D} {ds : List (D × D)} {F : List Addr} : q k = none → Rep K B v d → OwnK K B H q F vs ds → OwnK K B H q F ((k, v) :: vs) ((kD k, d) :: ds)
  | own {q : Key → Option Shp} {s : Shp} {k : Key} {b : Addr} {vs : List (Key × V)} {d : D} {ds : List (D × D)} {F G : List Addr} : q k = some s → Own K B H s G b d → OwnK K B H q F vs ds → (∀ x ∈ G, x ∉ F) → OwnK K B H q (G ++ F) ((k, .ref b) :: vs) ((kD k, d) :: ds)
inductive OwnF (K : PySem.W.Frag) (B H : Hp) : (Str → Option Shp) → List Addr → List (Str × V) → List (D × D) → Prop
  | nil {q : Str → Option Shp} : OwnF K B H q [] [] []
  | rep {q : Str → Option Shp} {k : Str} {v : V} {vs : List (Str × V)} {d : D} {ds : List (D × D)} {F : List Addr} : q k = none → Rep K B v d → OwnF K B H q F vs ds → OwnF K B H q F ((k, v) :: vs) ((.str k, d) :: ds)
  | own {q : Str → Option Shp} {s : Shp} {k : Str} {b : Addr} {vs : List (Str × V)} {d : D} {ds : List (D × D)} {F G : List Addr} : q k = some s → Own K B H s G b d → OwnF K B H q F vs ds → (∀ x ∈ G, x ∉ F) → OwnF K B H q (G ++ F) ((k, .ref b) :: vs) ((.str k, d) :: ds)
end
section
variable {K : PySem.W.Frag} {B B' H H' : Hp}
mutual
theorem Own.mono (e : Ex B B') : ∀ {s : Shp} {F : List Addr} {a : Addr} {d : D}, (∀ x ∈ F, H' x = H x) → Own K B H s F a d → Own K B' H' s F a d
  | _, _, _, _, k, .lst z h o m => .lst z ((k _ List.mem_cons_self).trans h) (OwnA.mono e (fun x hx => k x (List.mem_cons_of_mem _ hx)) o) m
  | _, _, _, _, k, .dct z h u o m => .dct z ((k _ List.mem_cons_self).trans h) u (OwnK.mono e (fun x hx => k x (List.mem_cons_of_mem _ hx)) o) m
  | _, _, _, _, k, .ins h g u o m l => .ins ((k _ List.mem_cons_self).trans h) ((k _ (List.mem_cons_of_mem _ List.mem_cons_self)).trans g) u (OwnF.mono e (fun x hx => k x (List.mem_cons_of_mem _ (List.mem_cons_of_mem _ hx))) o) m l
theorem OwnA.mono (e : Ex B B') : ∀ {w : Option Shp} {F : List Addr} {vs : List V} {ds : List D}, (∀ x ∈ F, H' x = H x) → OwnA K B H w F vs ds → OwnA K B' H' w F vs ds
  | _, _, _, _, k, .nil => .nil
  | _, _, _, _, k, .rep r o => .rep (r.mono e) (OwnA.mono e k o)
  | _, _, _, _, k, .own q o u => .own (Own.mono e (fun x hx => k x (List.mem_append_left _ hx)) q) (OwnA.mono e (fun x hx => k x (List.mem_append_right _ hx)) o) u
theorem OwnK.mono (e : Ex B B') : ∀ {w : Key → Option Shp} {F : List Addr} {vs : List (Key × V)} {ds : List (D × D)}, (∀ x ∈ F, H' x = H x) → OwnK K B H w F vs ds → OwnK K B' H' w F vs ds
  | _, _, _, _, k, .nil => .nil
  | _, _, _, _, k, .rep z r o => .rep z (r.mono e) (OwnK.mono e k o)
  | _, _, _, _, k, .own z q o u => .own z (Own.mono e (fun x hx => k x (List.mem_append_left _ hx)) q) (OwnK.mono e (fun x hx => k x (List.mem_append_right _ hx)) o) u
theorem OwnF.mono (e : Ex B B') : ∀ {w : Str → Option Shp} {F : List Addr} {vs : List (Str × V)} {ds : List (D × D)}, (∀ x ∈ F, H' x = H x) → OwnF K B H w F vs ds → OwnF K B' H' w F vs ds
  | _, _, _, _, k, .nil => .nil
  | _, _, _, _, k, .rep z r o => .rep z (r.mono e) (OwnF.mono e k o)
  | _, _, _, _, k, .own z q o u => .own z (Own.mono e (fun x hx => k x (List.mem_append_left _ hx)) q) (OwnF.mono e (fun x hx => k x (List.mem_append_right _ hx)) o) u
end
mutual
theorem Own.has : ∀ {s : Shp} {F : List Addr} {a : Addr} {d : D}, Own K B H s F a d → ∀ x ∈ F, ∃ o, H x = some o
  | _, _, _, _, .lst z h o m, x, hx => by
    rcases List.mem_cons.mp hx with rfl | hx
    · exact ⟨_, h⟩
    · exact OwnA.has o x hx
  | _, _, _, _, .dct z h u o m, x, hx => by
    rcases List.mem_cons.mp hx with rfl | hx
    · exact ⟨_, h⟩
    · exact OwnK.has o x hx
  | _, _, _, _, .ins h g u o m l, x, hx => by
    rcases List.mem_cons.mp hx with rfl | hx
    · exact ⟨_, h⟩
    · rcases List.mem_cons.mp hx with rfl | hx
      · exact ⟨_, g⟩
      · exact OwnF.has o x hx
theorem OwnA.has : ∀ {w : Option Shp} {F : List Addr} {vs : List V} {ds : List D}, OwnA K B H w F vs ds → ∀ x ∈ F, ∃ o, H x = some o
  | _, _, _, _, .nil, x, hx => (nomatch hx)
  | _, _, _, _, .rep r o, x, hx => OwnA.has o x hx
  | _, _, _, _, .own q o u, x, hx => by
    rcases List.mem_append.mp hx with hx | hx
    · exact Own.has q x hx
    · exact OwnA.has o x hx
theorem OwnK.has : ∀ {w : Key → Option Shp} {F : List Addr} {vs : List (Key × V)} {ds : List (D × D)}, OwnK K B H w F vs ds → ∀ x ∈ F, ∃ o, H x = some o
  | _, _, _, _, .nil, x, hx => (nomatch hx)
  | _, _, _, _, .rep z r o, x, hx => OwnK.has o x hx
  | _, _, _, _, .own z q o u, x, hx => by
    rcases List.mem_append.mp hx with hx | hx
    · exact Own.has q x hx
    · exact OwnK.has o x hx
theorem OwnF.has : ∀ {w : Str → Option Shp} {F : List Addr} {vs : List (Str × V)} {ds : List (D × D)}, OwnF K B H w F vs ds → ∀ x ∈ F, ∃ o, H x = some o
  | _, _, _, _, .nil, x, hx => (nomatch hx)
  | _, _, _, _, .rep z r o, x, hx => OwnF.has o x hx
  | _, _, _, _, .own z q o u, x, hx => by
    rcases List.mem_append.mp hx with hx | hx
    · exact Own.has q x hx
    · exact OwnF.has o x hx
end
theorem Own.root {s : Shp} {F : List Addr} {a : Addr} {d : D} : Own K B H s F a d → a ∈ F
  | .lst _ _ _ _ => List.mem_cons_self
  | .dct _ _ _ _ _ => List.mem_cons_self
  | .ins _ _ _ _ _ _ => List.mem_cons_self
/-! where they stand nothing but cells stands -/
mutual
theorem Own.cell : ∀ {s : Shp} {F : List Addr} {a : Addr} {d : D}, s.plain = true → Own K B H s F a d → ∀ x ∈ F, ∃ o, H x = some o ∧ isCell o = true
  | _, _, _, _, p, .lst z h o m, x, hx => by
    rcases List.mem_cons.mp hx with rfl | hx
    · exact ⟨_, h, rfl⟩
    · exact OwnA.cell (fun u e => Shp.plain_selL p z e) o x hx
  | _, _, _, _, p, .dct z h u o m, x, hx => by
    rcases List.mem_cons.mp hx with rfl | hx
    · exact ⟨_, h, rfl⟩
    · exact OwnK.cell (fun k u e => Shp.plain_selK p z e) o x hx
  | _, _, _, _, p, .ins h g u o m l, x, hx => by cases p
theorem OwnA.cell : ∀ {w : Option Shp} {F : List Addr} {vs : List V} {ds : List D}, (∀ u, w = some u → u.plain = true) → OwnA K B H w F vs ds → ∀ x ∈ F, ∃ o, H x = some o ∧ isCell o = true
  | _, _, _, _, p, .nil, x, hx => (nomatch hx)
  | _, _, _, _, p, .rep r o, x, hx => OwnA.cell p o x hx
  | _, _, _, _, p, .own q o u, x, hx => by
    rcases List.mem_append.mp hx with hx | hx
    · exact Own.cell (p _ rfl) q x hx
    · exact OwnA.cell p o x hx
theorem OwnK.cell : ∀ {w : Key → Option Shp} {F : List Addr} {vs : List (Key × V)} {ds : List (D × D)}, (∀ k u, w k = some u → u.plain = true) → OwnK K B H w F vs ds → ∀ x ∈ F, ∃ o, H x = some o ∧ isCell o = true
  | _, _, _, _, p, .nil, x, hx => (nomatch hx)
  | _, _, _, _, p, .rep z r o, x, hx => OwnK.cell p o x hx
  | _, _, _, _, p, .own z q o u, x, hx => by
    rcases List.mem_append.mp hx with hx | hx
    · exact Own.cell (p _ _ z) q x hx
    · exact OwnK.cell p o x hx
end
/-! frozen: read as data where the base holds it -/
mutual
theorem Own.frz (e : Ex B B') : ∀ {s : Shp} {F : List Addr} {a : Addr} {d : D}, s.plain = true → (∀ x ∈ F, B' x = H x) → Own K B H s F a d → Rep K B' (.ref a) d
  | _, _, _, _, p, k, .lst z h o m => .lst (.inl ((k _ List.mem_cons_self).trans h)) (OwnA.frz e (fun u e => Shp.plain_selL p z e) (fun x hx => k x (List.mem_cons_of_mem _ hx)) o)
  | _, _, _, _, p, k, .dct z h u o m => .dct ((k _ List.mem_cons_self).trans h) u (OwnK.frz e (fun k u e => Shp.plain_selK p z e) (fun x hx => k x (List.mem_cons_of_mem _ hx)) o)
  | _, _, _, _, p, k, .ins h g u o m l => by cases p
theorem OwnA.frz (e : Ex B B') : ∀ {w : Option Shp} {F : List Addr} {vs : List V} {ds : List D}, (∀ u, w = some u → u.plain = true) → (∀ x ∈ F, B' x = H x) → OwnA K B H w F vs ds → RepA K B' vs ds
  | _, _, _, _, p, k, .nil => .nil
  | _, _, _, _, p, k, .rep r o => .cons (r.mono e) (OwnA.frz e p k o)
  | _, _, _, _, p, k, .own q o u => .cons (Own.frz e (p _ rfl) (fun x hx => k x (List.mem_append_left _ hx)) q) (OwnA.frz e p (fun x hx => k x (List.mem_append_right _ hx)) o)
theorem OwnK.frz (e : Ex B B') : ∀ {w : Key → Option Shp} {F : List Addr} {vs : List (Key × V)} {ds : List (D × D)}, (∀ k u, w k = some u → u.plain = true) → (∀ x ∈ F, B' x = H x) → OwnK K B H w F vs ds → RepK K B' vs ds
  | _, _, _, _, p, k, .nil => .nil
  | _, _, _, _, p, k, .rep z r o => .cons (r.mono e) (OwnK.frz e p k o)
  | _, _, _, _, p, k, .own z q o u => .cons (Own.frz e (p _ _ z) (fun x hx => k x (List.mem_append_left _ hx)) q) (OwnK.frz e p (fun x hx => k x (List.mem_append_right _ hx)) o)
end
theorem OwnA.of : ∀ {vs : List V} {ds : List D}, RepA K B vs ds → OwnA K B H none [] vs ds
  | _, _, .nil => .nil
  | _, _, .cons r t => .rep r (OwnA.of t)
theorem OwnK.of : ∀ {vs : List (Key × V)} {ds : List (D × D)}, RepK K B vs ds → OwnK K B H (fun _ => none) [] vs ds
  | _, _, .nil => .nil
  | _, _, .cons r t => .rep rfl r (OwnK.of t)
/-- flat: all within is frozen -/
theorem OwnA.flat0 : ∀ {F : List Addr} {vs : List V} {ds : List D}, OwnA K B H none F vs ds → RepA K B vs ds
  | _, _, _, .nil => .nil
  | _, _, _, .rep r o => .cons r (OwnA.flat0 o)
theorem OwnA.foot0 : ∀ {F : List Addr} {vs : List V} {ds : List D}, OwnA K B H none F vs ds → F = []
  | _, _, _, .nil => rfl
  | _, _, _, .rep r o => OwnA.foot0 o
theorem OwnK.flat0 : ∀ {F : List Addr} {vs : List (Key × V)} {ds : List (D × D)}, OwnK K B H (fun _ => none) F vs ds → RepK K B vs ds
  | _, _, _, .nil => .nil
  | _, _, _, .rep z r o => .cons r (OwnK.flat0 o)
  | _, _, _, .own z q o u => by cases z
theorem OwnK.foot0 : ∀ {F : List Addr} {vs : List (Key × V)} {ds : List (D × D)}, OwnK K B H (fun _ => none) F vs ds → F = []
  | _, _, _, .nil => rfl
  | _, _, _, .rep z r o => OwnK.foot0 o
  | _, _, _, .own z q o u => by cases z
end

/-! ### results -/
inductive Res (β : Type) where
  | ok (b : β)
  | ex (c : Addr) (fl : Option (Str × D))
abbrev DM (β : Type) := DS → Option (Res β × DS)
def DM.pure {β : Type} (b : β) : DM β := fun st => some (.ok b, st)
def DM.opt {β : Type} (o : Option β) : DM β := fun st => o.map fun b => (.ok b, st)
def DM.bind {β γ : Type} (m : DM β) (k : β → DM γ) : DM γ := fun st => match m st with
  | none => none
  | some (.ok b, st1) => k b st1
  | some (.ex c fl, st1) => some (.ex c fl, st1)
theorem bind_ok {β γ : Type} {m : DM β} {k : β → DM γ} {st st1 : DS} {b : β} (h : m st = some (.ok b, st1)) : m.bind k st = k b st1 := by
  unfold DM.bind
  rw [h]
theorem bind_ex {β γ : Type} {m : DM β} {k : β → DM γ} {st st1 : DS} {c : Addr} {fl : Option (Str × D)} (h : m st = some (.ex c fl, st1)) : m.bind k st = some (.ex c fl, st1) := by
  unfold DM.bind
  rw [h]

/-! ### a def's static part; the relation between the abstract slots and heap and the data -/
structure Cf where
  mx : Bool
  hid : List Nat
  ps : List Nat
  kd : List Shp
  W : XK
/-- z: the cells that are read as if they were frozen; fr: what else stands and must stay -/
structure Zn where
  z : Addr → Bool
  fr : Hp
/-- more that must stay -/
def addF (Φ H : Hp) (F : List Addr) : Hp := fun a => if a ∈ F then H a else Φ a
def Zn.add (Z : Zn) (H : Hp) (F : List Addr) : Zn := ⟨Z.z, addF Z.fr H F⟩
theorem addF_in {Φ H : Hp} {F : List Addr} {a : Addr} (h : a ∈ F) : addF Φ H F a = H a := if_pos h
theorem addF_out {Φ H : Hp} {F : List Addr} {a : Addr} (h : a ∉ F) : addF Φ H F a = Φ a := if_neg h
theorem addF_none {Φ H : Hp} {F : List Addr} {a : Addr} (h : addF Φ H F a = none) (hh : a ∈ F → ∃ o, H a = some o) : a ∉ F ∧ Φ a = none := by
  by_cases z : a ∈ F
  · rw [addF_in z] at h
    obtain ⟨o, q⟩ := hh z
    rw [h] at q
    cases q
  · rw [addF_out z] at h
    exact ⟨z, h⟩
structure ER (K : PySem.W.Frag) (c : Cf) (A : Nat → Addr) (Z : Zn) (B : Hp) (σ : L2.St) (H : Hp) (st : DS) : Prop where
  len : st.length = σ.length
  bh : Ex B H
  rd : ∀ i d, i ∉ c.hid → i ∉ c.ps → st[i]? = some (some d) → ∃ v, σ[i]? = some (some v) ∧ Rep K B v d
  pn : ∃ F : Nat → List Addr, (∀ i ∈ c.ps, ∃ d, st[i]? = some (some d) ∧ σ[i]? = some (some (.ref (A i))) ∧ Own K (cut B Z.z) H (c.kd.getD i .flat) (F i) (A i) d ∧ ∀ x ∈ F i, B x = none ∧ Z.fr x = none) ∧ ∀ i ∈ c.ps, ∀ j ∈ c.ps, i ≠ j → ∀ x ∈ F i, x ∉ F j
  fr : ∀ a o, Z.fr a = some o → H a = some o ∧ B a = none
  zx : c.mx = false → ∀ a, Z.z a = false
  zo : ∀ a, Z.z a = true → ∃ o, B a = some o ∧ isCell o = true
structure Adv (ps : List Nat) (A : Nat → Addr) (B H : Hp) (st : DS) (B' H' : Hp) (st' : DS) : Prop where
  ext : Ex B B'
  ln : st'.length = st.length
  upd : ∀ (i : Nat), i ∉ ps → st'[i]? = st[i]?
  pst : ∀ (i : Nat) (d : D), st'[i]? = some (some d) → ∃ e, st[i]? = some (some e)
theorem Adv.refl {ps : List Nat} {A : Nat → Addr} {B H : Hp} {st : DS} : Adv ps A B H st B H st := ⟨fun _ _ h => h, rfl, fun _ _ => rfl, fun _ d h => ⟨d, h⟩⟩
theorem Adv.trans {ps : List Nat} {A : Nat → Addr} {B H B1 H1 B2 H2 : Hp} {st st1 st2 : DS} (a : Adv ps A B H st B1 H1 st1) (b : Adv ps A B1 H1 st1 B2 H2 st2) : Adv ps A B H st B2 H2 st2 where
  ext := fun x o h => b.ext x o (a.ext x o h)
  ln := b.ln.trans a.ln
  upd := fun i h => (b.upd i h).trans (a.upd i h)
  pst := fun i d h => by
    obtain ⟨e, h1⟩ := b.pst i d h
    exact a.pst i e h1
/-- a step that changes nothing that was there -/
structure Pu (B H B' H' : Hp) : Prop where
  ext : Ex B B'
  hx : Ex H H'
  bh : Ex B' H'
  new : ∀ a o, B' a = some o → B a = some o ∨ H a = none
theorem Pu.refl {B H : Hp} (e : Ex B H) : Pu B H B H := ⟨fun _ _ h => h, fun _ _ h => h, e, fun _ _ h => .inl h⟩
theorem none_of {B H : Hp} (e : Ex B H) {p : Addr} (h : H p = none) : B p = none := by
  cases q : B p with
  | none => rfl
  | some o =>
    rw [e p o q] at h
    cases h
theorem Pu.mk1 {B H : Hp} (e : Ex B H) {p : Addr} {o : HO} (h : H p = none) : Pu B H (upd B p o) (upd H p o) where
  ext := fun a u q => by
    rw [upd_ne (ne_of_none q (none_of e h))]
    exact q
  hx := fun a u q => by
    rw [upd_ne (ne_of_none q h)]
    exact q
  bh := fun a u q => by
    by_cases z : a = p
    · subst z
      rw [upd_same] at q
      rw [upd_same]
      exact q
    · rw [upd_ne z] at q
      rw [upd_ne z]
      exact e a u q
  new := fun a u q => by
    by_cases z : a = p
    · subst z
      exact .inr h
    · rw [upd_ne z] at q
      exact .inl q
/-- a new object that the base does not know -/
theorem Pu.mk0 {B H : Hp} (e : Ex B H) {p : Addr} {o : HO} (h : H p = none) : Pu B H B (upd H p o) where
  ext := fun a u q => q
  hx := fun a u q => by
    rw [upd_ne (ne_of_none q h)]
    exact q
  bh := fun a u q => by
    rw [upd_ne (ne_of_none (e a u q) h)]
    exact e a u q
  new := fun a u q => .inl q
theorem Pu.trans {B H B1 H1 B2 H2 : Hp} (a : Pu B H B1 H1) (b : Pu B1 H1 B2 H2) : Pu B H B2 H2 where
  ext := fun x o h => b.ext x o (a.ext x o h)
  hx := fun x o h => b.hx x o (a.hx x o h)
  bh := b.bh
  new := fun x o h => by
    rcases b.new x o h with h | h
    · exact a.new x o h
    · exact .inr (none_of a.hx h)
section
variable {K : PySem.W.Frag} {c : Cf} {A : Nat → Addr} {Z : Zn} {B B' H H' : Hp} {σ : L2.St} {st : DS}
theorem Pu.adv {ps : List Nat} (p : Pu B H B' H') : Adv ps A B H st B' H' st := ⟨p.ext, rfl, fun _ _ => rfl, fun _ d h => ⟨d, h⟩⟩
theorem Pu.off (p : Pu B H B' H') {a : Addr} {o : HO} (h : H a = some o) (hb : B a = none) : B' a = none := by
  cases z : B' a with
  | none => rfl
  | some u =>
    rcases p.new _ _ z with z | z
    · rw [hb] at z
      cases z
    · rw [h] at z
      cases z
theorem Own.hx {n : Shp} {F : List Addr} {a : Addr} {d : D} (e : Ex B B') (h : Ex H H') (o : Own K B H n F a d) : Own K B' H' n F a d := o.mono e fun x hx => by
  obtain ⟨u, q⟩ := o.has x hx
  rw [q, h _ _ q]
theorem ER.pu (e : ER K c A Z B σ H st) (p : Pu B H B' H') : ER K c A Z B' σ H' st where
  len := e.len
  bh := p.bh
  rd := fun i d h1 h2 h => by
    obtain ⟨v, q, r⟩ := e.rd i d h1 h2 h
    exact ⟨v, q, r.mono p.ext⟩
  pn := by
    obtain ⟨F, h1, h2⟩ := e.pn
    refine ⟨F, fun i hi => ?_, h2⟩
    obtain ⟨d, q1, q2, q3, q4⟩ := h1 i hi
    refine ⟨d, q1, q2, q3.hx (cut_mono p.ext) p.hx, fun x hx => ⟨?_, (q4 x hx).2⟩⟩
    obtain ⟨o, ho⟩ := q3.has x hx
    exact p.off ho (q4 x hx).1
  fr := fun a o h => by
    obtain ⟨h1, h2⟩ := e.fr a o h
    exact ⟨p.hx _ _ h1, p.off h1 h2⟩
  zx := e.zx
  zo := fun a h => by
    obtain ⟨o, h1, h2⟩ := e.zo a h
    exact ⟨o, p.ext a o h1, h2⟩
end

/-! ### evaluation -/
def Fld (K : PySem.W.Frag) (B H : Hp) (dx : Option Addr) : Option (Str × D) → Prop
  | none => dx = none
  | some (x, d) => ∃ p v, dx = some p ∧ H p = some (.xd [(x, v)]) ∧ Rep K B v d
abbrev TG0 (α : Type) := L2.St → Hp → (α → Hp → Prop) → Prop
def EvP {α β : Type} (K : PySem.W.Frag) (c : Cf) (P : Hp → Prop) (rel : Hp → α → β → Prop) (t : TG0 α) (f : DM β) : Prop :=
  ∀ (A : Nat → Addr) (Z : Zn) (B : Hp) (σ : L2.St) (H : Hp) (st : DS) (r : Res β × DS), ER K c A Z B σ H st → P B → f st = some r → ∀ Q : α → Hp → Prop,
    (∀ b st', r = (.ok b, st') → ∀ v B' H', ER K c A Z B' σ H' st' → Adv c.ps A B H st B' H' st' → rel B' v b → Q v H') →
    (∀ x fl st', r = (.ex x fl, st') → ∀ dx B' H', ER K c A Z B' σ H' st' → Adv c.ps A B H st B' H' st' → Fld K B' H' dx fl → c.W (.ref x) dx H') → t σ H Q
def Mono (P : Hp → Prop) : Prop := ∀ B B', Ex B B' → P B → P B'
def MonoR {α β : Type} (rel : Hp → α → β → Prop) : Prop := ∀ v b, Mono fun B => rel B v b
theorem mono_true : Mono fun _ => True := fun _ _ _ h => h
theorem Mono.and {P R : Hp → Prop} (a : Mono P) (b : Mono R) : Mono fun B => P B ∧ R B := fun B B' e h => ⟨a B B' e h.1, b B B' e h.2⟩
theorem monoR_rep {K : PySem.W.Frag} : MonoR (Rep K) := fun v d B B' e h => h.mono e
theorem monoR_repA {K : PySem.W.Frag} : MonoR (RepA K) := fun v d B B' e h => h.mono e
abbrev eqR {α : Type} : Hp → α → α → Prop := fun _ x y => x = y
theorem monoR_eq {α : Type} : MonoR (eqR (α := α)) := fun v d B B' e h => h
section
variable {α β γ δ : Type} {K : PySem.W.Frag} {c : Cf} {P : Hp → Prop}
theorem EvP.bind {relA : Hp → α → β → Prop} {relC : Hp → γ → δ → Prop} {ta : TG0 α} {tk : α → TG0 γ} {fa : DM β} {k : β → DM δ} (hP : Mono P) (ha : EvP K c P relA ta fa)
    (hk : ∀ x b, EvP K c (fun B => P B ∧ relA B x b) relC (tk x) (k b)) : EvP K c P relC (fun σ H Q => ta σ H fun x H1 => tk x σ H1 Q) (fa.bind k) := by
  intro A Z B σ H st r er p hf Q hok hex
  cases ea : fa st with
  | none =>
    unfold DM.bind at hf
    rw [ea] at hf
    cases hf
  | some ra =>
    obtain ⟨res, st1⟩ := ra
    refine ha A Z B σ H st _ er p ea _ (fun b st' e v B' H' er' ad rv => ?_) (fun x fl st' e dx B' H' er' ad fl' => ?_)
    · cases e
      rw [bind_ok ea] at hf
      exact hk v b A Z B' σ H' st1 r er' ⟨hP _ _ ad.ext p, rv⟩ hf Q (fun b2 st2 e2 v2 B2 H2 er2 ad2 rv2 => hok b2 st2 e2 v2 B2 H2 er2 (ad.trans ad2) rv2)
        fun x fl st2 e2 dx B2 H2 er2 ad2 fl2 => hex x fl st2 e2 dx B2 H2 er2 (ad.trans ad2) fl2
    · cases e
      rw [bind_ex ea] at hf
      exact hex x fl st1 (Option.some.inj hf).symm dx B' H' er' ad fl'
theorem EvP.weak {R : Hp → Prop} {rel : Hp → α → β → Prop} {t : TG0 α} {f : DM β} (h : EvP K c P rel t f) (w : ∀ B, R B → P B) : EvP K c R rel t f :=
  fun A Z B σ H st r er p hf Q hok hex => h A Z B σ H st r er (w B p) hf Q hok hex
/-- by values alone -/
theorem EvP.val {rel : Hp → α → β → Prop} {t : Hp → (α → Hp → Prop) → Prop} {o : Option β}
    (h : ∀ (B H : Hp) (b : β), Ex B H → P B → o = some b → ∀ Q : α → Hp → Prop, (∀ v B' H', Pu B H B' H' → rel B' v b → Q v H') → t H Q) : EvP K c P rel (fun _ H Q => t H Q) (DM.opt o) := by
  intro A Z B σ H st r er p hf Q hok hex
  cases o with
  | none => cases hf
  | some b =>
    cases hf
    exact h B H b er.bh p rfl Q fun v B' H' pu rv => hok b st rfl v B' H' (er.pu pu) pu.adv rv
theorem EvP.pure {rel : Hp → α → β → Prop} {v : α} {b : β} (h : ∀ B, P B → rel B v b) : EvP K c P rel (fun _ H Q => Q v H) (DM.pure b) := by
  intro A Z B σ H st r er p hf Q hok hex
  cases hf
  exact hok b st rfl v B H er Adv.refl (h B p)
end
abbrev EvD (K : PySem.W.Frag) (c : Cf) (t : TE) (f : DM D) : Prop := EvP K c (fun _ => True) (Rep K) t f
abbrev EvT (K : PySem.W.Frag) (c : Cf) (t : TT) (f : DM Bool) : Prop := EvP K c (fun _ => True) eqR t f
abbrev EvA (K : PySem.W.Frag) (c : Cf) (t : TA) (f : DM (List D)) : Prop := EvP K c (fun _ => True) (RepA K) t f
abbrev EvO (K : PySem.W.Frag) (c : Cf) (t : TO) (f : DM (Option Int)) : Prop := EvP K c (fun _ => True) eqR t f

/-! ### the judgements: syntax, reading, data function -/
structure PD (X : Cx) (c : Cf) (e : Expr) (t : TE) (f : DM D) : Prop where
  pe : PE X e t
  ev : EvD X.K c t f
structure PDT (X : Cx) (c : Cf) (e : Expr) (t : TT) (f : DM Bool) : Prop where
  pt : PT X e t
  ev : EvT X.K c t f
structure PDA (X : Cx) (c : Cf) (es : List Expr) (t : TA) (f : DM (List D)) : Prop where
  pa : PA X es t
  ev : EvA X.K c t f
structure PDO (X : Cx) (c : Cf) (e : Option Expr) (t : TO) (f : DM (Option Int)) : Prop where
  po : PO X e t
  ev : EvO X.K c t f

/-! ### names, constants -/
def dvar (i : Nat) : DM D := fun st => match st[i]? with
  | some (some d) => some (.ok d, st)
  | _ => none
section
variable {X : Cx} {c : Cf}
theorem ev_var {K : PySem.W.Frag} {i : Nat} (h1 : i ∉ c.hid) (h2 : i ∉ c.ps) : EvD K c (tVar i) (dvar i) := by
  intro A Z B σ H st r er _ hf Q hok hex
  unfold dvar at hf
  split at hf
  · rename_i d hd
    cases hf
    obtain ⟨v, q, rv⟩ := er.rd i d h1 h2 hd
    exact ⟨v, q, hok d st rfl v B H er Adv.refl rv⟩
  · cases hf
theorem pd_var (i : Nat) {x : Str} {pos : Pos} (h1 : i ∉ c.hid := by decide) (h2 : i ∉ c.ps := by decide) (hN : X.N[i]? = some x := by rfl) (hv : Vis X.env.scope x := by first | exact Or.inl rfl | exact Or.inr (Or.inl rfl) | exact Or.inr (Or.inr rfl))
    (hd : (x == ("__debug__" : Str)) = false := by decide) (hcd : (x == ("__classdict__" : Str)) = false := by decide) : PD X c (.Name x pos) (tVar i) (dvar i) := ⟨pv i hN hv hd hcd, ev_var h1 h2⟩
theorem ev_c {K : PySem.W.Frag} {v : V} {d : D} (h : ∀ H, Rep K H v d) : EvD K c (tC v) (DM.pure d) := EvP.pure fun B _ => h B
theorem pd_int {i j pos} : PD X c (.Constant (.int i) j pos) (tC (.int i)) (DM.pure (.int i)) := ⟨pe_int, ev_c fun _ => .int i⟩
theorem pd_bl {i j pos} : PD X c (.Constant (.bool i) j pos) (tC (.bl i)) (DM.pure (.bool i)) := ⟨pe_bl, ev_c fun _ => .bl i⟩
theorem pd_str {i j pos} : PD X c (.Constant (.str i) j pos) (tC (.str i)) (DM.pure (.str i)) := ⟨pe_str, ev_c fun _ => .str i⟩
theorem pd_non {j pos} : PD X c (.Constant .none j pos) (tC .non) (DM.pure .none) := ⟨pe_non, ev_c fun _ => .non⟩
/-- a module's constant -/
theorem pd_glob {x : Str} {v : V} {d : D} {u : Value} {pos : Pos} (hg : Gl X x) (hm : X.mg x = some u) (r : RelV v u) (h : ∀ H, Rep X.K H v d) (hd : (x == ("__debug__" : Str)) = false := by decide) : PD X c (.Name x pos) (tC v) (DM.pure d) := ⟨pe_glob hg hm r hd, ev_c h⟩
theorem pd_globI {x : Str} {i : Int} {pos : Pos} (hg : Gl X x) (hm : ∃ t, X.mg x = some (.int i t)) (hd : (x == ("__debug__" : Str)) = false := by decide) : PD X c (.Name x pos) (tC (.int i)) (DM.pure (.int i)) := by
  obtain ⟨t, h⟩ := hm
  exact pd_glob hg h ⟨t, rfl⟩ (fun _ => .int i) hd
theorem pd_globS {x z : Str} {pos : Pos} (hg : Gl X x) (hm : ∃ t, X.mg x = some (.str z t)) (hd : (x == ("__debug__" : Str)) = false := by decide) : PD X c (.Name x pos) (tC (.str z)) (DM.pure (.str z)) := by
  obtain ⟨t, h⟩ := hm
  exact pd_glob hg h ⟨t, rfl⟩ (fun _ => .str z) hd
end

/-! ### operators -/
def dop (g : D → D → Option D) (fa fb : DM D) : DM D := fa.bind fun x => fb.bind fun y => DM.opt (g x y)
def dun (g : D → Option D) (fa : DM D) : DM D := fa.bind fun x => DM.opt (g x)
def RD2 (K : PySem.W.Frag) (r : R2) (g : D → D → Option D) : Prop := ∀ (x y : V) (dx dy dz : D) (B H : Hp), Ex B H → Rep K B x dx → Rep K B y dy → g dx dy = some dz →
  ∀ Q : VK, (∀ v B' H', Pu B H B' H' → Rep K B' v dz → Q v H') → r x y H Q
def RD1 (K : PySem.W.Frag) (r : V → Hp → VK → Prop) (g : D → Option D) : Prop := ∀ (x : V) (dx dz : D) (B H : Hp), Ex B H → Rep K B x dx → g dx = some dz →
  ∀ Q : VK, (∀ v B' H', Pu B H B' H' → Rep K B' v dz → Q v H') → r x H Q
section
variable {X : Cx} {c : Cf} {K : PySem.W.Frag} {ta tb : TE} {fa fb : DM D}
theorem ev_op {r : R2} {g : D → D → Option D} (hr : RD2 K r g) (ha : EvD K c ta fa) (hb : EvD K c tb fb) : EvD K c (tOp r ta tb) (dop g fa fb) :=
  EvP.bind (relA := Rep K) (tk := fun x σ H Q => tb σ H fun y H2 => r x y H2 Q) mono_true ha fun x dx => EvP.bind (relA := Rep K) (tk := fun y _ H Q => r x y H Q) (mono_true.and (monoR_rep x dx)) (hb.weak fun _ _ => True.intro) fun y dy =>
    EvP.val (t := fun H Q => r x y H Q) fun B H dz e p h Q q => hr x y dx dy dz B H e p.1.2 p.2 h Q q
theorem ev_un {r : V → Hp → VK → Prop} {g : D → Option D} (hr : RD1 K r g) (ha : EvD K c ta fa) : EvD K c (tUn r ta) (dun g fa) :=
  EvP.bind (relA := Rep K) (tk := fun x _ H Q => r x H Q) mono_true ha fun x dx => EvP.val (t := fun H Q => r x H Q) fun B H dz e p h Q q => hr x dx dz B H e p.2 h Q q
theorem RD2.or {r r' : R2} {g g' : D → D → Option D} (h : RD2 K r g) (h' : RD2 K r' g') : RD2 K (fun x y H Q => r x y H Q ∨ r' x y H Q) (fun x y => match g x y with | some z => some z | none => g' x y) :=
  fun x y dx dy dz B H e rx ry hg Q q => by
    cases eg : g dx dy with
    | some z =>
      simp only [eg] at hg
      cases hg
      exact .inl (h x y dx dy dz B H e rx ry eg Q q)
    | none =>
      simp only [eg] at hg
      exact .inr (h' x y dx dy dz B H e rx ry hg Q q)
theorem pd_bin {op : Operator} {r : R2} {g : D → D → Option D} {a b : Expr} {pos : Pos} (ho : OpR X (binaryOp op) r) (hr : RD2 X.K r g) (ha : PD X c a ta fa) (hb : PD X c b tb fb) : PD X c (.BinOp a op b pos) (tOp r ta tb) (dop g fa fb) :=
  ⟨pe_op ho ha.pe hb.pe, ev_op hr ha.ev hb.ev⟩
theorem pd_cmp {op : CmpOp} {r : R2} {g : D → D → Option D} {a b : Expr} {pos : Pos} (ho : OpR X (compareOp op) r) (hr : RD2 X.K r g) (ha : PD X c a ta fa) (hb : PD X c b tb fb) (hm : behindInMarks op b = false := by first | exact nomark _ | rfl) : PD X c (.Compare a [op] [b] pos) (tOp r ta tb) (dop g fa fb) :=
  ⟨pe_cmpR ho ha.pe hb.pe hm, ev_op hr ha.ev hb.ev⟩
theorem pd_un {op : UnaryOp} {r : V → Hp → VK → Prop} {g : D → Option D} {a : Expr} {pos : Pos} (ho : UnR X (unaryOp op) r) (hr : RD1 X.K r g) (ha : PD X c a ta fa) : PD X c (.UnaryOp op a pos) (tUn r ta) (dun g fa) := ⟨pe_un ho ha.pe, ev_un hr ha.ev⟩
end

/-! ### tests -/
def asB : D → Option Bool
  | .bool b => some b
  | _ => none
def dtest (fa : DM D) : DM Bool := fa.bind fun d => DM.opt (asB d)
def dand (fa fb : DM Bool) : DM Bool := fa.bind fun b => if b = true then fb else DM.pure false
def dor (fa fb : DM Bool) : DM Bool := fa.bind fun b => if b = true then DM.pure true else fb
def dnot (fa : DM Bool) : DM Bool := fa.bind fun b => DM.pure (!b)
def dBool (fa : DM Bool) : DM D := fa.bind fun b => DM.pure (.bool b)
section
variable {X : Cx} {c : Cf} {K : PySem.W.Frag} {ta tb : TE} {fa fb : DM D} {tt tu : TT} {ft fu : DM Bool} {P : Hp → Prop}
theorem asB_ok {B : Hp} {x : V} {d : D} {b : Bool} (r : Rep K B x d) (h : asB d = some b) : x = .bl b := by
  cases r <;> first | (cases h; done) | skip
  cases h
  rfl
theorem ev_test (ha : EvD K c ta fa) : EvT K c (fun σ H Q => ta σ H fun x H' => ∃ k, x = .bl k ∧ Q k H') (dtest fa) :=
  EvP.bind (relA := Rep K) (tk := fun x _ H Q => ∃ k, x = .bl k ∧ Q k H) mono_true ha fun x d => EvP.val (t := fun H Q => ∃ k, x = .bl k ∧ Q k H) fun B H b e p h Q q => ⟨b, asB_ok p.2 h, q b B H (Pu.refl e) rfl⟩
theorem pdt_cmp {op : CmpOp} {r : R2} {g : D → D → Option D} {a b : Expr} {pos : Pos} (ho : OpR X (compareOp op) r) (hr : RD2 X.K r g) (ha : PD X c a ta fa) (hb : PD X c b tb fb) (hm : behindInMarks op b = false := by first | exact nomark _ | rfl) : PDT X c (.Compare a [op] [b] pos) (tTest (tOp r ta tb)) (dtest (dop g fa fb)) :=
  ⟨pt_cmpR ho ha.pe hb.pe hm, ev_test (ev_op hr ha.ev hb.ev)⟩
theorem pdt_val {a : Expr} (ha : PD X c a ta fa) (he : ∀ whole, isTrue a X.env whole = (do let v ← whole; standAt a.pos; holding [v] (truthy v)) := by intro _; rfl) : PDT X c a (tB ta) (dtest fa) := ⟨pt_val ha.pe he, ev_test ha.ev⟩
theorem ev_if0 {α β : Type} {rel : Hp → α → β → Prop} {t : TG0 Bool} {u w : TG0 α} {f : DM Bool} {g h : DM β} (ht : EvP K c P eqR t f) (hP : Mono P) (hu : EvP K c P rel u g) (hw : EvP K c P rel w h) :
    EvP K c P rel (fun σ H Q => t σ H fun b H1 => if b = true then u σ H1 Q else w σ H1 Q) (f.bind fun b => if b = true then g else h) := by
  refine EvP.bind (tk := fun b σ H Q => if b = true then u σ H Q else w σ H Q) hP ht fun x b => ?_
  intro A Z B σ H st r er p hf Q hok hex
  have e : x = b := p.2
  subst e
  cases x with
  | true => exact hu A Z B σ H st r er p.1 hf Q hok hex
  | false => exact hw A Z B σ H st r er p.1 hf Q hok hex
theorem ev_and (h1 : EvT K c tt ft) (h2 : EvT K c tu fu) : EvT K c (tAnd tt tu) (dand ft fu) := ev_if0 (w := fun _ H Q => Q false H) h1 mono_true h2 (EvP.pure fun _ _ => rfl)
theorem ev_or (h1 : EvT K c tt ft) (h2 : EvT K c tu fu) : EvT K c (tOr tt tu) (dor ft fu) := ev_if0 (u := fun _ H Q => Q true H) h1 mono_true (EvP.pure fun _ _ => rfl) h2
theorem ev_not (h1 : EvT K c tt ft) : EvT K c (tNot tt) (dnot ft) := EvP.bind (tk := fun b _ H Q => Q (!b) H) mono_true h1 fun x b => EvP.pure fun B p => by
  have e : x = b := p.2
  show (!x) = (!b)
  rw [e]
/-- and, or: the parts as tests -/
structure PDW (X : Cx) (c : Cf) (e : Expr) (t : TT) (f : DM Bool) : Prop where
  pw : PW X e t
  ev : EvT X.K c t f
theorem PDW.pdt {e : Expr} (h : PDW X c e tt ft) : PDT X c e tt ft := ⟨h.pw.pt, h.ev⟩
variable {a b : Expr} {rest : List Expr} {pos : Pos}
theorem pdw_and1 (ha : PDT X c a tt ft) : PDW X c (.BoolOp .And [a] pos) tt ft := ⟨pw_and1 ha.pt, ha.ev⟩
theorem pdw_or1 (ha : PDT X c a tt ft) : PDW X c (.BoolOp .Or [a] pos) tt ft := ⟨pw_or1 ha.pt, ha.ev⟩
theorem pdw_and (ha : PDT X c a tt ft) (hb : PDW X c (.BoolOp .And (b :: rest) pos) tu fu) : PDW X c (.BoolOp .And (a :: b :: rest) pos) (tAnd tt tu) (dand ft fu) := ⟨pw_and ha.pt hb.pw, ev_and ha.ev hb.ev⟩
theorem pdw_or (ha : PDT X c a tt ft) (hb : PDW X c (.BoolOp .Or (b :: rest) pos) tu fu) : PDW X c (.BoolOp .Or (a :: b :: rest) pos) (tOr tt tu) (dor ft fu) := ⟨pw_or ha.pt hb.pw, ev_or ha.ev hb.ev⟩
theorem pdt_not (ha : PDT X c a tt ft) : PDT X c (.UnaryOp .Not a pos) (tNot tt) (dnot ft) := ⟨pt_not ha.pt, ev_not ha.ev⟩
theorem pd_ifexp {e : Expr} (ht : PDT X c e tt ft) (ha : PD X c a ta fa) (hb : PD X c b tb fb) : PD X c (.IfExp e a b pos) (tIf tt ta tb) (ft.bind fun k => if k = true then fa else fb) := ⟨pe_ifExp ht.pt ha.pe hb.pe, ev_if0 ht.ev mono_true ha.ev hb.ev⟩
/-- and, or, not as values (truths) -/
def dandV (fa fb : DM D) : DM D := (dtest fa).bind fun b => if b = true then fb else DM.pure (.bool false)
def dorV (fa fb : DM D) : DM D := (dtest fa).bind fun b => if b = true then DM.pure (.bool true) else fb
def dnotV (fa : DM D) : DM D := (dtest fa).bind fun b => DM.pure (.bool (!b))
theorem ev_andV (ha : EvD K c ta fa) (hb : EvD K c tb fb) : EvD K c (tAndV ta tb) (dandV fa fb) := by
  intro A Z B σ H st r er p hf Q hok hex
  have h0 := ev_if0 (rel := Rep K) (w := fun _ H Q => Q (.bl false) H) (ev_test ha) mono_true hb (EvP.pure (b := PyData.bool false) fun _ _ => .bl false) A Z B σ H st r er p hf Q hok hex
  exact h0
theorem ev_orV (ha : EvD K c ta fa) (hb : EvD K c tb fb) : EvD K c (tOrV ta tb) (dorV fa fb) := by
  intro A Z B σ H st r er p hf Q hok hex
  exact ev_if0 (rel := Rep K) (u := fun _ H Q => Q (.bl true) H) (ev_test ha) mono_true (EvP.pure (b := PyData.bool true) fun _ _ => .bl true) hb A Z B σ H st r er p hf Q hok hex
theorem ev_notV (ha : EvD K c ta fa) : EvD K c (tNotV ta) (dnotV fa) := by
  intro A Z B σ H st r er p hf Q hok hex
  exact EvP.bind (relC := Rep K) (tk := fun b _ H Q => Q (.bl (!b)) H) mono_true (ev_test ha) (fun x b => EvP.pure (b := PyData.bool (!b)) fun B p => by
    have e : x = b := p.2
    rw [e]
    exact .bl _) A Z B σ H st r er p hf Q hok hex
theorem pd_one {op} (h : PD X c a ta fa) : PD X c (.BoolOp op [a] pos) ta fa := ⟨pe_one h.pe, h.ev⟩
theorem pd_and (ha : PD X c a ta fa) (hb : PD X c (.BoolOp .And (b :: rest) pos) tb fb) : PD X c (.BoolOp .And (a :: b :: rest) pos) (tAndV ta tb) (dandV fa fb) := ⟨pe_and ha.pe hb.pe, ev_andV ha.ev hb.ev⟩
theorem pd_or (ha : PD X c a ta fa) (hb : PD X c (.BoolOp .Or (b :: rest) pos) tb fb) : PD X c (.BoolOp .Or (a :: b :: rest) pos) (tOrV ta tb) (dorV fa fb) := ⟨pe_or ha.pe hb.pe, ev_orV ha.ev hb.ev⟩
theorem pd_not (ha : PD X c a ta fa) : PD X c (.UnaryOp .Not a pos) (tNotV ta) (dnotV fa) := ⟨pe_not ha.pe, ev_notV ha.ev⟩
end
end DR

set_option maxRecDepth 100000
set_option maxHeartbeats 1000000
namespace DR
open PySem PySem.Spec L2
open PyProof.Rows hiding St
open Evl (Ex ex_l ex_t ex_rd)

/-! ### inversions -/
section
variable {K : PySem.W.Frag} {B : Hp} {v : V}
theorem rep_int {i : Int} (h : Rep K B v (.int i)) : v = .int i := by
  cases h
  rfl
theorem rep_str {i : Str} (h : Rep K B v (.str i)) : v = .str i := by
  cases h
  rfl
theorem rep_bl {i : Bool} (h : Rep K B v (.bool i)) : v = .bl i := by
  cases h
  rfl
theorem rep_non (h : Rep K B v .none) : v = .non := by
  cases h
  rfl
theorem rep_lst {ds : List D} (h : Rep K B v (.list ds)) : ∃ a xs, v = .ref a ∧ Rd B a (.lst xs) ∧ RepA K B xs ds := by
  cases h with
  | lst h a => exact ⟨_, _, rfl, h, a⟩
theorem rep_tup {ds : List D} (h : Rep K B v (.tuple ds)) : ∃ a xs, v = .ref a ∧ SqT K B a xs ∧ RepA K B xs ds := by
  cases h with
  | tup h a => exact ⟨_, _, rfl, h, a⟩
theorem repA_ints_of : ∀ {vs : List V} {ns : List Int}, RepA K B vs (ns.map PyData.int) → vs = ns.map V.int
  | _, [], .nil => rfl
  | _, n :: ns, .cons h t => by
    rw [rep_int h, repA_ints_of t]
    rfl
theorem repA_strs_of : ∀ {vs : List V} {ns : List Str}, RepA K B vs (ns.map PyData.str) → vs = ns.map V.str
  | _, [], .nil => rfl
  | _, n :: ns, .cons h t => by
    rw [rep_str h, repA_strs_of t]
    rfl
theorem repA_bls_of : ∀ {vs : List V} {ns : List Bool}, RepA K B vs (ns.map PyData.bool) → vs = ns.map V.bl
  | _, [], .nil => rfl
  | _, n :: ns, .cons h t => by
    rw [rep_bl h, repA_bls_of t]
    rfl
end
/-! all of a list of data ints, texts, truths -/
def intsD : List D → Option (List Int)
  | [] => some []
  | .int i :: r => (intsD r).map (i :: ·)
  | _ => none
def strsD : List D → Option (List Str)
  | [] => some []
  | .str i :: r => (strsD r).map (i :: ·)
  | _ => none
def blsD : List D → Option (List Bool)
  | [] => some []
  | .bool i :: r => (blsD r).map (i :: ·)
  | _ => none
theorem intsD_eq : ∀ {ds : List D} {ns : List Int}, intsD ds = some ns → ds = ns.map PyData.int
  | [], ns, h => by
    cases h
    rfl
  | d :: r, ns, h => by
    cases d <;> first | (cases h; done) | skip
    rename_i i
    unfold intsD at h
    cases e : intsD r with
    | none =>
      rw [e] at h
      cases h
    | some ms =>
      rw [e] at h
      cases h
      rw [intsD_eq e]
      rfl
theorem strsD_eq : ∀ {ds : List D} {ns : List Str}, strsD ds = some ns → ds = ns.map PyData.str
  | [], ns, h => by
    cases h
    rfl
  | d :: r, ns, h => by
    cases d <;> first | (cases h; done) | skip
    rename_i i
    unfold strsD at h
    cases e : strsD r with
    | none =>
      rw [e] at h
      cases h
    | some ms =>
      rw [e] at h
      cases h
      rw [strsD_eq e]
      rfl
theorem blsD_eq : ∀ {ds : List D} {ns : List Bool}, blsD ds = some ns → ds = ns.map PyData.bool
  | [], ns, h => by
    cases h
    rfl
  | d :: r, ns, h => by
    cases d <;> first | (cases h; done) | skip
    rename_i i
    unfold blsD at h
    cases e : blsD r with
    | none =>
      rw [e] at h
      cases h
    | some ms =>
      rw [e] at h
      cases h
      rw [blsD_eq e]
      rfl
theorem intsD_map : ∀ (ns : List Int), intsD (ns.map PyData.int) = some ns
  | [] => rfl
  | n :: ns => by
    show (intsD (ns.map PyData.int)).map (n :: ·) = some (n :: ns)
    rw [intsD_map ns]
    rfl
theorem strsD_map : ∀ (ns : List Str), strsD (ns.map PyData.str) = some ns
  | [] => rfl
  | n :: ns => by
    show (strsD (ns.map PyData.str)).map (n :: ·) = some (n :: ns)
    rw [strsD_map ns]
    rfl
theorem blsD_map : ∀ (ns : List Bool), blsD (ns.map PyData.bool) = some ns
  | [] => rfl
  | n :: ns => by
    show (blsD (ns.map PyData.bool)).map (n :: ·) = some (n :: ns)
    rw [blsD_map ns]
    rfl

/-! ### operators by values -/
/-- a list that is read -/
theorem rd_lstM {X : Cx} {pins : List (Addr × Obj)} {σ : L2.St} {H : Hp} {s : Shared} {l : Addr} {xs : List V} (I : Inv X pins σ H s) (h : Rd H l (.lst xs)) : xs.length ≤ sizeLine ∧ ∃ (its : List Value) (n : Nat), Vals xs its ∧ xs.length = its.length ∧ s.heap.get? l = some { cls := .type "list", data := .seq its.toArray n } := by
  obtain ⟨z, its, n, r, e⟩ := h.ok I.hok
  exact ⟨z, its, n, r, r.length, e⟩
def rCatL : R2 := fun x y H Q => ∃ l b xs zs, x = .ref l ∧ y = .ref b ∧ Rd H l (.lst xs) ∧ Rd H b (.lst zs) ∧ xs.length + zs.length ≤ sizeLine ∧ ∀ p, H p = none → Q (.ref p) (upd H p (.lst (xs ++ zs)))
theorem op_catL {X : Cx} : OpR X (binaryOp .Add) rCatL := by
  intro pins s σ H x y v u Q I rx ry h
  obtain ⟨l, b, xs, zs, rfl, rfl, hH, hB, hz, q⟩ := h
  cases rx
  cases ry
  obtain ⟨z, its, n, r, hl, e⟩ := rd_lstM I hH
  obtain ⟨z2, its2, n2, r2, hl2, e2⟩ := rd_lstM I hB
  refine PySem.P.add_list e e2 ?_ (by rw [List.size_toArray, List.size_toArray]; omega)
  have ea : its.toArray ++ its2.toArray = (its ++ its2).toArray := by simp
  rw [ea]
  exact ⟨.ref _, _, I.lnew (t' := s.toks) (r.append r2) (by rw [List.length_append]; omega), rfl, q _ I.fresh⟩
abbrev rAddI : R2 := rI0 fun i j => .int (i + j)
abbrev rAddS : R2 := fun x y H Q => ∃ i j, x = .str i ∧ y = .str j ∧ i.length + j.length ≤ sizeLine ∧ Q (.str (i ++ j)) H
def rAddA (K : PySem.W.Frag) : R2 := fun x y H Q => rAddI x y H Q ∨ (rAddS x y H Q ∨ (rCatL x y H Q ∨ rCatA K x y H Q))
theorem op_addA {X : Cx} : OpR X (binaryOp .Add) (rAddA X.K) := op_add.or (op_add_str.or (op_catL.or op_catA))
def addD : D → D → Option D
  | .int i, .int j => some (.int (i + j))
  | .str i, .str j => if i.length + j.length ≤ sizeLine then some (.str (i ++ j)) else none
  | .list xs, .list ys => if xs.length + ys.length ≤ sizeLine then some (.list (xs ++ ys)) else none
  | .tuple xs, .tuple ys => if xs.length + ys.length ≤ sizeLine then some (.tuple (xs ++ ys)) else none
  | _, _ => none
theorem opt_if {α : Type} {p : Prop} [Decidable p] {a z : α} (h : (if p then some a else none) = some z) : p ∧ a = z := by
  by_cases hp : p
  · rw [if_pos hp] at h
    exact ⟨hp, Option.some.inj h⟩
  · rw [if_neg hp] at h
    cases h
section
variable {K : PySem.W.Frag}
theorem rd2_add : RD2 K (rAddA K) addD := by
  intro x y dx dy dz B H e rx ry hg Q q
  cases dx <;> cases dy <;> first | (cases hg; done) | skip
  · cases hg
    exact .inl ⟨_, _, rep_int rx, rep_int ry, q _ B H (Pu.refl e) (.int _)⟩
  · rename_i i j
    simp only [addD] at hg
    obtain ⟨hl, rfl⟩ := opt_if hg
    exact .inr (.inl ⟨i, j, rep_str rx, rep_str ry, hl, q _ B H (Pu.refl e) (.str _)⟩)
  · rename_i xs ys
    simp only [addD] at hg
    obtain ⟨hl, rfl⟩ := opt_if hg
    obtain ⟨a, vs, rfl, ha, ra⟩ := rep_lst rx
    obtain ⟨b, ws, rfl, hb, rb⟩ := rep_lst ry
    refine .inr (.inr (.inl ⟨a, b, vs, ws, rfl, rfl, ex_rd e ha, ex_rd e hb, by rw [ra.length, rb.length]; exact hl, fun p hp => ?_⟩))
    have pu := Pu.mk1 (o := .lst (vs ++ ws)) e hp
    exact q _ _ _ pu (.lst (.inl upd_same) ((ra.append rb).mono pu.ext))
  · rename_i xs ys
    simp only [addD] at hg
    obtain ⟨hl, rfl⟩ := opt_if hg
    obtain ⟨a, vs, rfl, ha, ra⟩ := rep_tup rx
    obtain ⟨b, ws, rfl, hb, rb⟩ := rep_tup ry
    refine .inr (.inr (.inr ⟨a, b, vs, ws, rfl, rfl, ex_t e ha, ex_t e hb, by rw [ra.length, rb.length]; exact hl, fun h0 => ?_, fun h0 h1 => ?_, fun h0 h1 p hp => ?_⟩))
    · subst h0
      cases ra
      exact q _ B H (Pu.refl e) (.tup hb rb)
    · subst h1
      cases rb
      rw [List.append_nil] at q
      exact q _ B H (Pu.refl e) (.tup ha ra)
    · have pu := Pu.mk1 (o := .tup (vs ++ ws)) e hp
      exact q _ _ _ pu (.tup (SqT.of upd_same) ((ra.append rb).mono pu.ext))
def subD : D → D → Option D
  | .int i, .int j => some (.int (i - j))
  | _, _ => none
theorem rd2_sub : RD2 K (rI0 fun i j => .int (i - j)) subD := by
  intro x y dx dy dz B H e rx ry hg Q q
  cases dx <;> cases dy <;> first | (cases hg; done) | skip
  cases hg
  exact ⟨_, _, rep_int rx, rep_int ry, q _ B H (Pu.refl e) (.int _)⟩
/-- n * k of ints, a text or a list times an int -/
def rMulS : R2 := fun x y H Q => ∃ (z : Str) (n : Int), x = .str z ∧ y = .int n ∧ n ≤ 100000 ∧ -100000 ≤ n ∧ z.length ≤ 100 ∧ Q (.str ⟨(List.replicate n.toNat z.cps).foldl (· ++ ·) #[]⟩) H
end
theorem rep_nil (n : Nat) : (List.replicate n (#[] : Array Nat)).foldl (· ++ ·) #[] = #[] := by
  induction n with
  | zero => rfl
  | succ n ih =>
    rw [List.replicate_succ, List.foldl_cons]
    exact ih
theorem op_mulS {X : Cx} : OpR X (binaryOp .Mult) rMulS := by
  intro pins s σ H x y v u Q I rx ry h
  obtain ⟨z, n, rfl, rfl, h1, h2, hz, q⟩ := h
  obtain ⟨t, rfl⟩ := rx
  obtain ⟨t', rfl⟩ := ry
  have hb1 : z.length * n.toNat ≤ 100 * 100000 := Nat.mul_le_mul hz (by omega)
  refine PySem.P.mul_str (by rw [decide_eq_false (by omega), decide_eq_false (by omega)]; rfl) (fun h3 _ => ?_) (fun h3 _ => ?_) ?_
  · have h4 : (0 : Int) < n := by omega
    have h5 : (100 : Int) ≤ (2 ^ 63 - 1) / n := by
      rw [Int.le_ediv_iff_mul_le h4]
      omega
    omega
  · unfold Builtin.Str.tooLong
    refine decide_eq_false ?_
    rw [sizeLine_eq]
    omega
  · split
    · rename_i h3
      have e0 : n.toNat = 0 := by omega
      rw [e0] at q
      exact ⟨by decide, ⟨.str _, H, I.tok _, ⟨_, rfl⟩, q⟩⟩
    · split
      · rename_i h3 h4
        rw [Bool.or_eq_true] at h4
        have e1 : (⟨(List.replicate n.toNat z.cps).foldl (· ++ ·) #[]⟩ : Str) = z := by
          rcases h4 with h4 | h4
          · have e2 : n = 1 := eq_of_beq h4
            subst e2
            show (⟨#[] ++ z.cps⟩ : Str) = z
            rw [Array.empty_append]
          · have e2 : z.length = 0 := eq_of_beq h4
            have e3 : z.cps = #[] := Array.eq_empty_of_size_eq_zero e2
            rw [e3, rep_nil]
            cases z
            rw [← e3]
        rw [e1] at q
        exact ⟨.str _, H, I, ⟨_, rfl⟩, q⟩
      · refine ⟨?_, ⟨.str _, H, I.tok _, ⟨_, rfl⟩, q⟩⟩
        have : ∀ (k : Nat) (acc : Array Nat), ((List.replicate k z.cps).foldl (· ++ ·) acc).size = acc.size + k * z.cps.size := by
          intro k
          induction k with
          | zero => intro acc; simp
          | succ k ih =>
            intro acc
            rw [List.replicate_succ, List.foldl_cons, ih, Array.size_append, Nat.add_mul]
            omega
        show ((List.replicate n.toNat z.cps).foldl (· ++ ·) #[]).size ≤ sizeLine
        rw [this, sizeLine_eq]
        have e6 : n.toNat * z.cps.size = z.length * n.toNat := Nat.mul_comm _ _
        simp only [Array.size_empty]
        omega
end DR

set_option maxRecDepth 100000
set_option maxHeartbeats 1000000
namespace DR
open PySem PySem.Spec L2
open PyProof.Rows hiding St
open Evl (Ex ex_l ex_t ex_rd)

/-! ### products, quotients, powers -/
def rRepL : R2 := fun x y H Q => ∃ l k xs, x = .ref l ∧ y = .int k ∧ Rd H l (.lst xs) ∧ -(2 ^ 63) ≤ k ∧ k < 2 ^ 63 ∧ xs.length * k.toNat ≤ sizeLine ∧
  ∀ p, H p = none → Q (.ref p) (upd H p (.lst (List.replicate k.toNat xs).flatten))
theorem op_repL {X : Cx} : OpR X (binaryOp .Mult) rRepL := by
  intro pins s σ H x y v u Q I rx ry h
  obtain ⟨l, k, xs, rfl, rfl, hH, h1, h2, hz, q⟩ := h
  cases rx
  obtain ⟨t, rfl⟩ := ry
  obtain ⟨z, its, n, r, hl, e⟩ := rd_lstM I hH
  have hlen : its.toArray.size * k.toNat ≤ sizeLine := by rw [List.size_toArray, ← hl]; exact hz
  have hcap : ¬ its.toArray.size * k.toNat > (2 ^ 63 - 1) / 8 := by
    have : (sizeLine : Nat) ≤ (2 ^ 63 - 1) / 8 := by decide
    omega
  have hfit : ¬ (!Builtin.List.listFitsIndex k) = true := by
    rw [fitsIndex_both h1 h2]
    exact Bool.false_ne_true
  have hlong : ¬ Builtin.List.listTooLong (its.toArray.size * k.toNat) = true := by
    rw [notLongL hlen]
    exact Bool.false_ne_true
  have hnew : List.foldl (fun x1 x2 => x1 ++ x2) #[] (List.replicate (if its.toArray.isEmpty = true then 0 else k.toNat) its.toArray) = (List.replicate k.toNat its).flatten.toArray := by
    have f0 : ∀ m : Nat, List.foldl (fun x1 x2 => x1 ++ x2) #[] (List.replicate m its.toArray) = (List.replicate m its).flatten.toArray := fun m => by
      have := foldl_rep its m []
      rw [List.nil_append] at this
      exact this
    rw [f0]
    cases its with
    | nil => simp
    | cons a r' => rw [if_neg (by simp)]
  refine wpAny_binaryOp_repeat_ref (T := "list") (U := "int") (by decide) ⟨_, e, rfl⟩ (fun s' => typeIs_int s' k t) noFill_list_mul F.fills_int_mul F.slot_int_rmul repeat_list F.slot_int_index.lookup
    (call_meets F.slot_int_rmul (typeIs_int s k t) F.entry_int_rmul (F.args_int_rmul_2 _ _) (int___rmul___int_list k t l its.toArray n)
      ⟨e, rfl, ⟨_, e, rfl⟩, call_meets F.slot_list_mul ⟨_, e, rfl⟩ F.entry_list_mul (F.args_list_mul_2 _ _) (AutoListH.list___mul___list_int_3 l its.toArray n k t hfit hcap hlong) ⟨e, ?_⟩⟩)
  rw [hnew]
  exact ⟨.ref _, _, I.lnew (t' := s.toks) (r.rep k.toNat) (by rw [PyProof.Rows.lm_len_rep_flat, Nat.mul_comm]; exact hz), rfl, q _ I.fresh⟩
def rMulA : R2 := fun x y H Q => rI CMul (fun i j => .int (i * j)) x y H Q ∨ (rMulS x y H Q ∨ rRepL x y H Q)
theorem op_mulA {X : Cx} : OpR X (binaryOp .Mult) rMulA := op_mul.or (op_mulS.or op_repL)
def strTimes (z : Str) (n : Int) : Str := ⟨(List.replicate n.toNat z.cps).foldl (· ++ ·) #[]⟩
def mulD : D → D → Option D
  | .int i, .int j => if (-18446744073709551616 < i ∧ i < 18446744073709551616) ∨ (-18446744073709551616 < j ∧ j < 18446744073709551616) then some (.int (i * j)) else none
  | .str z, .int n => if n ≤ 100000 ∧ -100000 ≤ n ∧ z.length ≤ 100 then some (.str (strTimes z n)) else none
  | .list xs, .int k => if -100000 ≤ k ∧ k ≤ 100000 ∧ xs.length ≤ 100 then some (.list (List.replicate k.toNat xs).flatten) else none
  | _, _ => none
def modD : D → D → Option D
  | .int i, .int j => if 0 < j then some (.int (i % j)) else none
  | _, _ => none
def fdivD : D → D → Option D
  | .int i, .int j => if 0 < j ∧ j < 18446744073709551616 then some (.int (i / j)) else none
  | _, _ => none
def powD : D → D → Option D
  | .int i, .int j => if 0 ≤ j ∧ j ≤ 1000 ∧ -18446744073709551616 < i ∧ i < 18446744073709551616 then some (.int (i ^ j.toNat)) else none
  | _, _ => none
def negD : D → Option D
  | .int i => some (.int (-i))
  | _ => none
section
variable {K : PySem.W.Frag}
theorem rd2_mul : RD2 K rMulA mulD := by
  intro x y dx dy dz B H e rx ry hg Q q
  cases dx <;> cases dy <;> first | (cases hg; done) | skip
  · rename_i i j
    simp only [mulD] at hg
    obtain ⟨hl, rfl⟩ := opt_if hg
    refine .inl ⟨_, _, rep_int rx, rep_int ry, ?_, q _ B H (Pu.refl e) (.int _)⟩
    unfold CMul
    omega
  · rename_i z n
    simp only [mulD] at hg
    obtain ⟨hl, rfl⟩ := opt_if hg
    exact .inr (.inl ⟨z, n, rep_str rx, rep_int ry, hl.1, hl.2.1, hl.2.2, q _ B H (Pu.refl e) (.str _)⟩)
  · rename_i xs k
    simp only [mulD] at hg
    obtain ⟨hl, rfl⟩ := opt_if hg
    obtain ⟨a, vs, rfl, ha, ra⟩ := rep_lst rx
    have hb1 : vs.length * k.toNat ≤ 100 * 100000 := Nat.mul_le_mul (by rw [ra.length]; exact hl.2.2) (by omega)
    refine .inr (.inr ⟨a, k, vs, rfl, rep_int ry, ex_rd e ha, by omega, by omega, by rw [sizeLine_eq]; omega, fun p hp => ?_⟩)
    have pu := Pu.mk1 (o := .lst (List.replicate k.toNat vs).flatten) e hp
    exact q _ _ _ pu (.lst (.inl upd_same) ((ra.rep _).mono pu.ext))
theorem rd2_mod : RD2 K (rI (fun _ j => 0 < j) fun i j => .int (i % j)) modD := by
  intro x y dx dy dz B H e rx ry hg Q q
  cases dx <;> cases dy <;> first | (cases hg; done) | skip
  simp only [modD] at hg
  obtain ⟨hl, rfl⟩ := opt_if hg
  exact ⟨_, _, rep_int rx, rep_int ry, hl, q _ B H (Pu.refl e) (.int _)⟩
theorem rd2_fdiv : RD2 K (rI CDivW fun i j => .int (i / j)) fdivD := by
  intro x y dx dy dz B H e rx ry hg Q q
  cases dx <;> cases dy <;> first | (cases hg; done) | skip
  simp only [fdivD] at hg
  obtain ⟨hl, rfl⟩ := opt_if hg
  exact ⟨_, _, rep_int rx, rep_int ry, wide_div (b := 64) hl.1 (by omega) (by decide) (by decide), q _ B H (Pu.refl e) (.int _)⟩
theorem rd2_pow : RD2 K (rI CPow fun i j => .int (i ^ j.toNat)) powD := by
  intro x y dx dy dz B H e rx ry hg Q q
  cases dx <;> cases dy <;> first | (cases hg; done) | skip
  simp only [powD] at hg
  obtain ⟨hl, rfl⟩ := opt_if hg
  refine ⟨_, _, rep_int rx, rep_int ry, ?_, q _ B H (Pu.refl e) (.int _)⟩
  unfold CPow
  omega
theorem rd1_neg : RD1 K (rU fun i => .int (-i)) negD := by
  intro x dx dz B H e rx hg Q q
  cases dx <;> first | (cases hg; done) | skip
  cases hg
  exact ⟨_, rep_int rx, q _ B H (Pu.refl e) (.int _)⟩
end

/-! ### order -/
abbrev rCmpI (p : Int → Int → Bool) : R2 := rI0 fun i j => .bl (p i j)
abbrev rCmpS (p : Str → Str → Bool) : R2 := fun x y H Q => ∃ i j, x = .str i ∧ y = .str j ∧ Q (.bl (p i j)) H
def ltS (i j : Str) : Bool := decide (i.cps.toList < j.cps.toList)
def cmpD (p : Int → Int → Bool) (r : Str → Str → Bool) : D → D → Option D
  | .int i, .int j => some (.bool (p i j))
  | .str i, .str j => some (.bool (r i j))
  | _, _ => none
def ltD : D → D → Option D := cmpD (fun i j => decide (i < j)) ltS
def leD : D → D → Option D := cmpD (fun i j => decide (i ≤ j)) fun i j => !ltS j i
def gtD : D → D → Option D := cmpD (fun i j => decide (j < i)) fun i j => ltS j i
def geD : D → D → Option D := cmpD (fun i j => decide (j ≤ i)) fun i j => !ltS i j
theorem rd2_cmp {K : PySem.W.Frag} {p : Int → Int → Bool} {r : Str → Str → Bool} : RD2 K (fun x y H Q => rCmpI p x y H Q ∨ rCmpS r x y H Q) (cmpD p r) := by
  intro x y dx dy dz B H e rx ry hg Q q
  cases dx <;> cases dy <;> first | (cases hg; done) | skip
  · cases hg
    exact .inl ⟨_, _, rep_int rx, rep_int ry, q _ B H (Pu.refl e) (.bl _)⟩
  · cases hg
    exact .inr ⟨_, _, rep_str rx, rep_str ry, q _ B H (Pu.refl e) (.bl _)⟩
section
variable {X : Cx}
abbrev rLtA : R2 := fun x y H Q => rCmpI (fun i j => decide (i < j)) x y H Q ∨ rCmpS ltS x y H Q
abbrev rLeA : R2 := fun x y H Q => rCmpI (fun i j => decide (i ≤ j)) x y H Q ∨ rCmpS (fun i j => !ltS j i) x y H Q
abbrev rGtA : R2 := fun x y H Q => rCmpI (fun i j => decide (j < i)) x y H Q ∨ rCmpS (fun i j => ltS j i) x y H Q
abbrev rGeA : R2 := fun x y H Q => rCmpI (fun i j => decide (j ≤ i)) x y H Q ∨ rCmpS (fun i j => !ltS i j) x y H Q
theorem op_ltA : OpR X (compareOp .Lt) rLtA := op_lt.or op_lt_str
theorem op_leA : OpR X (compareOp .LtE) rLeA := op_le.or op_le_str
theorem op_gtA : OpR X (compareOp .Gt) rGtA := op_gt.or op_gt_str
theorem op_geA : OpR X (compareOp .GtE) rGeA := op_ge.or op_ge_str
end

/-! ### equality -/
/-- plain kinds that == compares by a rule of their own -/
def scD : D → D → Bool
  | .none, .none => true | .none, .int _ => true | .int _, .none => true | .none, .bool _ => true | .bool _, .none => true | .none, .str _ => true | .str _, .none => true
  | .int _, .int _ => true | .bool _, .bool _ => true | .str _, .str _ => true
  | .int _, .str _ => true | .str _, .int _ => true | .bool _, .str _ => true | .str _, .bool _ => true
  | _, _ => false
def eqB (d e : D) : Option Bool := if scD d e = true ∨ (SeqAt.shaped d = true ∧ SeqAt.shaped e = true) then some (PyData.eqv d e) else none
def eqD (d e : D) : Option D := (eqB d e).map PyData.bool
def neD (d e : D) : Option D := (eqB d e).map fun b => .bool (!b)
mutual
theorem Rep.dp {K : PySem.W.Frag} {B : Hp} : ∀ {v : V} {d : D}, d.canLay0 = true → Rep K B v d → Dp K B v d
  | _, _, _, .non => .non
  | _, _, _, .bl b => .bl b
  | _, _, _, .int i => .int i
  | _, _, _, .str x => .str x
  | _, _, h, .lst r a => .lst (.inl r) (RepA.dp (by simpa [PyData.canLay0] using h) a)
  | _, _, h, .tup r a => .tup r (RepA.dp (by simpa [PyData.canLay0] using h) a)
  | _, _, h, .dct _ _ _ => nomatch h
theorem RepA.dp {K : PySem.W.Frag} {B : Hp} : ∀ {vs : List V} {ds : List D}, PyData.canLayAll0 ds = true → RepA K B vs ds → DpAll K B vs ds
  | _, _, _, .nil => .nil
  | _, _, h, .cons r a => .cons (Rep.dp (by simp only [PyData.canLayAll0, Bool.and_eq_true] at h; exact h.1) r) (RepA.dp (by simp only [PyData.canLayAll0, Bool.and_eq_true] at h; exact h.2) a)
end
theorem sc_eq {K : PySem.W.Frag} {B : Hp} {x y : V} {dx dy : D} (rx : Rep K B x dx) (ry : Rep K B y dy) (h : scD dx dy = true) : scal x y = true ∧ decide (x = y) = PyData.eqv dx dy := by
  cases rx <;> cases ry <;> first
    | exact absurd h Bool.false_ne_true
    | exact ⟨rfl, by rw [PyData.eqv]; exact dec_bl⟩
    | exact ⟨rfl, by rw [PyData.eqv]; exact dec_int⟩
    | exact ⟨rfl, by rw [PyData.eqv]; exact dec_str⟩
    | exact ⟨rfl, by simp [PyData.eqv]⟩
def rEqA (K : PySem.W.Frag) : R2 := fun x y H Q => rEq x y H Q ∨ rEqD K x y H Q
def rNeA (K : PySem.W.Frag) : R2 := fun x y H Q => rNe x y H Q ∨ rNeD K x y H Q
theorem op_eqA {X : Cx} (hu : X.A.units + 64 < cLine) : OpR X (compareOp .Eq) (rEqA X.K) := op_eq.or (op_eqD hu)
theorem op_neA {X : Cx} (hu : X.A.units + 64 < cLine) : OpR X (compareOp .NotEq) (rNeA X.K) := op_ne.or (op_neD hu)
section
variable {K : PySem.W.Frag}
theorem eqB_cases {d e : D} {b : Bool} (h : eqB d e = some b) : b = PyData.eqv d e ∧ (scD d e = true ∨ (SeqAt.shaped d = true ∧ SeqAt.shaped e = true)) := by
  obtain ⟨h1, rfl⟩ := opt_if h
  exact ⟨rfl, h1⟩
theorem dp_of {B H : Hp} (e : Ex B H) {x : V} {d : D} (r : Rep K B x d) (s : SeqAt.shaped d = true) : Dp K H x d := (r.mono e).dp (SeqAt.canLay_of_shaped s)
theorem rd2_eq : RD2 K (rEqA K) eqD := by
  intro x y dx dy dz B H e rx ry hg Q q
  obtain ⟨b, hb, rfl⟩ := Option.map_eq_some_iff.mp hg
  obtain ⟨rfl, h | ⟨h1, h2⟩⟩ := eqB_cases hb
  · obtain ⟨s1, s2⟩ := sc_eq rx ry h
    refine .inl ⟨s1, ?_⟩
    rw [s2]
    exact q _ B H (Pu.refl e) (.bl _)
  · exact .inr ⟨dx, dy, dp_of e rx h1, dp_of e ry h2, h1, h2, q _ B H (Pu.refl e) (.bl _)⟩
theorem rd2_ne : RD2 K (rNeA K) neD := by
  intro x y dx dy dz B H e rx ry hg Q q
  obtain ⟨b, hb, rfl⟩ := Option.map_eq_some_iff.mp hg
  obtain ⟨rfl, h | ⟨h1, h2⟩⟩ := eqB_cases hb
  · obtain ⟨s1, s2⟩ := sc_eq rx ry h
    refine .inl ⟨s1, ?_⟩
    rw [s2]
    exact q _ B H (Pu.refl e) (.bl _)
  · exact .inr ⟨dx, dy, dp_of e rx h1, dp_of e ry h2, h1, h2, q _ B H (Pu.refl e) (.bl _)⟩
end

/-! ### in, not in -/
def plD : D → Bool
  | .none => true
  | .bool _ => true
  | .int _ => true
  | .str _ => true
  | _ => false
theorem pl_flatV {K : PySem.W.Frag} {B : Hp} {x : V} {d : D} (r : Rep K B x d) (h : plD d = true) : flatV x = true := by
  cases r <;> first | rfl | exact absurd h Bool.false_ne_true
theorem pl_eqV {K : PySem.W.Frag} {B : Hp} {x y : V} {d e : D} (r : Rep K B x d) (s : Rep K B y e) (h : plD d = true) (h2 : plD e = true) : eqV x y = PyData.eqv d e := by
  cases r <;> cases s <;> first | exact absurd h Bool.false_ne_true | exact absurd h2 Bool.false_ne_true | simp [eqV, PyData.eqv]
theorem pl_all {K : PySem.W.Frag} {B : Hp} : ∀ {xs : List V} {ds : List D}, RepA K B xs ds → ds.all plD = true → xs.all flatV = true
  | _, _, .nil, _ => rfl
  | _, _, .cons r t, h => by
    rw [List.all_cons, Bool.and_eq_true] at h
    rw [List.all_cons, pl_flatV r h.1, pl_all t h.2]
    rfl
theorem pl_any {K : PySem.W.Frag} {B : Hp} {x : V} {d : D} (r : Rep K B x d) (hd : plD d = true) : ∀ {xs : List V} {ds : List D}, RepA K B xs ds → ds.all plD = true → inV x xs = ds.any fun z => PyData.eqv z d
  | _, _, .nil, _ => rfl
  | _, _, .cons s t, h => by
    rw [List.all_cons, Bool.and_eq_true] at h
    have e2 := pl_any r hd t h.2
    unfold inV at e2 ⊢
    rw [List.any_cons, List.any_cons, e2, pl_eqV s r h.1 hd]
def inB : D → D → Option Bool
  | d, .list ds => if (plD d = true ∧ ds.all plD = true) ∨ (SeqAt.shaped d = true ∧ SeqAt.shaped (.list ds) = true) then some (ds.any fun z => PyData.eqv z d) else none
  | d, .tuple ds => if plD d = true ∧ ds.all plD = true then some (ds.any fun z => PyData.eqv z d) else none
  | .str c, .str z => if c.length = 1 then some (decide (c.cps.getD 0 0 ∈ z.cps.toList)) else none
  | _, _ => none
def inD (d e : D) : Option D := (inB d e).map PyData.bool
def notInD (d e : D) : Option D := (inB d e).map fun b => .bool (!b)
abbrev rInSign : R2 := fun x y H Q => ∃ (c : Nat) (z : Str), x = .str ⟨#[c]⟩ ∧ y = .str z ∧ Q (.bl (decide (c ∈ z.cps.toList))) H
abbrev rNotInSign : R2 := fun x y H Q => ∃ (c : Nat) (z : Str), x = .str ⟨#[c]⟩ ∧ y = .str z ∧ Q (.bl (!decide (c ∈ z.cps.toList))) H
def rInA (K : PySem.W.Frag) : R2 := fun x y H Q => rIn K false x y H Q ∨ (rInSign x y H Q ∨ rInD K x y H Q)
def rNotInA (K : PySem.W.Frag) : R2 := fun x y H Q => rIn K true x y H Q ∨ (rNotInSign x y H Q ∨ rNotInD K x y H Q)
theorem op_inA {X : Cx} (hu : X.A.units + 65 < cLine) : OpR X (compareOp .In) (rInA X.K) := op_in_seq.or (op_in_sign.or (op_inD hu))
theorem op_notInA {X : Cx} (hu : X.A.units + 65 < cLine) : OpR X (compareOp .NotIn) (rNotInA X.K) := op_notIn_seq.or (op_notIn_sign.or (op_notInD hu))
theorem sign_of {c : Str} (h : c.length = 1) : c = ⟨#[c.cps.getD 0 0]⟩ := by
  obtain ⟨a⟩ := c
  have e : a.size = 1 := h
  have e2 : a = #[a.getD 0 0] := by
    refine Array.ext (by simp [e]) fun i h1 h2 => ?_
    have e3 : i = 0 := by omega
    subst e3
    simp [Array.getD, e]
  show (⟨a⟩ : Str) = ⟨#[a.getD 0 0]⟩
  rw [← e2]
section
variable {K : PySem.W.Frag}
theorem rd2_in : RD2 K (rInA K) inD := by
  intro x y dx dy dz B H e rx ry hg Q q
  obtain ⟨b, hb, rfl⟩ := Option.map_eq_some_iff.mp hg
  cases dy with
  | list ds =>
    have hb1 : (if (plD dx = true ∧ ds.all plD = true) ∨ (SeqAt.shaped dx = true ∧ SeqAt.shaped (.list ds) = true) then some (ds.any fun z => PyData.eqv z dx) else none) = some b := by
      cases dx <;> exact hb
    obtain ⟨h | ⟨h1, h2⟩, rfl⟩ := opt_if hb1
    · obtain ⟨a, vs, rfl, ha, ra⟩ := rep_lst ry
      refine .inl ⟨a, vs, rfl, .inl (.inl (ex_rd e ha)), pl_flatV rx h.1, pl_all ra h.2, ?_⟩
      rw [pl_any rx h.1 ra h.2]
      exact q _ B H (Pu.refl e) (.bl _)
    · exact .inr (.inr ⟨dx, ds, dp_of e rx h1, dp_of e ry h2, h1, h2, q _ B H (Pu.refl e) (.bl _)⟩)
  | tuple ds =>
    have hb1 : (if plD dx = true ∧ ds.all plD = true then some (ds.any fun z => PyData.eqv z dx) else none) = some b := by
      cases dx <;> exact hb
    obtain ⟨h, rfl⟩ := opt_if hb1
    obtain ⟨a, vs, rfl, ha, ra⟩ := rep_tup ry
    refine .inl ⟨a, vs, rfl, .inr (ex_t e ha), pl_flatV rx h.1, pl_all ra h.2, ?_⟩
    rw [pl_any rx h.1 ra h.2]
    exact q _ B H (Pu.refl e) (.bl _)
  | str z =>
    cases dx with
    | str c =>
      obtain ⟨h, rfl⟩ := opt_if (show (if c.length = 1 then some (decide (c.cps.getD 0 0 ∈ z.cps.toList)) else none) = some b from hb)
      exact .inr (.inl ⟨c.cps.getD 0 0, z, (rep_str rx).trans (congrArg V.str (sign_of h)), rep_str ry, q _ B H (Pu.refl e) (.bl _)⟩)
    | _ => cases hb
  | _ => cases dx <;> cases hb
theorem rd2_notIn : RD2 K (rNotInA K) notInD := by
  intro x y dx dy dz B H e rx ry hg Q q
  obtain ⟨b, hb, rfl⟩ := Option.map_eq_some_iff.mp hg
  cases dy with
  | list ds =>
    have hb1 : (if (plD dx = true ∧ ds.all plD = true) ∨ (SeqAt.shaped dx = true ∧ SeqAt.shaped (.list ds) = true) then some (ds.any fun z => PyData.eqv z dx) else none) = some b := by
      cases dx <;> exact hb
    obtain ⟨h | ⟨h1, h2⟩, rfl⟩ := opt_if hb1
    · obtain ⟨a, vs, rfl, ha, ra⟩ := rep_lst ry
      refine .inl ⟨a, vs, rfl, .inl (.inl (ex_rd e ha)), pl_flatV rx h.1, pl_all ra h.2, ?_⟩
      rw [pl_any rx h.1 ra h.2]
      exact q _ B H (Pu.refl e) (.bl _)
    · exact .inr (.inr ⟨dx, ds, dp_of e rx h1, dp_of e ry h2, h1, h2, q _ B H (Pu.refl e) (.bl _)⟩)
  | tuple ds =>
    have hb1 : (if plD dx = true ∧ ds.all plD = true then some (ds.any fun z => PyData.eqv z dx) else none) = some b := by
      cases dx <;> exact hb
    obtain ⟨h, rfl⟩ := opt_if hb1
    obtain ⟨a, vs, rfl, ha, ra⟩ := rep_tup ry
    refine .inl ⟨a, vs, rfl, .inr (ex_t e ha), pl_flatV rx h.1, pl_all ra h.2, ?_⟩
    rw [pl_any rx h.1 ra h.2]
    exact q _ B H (Pu.refl e) (.bl _)
  | str z =>
    cases dx with
    | str c =>
      obtain ⟨h, rfl⟩ := opt_if (show (if c.length = 1 then some (decide (c.cps.getD 0 0 ∈ z.cps.toList)) else none) = some b from hb)
      exact .inr (.inl ⟨c.cps.getD 0 0, z, (rep_str rx).trans (congrArg V.str (sign_of h)), rep_str ry, q _ B H (Pu.refl e) (.bl _)⟩)
    | _ => cases hb
  | _ => cases dx <;> cases hb
end

/-! ### places and slices -/
def ixD : D → D → Option D
  | .list ds, .int i => atI ds i
  | .tuple ds, .int i => atI ds i
  | .str z, .int i => if z.length ≤ sizeLine then (atI z.cps.toList i).map fun c => .str ⟨#[c]⟩ else none
  | _, _ => none
theorem RepA.atI {K : PySem.W.Frag} {B : Hp} {vs : List V} {ds : List D} {i : Int} {d : D} (r : RepA K B vs ds) (h : L2.atI ds i = some d) : ∃ v, L2.atI vs i = some v ∧ Rep K B v d := by
  unfold L2.atI at h ⊢
  rw [r.length]
  cases e : ixN ds.length i with
  | none =>
    rw [e] at h
    cases h
  | some j =>
    rw [e] at h
    exact r.get h
theorem rd2_ix {K : PySem.W.Frag} : RD2 K (rIx K) ixD := by
  intro x y dx dy dz B H e rx ry hg Q q
  cases dx <;> cases dy <;> first | (cases hg; done) | skip
  · rename_i z i
    simp only [ixD] at hg
    split at hg
    · rename_i hl
      obtain ⟨c, hc, rfl⟩ := Option.map_eq_some_iff.mp hg
      exact .inr (.inr ⟨z, i, c, rep_str rx, rep_int ry, hl, hc, q _ B H (Pu.refl e) (.str _)⟩)
    · cases hg
  · rename_i ds i
    simp only [ixD] at hg
    obtain ⟨a, vs, rfl, ha, ra⟩ := rep_lst rx
    obtain ⟨v, h1, h2⟩ := ra.atI hg
    exact .inl ⟨a, vs, i, v, rfl, rep_int ry, .inl (ex_rd e ha), h1, q _ B H (Pu.refl e) h2⟩
  · rename_i ds i
    simp only [ixD] at hg
    obtain ⟨a, vs, rfl, ha, ra⟩ := rep_tup rx
    obtain ⟨v, h1, h2⟩ := ra.atI hg
    exact .inr (.inl ⟨a, vs, i, v, rfl, rep_int ry, ex_t e ha, h1, q _ B H (Pu.refl e) h2⟩)
def cutL {α : Type} (xs : List α) (lo hi : Option Int) : List α := (xs.drop (HT.sIx xs.length 0 lo)).take (HT.sIx xs.length xs.length hi - HT.sIx xs.length 0 lo)
def sliceD (d : D) (lo hi : Option Int) : Option D := match d with
  | .list ds => some (.list (cutL ds lo hi))
  | .tuple ds => some (.tuple (cutL ds lo hi))
  | .str z => if z.length ≤ sizeLine then some (.str (cutS z lo hi)) else none
  | _ => none
def rSlAny (K : PySem.W.Frag) : V → Option Int → Option Int → Hp → VK → Prop := fun x lo hi H Q => rSlL K x lo hi H Q ∨ (rSlA K x lo hi H Q ∨ rSlS x lo hi H Q)
theorem sl_any {X : Cx} : SlR X (rSlAny X.K) := sl_list.or (sl_tupA.or sl_str)
theorem RepA.cut' {K : PySem.W.Frag} {B : Hp} {vs : List V} {ds : List D} (r : RepA K B vs ds) (lo hi : Option Int) : RepA K B (cutV vs lo hi) (cutL ds lo hi) := by
  unfold cutV cutL
  rw [r.length]
  exact (r.drop _).take _
theorem rd_slice {K : PySem.W.Frag} {x : V} {dx dz : D} {lo hi : Option Int} {B H : Hp} (e : Ex B H) (rx : Rep K B x dx) (hg : sliceD dx lo hi = some dz) (Q : VK) (q : ∀ v B' H', Pu B H B' H' → Rep K B' v dz → Q v H') : rSlAny K x lo hi H Q := by
  cases dx <;> first | (cases hg; done) | skip
  · rename_i z
    simp only [sliceD] at hg
    obtain ⟨hl, rfl⟩ := opt_if hg
    exact .inr (.inr ⟨z, rep_str rx, hl, q _ B H (Pu.refl e) (.str _)⟩)
  · rename_i ds
    cases hg
    obtain ⟨a, vs, rfl, ha, ra⟩ := rep_lst rx
    refine .inl ⟨a, vs, rfl, .inl (ex_rd e ha), fun p hp => ?_⟩
    have pu := Pu.mk1 (o := .lst (cutV vs lo hi)) e hp
    exact q _ _ _ pu (.lst (.inl upd_same) ((ra.cut' lo hi).mono pu.ext))
  · rename_i ds
    cases hg
    obtain ⟨a, vs, rfl, ha, ra⟩ := rep_tup rx
    refine .inr (.inl ⟨a, vs, rfl, ex_t e ha, fun hw => ?_, fun hw p hp => ?_⟩)
    · have e1 : cutL ds lo hi = ds := by
        rw [ra.length] at hw
        unfold cutL
        rw [hw.1, hw.2]
        simp
      rw [e1] at q
      exact q _ B H (Pu.refl e) (.tup ha ra)
    · have pu := Pu.mk1 (o := .tup (cutV vs lo hi)) e hp
      exact q _ _ _ pu (.tup (SqT.of upd_same) ((ra.cut' lo hi).mono pu.ext))
def intO : D → Option Int
  | .int i => some i
  | _ => none
def dpart (fa : DM D) : DM (Option Int) := fa.bind fun d => DM.opt ((intO d).map some)
def dnopart : DM (Option Int) := DM.pure none
def dslice (fa : DM D) (fl fh : DM (Option Int)) : DM D := fa.bind fun x => fl.bind fun lo => fh.bind fun hi => DM.opt (sliceD x lo hi)
section
variable {X : Cx} {c : Cf} {K : PySem.W.Frag} {ta tb : TE} {fa fb : DM D} {a b : Expr} {lo hi : Option Expr} {tl th : TO} {fl fh : DM (Option Int)} {pos p2 : Pos}
theorem pdo_none : PDO X c none tNoPart dnopart := ⟨po_none, EvP.pure fun _ _ => rfl⟩
theorem pdo_some (ha : PD X c a ta fa) : PDO X c (some a) (tPart ta) (dpart fa) :=
  ⟨po_some ha.pe, EvP.bind (relA := Rep X.K) (tk := fun x _ H Q => ∃ i, x = .int i ∧ Q (some i) H) mono_true ha.ev fun x d => EvP.val (t := fun H Q => ∃ i, x = .int i ∧ Q (some i) H) fun B H o e p h Q q => by
    cases d <;> first | (cases h; done) | skip
    rename_i i
    cases h
    exact ⟨i, rep_int p.2, q _ B H (Pu.refl e) rfl⟩⟩
theorem pd_slice (ha : PD X c a ta fa) (hl : PDO X c lo tl fl) (hh : PDO X c hi th fh) : PD X c (.Subscript a (.Slice lo hi none p2) pos) (tSl (rSlAny X.K) ta tl th) (dslice fa fl fh) :=
  ⟨pe_slice sl_any ha.pe hl.po hh.po, EvP.bind (relA := Rep X.K) (tk := fun x σ H Q => tl σ H fun l H2 => th σ H2 fun u H3 => rSlAny X.K x l u H3 Q) mono_true ha.ev fun x d =>
    EvP.bind (relA := eqR) (tk := fun l σ H Q => th σ H fun u H3 => rSlAny X.K x l u H3 Q) (mono_true.and (monoR_rep x d)) (hl.ev.weak fun _ _ => True.intro) fun l l' =>
    EvP.bind (relA := eqR) (tk := fun u _ H Q => rSlAny X.K x l u H Q) ((mono_true.and (monoR_rep x d)).and (monoR_eq l l')) (hh.ev.weak fun _ _ => True.intro) fun u u' =>
    EvP.val (t := fun H Q => rSlAny X.K x l u H Q) fun B H dz e p h Q q => by
      have e1 : l = l' := p.1.2
      have e2 : u = u' := p.2
      subst e1 e2
      exact rd_slice e p.1.1.2 h Q q⟩
theorem pd_ix (ha : PD X c a ta fa) (hb : PD X c b tb fb) (hs : PlainIx b := by exact fun _ _ => rfl) : PD X c (.Subscript a b pos) (tOp (rIx X.K) ta tb) (dop ixD fa fb) := ⟨pe_ix ix_seq ha.pe hb.pe hs, ev_op rd2_ix ha.ev hb.ev⟩
end

/-! ### arguments, displays -/
def dnil : DM (List D) := DM.pure []
def dcons (fa : DM D) (fr : DM (List D)) : DM (List D) := fa.bind fun x => fr.bind fun xs => DM.pure (x :: xs)
def dtup (fs : DM (List D)) : DM D := fs.bind fun ds => DM.opt (if ds.length ≤ sizeLine then some (.tuple ds) else none)
def dlst (fs : DM (List D)) : DM D := fs.bind fun ds => DM.opt (if ds.length ≤ sizeLine then some (.list ds) else none)
def RDC (K : PySem.W.Frag) (r : List V → Hp → VK → Prop) (g : List D → Option D) : Prop := ∀ (vs : List V) (ds : List D) (dz : D) (B H : Hp), Ex B H → RepA K B vs ds → g ds = some dz →
  ∀ Q : VK, (∀ v B' H', Pu B H B' H' → Rep K B' v dz → Q v H') → r vs H Q
def dcb (g : List D → Option D) (fs : DM (List D)) : DM D := fs.bind fun ds => DM.opt (g ds)
section
variable {X : Cx} {c : Cf} {K : PySem.W.Frag} {te : TE} {fe : DM D} {e : Expr} {es : List Expr} {t : TA} {f : DM (List D)} {pos : Pos}
theorem pda_nil : PDA X c [] tNil dnil := ⟨pa_nil, EvP.pure fun _ _ => .nil⟩
theorem ev_cons (h : EvD K c te fe) (hr : EvA K c t f) : EvA K c (tCons te t) (dcons fe f) :=
  EvP.bind (relA := Rep K) (tk := fun x σ H Q => t σ H fun xs H2 => Q (x :: xs) H2) mono_true h fun x d =>
    EvP.bind (relA := RepA K) (tk := fun xs _ H Q => Q (x :: xs) H) (mono_true.and (monoR_rep x d)) (hr.weak fun _ _ => True.intro) fun xs ds => EvP.pure fun B p => .cons p.1.2 p.2
theorem pda_cons (h : PD X c e te fe) (hr : PDA X c es t f) (hs : starEach (e :: es) X.env = (false, eval e X.env) :: starEach es X.env := by rfl) : PDA X c (e :: es) (tCons te t) (dcons fe f) := ⟨pa_cons h.pe hr.pa hs, ev_cons h.ev hr.ev⟩
theorem pd_tup {x1} (h : PDA X c es t f) : PD X c (.Tuple es x1 pos) (tTup t) (dtup f) :=
  ⟨pe_tup h.pa, EvP.bind (relA := RepA X.K) (tk := fun xs _ H Q => xs.length ≤ sizeLine ∧ ∀ p, H p = none → Q (V.ref p) (upd H p (HO.tup xs))) mono_true h.ev fun xs ds =>
    EvP.val (t := fun H Q => xs.length ≤ sizeLine ∧ ∀ p, H p = none → Q (V.ref p) (upd H p (HO.tup xs))) fun B H dz e p hg Q q => by
      obtain ⟨hl, rfl⟩ := opt_if hg
      refine ⟨by rw [p.2.length]; exact hl, fun a ha => ?_⟩
      have pu := Pu.mk1 (o := .tup xs) e ha
      exact q _ _ _ pu (.tup (SqT.of upd_same) (p.2.mono pu.ext))⟩
theorem pd_lst (h : PDA X c es t f) : PD X c (.List es pos) (tLst t) (dlst f) :=
  ⟨pe_lst h.pa, EvP.bind (relA := RepA X.K) (tk := fun xs _ H Q => xs.length ≤ sizeLine ∧ ∀ p, H p = none → Q (V.ref p) (upd H p (HO.lst xs))) mono_true h.ev fun xs ds =>
    EvP.val (t := fun H Q => xs.length ≤ sizeLine ∧ ∀ p, H p = none → Q (V.ref p) (upd H p (HO.lst xs))) fun B H dz e p hg Q q => by
      obtain ⟨hl, rfl⟩ := opt_if hg
      refine ⟨by rw [p.2.length]; exact hl, fun a ha => ?_⟩
      have pu := Pu.mk1 (o := .lst xs) e ha
      exact q _ _ _ pu (.lst (.inl upd_same) (p.2.mono pu.ext))⟩
theorem ev_cb {r : List V → Hp → VK → Prop} {g : List D → Option D} (hr : RDC K r g) (h : EvA K c t f) : EvD K c (tCB r t) (dcb g f) :=
  EvP.bind (relA := RepA K) (tk := fun xs _ H Q => r xs H Q) mono_true h fun xs ds => EvP.val (t := fun H Q => r xs H Q) fun B H dz e p hg Q q => hr xs ds dz B H e p.2 hg Q q
theorem pd_callB {id : String} {r : List V → Hp → VK → Prop} {g : List D → Option D} {x : Str} {p : Pos} (hc : CallR X (.builtin id) r) (hr : RDC X.K r g) (hg : Gl X x) (hm : X.mg x = none) (hv : bootBuiltins x = some (.builtin id)) (ha : PDA X c (e :: es) t f)
    (hn : x ≠ "__name__" := by decide) (hdb : (x == ("__debug__" : Str)) = false := by decide) (he : starEach (e :: es) X.env = (false, eval e X.env) :: starEach es X.env := by rfl)
    (hpl : (backTo pos (starEach es X.env)).any (·.1) = false := by rfl) : PD X c (.Call (.Name x p) (e :: es) [] pos) (tCB r t) (dcb g f) := ⟨pe_callB hc hg hm hv ha.pa hn hdb he hpl, ev_cb hr ha.ev⟩
theorem pd_callTy {T : String} {r : List V → Hp → VK → Prop} {g : List D → Option D} {x : Str} {p : Pos} (hc : CallR X (.type T) r) (hr : RDC X.K r g) (hg : Gl X x) (hm : X.mg x = none) (hv : bootBuiltins x = some (.type T)) (ha : PDA X c (e :: es) t f)
    (hn : x ≠ "__name__" := by decide) (hdb : (x == ("__debug__" : Str)) = false := by decide) (he : starEach (e :: es) X.env = (false, eval e X.env) :: starEach es X.env := by rfl)
    (hpl : (backTo pos (starEach es X.env)).any (·.1) = false := by rfl) : PD X c (.Call (.Name x p) (e :: es) [] pos) (tCB r t) (dcb g f) := ⟨pe_callTy hc hg hm hv ha.pa hn hdb he hpl, ev_cb hr ha.ev⟩
end
end DR

set_option maxRecDepth 100000
set_option maxHeartbeats 1000000
namespace DR
open PySem PySem.Spec L2
open PyProof.Rows hiding St
open Evl (Ex ex_l ex_t ex_rd)

/-! ### built-in functions -/
def lenD : List D → Option D
  | [.list ds] => some (.int ds.length)
  | [.tuple ds] => some (.int ds.length)
  | [.str z] => if z.length ≤ sizeLine then some (.int z.length) else none
  | _ => none
def absD : List D → Option D
  | [.int i] => some (.int (if i < 0 then -i else i))
  | _ => none
def intD : List D → Option D
  | [.int i] => some (.int i)
  | [.bool b] => some (.int (if b then 1 else 0))
  | _ => none
def min2D : List D → Option D
  | [.int i, .int j] => some (.int (if j < i then j else i))
  | _ => none
def max2D : List D → Option D
  | [.int i, .int j] => some (.int (if j > i then j else i))
  | _ => none
def allD : List D → Option D
  | [.list ds] => (blsD ds).map fun bs => .bool (bs.all id)
  | _ => none
def anyD : List D → Option D
  | [.list ds] => (blsD ds).map fun bs => .bool (bs.any id)
  | _ => none
def sumD : List D → Option D
  | [.list ds] => (intsD ds).map fun ns => .int ns.sum
  | _ => none
def listD : List D → Option D
  | [.list ds] => some (.list ds)
  | [.tuple ds] => some (.list ds)
  | _ => none
def tupleD : List D → Option D
  | [.list ds] => some (.tuple ds)
  | [.tuple ds] => some (.tuple ds)
  | _ => none
section
variable {K : PySem.W.Frag} {B : Hp}
theorem repA1 {vs : List V} {d : D} (h : RepA K B vs [d]) : ∃ v, vs = [v] ∧ Rep K B v d := by
  cases h with
  | cons r t =>
    cases t
    exact ⟨_, rfl, r⟩
theorem repA2 {vs : List V} {d e : D} (h : RepA K B vs [d, e]) : ∃ v w, vs = [v, w] ∧ Rep K B v d ∧ Rep K B w e := by
  cases h with
  | cons r t =>
    obtain ⟨w, rfl, s⟩ := repA1 t
    exact ⟨_, w, rfl, r, s⟩
end
abbrev rLenA (K : PySem.W.Frag) : List V → Hp → VK → Prop := fun xs H Q => ∃ x n, xs = [x] ∧ LenV K x H n ∧ Q (.int n) H
section
variable {K : PySem.W.Frag}
theorem rdc_len : RDC K (rLenA K) lenD := by
  intro vs ds dz B H e r hg Q q
  match ds, hg with
  | [.list xs], hg =>
    cases hg
    obtain ⟨v, rfl, rv⟩ := repA1 r
    obtain ⟨a, ws, rfl, ha, ra⟩ := rep_lst rv
    refine ⟨.ref a, ws.length, rfl, .inl ⟨ws, .inl (ex_rd e ha), rfl⟩, ?_⟩
    rw [ra.length]
    exact q _ B H (Pu.refl e) (.int _)
  | [.tuple xs], hg =>
    cases hg
    obtain ⟨v, rfl, rv⟩ := repA1 r
    obtain ⟨a, ws, rfl, ha, ra⟩ := rep_tup rv
    refine ⟨.ref a, ws.length, rfl, .inr ⟨ws, ex_t e ha, rfl⟩, ?_⟩
    rw [ra.length]
    exact q _ B H (Pu.refl e) (.int _)
  | [.str z], hg =>
    obtain ⟨hl, rfl⟩ := opt_if (show (if z.length ≤ sizeLine then some (PyData.int z.length) else none) = some dz from hg)
    obtain ⟨v, rfl, rv⟩ := repA1 r
    exact ⟨v, z.length, rfl, by rw [rep_str rv]; exact ⟨hl, rfl⟩, q _ B H (Pu.refl e) (.int _)⟩
theorem rdc_abs : RDC K (fun xs H Q => ∃ i, xs = [.int i] ∧ Q (.int (if i < 0 then -i else i)) H) absD := by
  intro vs ds dz B H e r hg Q q
  match ds, hg with
  | [.int i], hg =>
    cases hg
    obtain ⟨v, rfl, rv⟩ := repA1 r
    exact ⟨i, by rw [rep_int rv], q _ B H (Pu.refl e) (.int _)⟩
theorem rdc_int : RDC K (fun xs H Q => (∃ i, xs = [.int i] ∧ Q (.int i) H) ∨ ∃ k, xs = [.bl k] ∧ Q (.int (if k then 1 else 0)) H) intD := by
  intro vs ds dz B H e r hg Q q
  match ds, hg with
  | [.int i], hg =>
    cases hg
    obtain ⟨v, rfl, rv⟩ := repA1 r
    exact .inl ⟨i, by rw [rep_int rv], q _ B H (Pu.refl e) (.int _)⟩
  | [.bool i], hg =>
    cases hg
    obtain ⟨v, rfl, rv⟩ := repA1 r
    exact .inr ⟨i, by rw [rep_bl rv], q _ B H (Pu.refl e) (.int _)⟩
theorem rdc_min2 : RDC K (fun xs H Q => ∃ i j, xs = [.int i, .int j] ∧ Q (.int (if j < i then j else i)) H) min2D := by
  intro vs ds dz B H e r hg Q q
  match ds, hg with
  | [.int i, .int j], hg =>
    cases hg
    obtain ⟨v, w, rfl, rv, rw'⟩ := repA2 r
    exact ⟨i, j, by rw [rep_int rv, rep_int rw'], q _ B H (Pu.refl e) (.int _)⟩
theorem rdc_max2 : RDC K (fun xs H Q => ∃ i j, xs = [.int i, .int j] ∧ Q (.int (if j > i then j else i)) H) max2D := by
  intro vs ds dz B H e r hg Q q
  match ds, hg with
  | [.int i, .int j], hg =>
    cases hg
    obtain ⟨v, w, rfl, rv, rw'⟩ := repA2 r
    exact ⟨i, j, by rw [rep_int rv, rep_int rw'], q _ B H (Pu.refl e) (.int _)⟩
theorem rdc_all : RDC K (rAll K) allD := by
  intro vs ds dz B H e r hg Q q
  match ds, hg with
  | [.list xs], hg =>
    obtain ⟨bs, hb, rfl⟩ := Option.map_eq_some_iff.mp (show (blsD xs).map (fun bs => PyData.bool (bs.all id)) = some dz from hg)
    obtain ⟨v, rfl, rv⟩ := repA1 r
    obtain ⟨a, ws, rfl, ha, ra⟩ := rep_lst rv
    rw [blsD_eq hb] at ra
    rw [repA_bls_of ra] at ha
    exact ⟨a, bs, rfl, .inl (ex_rd e ha), q _ B H (Pu.refl e) (.bl _)⟩
theorem rdc_any : RDC K (rAny K) anyD := by
  intro vs ds dz B H e r hg Q q
  match ds, hg with
  | [.list xs], hg =>
    obtain ⟨bs, hb, rfl⟩ := Option.map_eq_some_iff.mp (show (blsD xs).map (fun bs => PyData.bool (bs.any id)) = some dz from hg)
    obtain ⟨v, rfl, rv⟩ := repA1 r
    obtain ⟨a, ws, rfl, ha, ra⟩ := rep_lst rv
    rw [blsD_eq hb] at ra
    rw [repA_bls_of ra] at ha
    exact ⟨a, bs, rfl, .inl (ex_rd e ha), q _ B H (Pu.refl e) (.bl _)⟩
theorem rdc_sum : RDC K (rSum K) sumD := by
  intro vs ds dz B H e r hg Q q
  match ds, hg with
  | [.list xs], hg =>
    obtain ⟨bs, hb, rfl⟩ := Option.map_eq_some_iff.mp (show (intsD xs).map (fun bs => PyData.int bs.sum) = some dz from hg)
    obtain ⟨v, rfl, rv⟩ := repA1 r
    obtain ⟨a, ws, rfl, ha, ra⟩ := rep_lst rv
    rw [intsD_eq hb] at ra
    rw [repA_ints_of ra] at ha
    exact ⟨a, bs, rfl, .inl (ex_rd e ha), q _ B H (Pu.refl e) (.int _)⟩
theorem rdc_list : RDC K (fun xs H Q => ∃ p ys, xs = [.ref p] ∧ (SqL K H p ys ∨ SqT K H p ys) ∧ ∀ l, H l = none → Q (.ref l) (upd H l (.lst ys))) listD := by
  intro vs ds dz B H e r hg Q q
  match ds, hg with
  | [.list xs], hg =>
    cases hg
    obtain ⟨v, rfl, rv⟩ := repA1 r
    obtain ⟨a, ws, rfl, ha, ra⟩ := rep_lst rv
    refine ⟨a, ws, rfl, .inl (.inl (ex_rd e ha)), fun p hp => ?_⟩
    have pu := Pu.mk1 (o := .lst ws) e hp
    exact q _ _ _ pu (.lst (.inl upd_same) (ra.mono pu.ext))
  | [.tuple xs], hg =>
    cases hg
    obtain ⟨v, rfl, rv⟩ := repA1 r
    obtain ⟨a, ws, rfl, ha, ra⟩ := rep_tup rv
    refine ⟨a, ws, rfl, .inr (ex_t e ha), fun p hp => ?_⟩
    have pu := Pu.mk1 (o := .lst ws) e hp
    exact q _ _ _ pu (.lst (.inl upd_same) (ra.mono pu.ext))
theorem rdc_tuple : RDC K (fun xs H Q => ∃ p ys, xs = [.ref p] ∧ ((SqL K H p ys ∧ ∀ l, H l = none → Q (.ref l) (upd H l (.tup ys))) ∨ (SqT K H p ys ∧ Q (.ref p) H))) tupleD := by
  intro vs ds dz B H e r hg Q q
  match ds, hg with
  | [.list xs], hg =>
    cases hg
    obtain ⟨v, rfl, rv⟩ := repA1 r
    obtain ⟨a, ws, rfl, ha, ra⟩ := rep_lst rv
    refine ⟨a, ws, rfl, .inl ⟨.inl (ex_rd e ha), fun p hp => ?_⟩⟩
    have pu := Pu.mk1 (o := .tup ws) e hp
    exact q _ _ _ pu (.tup (SqT.of upd_same) (ra.mono pu.ext))
  | [.tuple xs], hg =>
    cases hg
    obtain ⟨v, rfl, rv⟩ := repA1 r
    obtain ⟨a, ws, rfl, ha, ra⟩ := rep_tup rv
    exact ⟨a, ws, rfl, .inr ⟨ex_t e ha, q _ B H (Pu.refl e) (.tup ha ra)⟩⟩
end

/-! ### isinstance -/
def tyN : D → String
  | .none => "NoneType"
  | .bool _ => "bool"
  | .int _ => "int"
  | .str _ => "str"
  | .list _ => "list"
  | .tuple _ => "tuple"
  | .dict _ => "dict"
def insN (T a : String) : Bool := a == T || (T == "int" && a == "bool")
def kitT (T : String) : Bool := ["NoneType", "bool", "int", "str", "list", "tuple", "dict"].all fun a => decide (kitB a T = some (insN T a))
theorem tyN_mem (d : D) : tyN d ∈ ["NoneType", "bool", "int", "str", "list", "tuple", "dict"] := by cases d <;> simp [tyN]
theorem rep_tyx {K : PySem.W.Frag} {B : Hp} {v : V} {d : D} (r : Rep K B v d) : TyX K B v (.type (tyN d)) := by
  cases r with
  | non => exact .base .non
  | bl b => exact .base (.bl b)
  | int b => exact .base (.int b)
  | str b => exact .base (.str b)
  | lst h _ =>
    rcases h with h | ⟨o, h⟩
    · exact .base (.lst h)
    · exact .base (.frz h)
  | tup h _ =>
    rcases h with (h | ⟨o, h⟩) | ⟨o, its, n, h1, h2, _⟩
    · exact .base (.tup h)
    · exact .fTuple h
    · exact .kTuple h1 h2
  | dct h _ _ => exact .base (.dK h)
theorem kit_isi {K : PySem.W.Frag} {T : String} (h : kitT T = true) (d : D) : PySem.W.kitOne K (.type (tyN d)) (.type T) = some (insN T (tyN d)) :=
  kit_ty (of_decide_eq_true (List.all_eq_true.mp h _ (tyN_mem d)))
def disi (T : String) (fa : DM D) : DM D := fa.bind fun d => DM.pure (.bool (insN T (tyN d)))
def disi2 (T U : String) (fa : DM D) : DM D := fa.bind fun d => DM.pure (.bool (insN T (tyN d) || insN U (tyN d)))
section
variable {X : Cx} {c : Cf} {te : TE} {fe : DM D} {e : Expr} {p pt pt2 pos : Pos} {T U : String} {x y : Str}
theorem pd_isi (hg : Gl X "isinstance") (hm : X.mg "isinstance" = none) (hgT : Gl X x) (hmT : X.mg x = none) (hvT : bootBuiltins x = some (.type T)) (hk : kitT T = true) (he : PD X c e te fe)
    (hnT : x ≠ "__name__" := by decide) (hdT : (x == ("__debug__" : Str)) = false := by decide)
    (hs : starEach [e, .Name x pt] X.env = (false, eval e X.env) :: starEach [.Name x pt] X.env := by rfl) (hs2 : starEach [.Name x pt] X.env = (false, eval (.Name x pt) X.env) :: starEach [] X.env := by rfl)
    (hpl : (backTo pos (starEach [Expr.Name x pt] X.env)).any (·.1) = false := by rfl) :
    PD X c (.Call (.Name "isinstance" p) [e, .Name x pt] [] pos) (tCB (rIsi X.K) (tCons te (tCons (tC (.ty T)) tNil))) (disi T fe) :=
  ⟨pe_callB call_isi hg hm (by decide +kernel) (pa_cons he.pe (pa_cons (pe_bltn hgT hmT hvT rfl hnT hdT) pa_nil hs2) hs) (he := hs) (hpl := hpl),
   EvP.bind (relA := Rep X.K) (relC := Rep X.K) (tk := fun x _ H Q => rIsi X.K [x, .ty T] H Q) mono_true he.ev fun x d => by
    intro A Z B σ H st r er pr hf Q hok hex
    cases hf
    exact ⟨x, .ty T, .type (tyN d), .type T, _, rfl, .ty T, rep_tyx (pr.2.mono er.bh), kit_isi hk d, hok _ st rfl _ B H er Adv.refl (.bl _)⟩⟩
theorem pd_isi2 {k : Nat} (hg : Gl X "isinstance") (hm : X.mg "isinstance" = none) (hgT : Gl X x) (hmT : X.mg x = none) (hvT : bootBuiltins x = some (.type T)) (hk : kitT T = true)
    (hgU : Gl X y) (hmU : X.mg y = none) (hvU : bootBuiltins y = some (.type U)) (hkU : kitT U = true) (he : PD X c e te fe)
    (hnT : x ≠ "__name__" := by decide) (hdT : (x == ("__debug__" : Str)) = false := by decide) (hnU : y ≠ "__name__" := by decide) (hdU : (y == ("__debug__" : Str)) = false := by decide)
    (hs : starEach [e, .Tuple [.Name x pt, .Name y pt2] k p] X.env = (false, eval e X.env) :: starEach [.Tuple [.Name x pt, .Name y pt2] k p] X.env := by rfl)
    (hs2 : starEach [.Tuple [.Name x pt, .Name y pt2] k p] X.env = (false, eval (.Tuple [.Name x pt, .Name y pt2] k p) X.env) :: starEach [] X.env := by rfl)
    (hs3 : starEach [.Name x pt, .Name y pt2] X.env = (false, eval (.Name x pt) X.env) :: starEach [.Name y pt2] X.env := by rfl)
    (hs4 : starEach [.Name y pt2] X.env = (false, eval (.Name y pt2) X.env) :: starEach [] X.env := by rfl)
    (hpl : (backTo pos (starEach [Expr.Tuple [.Name x pt, .Name y pt2] k p] X.env)).any (·.1) = false := by rfl) {p0 : Pos} :
    PD X c (.Call (.Name "isinstance" p0) [e, .Tuple [.Name x pt, .Name y pt2] k p] [] pos) (tCB (rIsiT X.K) (tCons te (tCons (tTup (tCons (tC (.ty T)) (tCons (tC (.ty U)) tNil))) tNil))) (disi2 T U fe) :=
  ⟨pe_callB call_isiT hg hm (by decide +kernel) (pa_cons he.pe (pa_cons (pe_tup (pa_cons (pe_bltn hgT hmT hvT rfl hnT hdT) (pa_cons (pe_bltn hgU hmU hvU rfl hnU hdU) pa_nil hs4) hs3)) pa_nil hs2) hs) (he := hs) (hpl := hpl),
   EvP.bind (relA := Rep X.K) (relC := Rep X.K) (tk := fun x _ H Q => [V.ty T, V.ty U].length ≤ sizeLine ∧ ∀ p, H p = none → rIsiT X.K [x, .ref p] (upd H p (.tup [.ty T, .ty U])) Q) mono_true he.ev fun x d => by
    intro A Z B σ H st r er pr hf Q hok hex
    cases hf
    refine ⟨by show 2 ≤ sizeLine; decide, fun q hq => ?_⟩
    have pu := Pu.mk0 (o := .tup [.ty T, .ty U]) er.bh hq
    refine ⟨x, q, [.ty T, .ty U], .type (tyN d), [.type T, .type U], _, rfl, upd_same, .cons (.ty T) (.cons (.ty U) .nil), rep_tyx (pr.2.mono pu.bh), kitAny_cons (b := insN T (tyN d)) (r := (insN T (tyN d) || insN U (tyN d))) (kit_isi hk d) (fun h1 => ?_) (fun h1 => by rw [h1]; rfl), hok _ st rfl _ B _ (er.pu pu) pu.adv (.bl _)⟩
    rw [h1]
    exact kitAny_cons (b := insN U (tyN d)) (kit_isi hkU d) (fun h2 => by rw [h2]; exact kitAny_nil) (fun h2 => by rw [h2]; rfl)⟩
end

/-! ### a text's method of one argument -/
def asS : D → Option Str
  | .str z => some z
  | _ => none
def RDM1 (K : PySem.W.Frag) (r : V → List V → Hp → VK → Prop) (g : Str → D → Option D) : Prop := ∀ (a : Str) (y : V) (dy dz : D) (B H : Hp), Ex B H → Rep K B y dy → g a dy = some dz →
  ∀ Q : VK, (∀ v B' H', Pu B H B' H' → Rep K B' v dz → Q v H') → r (.str a) [y] H Q
def dm1 (g : Str → D → Option D) (fo fe : DM D) : DM D := fo.bind fun x => (DM.opt (asS x)).bind fun a => fe.bind fun y => DM.opt (g a y)
def joinD (a : Str) : D → Option D
  | .list ds => match strsD ds with
    | some ys => if (ys.map (·.length)).sum + ys.length * a.length ≤ 16777216 then some (.str (Txt.join a ys)) else none
    | none => none
  | .tuple ds => match strsD ds with
    | some ys => if (ys.map (·.length)).sum + ys.length * a.length ≤ 16777216 then some (.str (Txt.join a ys)) else none
    | none => none
  | _ => none
abbrev rJoin (K : PySem.W.Frag) : V → List V → Hp → VK → Prop := fun x xs H Q => ∃ a p, ∃ ys : List Str, x = .str a ∧ xs = [.ref p] ∧ (SqL K H p (ys.map V.str) ∨ SqT K H p (ys.map V.str)) ∧
    (ys.map (·.length)).sum + ys.length * a.length ≤ 16777216 ∧ Q (.str (Txt.join a ys)) H
section
variable {X : Cx} {c : Cf} {K : PySem.W.Frag} {to te : TE} {fo fe : DM D} {o e : Expr} {apos pos : Pos}
theorem ev_m1 {r : V → List V → Hp → VK → Prop} {g : Str → D → Option D} (hr : RDM1 K r g) (ho : EvD K c to fo) (he : EvD K c te fe) : EvD K c (tM1 r to te) (dm1 g fo fe) :=
  EvP.bind (relA := Rep K) (relC := Rep K) (tk := fun x σ H Q => (∃ a, x = .str a) ∧ te σ H fun y H2 => r x [y] H2 Q) mono_true ho fun x d => by
    intro A Z B σ H st r' er pr hf Q hok hex
    cases d <;> first | (cases hf; done) | skip
    rename_i a
    have hf1 : (fe.bind fun y => DM.opt (g a y)) st = some r' := hf
    have hx := rep_str pr.2
    subst hx
    refine ⟨⟨a, rfl⟩, ?_⟩
    exact EvP.bind (relA := Rep K) (relC := Rep K) (tk := fun y _ H Q => r (.str a) [y] H Q) mono_true he (fun y dy => EvP.val (t := fun H Q => r (.str a) [y] H Q) fun B H dz e p hg Q q => hr a y dy dz B H e p.2 hg Q q) A Z B σ H st r' er True.intro hf1 Q hok hex
theorem rdm_join : RDM1 K (rJoin K) joinD := by
  intro a y dy dz B H e ry hg Q q
  cases dy <;> first | (cases hg; done) | skip
  · rename_i ds
    simp only [joinD] at hg
    split at hg
    · rename_i ys hy
      obtain ⟨hl, rfl⟩ := opt_if hg
      obtain ⟨p, vs, rfl, hp, ra⟩ := rep_lst ry
      rw [strsD_eq hy] at ra
      rw [repA_strs_of ra] at hp
      exact ⟨a, p, ys, rfl, rfl, .inl (.inl (ex_rd e hp)), hl, q _ B H (Pu.refl e) (.str _)⟩
    · cases hg
  · rename_i ds
    simp only [joinD] at hg
    split at hg
    · rename_i ys hy
      obtain ⟨hl, rfl⟩ := opt_if hg
      obtain ⟨p, vs, rfl, hp, ra⟩ := rep_tup ry
      rw [strsD_eq hy] at ra
      rw [repA_strs_of ra] at hp
      exact ⟨a, p, ys, rfl, rfl, .inr (ex_t e hp), hl, q _ B H (Pu.refl e) (.str _)⟩
    · cases hg
theorem pd_join (ho : PD X c o to fo) (he : PD X c e te fe) (hs : starEach [e] X.env = [(false, eval e X.env)] := by rfl) (hbase : attributeBase o "join" X.env (eval o X.env) = eval o X.env := by rfl) (hline : (apos.endLine == pos.line) = true := by rfl) :
    PD X c (.Call (.Attribute o "join" apos) [e] [] pos) (tM1 (rJoin X.K) to te) (dm1 joinD fo fe) := ⟨pe_join ho.pe he.pe hs hbase hline, ev_m1 rdm_join ho.ev he.ev⟩
end

/-! ### what a loop walks -/
def WalkD (K : PySem.W.Frag) (B : Hp) (J : It) (ds : List D) : Prop := ∃ (G : Hp → Prop) (Y : Nat → Hp → V → Hp → Prop), Walk J ds.length G Y ∧ (∀ H, Ex B H → G H) ∧
  ∀ i H x H', Y i H x H' → Ex B H → i < ds.length → ∀ B1, Ex B B1 → Ex B1 H → ∃ B1' d, Pu B1 H B1' H' ∧ ds[i]? = some d ∧ Rep K B1' x d
theorem monoR_walk {K : PySem.W.Frag} : MonoR (WalkD K) := fun J ds B B' e ⟨G, Y, w, g, y⟩ =>
  ⟨G, Y, w, fun H h => g H fun a o q => h a o (e a o q), fun i H x H' h1 h2 h3 B1 h4 h5 => y i H x H' h1 (fun a o q => h2 a o (e a o q)) h3 B1 (fun a o q => h4 a o (e a o q)) h5⟩
structure PDI (X : Cx) (c : Cf) (tg iter : Expr) (wi : TI) (f : DM (List D)) : Prop where
  pi : PI X tg iter wi
  ev : EvP X.K c (fun _ => True) (WalkD X.K) wi f
def iAny (K : PySem.W.Frag) (te : TE) : TI := fun σ H R => te σ H fun x H1 => (∃ a, x = .ref a ∧ (∃ xs, SqL K H1 a xs) ∧ R (Itl K a) H1) ∨ ((∃ a, x = .ref a ∧ (∃ xs, SqT K H1 a xs) ∧ R (Itt K a) H1) ∨ ∃ z, x = .str z ∧ R (Its z) H1)
theorem pi_any {X : Cx} {tg e : Expr} {te : TE} (he : PE X e te) : PI X tg e (iAny X.K te) := by
  refine ⟨fun pins s σ H R I h => ?_⟩
  refine thn (he.run pins s σ H _ I h) fun v s1 ⟨y, H1, I1, r1, q⟩ => ?_
  have h0 : ∀ {wi : TI}, (PI X tg e wi → True) := fun _ => True.intro
  rcases q with ⟨a, rfl, ⟨xs, hq⟩, q⟩ | ⟨a, rfl, ⟨xs, hq⟩, q⟩ | ⟨z, rfl, q⟩
  · cases r1
    obtain ⟨its, rv, p, hz⟩ := I1.list hq
    refine wpAny_pyIter_list p.isList ?_
    refine ⟨s1.heap.objs.size, [s1.heap.objs.size], _, _, H1, rfl, I1.kept (t' := s1.toks) fun b o e => Heap.get?_push_of_some _ e, turn_list a _, ⟨_, Heap.get?_push_size _ rfl, rfl, rfl⟩, fun b hb => ?_, q⟩
    have e : b = s1.heap.objs.size := by simpa using hb
    subst e
    exact I1.fpOk (Nat.le_refl _) (I1.hok.fresh (Nat.le_refl _))
  · cases r1
    obtain ⟨its, rv, p, hz⟩ := I1.tuple hq
    refine wpAny_pyIter_tuple (show s1.heap.IsTuple a its.toArray from p) ?_
    refine ⟨s1.heap.objs.size, [s1.heap.objs.size], _, _, H1, rfl, I1.kept (t' := s1.toks) fun b o e => Heap.get?_push_of_some _ e, turn_tuple a _, ⟨_, Heap.get?_push_size _ rfl, rfl, rfl⟩, fun b hb => ?_, q⟩
    have e : b = s1.heap.objs.size := by simpa using hb
    subst e
    exact I1.fpOk (Nat.le_refl _) (I1.hok.fresh (Nat.le_refl _))
  · obtain ⟨t, rfl⟩ := r1
    cases ha : z.cps.all (· < 128)
    · exact wpAny_pyIter_wide ha (pi_one (tk := s1.toks) I1 _ (turn_str _ z t "str_iterator" (.inr rfl)) ⟨_, Heap.get?_push_size _ rfl, rfl, rfl⟩ q)
    · exact wpAny_pyIter_ascii ha (pi_one (tk := s1.toks) I1 _ (turn_str _ z t "str_ascii_iterator" (.inl rfl)) ⟨_, Heap.get?_push_size _ rfl, rfl, rfl⟩ q)
def signs (z : Str) : List D := z.cps.toList.map fun c => .str ⟨#[c]⟩
def itemsD : D → Option (List D)
  | .list ds => some ds
  | .tuple ds => some ds
  | .str z => some (signs z)
  | _ => none
theorem walkD_seq {K : PySem.W.Frag} {B : Hp} {xs : List V} {ds : List D} {J : It} {G : Hp → Prop} (ra : RepA K B xs ds) (w : Walk J xs.length G (YAt xs)) (g : ∀ H, Ex B H → G H) : WalkD K B J ds := by
  refine ⟨G, YAt xs, by rw [← ra.length]; exact w, g, fun i H x H' y e hi B1 e1 e2 => ?_⟩
  obtain ⟨rfl, hx⟩ := y
  obtain ⟨d, hd, r⟩ := ra.getV hx
  exact ⟨B1, d, Pu.refl e2, hd, r.mono e1⟩
section
variable {X : Cx} {c : Cf} {K : PySem.W.Frag} {te : TE} {fe : DM D} {tg e : Expr} {pos p : Pos}
theorem pdi_any (he : PD X c e te fe) : PDI X c tg e (iAny X.K te) (fe.bind fun d => DM.opt (itemsD d)) :=
  ⟨pi_any he.pe, EvP.bind (relA := Rep X.K) (tk := fun x _ H1 R => (∃ a, x = .ref a ∧ (∃ xs, SqL X.K H1 a xs) ∧ R (Itl X.K a) H1) ∨ ((∃ a, x = .ref a ∧ (∃ xs, SqT X.K H1 a xs) ∧ R (Itt X.K a) H1) ∨ ∃ z, x = .str z ∧ R (Its z) H1)) mono_true he.ev fun x d =>
    EvP.val (t := fun H1 R => (∃ a, x = .ref a ∧ (∃ xs, SqL X.K H1 a xs) ∧ R (Itl X.K a) H1) ∨ ((∃ a, x = .ref a ∧ (∃ xs, SqT X.K H1 a xs) ∧ R (Itt X.K a) H1) ∨ ∃ z, x = .str z ∧ R (Its z) H1)) fun B H ds e p hg R q => by
      cases d <;> first | (cases hg; done) | skip
      · rename_i z
        cases hg
        refine .inr (.inr ⟨z, rep_str p.2, q _ B H (Pu.refl e) ⟨fun _ => True, _, (by have w := walk_str (z := z); rw [show (signs z).length = z.cps.size by simp [signs]]; exact w), fun _ _ => True.intro, fun i H x H' y e hi B1 e1 e2 => ?_⟩⟩)
        obtain ⟨rfl, c, hc, rfl⟩ := y
        refine ⟨B1, .str ⟨#[c]⟩, Pu.refl e2, ?_, .str _⟩
        unfold signs
        rw [List.getElem?_map, Array.getElem?_toList, hc]
        rfl
      · rename_i xs
        cases hg
        obtain ⟨a, vs, rfl, ha, ra⟩ := rep_lst p.2
        exact .inl ⟨a, rfl, ⟨vs, .inl (ex_rd e ha)⟩, q _ B H (Pu.refl e) (walkD_seq ra walk_list fun H h => .inl (ex_rd h ha))⟩
      · rename_i xs
        cases hg
        obtain ⟨a, vs, rfl, ha, ra⟩ := rep_tup p.2
        exact .inr (.inl ⟨a, rfl, ⟨vs, ex_t e ha⟩, q _ B H (Pu.refl e) (walkD_seq ra walk_tup fun H h => ex_t h ha)⟩)⟩
def rangeL (lo : Int) (n : Nat) : List D := (List.range n).map fun (k : Nat) => PyData.int (lo + k)
def range1D : List D → Option (List D)
  | [.int j] => if -100000000 ≤ j ∧ j ≤ 100000000 then some (rangeL 0 j.toNat) else none
  | _ => none
def range2D : List D → Option (List D)
  | [.int i, .int j] => if -100000000 ≤ i ∧ i ≤ 100000000 ∧ -100000000 ≤ j ∧ j ≤ 100000000 then some (rangeL i (j - i).toNat) else none
  | _ => none
theorem walkD_range {B : Hp} {lo : Int} {n : Nat} : WalkD K B (Itr lo n) (rangeL lo n) := by
  refine ⟨fun _ => True, _, (by rw [show (rangeL lo n).length = n by simp [rangeL]]; exact walk_range), fun _ _ => True.intro, fun i H x H' y e hi B1 e1 e2 => ?_⟩
  obtain ⟨rfl, rfl⟩ := y
  refine ⟨B1, .int (lo + i), Pu.refl e2, ?_, .int _⟩
  have hi2 : i < n := by simpa [rangeL] using hi
  unfold rangeL
  rw [List.getElem?_map, List.getElem?_range hi2]
  rfl
variable {a b : Expr} {t : TA} {f : DM (List D)}
theorem pdi_range1 (hg : Gl X "range") (hm : X.mg "range" = none) (ha : PDA X c [a] t f) (hs : starEach [a] X.env = [(false, eval a X.env)] := by rfl) : PDI X c tg (.Call (.Name "range" p) [a] [] pos) (iRng1 t) (f.bind fun ds => DM.opt (range1D ds)) :=
  ⟨pi_range1 hg hm ha.pa hs, EvP.bind (relA := RepA X.K) (tk := fun vs _ H1 R => ∃ j : Int, vs = [.int j] ∧ -(2 ^ 62) ≤ j ∧ j < 2 ^ 62 ∧ R (Itr 0 j.toNat) H1) mono_true ha.ev fun vs ds =>
    EvP.val (t := fun H1 R => ∃ j : Int, vs = [.int j] ∧ -(2 ^ 62) ≤ j ∧ j < 2 ^ 62 ∧ R (Itr 0 j.toNat) H1) fun B H l e p hg R q => by
      match ds, hg with
      | [.int j], hg =>
        obtain ⟨hl, rfl⟩ := opt_if (show (if -100000000 ≤ j ∧ j ≤ 100000000 then some (rangeL 0 j.toNat) else none) = some l from hg)
        obtain ⟨v, rfl, rv⟩ := repA1 p.2
        exact ⟨j, by rw [rep_int rv], by omega, by omega, q _ B H (Pu.refl e) walkD_range⟩⟩
theorem pdi_range2 (hg : Gl X "range") (hm : X.mg "range" = none) (ha : PDA X c [a, b] t f) (hs : starEach [a, b] X.env = [(false, eval a X.env), (false, eval b X.env)] := by rfl) (hs2 : starEach [b] X.env = [(false, eval b X.env)] := by rfl) :
    PDI X c tg (.Call (.Name "range" p) [a, b] [] pos) (iRng2 t) (f.bind fun ds => DM.opt (range2D ds)) :=
  ⟨pi_range2 hg hm ha.pa hs hs2, EvP.bind (relA := RepA X.K) (tk := fun vs _ H1 R => ∃ i j : Int, vs = [.int i, .int j] ∧ (-(2 ^ 62) ≤ i ∧ i < 2 ^ 62 ∧ -(2 ^ 62) ≤ j ∧ j < 2 ^ 62) ∧ R (Itr i (j - i).toNat) H1) mono_true ha.ev fun vs ds =>
    EvP.val (t := fun H1 R => ∃ i j : Int, vs = [.int i, .int j] ∧ (-(2 ^ 62) ≤ i ∧ i < 2 ^ 62 ∧ -(2 ^ 62) ≤ j ∧ j < 2 ^ 62) ∧ R (Itr i (j - i).toNat) H1) fun B H l e p hg R q => by
      match ds, hg with
      | [.int i, .int j], hg =>
        obtain ⟨hl, rfl⟩ := opt_if (show (if -100000000 ≤ i ∧ i ≤ 100000000 ∧ -100000000 ≤ j ∧ j ≤ 100000000 then some (rangeL i (j - i).toNat) else none) = some l from hg)
        obtain ⟨v, w, rfl, rv, rw'⟩ := repA2 p.2
        exact ⟨i, j, by rw [rep_int rv, rep_int rw'], by omega, q _ B H (Pu.refl e) walkD_range⟩⟩
end
end DR

set_option maxRecDepth 100000
set_option maxHeartbeats 1000000
namespace DR
open PySem PySem.Spec L2
open PyProof.Rows hiding St
open Evl (Ex ex_l ex_t ex_rd)

/-! ### targets: a name, names of a tuple -/
def SameOff (vs : List Nat) {α : Type} (s t : List α) : Prop := t.length = s.length ∧ ∀ i, i ∉ vs → t[i]? = s[i]?
theorem SameOff.refl {vs : List Nat} {α : Type} {s : List α} : SameOff vs s s := ⟨rfl, fun _ _ => rfl⟩
theorem SameOff.trans {vs : List Nat} {α : Type} {s t u : List α} (a : SameOff vs s t) (b : SameOff vs t u) : SameOff vs s u := ⟨b.1.trans a.1, fun i h => (b.2 i h).trans (a.2 i h)⟩
theorem SameOff.set {vs : List Nat} {α : Type} {s : List α} {i : Nat} {x : α} (h : i ∈ vs) : SameOff vs s (s.set i x) :=
  ⟨List.length_set, fun j hj => List.getElem?_set_ne (show i ≠ j from fun e => hj (e ▸ h))⟩
abbrev DG := D → DS → Option DS
def EvG (K : PySem.W.Frag) (c : Cf) (vs : List Nat) (g : TG) (gd : DG) : Prop :=
  ∀ (A : Nat → Addr) (Z : Zn) (B : Hp) (σ : L2.St) (H : Hp) (st st' : DS) (x : V) (d : D), ER K c A Z B σ H st → Rep K B x d → gd d st = some st' →
    ∀ Q : L2.St → Hp → Prop, (∀ σ', ER K c A Z B σ' H st' → SameOff vs σ σ' → SameOff vs st st' → Q σ' H) → g x σ H Q
theorem ER.set {K : PySem.W.Frag} {c : Cf} {A : Nat → Addr} {Z : Zn} {B : Hp} {σ : L2.St} {H : Hp} {st : DS} {i : Nat} {x : V} {d : D} (e : ER K c A Z B σ H st) (hi : i ∉ c.ps) (r : Rep K B x d) : ER K c A Z B (σ.set i (some x)) H (st.set i (some d)) where
  len := by rw [List.length_set, List.length_set]; exact e.len
  bh := e.bh
  rd := fun j d' h1 h2 h => by
    by_cases hj : i = j
    · subst hj
      by_cases hl : i < st.length
      · rw [List.getElem?_set_self hl] at h
        cases h
        exact ⟨x, List.getElem?_set_self (by rw [← e.len]; exact hl), r⟩
      · rw [List.getElem?_eq_none (by rw [List.length_set]; omega)] at h
        cases h
    · rw [List.getElem?_set_ne hj] at h
      rw [List.getElem?_set_ne hj]
      exact e.rd j d' h1 h2 h
  pn := by
    obtain ⟨F, h1, h2⟩ := e.pn
    refine ⟨F, fun j hj => ?_, h2⟩
    have hne : i ≠ j := fun z => hi (z ▸ hj)
    rw [List.getElem?_set_ne hne, List.getElem?_set_ne hne]
    exact h1 j hj
  fr := e.fr
  zx := e.zx
  zo := e.zo
def gdName (i : Nat) : DG := fun d st => some (st.set i (some d))
theorem evg_name {K : PySem.W.Frag} {c : Cf} {i : Nat} {vs : List Nat} (h1 : i ∈ vs) (h2 : i ∉ c.ps) : EvG K c vs (gName i) (gdName i) :=
  fun A Z B σ H st st' x d er r h Q q => by
    cases h
    exact q _ (er.set h2 r) (SameOff.set h1) (SameOff.set h1)
/-- several targets -/
abbrev DGs := List D → DS → Option DS
def gdNil : DGs := fun ds st => match ds with
  | [] => some st
  | _ => none
def gdCons (g : DG) (u : DGs) : DGs := fun ds st => match ds with
  | d :: r => match g d st with
    | some st1 => u r st1
    | none => none
  | _ => none
def EvGs (K : PySem.W.Frag) (c : Cf) (vs : List Nat) (g : TGs) (gd : DGs) : Prop :=
  ∀ (A : Nat → Addr) (Z : Zn) (B : Hp) (σ : L2.St) (H : Hp) (st st' : DS) (xs : List V) (ds : List D), ER K c A Z B σ H st → RepA K B xs ds → gd ds st = some st' →
    ∀ Q : L2.St → Hp → Prop, (∀ σ', ER K c A Z B σ' H st' → SameOff vs σ σ' → SameOff vs st st' → Q σ' H) → g xs σ H Q
theorem evgs_nil {K : PySem.W.Frag} {c : Cf} {vs : List Nat} : EvGs K c vs gNil gdNil := fun A Z B σ H st st' xs ds er r h Q q => by
  cases r with
  | nil =>
    cases h
    exact ⟨rfl, q σ er .refl .refl⟩
  | cons _ _ => cases h
theorem evgs_cons {K : PySem.W.Frag} {c : Cf} {vs : List Nat} {g : TG} {gd : DG} {u : TGs} {ud : DGs} (h1 : EvG K c vs g gd) (h2 : EvGs K c vs u ud) : EvGs K c vs (gCons g u) (gdCons gd ud) := fun A Z B σ H st st' xs ds er r h Q q => by
  cases r with
  | nil => cases h
  | @cons v vr d dr r rr =>
    unfold gdCons at h
    cases e1 : gd d st with
    | none =>
      simp only [e1] at h
      cases h
    | some st1 =>
      simp only [e1] at h
      exact ⟨v, vr, rfl, h1 A Z B σ H st st1 v d er r e1 _ fun σ1 er1 s1 s2 => h2 A Z B σ1 H st1 st' vr dr er1 rr h Q fun σ2 er2 s3 s4 => q σ2 er2 (s1.trans s3) (s2.trans s4)⟩
def gdTup (n : Nat) (u : DGs) : DG := fun d st => match d with
  | .tuple ds => if ds.length = n then u ds st else none
  | _ => none
theorem evg_tup {K : PySem.W.Frag} {c : Cf} {vs : List Nat} {n : Nat} {u : TGs} {ud : DGs} (h2 : EvGs K c vs u ud) : EvG K c vs (gTup K n u) (gdTup n ud) := fun A Z B σ H st st' x d er r h Q q => by
  cases d <;> first | (cases h; done) | skip
  rename_i ds
  unfold gdTup at h
  simp only at h
  split at h
  · rename_i hl
    obtain ⟨a, xs, rfl, ha, ra⟩ := rep_tup r
    exact ⟨a, xs, rfl, ex_t er.bh ha, by rw [ra.length]; exact hl, h2 A Z B σ H st st' xs ds er ra h Q q⟩
  · cases h
structure PDG (X : Cx) (c : Cf) (vs : List Nat) (tg : Expr) (g : TG) (gd : DG) : Prop where
  pg : PG X tg g
  ev : EvG X.K c vs g gd
structure PDGs (X : Cx) (c : Cf) (vs : List Nat) (tg : List Expr) (g : TGs) (gd : DGs) : Prop where
  pg : PGs X tg g
  ev : EvGs X.K c vs g gd
section
variable {X : Cx} {c : Cf} {vs : List Nat} {pos : Pos}
theorem pdg_name (i : Nat) {x : Str} (h1 : i ∈ vs := by decide) (h2 : i ∉ c.ps := by decide) (hN : X.N.Nodup := by assumption) (hi : X.N[i]? = some x := by rfl) (hx : Loc X.env.scope x := by first | exact Or.inl rfl | exact Or.inr rfl)
    (hf : X.fn x = true ∨ X.env.scope.names.lookup x = some .local := by first | exact .inl rfl | exact .inr rfl | assumption) : PDG X c vs (.Name x pos) (gName i) (gdName i) := ⟨pg_name hN hi hx hf, evg_name h1 h2⟩
theorem pdgs_nil : PDGs X c vs [] gNil gdNil := ⟨pgs_nil, evgs_nil⟩
theorem pdgs_cons {e : Expr} {es : List Expr} {g : TG} {gd : DG} {u : TGs} {ud : DGs} (h1 : PDG X c vs e g gd) (h2 : PDGs X c vs es u ud)
    (hs : (assignEach (e :: es) X.env).map (·.2) = assign e X.env :: (assignEach es X.env).map (·.2) := by rfl) : PDGs X c vs (e :: es) (gCons g u) (gdCons gd ud) := ⟨pgs_cons h1.pg h2.pg hs, evgs_cons h1.ev h2.ev⟩
theorem pdg_tup {es : List Expr} {k : Nat} {u : TGs} {ud : DGs} {n : Nat} (hc : X.calm = true) (h : PDGs X c vs es u ud)
    (hn : (assignEach es X.env).length = n := by rfl) (hst : (assignEach es X.env).findIdx? (·.1) = none := by rfl) : PDG X c vs (.Tuple es k pos) (gTup X.K n u) (gdTup n ud) := ⟨pg_tup hc h.pg hn hst, evg_tup h.ev⟩
end

/-! ### comprehensions -/
def wipeD (st : DS) : List Nat → DS
  | [] => st
  | v :: vs => (wipeD st vs).set v none
def backD (st s : DS) : List Nat → DS
  | [] => s
  | v :: vs => (backD st s vs).set v (st.getD v none)
theorem wipeD_len (st : DS) : ∀ vs : List Nat, (wipeD st vs).length = st.length
  | [] => rfl
  | v :: vs => by unfold wipeD; rw [List.length_set, wipeD_len st vs]
theorem wipeD_off {st : DS} {i : Nat} : ∀ {vs : List Nat}, i ∉ vs → (wipeD st vs)[i]? = st[i]?
  | [], _ => rfl
  | v :: vs, h => by
    unfold wipeD
    rw [List.getElem?_set_ne (show v ≠ i from fun e => h (e ▸ List.mem_cons_self)), wipeD_off (fun z => h (List.mem_cons_of_mem _ z))]
theorem wipeD_some {st : DS} {i : Nat} {d : D} : ∀ {vs : List Nat}, (wipeD st vs)[i]? = some (some d) → st[i]? = some (some d) ∧ i ∉ vs
  | [], h => ⟨h, by simp⟩
  | v :: vs, h => by
    unfold wipeD at h
    by_cases hi : v = i
    · subst hi
      by_cases hv : v < (wipeD st vs).length
      · rw [List.getElem?_set_self hv] at h; cases h
      · rw [List.getElem?_eq_none (by simpa using hv)] at h; cases h
    · rw [List.getElem?_set_ne hi] at h
      obtain ⟨h1, h2⟩ := wipeD_some h
      exact ⟨h1, by simp only [List.mem_cons, not_or]; exact ⟨fun e => hi e.symm, h2⟩⟩
theorem backD_len (st s : DS) : ∀ vs : List Nat, (backD st s vs).length = s.length
  | [] => rfl
  | v :: vs => by unfold backD; rw [List.length_set, backD_len st s vs]
theorem backD_off {st s : DS} {i : Nat} : ∀ {vs : List Nat}, i ∉ vs → (backD st s vs)[i]? = s[i]?
  | [], _ => rfl
  | v :: vs, h => by
    unfold backD
    rw [List.getElem?_set_ne (show v ≠ i from fun e => h (e ▸ List.mem_cons_self)), backD_off (fun z => h (List.mem_cons_of_mem _ z))]
theorem backD_on {st s : DS} {i : Nat} (hl : s.length = st.length) : ∀ {vs : List Nat}, i ∈ vs → (backD st s vs)[i]? = st[i]?
  | v :: vs, h => by
    unfold backD
    by_cases hv : v = i
    · subst hv
      by_cases h2 : v < st.length
      · rw [List.getElem?_set_self (by rw [backD_len, hl]; exact h2), List.getElem?_eq_getElem h2]
        simp [List.getD, h2]
      · rw [List.getElem?_eq_none (by rw [List.length_set, backD_len, hl]; omega), List.getElem?_eq_none (by omega)]
    · rw [List.getElem?_set_ne hv]
      rcases List.mem_cons.mp h with e | h
      · exact absurd e.symm hv
      · exact backD_on hl h
theorem wipe_off {σ : L2.St} {i : Nat} : ∀ {vs : List Nat}, i ∉ vs → (L2.wipe σ vs)[i]? = σ[i]?
  | [], _ => rfl
  | v :: vs, h => by
    unfold L2.wipe
    rw [List.getElem?_set_ne (show v ≠ i from fun e => h (e ▸ List.mem_cons_self)), wipe_off (fun z => h (List.mem_cons_of_mem _ z))]
theorem wipe_on {σ : L2.St} {i : Nat} : ∀ {vs : List Nat}, i ∈ vs → i < σ.length → (L2.wipe σ vs)[i]? = some none
  | v :: vs, h, hl => by
    unfold L2.wipe
    by_cases hv : v = i
    · subst hv
      rw [List.getElem?_set_self (by rw [wipe_length]; exact hl)]
    · rw [List.getElem?_set_ne hv]
      rcases List.mem_cons.mp h with e | h
      · exact absurd e.symm hv
      · exact wipe_on h hl
theorem wipe_eq {σ τ : L2.St} {vs : List Nat} (h : SameOff vs σ τ) : L2.wipe τ vs = L2.wipe σ vs := by
  refine List.ext_getElem? fun i => ?_
  by_cases hi : i ∈ vs
  · by_cases hl : i < σ.length
    · rw [wipe_on hi hl, wipe_on hi (by rw [h.1]; exact hl)]
    · rw [List.getElem?_eq_none (by rw [wipe_length, h.1]; omega), List.getElem?_eq_none (by rw [wipe_length]; omega)]
  · rw [wipe_off hi, wipe_off hi]
    exact h.2 i hi
theorem wipe_wipe {σ : L2.St} {vs : List Nat} : L2.wipe (L2.wipe σ vs) vs = L2.wipe σ vs := wipe_eq ⟨wipe_length _ _, fun i hi => wipe_off hi⟩
def dcompL (vs : List Nat) (g : DG) (tt : DM Bool) (te : DM D) : List D → DS → List D → Option (List D × DS)
  | [], st, acc => some (acc, st)
  | d :: r, st, acc => match g d (wipeD st vs) with
    | none => none
    | some st1 => match tt st1 with
      | some (.ok true, st2) => match te st2 with
        | some (.ok y, st3) => if acc.length < sizeLine then dcompL vs g tt te r (backD st st3 vs) (acc ++ [y]) else none
        | _ => none
      | some (.ok false, st2) => dcompL vs g tt te r (backD st st2 vs) acc
      | _ => none
def dcomp (vs : List Nat) (items : DM (List D)) (g : DG) (tt : DM Bool) (te : DM D) : DM D := items.bind fun ds => fun st => (dcompL vs g tt te ds st []).map fun r => (.ok (.list r.1), r.2)
section
variable {K : PySem.W.Frag} {c : Cf} {A : Nat → Addr} {Z : Zn} {B B' H H' : Hp} {σ : L2.St} {st st' : DS}
theorem ER.wipe {vs : List Nat} (e : ER K c A Z B σ H st) (hv : ∀ i ∈ vs, i ∉ c.ps) : ER K c A Z B (L2.wipe σ vs) H (wipeD st vs) where
  len := by rw [wipeD_len, wipe_length]; exact e.len
  bh := e.bh
  rd := fun i d h1 h2 h => by
    obtain ⟨h3, h4⟩ := wipeD_some h
    obtain ⟨v, q, r⟩ := e.rd i d h1 h2 h3
    exact ⟨v, by rw [wipe_off h4]; exact q, r⟩
  pn := by
    obtain ⟨F, h1, h2⟩ := e.pn
    refine ⟨F, fun i hi => ?_, h2⟩
    have hn : i ∉ vs := fun z => hv i z hi
    rw [wipeD_off hn, wipe_off hn]
    exact h1 i hi
  fr := e.fr
  zx := e.zx
  zo := e.zo
/-- behind a block: the outer slots again -/
theorem ER.back {vs : List Nat} {B0 H0 : Hp} {σ2 : L2.St} {st1 : DS} (e0 : ER K c A Z B0 σ H0 st) (e : ER K c A Z B σ2 H st1) (ex : Ex B0 B) (hv : ∀ i ∈ vs, i ∉ c.ps) (hl : st1.length = st.length) (hs : ∀ i, i ∉ vs → i ∉ c.ps → st1[i]? = st[i]?) (hσ : ∀ i, i ∉ vs → σ2[i]? = σ[i]?) :
    ER K c A Z B σ H (backD st st1 vs) where
  len := by rw [backD_len, hl]; exact e0.len
  bh := e.bh
  rd := fun i d h1 h2 h => by
    have h3 : st[i]? = some (some d) := by
      by_cases hi : i ∈ vs
      · rw [backD_on hl hi] at h
        exact h
      · rw [backD_off hi, hs i hi h2] at h
        exact h
    obtain ⟨v, q, r⟩ := e0.rd i d h1 h2 h3
    exact ⟨v, q, r.mono ex⟩
  pn := by
    obtain ⟨F, h1, h2⟩ := e.pn
    refine ⟨F, fun i hi => ?_, h2⟩
    have hn : i ∉ vs := fun z => hv i z hi
    obtain ⟨d, q1, q2, q3⟩ := h1 i hi
    rw [hσ i hn] at q2
    exact ⟨d, by rw [backD_off hn]; exact q1, q2, q3⟩
  fr := e.fr
  zx := e.zx
  zo := e.zo
end
/-- a new object, out of the base -/
def EvN (n : Shp) (K : PySem.W.Frag) (c : Cf) (t : TE) (f : DM D) : Prop :=
  ∀ (A : Nat → Addr) (Z : Zn) (B : Hp) (σ : L2.St) (H : Hp) (st : DS) (r : Res D × DS), ER K c A Z B σ H st → f st = some r → ∀ Q : VK,
    (∀ d st', r = (.ok d, st') → ∀ p F B' H', ER K c A (Z.add H' F) B' σ H' st' → Adv c.ps A B H st B' H' st' → (∀ x ∈ F, Z.fr x = none) → Own K B' H' n F p d → Q (.ref p) H') →
    (∀ x fl st', r = (.ex x fl, st') → ∀ dx B' H', ER K c A Z B' σ H' st' → Adv c.ps A B H st B' H' st' → Fld K B' H' dx fl → c.W (.ref x) dx H') → t σ H Q
section
variable {K : PySem.W.Frag} {c : Cf} {A : Nat → Addr} {Z : Zn} {B H : Hp} {σ : L2.St} {st : DS}
theorem Zn.add_eq {H H' : Hp} {F : List Addr} (h : ∀ x ∈ F, H' x = H x) : Z.add H' F = Z.add H F := by
  unfold Zn.add
  congr 1
  funext a
  unfold addF
  split
  · rename_i z
    exact h a z
  · rfl
theorem addF_ex {B H : Hp} {F : List Addr} (h : ∀ x ∈ F, B x = none) : Ex B (addF B H F) := fun a o q => by
  rw [addF_out (fun z => by rw [h a z] at q; cases q)]
  exact q
/-- less must stay -/
theorem ER.less {F : List Addr} (e : ER K c A (Z.add H F) B σ H st) (hz : ∀ x ∈ F, Z.fr x = none) : ER K c A Z B σ H st where
  len := e.len
  bh := e.bh
  rd := e.rd
  pn := by
    obtain ⟨G, h1, h2⟩ := e.pn
    refine ⟨G, fun i hi => ?_, h2⟩
    obtain ⟨d, q1, q2, q3, q4⟩ := h1 i hi
    refine ⟨d, q1, q2, q3, fun x hx => ⟨(q4 x hx).1, ?_⟩⟩
    have q5 := (q4 x hx).2
    by_cases z : x ∈ F
    · exact hz x z
    · exact (addF_out z).symm.trans q5
  fr := fun a o h => e.fr a o (by
    refine (addF_out fun z => ?_).trans h
    rw [hz a z] at h
    cases h)
  zx := e.zx
  zo := e.zo
/-- what was new is taken into the base -/
theorem ER.took {F : List Addr} (e : ER K c A (Z.add H F) B σ H st) (hz : ∀ x ∈ F, Z.fr x = none) (hh : ∀ x ∈ F, ∃ o, H x = some o) : ER K c A Z (addF B H F) σ H st ∧ Ex B (addF B H F) := by
  have hb : ∀ x ∈ F, B x = none := fun x hx => by
    obtain ⟨o, ho⟩ := hh x hx
    exact (e.fr x o ((addF_in hx).trans ho)).2
  have hx := addF_ex (H := H) hb
  refine ⟨⟨e.len, fun a o q => ?_, fun i d h1 h2 h => ?_, ?_, fun a o h => ?_, e.zx, fun a h => ?_⟩, hx⟩
  · by_cases z : a ∈ F
    · rw [addF_in z] at q
      exact q
    · rw [addF_out z] at q
      exact e.bh a o q
  · obtain ⟨v, q, r⟩ := e.rd i d h1 h2 h
    exact ⟨v, q, r.mono hx⟩
  · obtain ⟨G, h1, h2⟩ := e.pn
    refine ⟨G, fun i hi => ?_, h2⟩
    obtain ⟨d, q1, q2, q3, q4⟩ := h1 i hi
    refine ⟨d, q1, q2, q3.mono (cut_mono hx) (fun _ _ => rfl), fun x hxg => ?_⟩
    obtain ⟨z1, z2⟩ := addF_none (q4 x hxg).2 (hh x)
    exact ⟨(addF_out z1).trans (q4 x hxg).1, z2⟩
  · have hn : a ∉ F := fun z => by
      rw [hz a z] at h
      cases h
    obtain ⟨q1, q2⟩ := e.fr a o ((addF_out hn).trans h)
    exact ⟨q1, (addF_out hn).trans q2⟩
  · obtain ⟨u, h1, h2⟩ := e.zo a h
    exact ⟨u, hx a u h1, h2⟩
theorem Adv.more {ps : List Nat} {B H B' H' B2 H2 : Hp} {st st' : DS} (a : Adv ps A B H st B' H' st') (h : Ex B' B2) : Adv ps A B H st B2 H2 st' := ⟨fun x u q => h x u (a.ext x u q), a.ln, a.upd, a.pst⟩
theorem EvN.ev {n : Shp} {t : TE} {f : DM D} (h : EvN n K c t f) (hn : n.plain = true) : EvD K c t f := fun A Z B σ H st r er _ hf Q hok hex =>
  h A Z B σ H st r er hf Q (fun d st' e p F B' H' er' ad hz ow => by
    obtain ⟨er2, hx⟩ := er'.took hz ow.has
    exact hok d st' e _ _ _ er2 (ad.more hx) (ow.frz hx hn fun x hx => addF_in hx)) hex
/-- the list that a comprehension builds -/
theorem ER.new {p : Addr} {o : HO} (e : ER K c A Z B σ H st) (hn : H p = none) : ER K c A (Z.add (upd H p o) [p]) B σ (upd H p o) st where
  len := e.len
  bh := fun a u q => by rw [upd_ne (ne_of_none (e.bh a u q) hn)]; exact e.bh a u q
  rd := e.rd
  pn := by
    obtain ⟨G, h1, h2⟩ := e.pn
    refine ⟨G, fun i hi => ?_, h2⟩
    obtain ⟨d, q1, q2, q3, q4⟩ := h1 i hi
    have hne : ∀ x ∈ G i, x ≠ p := fun x hx => by
      obtain ⟨u, hu⟩ := q3.has x hx
      exact ne_of_none hu hn
    exact ⟨d, q1, q2, q3.mono (fun _ _ q => q) (fun x hx => upd_ne (hne x hx)), fun x hx => ⟨(q4 x hx).1, (addF_out (by simpa using hne x hx)).trans (q4 x hx).2⟩⟩
  fr := fun a u h => by
    by_cases z : a = p
    · subst z
      have h' : upd H a o a = some u := (addF_in (by simp)).symm.trans h
      refine ⟨h', ?_⟩
      cases q : B a with
      | none => rfl
      | some w =>
        rw [e.bh a w q] at hn
        cases hn
    · have h' : Z.fr a = some u := (addF_out (by simpa using z)).symm.trans h
      obtain ⟨q1, q2⟩ := e.fr a u h'
      exact ⟨by rw [upd_ne z]; exact q1, q2⟩
  zx := e.zx
  zo := e.zo
theorem ER.turn {p : Addr} {o u : HO} (e : ER K c A (Z.add H [p]) B σ H st) (hp : H p = some u) : ER K c A (Z.add (upd H p o) [p]) B σ (upd H p o) st where
  len := e.len
  bh := fun a w q => by
    have : B p = none := (e.fr p u ((addF_in (by simp)).trans hp)).2
    rw [upd_ne (ne_of_none q this)]
    exact e.bh a w q
  rd := e.rd
  pn := by
    obtain ⟨G, h1, h2⟩ := e.pn
    refine ⟨G, fun i hi => ?_, h2⟩
    obtain ⟨d, q1, q2, q3, q4⟩ := h1 i hi
    have hne : ∀ x ∈ G i, x ≠ p ∧ Z.fr x = none := fun x hx => by
      obtain ⟨z1, z2⟩ := addF_none (q4 x hx).2 (fun z => ⟨u, by rw [List.mem_singleton.mp z]; exact hp⟩)
      exact ⟨by simpa using z1, z2⟩
    exact ⟨d, q1, q2, q3.mono (fun _ _ q => q) (fun x hx => upd_ne (hne x hx).1), fun x hx => ⟨(q4 x hx).1, (addF_out (by simpa using (hne x hx).1)).trans (hne x hx).2⟩⟩
  fr := fun a w h => by
    by_cases z : a = p
    · subst z
      have h' : upd H a o a = some w := (addF_in (by simp)).symm.trans h
      exact ⟨h', (e.fr a u ((addF_in (by simp)).trans hp)).2⟩
    · have h' : Z.fr a = some w := (addF_out (by simpa using z)).symm.trans h
      obtain ⟨q1, q2⟩ := e.fr a w ((addF_out (by simpa using z)).trans h')
      exact ⟨by rw [upd_ne z]; exact q1, q2⟩
  zx := e.zx
  zo := e.zo
end
structure PDTs (X : Cx) (c : Cf) (ifs : List Expr) (t : TT) (f : DM Bool) : Prop where
  pt : PTs X ifs t
  ev : EvT X.K c t f
theorem pdts_nil {X : Cx} {c : Cf} : PDTs X c [] tYes (DM.pure true) := ⟨pts_nil, EvP.pure fun _ _ => rfl⟩
theorem pdts_one {X : Cx} {c : Cf} {e : Expr} {t : TT} {f : DM Bool} (h : PDT X c e t f) : PDTs X c [e] t f := ⟨pts_one h.pt, h.ev⟩
theorem ev_lc {K : PySem.W.Frag} {c : Cf} {vs : List Nat} {wi : TI} {fi : DM (List D)} {g : TG} {gd : DG} {tt : TT} {ft : DM Bool} {te : TE} {fe : DM D} (hv : ∀ i ∈ vs, i ∉ c.ps) (hi : EvP K c (fun _ => True) (WalkD K) wi fi) (hg : EvG K c vs g gd) (ht : EvT K c tt ft) (he : EvD K c te fe) :
    EvN .flat K c (tLc wi g tt te vs) (dcomp vs fi gd ft fe) := by
  intro A Z B σ H st r er hf Q hok hex
  unfold dcomp at hf
  cases ei : fi st with
  | none =>
    unfold DM.bind at hf
    rw [ei] at hf
    cases hf
  | some ri =>
    obtain ⟨ri, st1⟩ := ri
    refine hi A Z B σ H st _ er True.intro ei _ (fun ds st1' e1 J B1 H1 er1 ad1 wd => ?_) (fun x fl st1' e1 dx B1 H1 er1 ad1 fl1 => ?_)
    · cases e1
      rw [bind_ok ei] at hf
      obtain ⟨fin, hfin, rfl⟩ := Option.map_eq_some_iff.mp hf
      intro Dd hD
      obtain ⟨G, Y, w, hG, hY⟩ := wd
      refine lc_it w (fun i H' => ∃ (Bi : Hp) (sti : DS) (av : List V) (ad : List D), ER K c A (Z.add H' [Dd]) Bi σ H' sti ∧ Adv c.ps A B1 H1 st1 Bi H' sti ∧ H' Dd = some (.lst av) ∧ RepA K Bi av ad ∧ dcompL vs gd ft fe (ds.drop i) sti ad = some fin)
        ⟨B1, st1, [], [], er1.new hD, Adv.refl.more (fun _ _ q => q), upd_same, .nil, hfin⟩ (fun i H' _ ⟨Bi, _, _, _, eri, adi, _⟩ => hG H' fun a o q => eri.bh a o (adi.ext a o q)) ?_ ?_
      · rintro i x H' H'' hilt ⟨Bi, sti, av, ad, eri, adi, hDi, rai, hrun⟩ y
        obtain ⟨Bi', d, pu, hd, rx⟩ := hY i H' x H'' y (fun a o q => eri.bh a o (adi.ext a o q)) hilt Bi adi.ext eri.bh
        have hds : ds.drop i = d :: ds.drop (i + 1) := by
          obtain ⟨h1, h2⟩ := List.getElem?_eq_some_iff.mp hd
          rw [← h2]
          exact List.drop_eq_getElem_cons h1
        rw [hds] at hrun
        unfold dcompL at hrun
        have hDi' : H'' Dd = some (.lst av) := pu.hx _ _ hDi
        have eri' : ER K c A (Z.add H'' [Dd]) Bi' σ H'' sti := by
          rw [Zn.add_eq (H := H') (H' := H'') fun x hx => by rw [List.mem_singleton.mp hx, hDi, hDi']]
          exact eri.pu pu
        have adi' : Adv c.ps A B1 H1 st1 Bi' H'' sti := adi.trans pu.adv
        cases eg : gd d (wipeD sti vs) with
        | none =>
          simp only [eg] at hrun
          cases hrun
        | some st2 =>
          simp only [eg] at hrun
          refine hg A _ Bi' (L2.wipe σ vs) H'' (wipeD sti vs) st2 x d (eri'.wipe hv) rx eg _ fun σ2 er2 so1 so2 => ⟨by rw [wipe_eq so1, wipe_wipe], ?_⟩
          have hσ2 : ∀ i, i ∉ vs → σ2[i]? = σ[i]? := fun i hi => (so1.2 i hi).trans (wipe_off hi)
          have hst2 : ∀ i, i ∉ vs → st2[i]? = sti[i]? := fun i hi => (so2.2 i hi).trans (wipeD_off hi)
          have hl2 : st2.length = sti.length := so2.1.trans (wipeD_len _ _)
          have back : ∀ (B4 H4 : Hp) (st4 : DS), Adv c.ps A Bi' H'' st2 B4 H4 st4 → ER K c A (Z.add H'' [Dd]) B4 σ2 H4 st4 → H4 Dd = some (.lst av) ∧ ER K c A (Z.add H4 [Dd]) B4 σ H4 (backD sti st4 vs) ∧ Adv c.ps A B1 H1 st1 B4 H4 (backD sti st4 vs) := fun B4 H4 st4 h34 er4 => by
            have hD4 : H4 Dd = some (.lst av) := (er4.fr Dd _ ((addF_in (by simp)).trans hDi')).1
            have hl4 : st4.length = sti.length := h34.ln.trans hl2
            have er5 := ER.back (vs := vs) eri' er4 h34.ext hv hl4 (fun i h1 h2 => (h34.upd i h2).trans (hst2 i h1)) hσ2
            rw [Zn.add_eq (H := H4) (H' := H'') fun x hx => by rw [List.mem_singleton.mp hx, hDi', hD4]] at er5
            refine ⟨hD4, er5, ?_⟩
            exact {
              ext := fun a o q => h34.ext a o (adi'.ext a o q)
              ln := by rw [backD_len, hl4, adi'.ln]
              upd := fun i h => by
                by_cases hi : i ∈ vs
                · rw [backD_on hl4 hi]
                  exact adi'.upd i h
                · rw [backD_off hi, h34.upd i h, hst2 i hi]
                  exact adi'.upd i h
              pst := fun i d h => by
                by_cases hi : i ∈ vs
                · rw [backD_on hl4 hi] at h
                  exact adi'.pst i d h
                · rw [backD_off hi] at h
                  obtain ⟨d2, h2⟩ := h34.pst i d h
                  rw [hst2 i hi] at h2
                  exact adi'.pst i d2 h2 }
          cases et : ft st2 with
          | none =>
            simp only [et] at hrun
            cases hrun
          | some rt =>
            obtain ⟨rt, st3⟩ := rt
            refine ht A _ Bi' σ2 H'' st2 _ er2 True.intro et _ (fun b st3' e3 b' B3 H3 er3 ad3 eb => ?_) (fun x fl st3' e3 dx B3 H3 er3 ad3 fl3 => ?_)
            · cases e3
              have eb' : b' = b := eb
              subst eb'
              cases b' with
              | true =>
                rw [if_pos rfl]
                simp only [et] at hrun
                cases ee : fe st3 with
                | none =>
                  simp only [ee] at hrun
                  cases hrun
                | some re =>
                  obtain ⟨re, st4⟩ := re
                  refine he A _ B3 σ2 H3 st3 _ er3 True.intro ee _ (fun y st4' e4 v B4 H4 er4 ad4 ry => ?_) (fun x fl st4' e4 dx B4 H4 er4 ad4 fl4 => ?_)
                  · cases e4
                    simp only [ee] at hrun
                    split at hrun
                    · rename_i hsz
                      have h34 := ad3.trans ad4
                      obtain ⟨hD4, er5, ad5⟩ := back B4 H4 st4 h34 er4
                      exact ⟨av, hD4, by rw [rai.length]; exact hsz, B4, backD sti st4 vs, av ++ [v], ad ++ [y], er5.turn hD4, ad5.more (fun _ _ q => q), upd_same, (rai.mono fun a o q => h34.ext a o (pu.ext a o q)).append (.cons ry .nil), hrun⟩
                    · cases hrun
                  · cases e4
                    simp only [ee] at hrun
                    cases hrun
              | false =>
                rw [if_neg Bool.false_ne_true]
                simp only [et] at hrun
                obtain ⟨hD4, er5, ad5⟩ := back B3 H3 st3 ad3 er3
                exact ⟨B3, backD sti st3 vs, av, ad, er5, ad5, hD4, rai.mono fun a o q => ad3.ext a o (pu.ext a o q), hrun⟩
            · cases e3
              simp only [et] at hrun
              cases hrun
      · rintro H' ⟨Bi, sti, av, ad, eri, adi, hDi, rai, hrun⟩
        rw [List.drop_length] at hrun
        cases hrun
        refine hok _ _ rfl Dd [Dd] Bi H' eri (ad1.trans adi) (fun x hx => ?_) (.lst rfl hDi (OwnA.of rai) (by simp))
        rw [List.mem_singleton.mp hx]
        cases q : Z.fr Dd with
        | none => rfl
        | some u =>
          rw [(er1.fr Dd u q).1] at hD
          cases hD
    · cases e1
      rw [bind_ex ei] at hf
      exact hex x fl st1 (Option.some.inj hf).symm dx B1 H1 er1 ad1 fl1
structure PDN (n : Shp) (X : Cx) (c : Cf) (e : Expr) (t : TE) (f : DM D) : Prop where
  pe : PE X e t
  ev : EvN n X.K c t f
theorem PDN.pd {n : Shp} {X : Cx} {c : Cf} {e : Expr} {t : TE} {f : DM D} (h : PDN n X c e t f) (hn : n.plain = true := by rfl) : PD X c e t f := ⟨h.pe, h.ev.ev hn⟩
theorem pdn_lc {X : Cx} {c : Cf} {elt tg iter : Expr} {ifs : List Expr} {scope : Scope} (own : List (Str × Nat)) {pos : Pos} {wi : TI} {fi : DM (List D)} {g : TG} {gd : DG} {tt : TT} {ft : DM Bool} {te : TE} {fe : DM D} (hc : X.calm = true) (hN : X.N.Nodup) (hi : PDI X c tg iter wi fi) (ok : BlkOk X.N X.env.scope scope own)
    (hv : ∀ i ∈ own.map (·.2), i ∉ c.ps)
    (hg : ∀ (s : Shared) (H : Hp) (C : Addr) (cl : List (Str × Addr)) (fp : List Addr), PDG (X.blk s H scope (compEnvC scope cl C X.env) fp) c (own.map (·.2)) tg g gd) (ht : ∀ (s : Shared) (H : Hp) (C : Addr) (cl : List (Str × Addr)) (fp : List Addr), PDTs (X.blk s H scope (compEnvC scope cl C X.env) fp) c ifs tt ft)
    (he : ∀ (s : Shared) (H : Hp) (C : Addr) (cl : List (Str × Addr)) (fp : List Addr), PD (X.blk s H scope (compEnvC scope cl C X.env) fp) c elt te fe) (hs : ∀ x, foldedSetIterable iter X.env x = pure x := by intro _; rfl) :
    PDN .flat X c (.ListComp elt [⟨tg, iter, ifs, 0⟩] scope pos) (tLc wi g tt te (own.map (·.2))) (dcomp (own.map (·.2)) fi gd ft fe) :=
  ⟨pe_lc hc hN hi.pi ok (fun s H C cl fp => (hg s H C cl fp).pg) (fun s H C cl fp => (ht s H C cl fp).pt) (fun s H C cl fp => (he s H C cl fp).pe) hs,
   ev_lc hv hi.ev (hg X.s_0 X.H_0 0 [] []).ev (ht X.s_0 X.H_0 0 [] []).ev (he X.s_0 X.H_0 0 [] []).ev⟩
end DR

set_option maxRecDepth 100000
set_option maxHeartbeats 1000000
namespace DR
open PySem PySem.Spec L2
open PyProof.Rows hiding St
open Evl (Ex ex_l ex_t ex_rd)

/-! ### defs: what they promise on data -/
/-- no pens, raises nothing -/
def spD (K : PySem.W.Frag) (n : Nat) (m : List D → Option D) : Sp := fun vs H Q _ => ∃ (B : Hp) (ds : List D) (d : D), vs.length = n ∧ Ex B H ∧ RepA K B vs ds ∧ m ds = some d ∧
  ∀ v B' H', Pu B H B' H' → Rep K B' v d → Q v H'
/-- no pens, raises nothing, tells a new object -/
structure PuN (F : List Addr) (B H B' H' : Hp) : Prop where
  ext : Ex B B'
  hx : Ex H H'
  bh : Ex B' H'
  new : ∀ a o, B' a = some o → B a = some o ∨ H a = none
  fh : ∀ x ∈ F, H x = none
  fb : ∀ x ∈ F, B' x = none
def spN (n : Shp) (K : PySem.W.Frag) (k : Nat) (m : List D → Option D) : Sp := fun vs H Q _ => ∃ (B : Hp) (ds : List D) (d : D), vs.length = k ∧ Ex B H ∧ RepA K B vs ds ∧ m ds = some d ∧ d ≠ .none ∧
  ∀ p F B' H', PuN F B H B' H' → Own K B' H' n F p d → Q (.ref p) H'
/-- what a callee may lean on: the base and what must stay stand apart -/
structure Fr0 (Φ B H : Hp) : Prop where
  bh : Ex B H
  fr : ∀ a o, Φ a = some o → H a = some o ∧ B a = none
structure PuP (n : Shp) (K : PySem.W.Frag) (Φ : Hp) (l : Addr) (F : List Addr) (B B' H' : Hp) (pd : D) : Prop where
  ext : Ex B B'
  fr : Fr0 Φ B' H'
  own : Own K B' H' n F l pd
  off : ∀ x ∈ F, B' x = none ∧ Φ x = none
/-- a pen is the first argument -/
def spP (n : Shp) (K : PySem.W.Frag) (k : Nat) (m : D → List D → Option (D × D)) : Sp := fun vs H Q _ => ∃ (B Φ : Hp) (l : Addr) (F : List Addr) (pd : D) (ws : List V) (ds : List D) (d pd' : D), vs = .ref l :: ws ∧ ws.length = k ∧ Fr0 Φ B H ∧ Own K B H n F l pd ∧ (∀ x ∈ F, B x = none ∧ Φ x = none) ∧ RepA K B ws ds ∧ m pd ds = some (d, pd') ∧
  ∀ v F' B' H', PuP n K Φ l F' B B' H' pd' → Rep K B' v d → Q v H'
/-- may raise -/
def spX (K : PySem.W.Frag) (n : Nat) (m : List D → Option (Res D)) : Sp := fun vs H Q E => ∃ (B : Hp) (ds : List D) (r : Res D), vs.length = n ∧ Ex B H ∧ RepA K B vs ds ∧ m ds = some r ∧
  (∀ d, r = .ok d → ∀ v B' H', Pu B H B' H' → Rep K B' v d → Q v H') ∧ ∀ x fl, r = .ex x fl → ∀ dx B' H', Pu B H B' H' → Fld K B' H' dx fl → E (.ref x) dx H'
def dcall (m : List D → Option D) (fs : DM (List D)) : DM D := fs.bind fun ds => DM.opt (m ds)
def dcallX (m : List D → Option (Res D)) (fs : DM (List D)) : DM D := fs.bind fun ds => fun st => (m ds).map fun r => (r, st)
/-- the pen's content behind the arguments -/
def penOf (p : Nat) (st : DS) : Option D := match st[p]? with
  | some (some d) => some d
  | _ => none
def dcallP (mx : Bool) (p : Nat) (m : D → List D → Option (D × D)) (fs : DM (List D)) : DM D := fs.bind fun ds => fun st => match penOf p st with
  | some pd => if mx = true ∧ flatA ds = false then none else (m pd ds).map fun r => (.ok r.1, st.set p (some r.2))
  | none => none
section
variable {X : Cx} {c : Cf} {K : PySem.W.Frag} {t : TA} {fs : DM (List D)}
theorem ev_call {n : Nat} {m : List D → Option D} {E : XK} (hn : ∀ ds d, m ds = some d → ds.length = n) (h : EvA K c t fs) : EvD K c (tCall (spD K n m) [] E t) (dcall m fs) :=
  EvP.bind (relA := RepA K) (tk := fun vs _ H Q => spD K n m (vs ++ []) H Q E) mono_true h fun vs ds => EvP.val (t := fun H Q => spD K n m (vs ++ []) H Q E) fun B H dz e p hg Q q => by
    rw [List.append_nil]
    exact ⟨B, ds, dz, by rw [p.2.length]; exact hn _ _ hg, e, p.2, hg, q⟩
theorem pd_call {k : Nat} {f : Addr} {fd : FuncData} {ps : List Str} {CX : CXT} {n : Nat} {m : List D → Option D} {x : Str} {p pos : Pos} {e : Expr} {es : List Expr} (F : FnOk X.prog X.w X.K X.mg X.base CX k f fd ps (spD X.K n m)) (hn : ∀ ds d, m ds = some d → ds.length = n) (hr : Room k X.A) (hg : Gl X x) (hm : X.mg x = some (.ref f)) (hk : PySem.W.keepIn X.K (.ref f) = true) (hb : Binds X.K fd ps [])
    (hx : Passes CX X E0) (ha : PDA X c (e :: es) t fs) (hdb : (x == ("__debug__" : Str)) = false := by decide) (he : starEach (e :: es) X.env = (false, eval e X.env) :: starEach es X.env := by rfl) (hpl : (backTo pos (starEach es X.env)).any (·.1) = false := by rfl) :
    PD X c (.Call (.Name x p) (e :: es) [] pos) (tCall (spD X.K n m) [] E0 t) (dcall m fs) := ⟨pe_call F hr hg hm hk hb .nil hx ha.pa hdb he hpl, ev_call hn ha.ev⟩
theorem pd_call0 {k : Nat} {f : Addr} {fd : FuncData} {ps : List Str} {CX : CXT} {m : List D → Option D} {x : Str} {p pos : Pos} (F : FnOk X.prog X.w X.K X.mg X.base CX k f fd ps (spD X.K 0 m)) (hn : ∀ ds d, m ds = some d → ds.length = 0) (hr : Room k X.A) (hg : Gl X x) (hm : X.mg x = some (.ref f)) (hk : PySem.W.keepIn X.K (.ref f) = true) (hb : Binds X.K fd ps [])
    (hx : Passes CX X E0) (hdb : (x == ("__debug__" : Str)) = false := by decide) :
    PD X c (.Call (.Name x p) [] [] pos) (tCall (spD X.K 0 m) [] E0 tNil) (dcall m dnil) := ⟨pe_call0 F hr hg hm hk hb .nil hx hdb, ev_call hn (EvP.pure fun _ _ => .nil)⟩
/-- a def that may raise -/
theorem ev_callX {n : Nat} {m : List D → Option (Res D)} (hn : ∀ ds d, m ds = some d → ds.length = n) (h : EvA K c t fs) : EvD K c (tCall (spX K n m) [] c.W t) (dcallX m fs) :=
  EvP.bind (relA := RepA K) (relC := Rep K) (tk := fun vs _ H Q => spX K n m (vs ++ []) H Q c.W) mono_true h fun vs ds => by
    intro A Z B σ H st r er p hf Q hok hex
    obtain ⟨r0, h0, rfl⟩ := Option.map_eq_some_iff.mp hf
    show spX K n m (vs ++ []) H Q c.W
    rw [List.append_nil]
    exact ⟨B, ds, r0, by rw [p.2.length]; exact hn _ _ h0, er.bh, p.2, h0, fun d e v B' H' pu rv => hok d st (by rw [e]) v B' H' (er.pu pu) pu.adv rv, fun x fl e dx B' H' pu fl' => hex x fl st (by rw [e]) dx B' H' (er.pu pu) pu.adv fl'⟩
theorem pd_callX {k : Nat} {f : Addr} {fd : FuncData} {ps : List Str} {CX : CXT} {n : Nat} {m : List D → Option (Res D)} {x : Str} {p pos : Pos} {e : Expr} {es : List Expr} (F : FnOk X.prog X.w X.K X.mg X.base CX k f fd ps (spX X.K n m)) (hn : ∀ ds d, m ds = some d → ds.length = n) (hr : Room k X.A) (hg : Gl X x) (hm : X.mg x = some (.ref f)) (hk : PySem.W.keepIn X.K (.ref f) = true) (hb : Binds X.K fd ps [])
    (hx : Passes CX X c.W) (ha : PDA X c (e :: es) t fs) (hdb : (x == ("__debug__" : Str)) = false := by decide) (he : starEach (e :: es) X.env = (false, eval e X.env) :: starEach es X.env := by rfl) (hpl : (backTo pos (starEach es X.env)).any (·.1) = false := by rfl) :
    PD X c (.Call (.Name x p) (e :: es) [] pos) (tCall (spX X.K n m) [] c.W t) (dcallX m fs) := ⟨pe_call F hr hg hm hk hb .nil hx ha.pa hdb he hpl, ev_callX hn ha.ev⟩

/-! ### pens: read by place, handed on -/
theorem penOf_some {p : Nat} {st : DS} {d : D} (h : penOf p st = some d) : st[p]? = some (some d) := by
  unfold penOf at h
  split at h
  · rename_i d' e
    cases h
    exact e
  · cases h
def dpix (i : Nat) (fb : DM D) : DM D := fb.bind fun y => fun st => match penOf i st with
  | some (.list ds) => (ixD (.list ds) y).map fun d => (.ok d, st)
  | _ => none
theorem penOf_eq {p : Nat} {st : DS} {d : D} (h : st[p]? = some (some d)) : penOf p st = some d := by
  unfold penOf
  rw [h]
theorem own_list {n : Shp} {K : PySem.W.Frag} {B H : Hp} {F : List Addr} {a : Addr} {ds : List D} (h : Own K B H n F a (.list ds)) : ∃ o xs G, n.selL = some o ∧ H a = some (.lst xs) ∧ OwnA K B H o G xs ds ∧ F = a :: G ∧ a ∉ G := by
  cases h with
  | lst z h o m => exact ⟨_, _, _, z, h, o, rfl, m⟩
theorem ev_pix {i : Nat} (hi : i ∈ c.ps) (hk : c.kd.getD i .flat = .flat) {tb : TE} {fb : DM D} (hb : EvD K c tb fb) : EvD K c (tOp (rIx K) (tVar i) tb) (dpix i fb) := by
  intro A Z B σ H st r er _ hf Q hok hex
  obtain ⟨F0, hF0, _⟩ := er.pn
  obtain ⟨d0, q1, q2, _⟩ := hF0 i hi
  refine ⟨_, q2, ?_⟩
  unfold dpix at hf
  cases eb : fb st with
  | none =>
    unfold DM.bind at hf
    rw [eb] at hf
    cases hf
  | some rb =>
    obtain ⟨rb, st1⟩ := rb
    refine hb A Z B σ H st _ er True.intro eb _ (fun dy st1' e1 y B1 H1 er1 ad1 ry => ?_) (fun x fl st1' e1 dx B1 H1 er1 ad1 fl1 => ?_)
    · cases e1
      rw [bind_ok eb] at hf
      obtain ⟨F1, hF1, _⟩ := er1.pn
      obtain ⟨d1, p1, p2, p3, p4⟩ := hF1 i hi
      simp only [penOf_eq p1] at hf
      cases d1 <;> first | (cases hf; done) | skip
      rename_i ds
      obtain ⟨d, hd, rfl⟩ := Option.map_eq_some_iff.mp (show (ixD (.list ds) dy).map (fun d => (Res.ok d, st1)) = some r from hf)
      rw [hk] at p3
      obtain ⟨o, xs, G, p6, p5, ra, _, _⟩ := own_list p3
      cases p6
      cases dy <;> first | (cases hd; done) | skip
      rename_i iy
      obtain ⟨v, h1, h2⟩ := ra.flat0.atI (show L2.atI ds iy = some d from hd)
      exact .inl ⟨A i, xs, iy, v, rfl, rep_int ry, SqL.of p5, h1, hok d st1 rfl v B1 H1 er1 ad1 (h2.mono cut_ex)⟩
    · cases e1
      rw [bind_ex eb] at hf
      exact hex x fl st1 (Option.some.inj hf).symm dx B1 H1 er1 ad1 fl1
theorem pd_pix (i : Nat) {x : Str} {b : Expr} {tb : TE} {fb : DM D} {pos p : Pos} (hb : PD X c b tb fb) (hi : i ∈ c.ps := by decide) (hk : c.kd.getD i .flat = .flat := by rfl) (hN : X.N[i]? = some x := by rfl) (hv : Vis X.env.scope x := by first | exact Or.inl rfl | exact Or.inr (Or.inl rfl) | exact Or.inr (Or.inr rfl))
    (hs : PlainIx b := by exact fun _ _ => rfl) (hd : (x == ("__debug__" : Str)) = false := by decide) (hcd : (x == ("__classdict__" : Str)) = false := by decide) : PD X c (.Subscript (.Name x p) b pos) (tOp (rIx X.K) (tVar i) tb) (dpix i fb) := ⟨pe_ix ix_seq (pv i hN hv hd hcd) hb.pe hs, ev_pix hi hk hb.ev⟩
/-- the pen handed on to a def: what the def must leave -/
def stay (Z : Zn) (B H : Hp) (G : List Addr) : Hp := fun a => if Z.z a = true then B a else addF Z.fr H G a
theorem others {c : Cf} {F : Nat → List Addr} (p : Nat) : ∃ G : List Addr, (∀ x, x ∈ G ↔ ∃ j ∈ c.ps, j ≠ p ∧ x ∈ F j) :=
  ⟨(c.ps.filter fun j => j ≠ p).flatMap F, fun x => by
    rw [List.mem_flatMap]
    constructor
    · rintro ⟨j, hj, hx⟩
      obtain ⟨h1, h2⟩ := List.mem_filter.mp hj
      exact ⟨j, h1, of_decide_eq_true h2, hx⟩
    · rintro ⟨j, h1, h2, hx⟩
      exact ⟨j, List.mem_filter.mpr ⟨h1, decide_eq_true h2⟩, hx⟩⟩
theorem ER.pens {A : Nat → Addr} {Z : Zn} {B H : Hp} {σ : L2.St} {st : DS} {p : Nat} (er : ER K c A Z B σ H st) (hp : p ∈ c.ps) : ∃ (Φ : Hp) (F : List Addr) (d : D), st[p]? = some (some d) ∧ σ[p]? = some (some (.ref (A p))) ∧ Fr0 Φ (cut B Z.z) H ∧ Own K (cut B Z.z) H (c.kd.getD p .flat) F (A p) d ∧ (∀ x ∈ F, cut B Z.z x = none ∧ Φ x = none) ∧
    ∀ B2 H2 F2 pd, PuP (c.kd.getD p .flat) K Φ (A p) F2 (cut B Z.z) B2 H2 pd → ER K c A Z (fun a => if Z.z a = true then B a else B2 a) σ H2 (st.set p (some pd)) ∧ Adv c.ps A B H st (fun a => if Z.z a = true then B a else B2 a) H2 (st.set p (some pd)) ∧ Ex B2 (fun a => if Z.z a = true then B a else B2 a) := by
  obtain ⟨F, hF, hd⟩ := er.pn
  obtain ⟨d0, q1, q2, q3, q4⟩ := hF p hp
  obtain ⟨G, hG⟩ := others (c := c) (F := F) p
  have hGh : ∀ x ∈ G, ∃ o, H x = some o := fun x hx => by
    obtain ⟨j, hj, _, hxj⟩ := (hG x).mp hx
    obtain ⟨_, _, _, o, _⟩ := hF j hj
    exact o.has x hxj
  have hGb : ∀ x ∈ G, B x = none ∧ Z.fr x = none := fun x hx => by
    obtain ⟨j, hj, _, hxj⟩ := (hG x).mp hx
    obtain ⟨_, _, _, _, o⟩ := hF j hj
    exact o x hxj
  refine ⟨stay Z B H G, F p, d0, q1, q2, ⟨fun a o z => er.bh a o (cut_ex a o z), fun a o h => ?_⟩, q3, fun x hx => ⟨?_, ?_⟩, fun B2 H2 F2 pd pu => ?_⟩
  · unfold stay at h
    split at h
    · rename_i z
      refine ⟨er.bh a o h, ?_⟩
      unfold cut
      rw [if_pos z]
    · rename_i z
      by_cases hg : a ∈ G
      · rw [addF_in hg] at h
        refine ⟨h, ?_⟩
        unfold cut
        rw [if_neg z]
        exact (hGb a hg).1
      · rw [addF_out hg] at h
        obtain ⟨h1, h2⟩ := er.fr a o h
        refine ⟨h1, ?_⟩
        unfold cut
        rw [if_neg z]
        exact h2
  · unfold cut
    split
    · rfl
    · exact (q4 x hx).1
  · unfold stay
    split
    · rename_i z
      exact (q4 x hx).1
    · rw [addF_out fun hg => ?_]
      · exact (q4 x hx).2
      · obtain ⟨j, hj, hne, hxj⟩ := (hG x).mp hg
        exact hd j hj p hp hne x hxj hx
  · have hB2z : ∀ a, Z.z a = true → B2 a = none := fun a z => by
      obtain ⟨o, ho, _⟩ := er.zo a z
      refine (pu.fr.fr a o ?_).2
      unfold stay
      rw [if_pos z]
      exact ho
    have hex : Ex B (fun a => if Z.z a = true then B a else B2 a) := fun a o h => by
      show (if Z.z a = true then B a else B2 a) = some o
      by_cases z : Z.z a = true
      · rw [if_pos z]
        exact h
      · rw [if_neg z]
        refine pu.ext a o ?_
        unfold cut
        rw [if_neg z]
        exact h
    have hex2 : Ex B2 (fun a => if Z.z a = true then B a else B2 a) := fun a o h => by
      show (if Z.z a = true then B a else B2 a) = some o
      by_cases z : Z.z a = true
      · rw [hB2z a z] at h
        cases h
      · rw [if_neg z]
        exact h
    have hcut : cut (fun a => if Z.z a = true then B a else B2 a) Z.z = B2 := by
      funext a
      unfold cut
      by_cases z : Z.z a = true
      · rw [if_pos z]
        exact (hB2z a z).symm
      · rw [if_neg z]
        show (if Z.z a = true then B a else B2 a) = _
        rw [if_neg z]
    have hst : ∀ a o, stay Z B H G a = some o → H2 a = some o ∧ B2 a = none := pu.fr.fr
    have hbh : Ex (fun a => if Z.z a = true then B a else B2 a) H2 := fun a o h => by
      have h' : (if Z.z a = true then B a else B2 a) = some o := h
      by_cases z : Z.z a = true
      · rw [if_pos z] at h'
        refine (hst a o ?_).1
        unfold stay
        rw [if_pos z]
        exact h'
      · rw [if_neg z] at h'
        exact pu.fr.bh a o h'
    have hfr : ∀ a o, Z.fr a = some o → stay Z B H G a = some o := fun a o h => by
      obtain ⟨h1, h2⟩ := er.fr a o h
      have hz : ¬ Z.z a = true := fun z => by
        obtain ⟨u, hu, _⟩ := er.zo a z
        rw [h2] at hu
        cases hu
      unfold stay
      rw [if_neg hz]
      by_cases hg : a ∈ G
      · rw [(hGb a hg).2] at h
        cases h
      · rw [addF_out hg]
        exact h
    have hG2 : ∀ x ∈ G, H2 x = H x ∧ B2 x = none ∧ ¬ Z.z x = true := fun x hx => by
      obtain ⟨o, ho⟩ := hGh x hx
      have hz : ¬ Z.z x = true := fun z => by
        obtain ⟨u, hu, _⟩ := er.zo x z
        rw [(hGb x hx).1] at hu
        cases hu
      have := hst x o (by
        unfold stay
        rw [if_neg hz, addF_in hx]
        exact ho)
      exact ⟨by rw [this.1, ho], this.2, hz⟩
    have hpl : p < st.length := (List.getElem?_eq_some_iff.mp q1).1
    refine ⟨⟨?_, hbh, fun i d h1 h2 h => ?_, ⟨fun j => if j = p then F2 else F j, fun i hi => ?_, fun i hi j hj hij x hx => ?_⟩, fun a o h => ?_, er.zx, fun a h => ?_⟩, ⟨hex, List.length_set, fun i h => ?_, fun i d h => ?_⟩, hex2⟩
    · rw [List.length_set]
      exact er.len
    · have hne : p ≠ i := fun e => h2 (e ▸ hp)
      rw [List.getElem?_set_ne hne] at h
      obtain ⟨v, s1, s2⟩ := er.rd i d h1 h2 h
      exact ⟨v, s1, s2.mono hex⟩
    · rw [hcut]
      by_cases hip : i = p
      · subst hip
        refine ⟨pd, List.getElem?_set_self hpl, q2, ?_, ?_⟩
        · simp only [if_true]
          exact pu.own
        · simp only [if_true]
          intro x hx
          obtain ⟨h1, h2⟩ := pu.off x hx
          have hz : ¬ Z.z x = true := fun z => by
            obtain ⟨u, hu, _⟩ := er.zo x z
            unfold stay at h2
            rw [if_pos z, hu] at h2
            cases h2
          refine ⟨by rw [if_neg hz]; exact h1, ?_⟩
          unfold stay at h2
          rw [if_neg hz] at h2
          exact (addF_none h2 (hGh x)).2
      · obtain ⟨d, s1, s2, s3, s4⟩ := hF i hi
        dsimp only
        rw [if_neg hip]
        have hxG : ∀ x ∈ F i, x ∈ G := fun x hx => (hG x).mpr ⟨i, hi, hip, hx⟩
        refine ⟨d, by rw [List.getElem?_set_ne (Ne.symm hip)]; exact s1, s2, s3.mono pu.ext (fun x hx => (hG2 x (hxG x hx)).1), fun x hx => ⟨?_, (s4 x hx).2⟩⟩
        rw [if_neg (hG2 x (hxG x hx)).2.2]
        exact (hG2 x (hxG x hx)).2.1
    · dsimp only at hx ⊢
      by_cases hip : i = p
      · subst hip
        rw [if_pos rfl] at hx
        rw [if_neg (Ne.symm hij)]
        intro hxj
        have hxG := (hG x).mpr ⟨j, hj, Ne.symm hij, hxj⟩
        have h2 := (pu.off x hx).2
        unfold stay at h2
        rw [if_neg (hG2 x hxG).2.2, addF_in hxG] at h2
        obtain ⟨o, ho⟩ := hGh x hxG
        rw [h2] at ho
        cases ho
      · rw [if_neg hip] at hx
        by_cases hjp : j = p
        · subst hjp
          rw [if_pos rfl]
          intro hxj
          have hxG := (hG x).mpr ⟨i, hi, hip, hx⟩
          have h2 := (pu.off x hxj).2
          unfold stay at h2
          rw [if_neg (hG2 x hxG).2.2, addF_in hxG] at h2
          obtain ⟨o, ho⟩ := hGh x hxG
          rw [h2] at ho
          cases ho
        · rw [if_neg hjp]
          exact hd i hi j hj hij x hx
    · obtain ⟨h1, h2⟩ := hst a o (hfr a o h)
      refine ⟨h1, ?_⟩
      have hz : ¬ Z.z a = true := fun z => by
        obtain ⟨u, hu, _⟩ := er.zo a z
        rw [(er.fr a o h).2] at hu
        cases hu
      show (if Z.z a = true then B a else B2 a) = none
      rw [if_neg hz]
      exact h2
    · obtain ⟨o, h1, h2⟩ := er.zo a h
      exact ⟨o, hex a o h1, h2⟩
    · exact List.getElem?_set_ne (show p ≠ i from fun e => h (e ▸ hp))
    · by_cases hpi : p = i
      · subst hpi
        exact ⟨d0, q1⟩
      · rw [List.getElem?_set_ne hpi] at h
        exact ⟨d, h⟩
theorem ev_callP {p : Nat} (hp : p ∈ c.ps) {n : Nat} {k : Shp} (hk : c.kd.getD p .flat = k) {m : D → List D → Option (D × D)} {E : XK} (hn : ∀ pd ds d, m pd ds = some d → ds.length = n) (h : EvA K c t fs) : EvD K c (tCall (spP k K n m) [] E (tCons (tVar p) t)) (dcallP c.mx p m fs) := by
  subst hk
  intro A Z B σ H st r er _ hf Q hok hex
  obtain ⟨_, _, d0, q1, q2, _⟩ := er.pens hp
  refine ⟨_, q2, ?_⟩
  unfold dcallP at hf
  cases eb : fs st with
  | none =>
    unfold DM.bind at hf
    rw [eb] at hf
    cases hf
  | some rb =>
    obtain ⟨rb, st1⟩ := rb
    refine h A Z B σ H st _ er True.intro eb _ (fun ds st1' e1 ws B1 H1 er1 ad1 ra => ?_) (fun x fl st1' e1 dx B1 H1 er1 ad1 fl1 => ?_)
    · cases e1
      rw [bind_ok eb] at hf
      obtain ⟨Φ, F, pd, p1, p2, p3, p4, p5, post⟩ := er1.pens hp
      simp only [penOf_eq p1] at hf
      split at hf
      · cases hf
      · rename_i hfl
        obtain ⟨rd, hm, rfl⟩ := Option.map_eq_some_iff.mp hf
        rw [List.append_nil]
        have rac : RepA K (cut B1 Z.z) ws ds := by
          cases hmx : c.mx with
          | false =>
            rw [cut_none (er1.zx hmx)]
            exact ra
          | true =>
            refine ra.cut er1.zo ?_
            cases hff : flatA ds with
            | true => rfl
            | false => exact absurd ⟨hmx, hff⟩ hfl
        refine ⟨cut B1 Z.z, Φ, A p, F, pd, ws, ds, rd.1, rd.2, rfl, by rw [ra.length]; exact hn _ _ _ hm, p3, p4, p5, rac, hm, fun v F2 B2 H2 pu rv => ?_⟩
        obtain ⟨er2, ad2, ex2⟩ := post B2 H2 F2 rd.2 pu
        exact hok rd.1 _ rfl v _ H2 er2 (ad1.trans ad2) (rv.mono ex2)
    · cases e1
      rw [bind_ex eb] at hf
      exact hex x fl st1 (Option.some.inj hf).symm dx B1 H1 er1 ad1 fl1
theorem pd_callP (i : Nat) {k : Nat} {kd : Shp} {f : Addr} {fd : FuncData} {ps : List Str} {CX : CXT} {n : Nat} {m : D → List D → Option (D × D)} {x y : Str} {p pos pp : Pos} {es : List Expr} (F : FnOk X.prog X.w X.K X.mg X.base CX k f fd ps (spP kd X.K n m)) (hn : ∀ pd ds d, m pd ds = some d → ds.length = n) (hr : Room k X.A) (hg : Gl X x) (hm : X.mg x = some (.ref f)) (hk : PySem.W.keepIn X.K (.ref f) = true) (hb : Binds X.K fd ps [])
    (hx : Passes CX X E0) (ha : PDA X c es t fs) (hi : i ∈ c.ps := by decide) (hkd : c.kd.getD i .flat = kd := by rfl) (hN : X.N[i]? = some y := by rfl) (hv : Vis X.env.scope y := by first | exact Or.inl rfl | exact Or.inr (Or.inl rfl) | exact Or.inr (Or.inr rfl)) (hd : (y == ("__debug__" : Str)) = false := by decide) (hcd : (y == ("__classdict__" : Str)) = false := by decide)
    (hdb : (x == ("__debug__" : Str)) = false := by decide) (he : starEach (.Name y pp :: es) X.env = (false, eval (.Name y pp) X.env) :: starEach es X.env := by rfl) (hpl : (backTo pos (starEach es X.env)).any (·.1) = false := by rfl) :
    PD X c (.Call (.Name x p) (.Name y pp :: es) [] pos) (tCall (spP kd X.K n m) [] E0 (tCons (tVar i) t)) (dcallP c.mx i m fs) := ⟨pe_call F hr hg hm hk hb .nil hx (pa_cons (pv i hN hv hd hcd) ha.pa he) hdb he hpl, ev_callP hi hkd hn ha.ev⟩
end
end DR

set_option maxRecDepth 100000
set_option maxHeartbeats 1000000
namespace DR
open PySem PySem.Spec L2
open PyProof.Rows hiding St
open Evl (Ex ex_l ex_t ex_rd)

/-! ### statements: the state -/
/-- ow: the owned slots (pens, cells), pa: the pens that were handed in, kd: how deep each is owned, rn: the def tells a new object, so deep -/
structure Cs where
  ow : List Nat
  pa : List Nat
  kd : List Shp
  rn : Option Shp
  W : XK
/-- an expression that changes the slots J and reads the slots R -/
abbrev Cs.cf (c : Cs) (J R : List Nat) : Cf := ⟨!R.isEmpty, c.ow.filter fun i => decide (i ∉ J) && decide (i ∉ R), J, c.kd, c.W⟩
def live (st : DS) (i : Nat) : Prop := ∃ d, st[i]? = some (some d)
structure SR (K : PySem.W.Frag) (c : Cs) (A0 : Nat → Addr) (Φ B0 B : Hp) (σ : L2.St) (H : Hp) (st : DS) : Prop where
  len : st.length = σ.length
  b0 : Ex B0 B
  rd : ∀ i d, i ∉ c.ow → st[i]? = some (some d) → ∃ v, σ[i]? = some (some v) ∧ Rep K B v d
  ow : ∃ F : Nat → List Addr, (∀ i ∈ c.ow, ∀ d, st[i]? = some (some d) → ∃ a, σ[i]? = some (some (.ref a)) ∧ Own K B H (c.kd.getD i .flat) (F i) a d ∧ ∀ x ∈ F i, B x = none ∧ Φ x = none) ∧
    ∀ i ∈ c.ow, ∀ j ∈ c.ow, i ≠ j → live st i → live st j → ∀ x ∈ F i, x ∉ F j
  fr : Fr0 Φ B H
  pa : ∀ i ∈ c.pa, i ∈ c.ow ∧ live st i ∧ σ[i]? = some (some (.ref (A0 i)))
structure Fin (K : PySem.W.Frag) (c : Cs) (A0 : Nat → Addr) (Φ B0 B H : Hp) (st : DS) : Prop where
  b0 : Ex B0 B
  fr : Fr0 Φ B H
  pn : ∃ F : Nat → List Addr, (∀ i ∈ c.pa, ∃ d, st[i]? = some (some d) ∧ Own K B H (c.kd.getD i .flat) (F i) (A0 i) d ∧ ∀ x ∈ F i, B x = none ∧ Φ x = none) ∧ ∀ i ∈ c.pa, ∀ j ∈ c.pa, i ≠ j → ∀ x ∈ F i, x ∉ F j
/-- what a def tells -/
def Ret (K : PySem.W.Frag) (c : Cs) (A0 : Nat → Addr) (Φ B0 B H : Hp) (st : DS) (v : V) (d : D) : Prop := match c.rn with
  | none => Fin K c A0 Φ B0 B H st ∧ Rep K B v d
  | some n => ∃ p X, v = .ref p ∧ Fin K c A0 (addF Φ H X) B0 B H st ∧ (∀ x ∈ X, Φ x = none) ∧ Own K B H n X p d
inductive Out where
  | nx (st : DS)
  | bk (st : DS)
  | ct (st : DS)
  | rt (d : D) (st : DS)
  | ex (c : Addr) (fl : Option (Str × D)) (st : DS)
abbrev DT := DS → Option Out
def EvS (K : PySem.W.Frag) (c : Cs) (t : TS) (f : DT) : Prop :=
  ∀ (A0 : Nat → Addr) (Φ B0 B : Hp) (σ : L2.St) (H : Hp) (st : DS) (r : Out), SR K c A0 Φ B0 B σ H st → f st = some r → ∀ De : Ends,
    (∀ st' B' σ' H', r = .nx st' → SR K c A0 Φ B0 B' σ' H' st' → De.nx σ' H') →
    (∀ st' B' σ' H', r = .bk st' → SR K c A0 Φ B0 B' σ' H' st' → De.bk σ' H') →
    (∀ st' B' σ' H', r = .ct st' → SR K c A0 Φ B0 B' σ' H' st' → De.ct σ' H') →
    (∀ d st' v B' H', r = .rt d st' → Ret K c A0 Φ B0 B' H' st' v d → De.rt v H') →
    (∀ x fl st' dx B' H', r = .ex x fl st' → Fin K c A0 Φ B0 B' H' st' → Fld K B' H' dx fl → c.W (.ref x) dx H') → t De σ H
section
variable {K : PySem.W.Frag} {c : Cs} {A0 : Nat → Addr} {Φ B0 B B' H H' : Hp} {σ : L2.St} {st st' : DS}
theorem SR.bh (s : SR K c A0 Φ B0 B σ H st) : Ex B H := s.fr.bh
theorem SR.fin (s : SR K c A0 Φ B0 B σ H st) : Fin K c A0 Φ B0 B H st where
  b0 := s.b0
  fr := s.fr
  pn := by
    obtain ⟨F, h1, h2⟩ := s.ow
    refine ⟨F, fun i hi => ?_, fun i hi j hj hne => h2 i (s.pa i hi).1 j (s.pa j hj).1 hne (s.pa i hi).2.1 (s.pa j hj).2.1⟩
    obtain ⟨q1, ⟨d, q2⟩, q3⟩ := s.pa i hi
    obtain ⟨a, q4, q5, q6⟩ := h1 i q1 d q2
    rw [q3] at q4
    cases q4
    exact ⟨d, q2, q5, q6⟩
theorem SR.set (s : SR K c A0 Φ B0 B σ H st) {i : Nat} {x : V} {d : D} (h1 : i ∉ c.ow) (r : Rep K B x d) : SR K c A0 Φ B0 B (σ.set i (some x)) H (st.set i (some d)) where
  len := by rw [List.length_set, List.length_set]; exact s.len
  b0 := s.b0
  rd := fun j e h2 h => by
    by_cases hj : i = j
    · subst hj
      by_cases hl : i < st.length
      · rw [List.getElem?_set_self hl] at h
        cases h
        exact ⟨x, List.getElem?_set_self (by rw [← s.len]; exact hl), r⟩
      · rw [List.getElem?_eq_none (by rw [List.length_set]; omega)] at h
        cases h
    · rw [List.getElem?_set_ne hj] at h
      rw [List.getElem?_set_ne hj]
      exact s.rd j e h2 h
  ow := by
    obtain ⟨F, q1, q2⟩ := s.ow
    have lv : ∀ {m : Nat}, m ∈ c.ow → live (st.set i (some d)) m → live st m := fun {m} hm ⟨y, hy⟩ => by
      rw [List.getElem?_set_ne (show i ≠ m from fun z => h1 (z ▸ hm))] at hy
      exact ⟨y, hy⟩
    refine ⟨F, fun j hj e h => ?_, fun j hj k hk hne l1 l2 => q2 j hj k hk hne (lv hj l1) (lv hk l2)⟩
    have hne : i ≠ j := fun z => h1 (z ▸ hj)
    rw [List.getElem?_set_ne hne] at h
    rw [List.getElem?_set_ne hne]
    exact q1 j hj e h
  fr := s.fr
  pa := fun j hj => by
    obtain ⟨q1, ⟨e, q2⟩, q3⟩ := s.pa j hj
    have hne : i ≠ j := fun z => h1 (z ▸ q1)
    exact ⟨q1, ⟨e, by rw [List.getElem?_set_ne hne]; exact q2⟩, by rw [List.getElem?_set_ne hne]; exact q3⟩
/-- slots off the owned ones have changed -/
theorem SR.off {vs : List Nat} {σ' : L2.St} (s : SR K c A0 Φ B0 B σ H st) (hl : st'.length = σ'.length) (hr : ∀ i d, i ∉ c.ow → st'[i]? = some (some d) → ∃ v, σ'[i]? = some (some v) ∧ Rep K B v d) (hv : ∀ i ∈ vs, i ∉ c.ow) (h1 : SameOff vs σ σ') (h2 : SameOff vs st st') : SR K c A0 Φ B0 B σ' H st' where
  len := hl
  b0 := s.b0
  rd := hr
  ow := by
    obtain ⟨F, q1, q2⟩ := s.ow
    have off : ∀ {m : Nat}, m ∈ c.ow → m ∉ vs := fun {m} hm z => hv m z hm
    have lv : ∀ {m : Nat}, m ∈ c.ow → live st' m → live st m := fun {m} hm ⟨y, hy⟩ => by
      rw [h2.2 m (off hm)] at hy
      exact ⟨y, hy⟩
    refine ⟨F, fun j hj e h => ?_, fun j hj k hk hne l1 l2 => q2 j hj k hk hne (lv hj l1) (lv hk l2)⟩
    rw [h2.2 j (off hj)] at h
    rw [h1.2 j (off hj)]
    exact q1 j hj e h
  fr := s.fr
  pa := fun j hj => by
    obtain ⟨q1, ⟨e, q2⟩, q3⟩ := s.pa j hj
    have off : j ∉ vs := fun z => hv j z q1
    exact ⟨q1, ⟨e, by rw [h2.2 j off]; exact q2⟩, by rw [h1.2 j off]; exact q3⟩
/-- to an expression and back -/
theorem feet (F : Nat → List Addr) (p : Nat → Prop) [DecidablePred p] (l : List Nat) : ∃ G : List Addr, ∀ x, x ∈ G ↔ ∃ j ∈ l, p j ∧ x ∈ F j :=
  ⟨(l.filter fun j => decide (p j)).flatMap F, fun x => by
    rw [List.mem_flatMap]
    constructor
    · rintro ⟨j, hj, hx⟩
      obtain ⟨h1, h2⟩ := List.mem_filter.mp hj
      exact ⟨j, h1, of_decide_eq_true h2, hx⟩
    · rintro ⟨j, h1, h2, hx⟩
      exact ⟨j, List.mem_filter.mpr ⟨h1, decide_eq_true h2⟩, hx⟩⟩
instance (st : DS) (i : Nat) : Decidable (live st i) := match h : st[i]? with
  | some (some d) => isTrue ⟨d, h⟩
  | some none => isFalse fun ⟨d, e⟩ => by rw [h] at e; cases e
  | none => isFalse fun ⟨d, e⟩ => by rw [h] at e; cases e
def adr (σ : L2.St) (i : Nat) : Addr := match σ[i]? with
  | some (some (.ref a)) => a
  | _ => 0
theorem SR.run (s : SR K c A0 Φ B0 B σ H st) {J R : List Nat} (hJ : ∀ i ∈ J, i ∈ c.ow ∧ live st i) (hR : ∀ i ∈ R, i ∈ c.ow ∧ i ∉ J ∧ (c.kd.getD i .flat).plain = true) : ∃ (A : Nat → Addr) (Z : Zn) (Bx : Hp), ER K (c.cf J R) A Z Bx σ H st ∧ Ex B Bx ∧ cut Bx Z.z = B ∧ (R = [] → Bx = B ∧ ∀ a, Z.z a = false) ∧ (∀ a o, Φ a = some o → Z.fr a = some o) ∧
    ∀ X B' H' st', (∀ x ∈ X, Z.fr x = none) → (∀ x ∈ X, ∃ o, H' x = some o) → ER K (c.cf J R) A (Z.add H' X) B' σ H' st' → Adv (c.cf J R).ps A Bx H st B' H' st' → SR K c A0 (addF Φ H' X) B0 (cut B' Z.z) σ H' st' := by
  obtain ⟨F, h1, h2⟩ := s.ow
  obtain ⟨G, hG⟩ := feet F (fun j => live st j ∧ j ∉ J ∧ j ∉ R) c.ow
  obtain ⟨GR, hGR⟩ := feet F (fun j => live st j ∧ j ∈ R) c.ow
  have ownAt : ∀ i ∈ c.ow, live st i → ∃ d a, st[i]? = some (some d) ∧ σ[i]? = some (some (.ref a)) ∧ Own K B H (c.kd.getD i .flat) (F i) a d ∧ ∀ x ∈ F i, B x = none ∧ Φ x = none := fun i hi ⟨d, hd⟩ => by
    obtain ⟨a, q1, q2, q3⟩ := h1 i hi d hd
    exact ⟨d, a, hd, q1, q2, q3⟩
  have gh : ∀ x ∈ G, (∃ o, H x = some o) ∧ B x = none ∧ Φ x = none := fun x hx => by
    obtain ⟨j, hj, ⟨l, _⟩, hxj⟩ := (hG x).mp hx
    obtain ⟨d, a, _, _, o, q⟩ := ownAt j hj l
    exact ⟨o.has x hxj, q x hxj⟩
  have rh : ∀ x ∈ GR, (∃ o, H x = some o ∧ isCell o = true) ∧ B x = none ∧ Φ x = none := fun x hx => by
    obtain ⟨j, hj, ⟨l, hjr⟩, hxj⟩ := (hGR x).mp hx
    obtain ⟨d, a, _, _, o, q⟩ := ownAt j hj l
    exact ⟨o.cell (hR j hjr).2.2 x hxj, q x hxj⟩
  have gr : ∀ x ∈ G, x ∉ GR := fun x hx hx2 => by
    obtain ⟨j, hj, ⟨l, _, hjr⟩, hxj⟩ := (hG x).mp hx
    obtain ⟨k, hk, ⟨l2, hkr⟩, hxk⟩ := (hGR x).mp hx2
    exact h2 j hj k hk (fun e => hjr (e ▸ hkr)) l l2 x hxj hxk
  have exB : Ex B (addF B H GR) := addF_ex fun x hx => (rh x hx).2.1
  let Z : Zn := ⟨fun a => decide (a ∈ GR), addF Φ H G⟩
  have zz : ∀ a, Z.z a = true ↔ a ∈ GR := fun a => decide_eq_true_iff
  have cutB : cut (addF B H GR) Z.z = B := by
    funext a
    unfold cut
    by_cases z : a ∈ GR
    · rw [if_pos ((zz a).mpr z)]
      exact (rh a z).2.1.symm
    · rw [if_neg fun q => z ((zz a).mp q)]
      exact addF_out z
  have hidn : ∀ i, i ∉ (c.cf J R).hid → i ∉ J → i ∉ c.ow ∨ i ∈ R := fun i h3 h4 => by
    by_cases h5 : i ∈ c.ow
    · by_cases h6 : i ∈ R
      · exact .inr h6
      · exact absurd (List.mem_filter.mpr ⟨h5, by rw [decide_eq_true h4, decide_eq_true h6]; rfl⟩) h3
    · exact .inl h5
  refine ⟨adr σ, Z, addF B H GR, ⟨s.len, fun a o q => ?_, fun i d h3 h4 h => ?_, ⟨F, fun i hi => ?_, fun i hi j hj hne => h2 i (hJ i hi).1 j (hJ j hj).1 hne (hJ i hi).2 (hJ j hj).2⟩, fun a o h => ?_, fun hm a => ?_, fun a h => ?_⟩, exB, cutB, fun hR0 => ⟨?_, fun a => ?_⟩, fun a o h => ?_, fun X B' H' st' hX hX2 er ad => ?_⟩
  · by_cases z : a ∈ GR
    · rw [addF_in z] at q
      exact q
    · rw [addF_out z] at q
      exact s.bh a o q
  · rcases hidn i h3 h4 with h5 | h5
    · obtain ⟨v, q, r⟩ := s.rd i d h5 h
      exact ⟨v, q, r.mono exB⟩
    · obtain ⟨q0, _, q1⟩ := hR i h5
      obtain ⟨a, q2, q3, q4⟩ := h1 i q0 d h
      exact ⟨_, q2, q3.frz exB q1 fun x hx => addF_in ((hGR x).mpr ⟨i, q0, ⟨⟨d, h⟩, h5⟩, hx⟩)⟩
  · obtain ⟨d, a, q1, q2, q3, q4⟩ := ownAt i (hJ i hi).1 (hJ i hi).2
    have ea : adr σ i = a := by
      unfold adr
      rw [q2]
    rw [ea, cutB]
    refine ⟨d, q1, q2, q3, fun x hx => ⟨?_, ?_⟩⟩
    · rw [addF_out fun z => ?_]
      · exact (q4 x hx).1
      · obtain ⟨k, hk, ⟨l2, hkr⟩, hxk⟩ := (hGR x).mp z
        exact h2 i (hJ i hi).1 k hk (fun e => (hR k hkr).2.1 (e ▸ hi)) (hJ i hi).2 l2 x hx hxk
    · show addF Φ H G x = none
      rw [addF_out fun z => ?_]
      · exact (q4 x hx).2
      · obtain ⟨k, hk, ⟨l2, hkj, _⟩, hxk⟩ := (hG x).mp z
        exact h2 i (hJ i hi).1 k hk (fun e => hkj (e ▸ hi)) (hJ i hi).2 l2 x hx hxk
  · by_cases z : a ∈ G
    · have h' : H a = some o := (addF_in z).symm.trans h
      exact ⟨h', (addF_out (gr a z)).trans (gh a z).2.1⟩
    · have h' : Φ a = some o := (addF_out z).symm.trans h
      obtain ⟨q1, q2⟩ := s.fr.fr a o h'
      refine ⟨q1, (addF_out fun z2 => ?_).trans q2⟩
      rw [(rh a z2).2.2] at h'
      cases h'
  · have hR0 : R = [] := by
      cases R with
      | nil => rfl
      | cons _ _ => cases hm
    cases q : Z.z a with
    | false => rfl
    | true =>
      obtain ⟨j, _, ⟨_, hjr⟩, _⟩ := (hGR a).mp ((zz a).mp q)
      rw [hR0] at hjr
      cases hjr
  · have z := (zz a).mp h
    obtain ⟨⟨o, h3, h4⟩, _⟩ := rh a z
    exact ⟨o, (addF_in z).trans h3, h4⟩
  · funext a
    refine addF_out fun z => ?_
    obtain ⟨j, _, ⟨_, hjr⟩, _⟩ := (hGR a).mp z
    rw [hR0] at hjr
    cases hjr
  · cases q : Z.z a with
    | false => rfl
    | true =>
      obtain ⟨j, _, ⟨_, hjr⟩, _⟩ := (hGR a).mp ((zz a).mp q)
      rw [hR0] at hjr
      cases hjr
  · show addF Φ H G a = some o
    rw [addF_out fun z => ?_]
    · exact h
    · rw [(gh a z).2.2] at h
      cases h
  · have hzfr : ∀ a, Z.fr a = addF Φ H G a := fun _ => rfl
    have hadd : ∀ a, a ∉ X → (Z.add H' X).fr a = Z.fr a := fun a h => addF_out h
    -- the hidden ones and what was read stay
    have hX3 : ∀ x ∈ X, B' x = none := fun x hx => by
      obtain ⟨o, ho⟩ := hX2 x hx
      exact (er.fr x o ((addF_in hx).trans ho)).2
    have keepG : ∀ x ∈ G, H' x = H x ∧ B' x = none ∧ x ∉ X := fun x hx => by
      obtain ⟨⟨o, ho⟩, _⟩ := gh x hx
      have hz : Z.fr x = some o := (addF_in hx).trans ho
      have hn : x ∉ X := fun z => by
        rw [hX x z] at hz
        cases hz
      obtain ⟨q1, q2⟩ := er.fr x o ((hadd x hn).trans hz)
      exact ⟨q1.trans ho.symm, q2, hn⟩
    have keepR : ∀ x ∈ GR, H' x = H x ∧ B' x = H x ∧ x ∉ X := fun x hx => by
      obtain ⟨⟨o, ho, _⟩, _⟩ := rh x hx
      have q1 : B' x = some o := ad.ext x o ((addF_in hx).trans ho)
      exact ⟨(er.bh x o q1).trans ho.symm, q1.trans ho.symm, fun z => by
        rw [hX3 x z] at q1
        cases q1⟩
    have exn : Ex B (cut B' Z.z) := fun a o h => by
      have hn : a ∉ GR := fun z => by
        rw [(rh a z).2.1] at h
        cases h
      unfold cut
      rw [if_neg fun q => hn ((zz a).mp q)]
      exact ad.ext a o ((addF_out hn).trans h)
    obtain ⟨F', g1, g2⟩ := er.pn
    have cases3 : ∀ i ∈ c.ow, i ∈ J ∨ (i ∉ J ∧ i ∈ R) ∨ (i ∉ J ∧ i ∉ R) := fun i _ => by
      by_cases a : i ∈ J
      · exact .inl a
      · by_cases b : i ∈ R
        · exact .inr (.inl ⟨a, b⟩)
        · exact .inr (.inr ⟨a, b⟩)
    have lv : ∀ i, i ∉ J → live st' i → live st i := fun i hn ⟨d, hd⟩ => ⟨d, by rw [← ad.upd i hn]; exact hd⟩
    have offJ : ∀ i ∈ J, ∀ x ∈ F' i, x ∉ X ∧ x ∉ G ∧ x ∉ GR ∧ Φ x = none := fun i hi x hx => by
      obtain ⟨d, _, _, o, q⟩ := g1 i hi
      obtain ⟨q1, q2⟩ := q x hx
      obtain ⟨q3, q4⟩ := addF_none q2 (hX2 x)
      obtain ⟨q5, q6⟩ := addF_none (show addF Φ H G x = none from q4) (fun z => (gh x z).1)
      refine ⟨q3, q5, fun z => ?_, q6⟩
      obtain ⟨⟨o, ho, _⟩, _⟩ := rh x z
      rw [(keepR x z).2.1, ho] at q1
      cases q1
    refine ⟨?_, ?_, fun i d h3 h => ?_, ⟨fun i => if i ∈ J then F' i else F i, fun i hi d h => ?_, fun i hi j hj hne l1 l2 x hx => ?_⟩, ⟨fun a o h => er.bh a o (cut_ex a o h), fun a o h => ?_⟩, fun i hi => ?_⟩
    · exact ad.ln.trans s.len
    · exact fun a o h => exn a o (s.b0 a o h)
    · have hn : i ∉ J := fun z => h3 (hJ i z).1
      rw [ad.upd i hn] at h
      obtain ⟨v, q, r⟩ := s.rd i d h3 h
      exact ⟨v, q, r.mono exn⟩
    · rcases cases3 i hi with hij | ⟨hij, hir⟩ | ⟨hij, hir⟩
      · simp only [if_pos hij]
        obtain ⟨d', q1, q2, q3, q4⟩ := g1 i hij
        rw [q1] at h
        cases h
        refine ⟨_, q2, q3, fun x hx => ⟨?_, ?_⟩⟩
        · unfold cut
          split
          · rfl
          · exact (q4 x hx).1
        · obtain ⟨z1, _, _, z4⟩ := offJ i hij x hx
          exact (addF_out z1).trans z4
      · simp only [if_neg hij]
        rw [ad.upd i hij] at h
        obtain ⟨a, q1, q2, q3⟩ := h1 i hi d h
        have hm : ∀ x ∈ F i, x ∈ GR := fun x hx => (hGR x).mpr ⟨i, hi, ⟨⟨d, h⟩, hir⟩, hx⟩
        refine ⟨a, q1, q2.mono exn fun x hx => (keepR x (hm x hx)).1, fun x hx => ⟨?_, ?_⟩⟩
        · unfold cut
          rw [if_pos ((zz x).mpr (hm x hx))]
        · exact (addF_out (keepR x (hm x hx)).2.2).trans (q3 x hx).2
      · simp only [if_neg hij]
        rw [ad.upd i hij] at h
        obtain ⟨a, q1, q2, q3⟩ := h1 i hi d h
        have hm : ∀ x ∈ F i, x ∈ G := fun x hx => (hG x).mpr ⟨i, hi, ⟨⟨d, h⟩, hij, hir⟩, hx⟩
        refine ⟨a, q1, q2.mono exn fun x hx => (keepG x (hm x hx)).1, fun x hx => ⟨?_, ?_⟩⟩
        · unfold cut
          split
          · rfl
          · exact (keepG x (hm x hx)).2.1
        · exact (addF_out (keepG x (hm x hx)).2.2).trans (q3 x hx).2
    · have inG : ∀ k ∈ c.ow, k ∉ J → live st' k → ∀ y ∈ F k, y ∈ G ∨ y ∈ GR := fun k hk hkj l y hy => by
        by_cases hkr : k ∈ R
        · exact .inr ((hGR y).mpr ⟨k, hk, ⟨lv k hkj l, hkr⟩, hy⟩)
        · exact .inl ((hG y).mpr ⟨k, hk, ⟨lv k hkj l, hkj, hkr⟩, hy⟩)
      by_cases hij : i ∈ J
      · simp only [if_pos hij] at hx
        by_cases hjj : j ∈ J
        · simp only [if_pos hjj]
          exact g2 i hij j hjj hne x hx
        · simp only [if_neg hjj]
          intro hxj
          obtain ⟨_, z2, z3, _⟩ := offJ i hij x hx
          rcases inG j hj hjj l2 x hxj with z | z
          · exact z2 z
          · exact z3 z
      · simp only [if_neg hij] at hx
        by_cases hjj : j ∈ J
        · simp only [if_pos hjj]
          intro hxj
          obtain ⟨_, z2, z3, _⟩ := offJ j hjj x hxj
          rcases inG i hi hij l1 x hx with z | z
          · exact z2 z
          · exact z3 z
        · simp only [if_neg hjj]
          exact h2 i hi j hj hne (lv i hij l1) (lv j hjj l2) x hx
    · by_cases hx : a ∈ X
      · rw [addF_in hx] at h
        refine ⟨h, ?_⟩
        unfold cut
        split
        · rfl
        · exact hX3 a hx
      · rw [addF_out hx] at h
        have hng : a ∉ G := fun z => by
          rw [(gh a z).2.2] at h
          cases h
        obtain ⟨q1, q2⟩ := er.fr a o ((hadd a hx).trans ((addF_out hng).trans h))
        refine ⟨q1, ?_⟩
        unfold cut
        split
        · rfl
        · exact q2
    · obtain ⟨q1, ⟨d, q2⟩, q3⟩ := s.pa i hi
      refine ⟨q1, ?_, q3⟩
      by_cases hij : i ∈ J
      · obtain ⟨d', z, _⟩ := g1 i hij
        exact ⟨d', z⟩
      · exact ⟨d, by rw [ad.upd i hij]; exact q2⟩
theorem addF_nil {Φ H : Hp} : addF Φ H [] = Φ := by
  funext a
  exact addF_out (by simp)
theorem Zn.add_nil {Z : Zn} {H : Hp} : Z.add H [] = Z := by
  unfold Zn.add
  rw [addF_nil]
theorem SR.rebase {B1 : Hp} (s : SR K c A0 Φ B0 B σ H st) (h : Ex B1 B) : SR K c A0 Φ B1 B σ H st := ⟨s.len, h, s.rd, s.ow, s.fr, s.pa⟩
theorem SR.unbase {B1 : Hp} (s : SR K c A0 Φ B1 B σ H st) (h : Ex B0 B1) : SR K c A0 Φ B0 B σ H st := ⟨s.len, fun a o q => s.b0 a o (h a o q), s.rd, s.ow, s.fr, s.pa⟩
theorem Fin.unbase {B1 : Hp} (s : Fin K c A0 Φ B1 B H st) (h : Ex B0 B1) : Fin K c A0 Φ B0 B H st := ⟨fun a o q => s.b0 a o (h a o q), s.fr, s.pn⟩
theorem Ret.unbase {B1 : Hp} {v : V} {d : D} (s : Ret K c A0 Φ B1 B H st v d) (h : Ex B0 B1) : Ret K c A0 Φ B0 B H st v d := by
  unfold Ret at s ⊢
  split at s
  · exact ⟨s.1.unbase h, s.2⟩
  · obtain ⟨p, X, e, f, q⟩ := s
    exact ⟨p, X, e, f.unbase h, q⟩
/-- a step that changes nothing that was there -/
theorem SR.pu (s : SR K c A0 Φ B0 B σ H st) (p : Pu B H B' H') : SR K c A0 Φ B0 B' σ H' st where
  len := s.len
  b0 := fun a o h => p.ext a o (s.b0 a o h)
  rd := fun i d h1 h => by
    obtain ⟨v, q, r⟩ := s.rd i d h1 h
    exact ⟨v, q, r.mono p.ext⟩
  ow := by
    obtain ⟨F, h1, h2⟩ := s.ow
    refine ⟨F, fun i hi d h => ?_, h2⟩
    obtain ⟨a, q1, q2, q3⟩ := h1 i hi d h
    exact ⟨a, q1, q2.hx p.ext p.hx, fun x hx => ⟨by
      obtain ⟨o, ho⟩ := q2.has x hx
      exact p.off ho (q3 x hx).1, (q3 x hx).2⟩⟩
  fr := ⟨p.bh, fun a o h => by
    obtain ⟨h1, h2⟩ := s.fr.fr a o h
    exact ⟨p.hx _ _ h1, p.off h1 h2⟩⟩
  pa := s.pa
end

/-! ### small statements -/
def dseq (f g : DT) : DT := fun st => match f st with
  | some (.nx st1) => g st1
  | r => r
def dnext : DT := fun st => some (.nx st)
def dexp {β : Type} (fe : DM β) (k : β → DS → Option Out) : DT := fun st => match fe st with
  | none => none
  | some (.ok b, st1) => k b st1
  | some (.ex x fl, st1) => some (.ex x fl st1)
theorem dexp_ok {β : Type} {fe : DM β} {k : β → DS → Option Out} {st st1 : DS} {b : β} (h : fe st = some (.ok b, st1)) : dexp fe k st = k b st1 := by
  unfold dexp
  rw [h]
theorem dseq_nx {f g : DT} {st st1 : DS} (h : f st = some (.nx st1)) : dseq f g st = g st1 := by
  unfold dseq
  rw [h]
section
variable {K : PySem.W.Frag} {c : Cs}
theorem ev_next : EvS K c tNext dnext := fun A0 Φ B0 B σ H st r s h De n b k t x => by
  cases h
  exact n st B σ H rfl s
theorem ev_break : EvS K c tBreak (fun st => some (.bk st)) := fun A0 Φ B0 B σ H st r s h De n b k t x => by
  cases h
  exact b st B σ H rfl s
theorem ev_cont : EvS K c tCont (fun st => some (.ct st)) := fun A0 Φ B0 B σ H st r s h De n b k t x => by
  cases h
  exact k st B σ H rfl s
theorem ev_seq {t u : TS} {f g : DT} (h1 : EvS K c t f) (h2 : EvS K c u g) : EvS K c (tSeq t u) (dseq f g) := fun A0 Φ B0 B σ H st r s h De n b k t x => by
  cases ef : f st with
  | none =>
    unfold dseq at h
    rw [ef] at h
    cases h
  | some o =>
    refine h1 A0 Φ B0 B σ H st o s ef { De with nx := u De } (fun st' B' σ' H' e s' => ?_) (fun st' B' σ' H' e s' => ?_) (fun st' B' σ' H' e s' => ?_) (fun d st' v B' H' e rv => ?_) (fun y fl st' dx B' H' e fi fl' => ?_)
    · subst e
      rw [dseq_nx ef] at h
      exact h2 A0 Φ B0 B' σ' H' st' r s' h De n b k t x
    · subst e
      unfold dseq at h
      rw [ef] at h
      exact b st' B' σ' H' (Option.some.inj h).symm s'
    · subst e
      unfold dseq at h
      rw [ef] at h
      exact k st' B' σ' H' (Option.some.inj h).symm s'
    · subst e
      unfold dseq at h
      rw [ef] at h
      exact t d st' v B' H' (Option.some.inj h).symm rv
    · subst e
      unfold dseq at h
      rw [ef] at h
      exact x y fl st' dx B' H' (Option.some.inj h).symm fi fl'
/-- an expression of any kind, at a statement -/
def EvE {α β : Type} (K : PySem.W.Frag) (c : Cs) (rel : Hp → α → β → Prop) (te : TG0 α) (fe : DM β) : Prop :=
  ∀ (A0 : Nat → Addr) (Φ B0 B : Hp) (σ : L2.St) (H : Hp) (st : DS) (r : Res β × DS), SR K c A0 Φ B0 B σ H st → fe st = some r → ∀ Q : α → Hp → Prop,
    (∀ b st' v B' H', r = (.ok b, st') → SR K c A0 Φ B0 B' σ H' st' → Ex B B' → rel B' v b → Q v H') →
    (∀ x fl st' dx B' H', r = (.ex x fl, st') → Fin K c A0 Φ B0 B' H' st' → Fld K B' H' dx fl → c.W (.ref x) dx H') → te σ H Q
/-- .. that tells a new object -/
def EvEN (n : Shp) (K : PySem.W.Frag) (c : Cs) (te : TE) (fe : DM D) : Prop :=
  ∀ (A0 : Nat → Addr) (Φ B0 B : Hp) (σ : L2.St) (H : Hp) (st : DS) (r : Res D × DS), SR K c A0 Φ B0 B σ H st → fe st = some r → ∀ Q : VK,
    (∀ d st' p X B' H', r = (.ok d, st') → SR K c A0 (addF Φ H' X) B0 B' σ H' st' → Ex B B' → (∀ x ∈ X, Φ x = none) → Own K B' H' n X p d → Q (.ref p) H') →
    (∀ x fl st' dx B' H', r = (.ex x fl, st') → Fin K c A0 Φ B0 B' H' st' → Fld K B' H' dx fl → c.W (.ref x) dx H') → te σ H Q
def dlv {β : Type} (J : List Nat) (fe : DM β) : DM β := fun st => if (J.all fun i => (penOf i st).isSome) = true then fe st else none
theorem dlv_some {β : Type} {J : List Nat} {fe : DM β} {st : DS} {r : Res β × DS} (h : dlv J fe st = some r) : (∀ i ∈ J, live st i) ∧ fe st = some r := by
  unfold dlv at h
  split at h
  · rename_i q
    refine ⟨fun i hi => ?_, h⟩
    have := List.all_eq_true.mp q i hi
    cases e : penOf i st with
    | none =>
      rw [e] at this
      cases this
    | some d => exact ⟨d, penOf_some e⟩
  · cases h
/-- what an expression asks of the slots that it changes: pens that were handed in, or live cells -/
def JOk (c : Cs) (J : List Nat) : Prop := ∀ i ∈ J, i ∈ c.pa
theorem run0 {A0 : Nat → Addr} {Φ B0 B H : Hp} {σ : L2.St} {st : DS} (s : SR K c A0 Φ B0 B σ H st) {J : List Nat} (hJ : ∀ i ∈ J, i ∈ c.ow ∧ live st i) : ∃ (A : Nat → Addr) (Z : Zn), ER K (c.cf J []) A Z B σ H st ∧
    (∀ X B' H' st', (∀ x ∈ X, Z.fr x = none) → (∀ x ∈ X, ∃ o, H' x = some o) → ER K (c.cf J []) A (Z.add H' X) B' σ H' st' → Adv (c.cf J []).ps A B H st B' H' st' → SR K c A0 (addF Φ H' X) B0 B' σ H' st' ∧ ∀ x ∈ X, Φ x = none) ∧
    (∀ B' H' st', ER K (c.cf J []) A Z B' σ H' st' → Adv (c.cf J []).ps A B H st B' H' st' → SR K c A0 Φ B0 B' σ H' st') := by
  obtain ⟨A, Z, Bx, er, ex, _, hz, hf, post⟩ := s.run (R := []) hJ (fun _ h => nomatch h)
  obtain ⟨rfl, hz0⟩ := hz rfl
  have hc : ∀ B' : Hp, cut B' Z.z = B' := fun B' => cut_none hz0
  refine ⟨A, Z, er, fun X B' H' st' h1 h2 er' ad => ⟨?_, fun x hx => ?_⟩, fun B' H' st' er' ad => ?_⟩
  · have := post X B' H' st' h1 h2 er' ad
    rw [hc] at this
    exact this
  · cases q : Φ x with
    | none => rfl
    | some o =>
      have := hf x o q
      rw [h1 x hx] at this
      cases this
  · have := post [] B' H' st' (fun _ h => nomatch h) (fun _ h => nomatch h) (by rw [Zn.add_nil]; exact er') ad
    rw [hc, addF_nil] at this
    exact this
theorem SR.pens (hc : ∀ i ∈ c.pa, i ∈ c.ow) {A0 : Nat → Addr} {Φ B0 B H : Hp} {σ : L2.St} {st : DS} (s : SR K c A0 Φ B0 B σ H st) {J : List Nat} (hJ : JOk c J) : ∀ i ∈ J, i ∈ c.ow ∧ live st i := fun i hi => ⟨hc i (hJ i hi), (s.pa i (hJ i hi)).2.1⟩
theorem EvE.run {α β : Type} {rel : Hp → α → β → Prop} {te : TG0 α} {fe : DM β} {J : List Nat} (he : EvP K (c.cf J []) (fun _ => True) rel te fe) {A0 : Nat → Addr} {Φ B0 B H : Hp} {σ : L2.St} {st : DS} {r : Res β × DS} (s : SR K c A0 Φ B0 B σ H st) (hJ : ∀ i ∈ J, i ∈ c.ow ∧ live st i) (h : fe st = some r) (Q : α → Hp → Prop)
    (q : ∀ b st' v B' H', r = (.ok b, st') → SR K c A0 Φ B0 B' σ H' st' → Ex B B' → rel B' v b → Q v H') (x : ∀ x fl st' dx B' H', r = (.ex x fl, st') → Fin K c A0 Φ B0 B' H' st' → Fld K B' H' dx fl → c.W (.ref x) dx H') : te σ H Q := by
  obtain ⟨A, Z, er, _, post⟩ := run0 s hJ
  exact he A Z B σ H st r er True.intro h Q (fun b st' e v B' H' er' ad rv => q b st' v B' H' e (post B' H' st' er' ad) ad.ext rv) fun y fl st' e dx B' H' er' ad fl' => x y fl st' dx B' H' e (post B' H' st' er' ad).fin fl'
theorem EvE.m {α β : Type} {rel : Hp → α → β → Prop} {te : TG0 α} {fe : DM β} {J : List Nat} (he : EvP K (c.cf J []) (fun _ => True) rel te fe) (hJ : ∀ i ∈ J, i ∈ c.pa) : EvE K c rel te fe := fun A0 Φ B0 B σ H st r s h Q q x =>
  EvE.run he s (fun i hi => ⟨(s.pa i (hJ i hi)).1, (s.pa i (hJ i hi)).2.1⟩) h Q q x
theorem EvE.g {α β : Type} {rel : Hp → α → β → Prop} {te : TG0 α} {fe : DM β} {J : List Nat} (he : EvP K (c.cf J []) (fun _ => True) rel te fe) (hJ : ∀ i ∈ J, i ∈ c.ow) : EvE K c rel te (dlv J fe) := fun A0 Φ B0 B σ H st r s h Q q x => by
  obtain ⟨h1, h2⟩ := dlv_some h
  exact EvE.run he s (fun i hi => ⟨hJ i hi, h1 i hi⟩) h2 Q q x
theorem EvEN.run {n : Shp} {te : TE} {fe : DM D} {J : List Nat} (he : EvN n K (c.cf J []) te fe) {A0 : Nat → Addr} {Φ B0 B H : Hp} {σ : L2.St} {st : DS} {r : Res D × DS} (s : SR K c A0 Φ B0 B σ H st) (hJ : ∀ i ∈ J, i ∈ c.ow ∧ live st i) (h : fe st = some r) (Q : VK)
    (q : ∀ d st' p X B' H', r = (.ok d, st') → SR K c A0 (addF Φ H' X) B0 B' σ H' st' → Ex B B' → (∀ x ∈ X, Φ x = none) → Own K B' H' n X p d → Q (.ref p) H') (x : ∀ x fl st' dx B' H', r = (.ex x fl, st') → Fin K c A0 Φ B0 B' H' st' → Fld K B' H' dx fl → c.W (.ref x) dx H') : te σ H Q := by
  obtain ⟨A, Z, er, postN, post⟩ := run0 s hJ
  refine he A Z B σ H st r er h Q (fun d st' e p X B' H' er' ad hX ow => ?_) fun y fl st' e dx B' H' er' ad fl' => x y fl st' dx B' H' e (post B' H' st' er' ad).fin fl'
  obtain ⟨s', hΦ⟩ := postN X B' H' st' hX ow.has er' ad
  exact q d st' p X B' H' e s' ad.ext hΦ ow
theorem EvEN.m {n : Shp} {te : TE} {fe : DM D} {J : List Nat} (he : EvN n K (c.cf J []) te fe) (hJ : ∀ i ∈ J, i ∈ c.pa) : EvEN n K c te fe := fun A0 Φ B0 B σ H st r s h Q q x =>
  EvEN.run he s (fun i hi => ⟨(s.pa i (hJ i hi)).1, (s.pa i (hJ i hi)).2.1⟩) h Q q x
theorem EvEN.g {n : Shp} {te : TE} {fe : DM D} {J : List Nat} (he : EvN n K (c.cf J []) te fe) (hJ : ∀ i ∈ J, i ∈ c.ow) : EvEN n K c te (dlv J fe) := fun A0 Φ B0 B σ H st r s h Q q x => by
  obtain ⟨h1, h2⟩ := dlv_some h
  exact EvEN.run he s (fun i hi => ⟨hJ i hi, h1 i hi⟩) h2 Q q x
/-- with cells read: the value is flat; nothing is raised -/
def dflat (fe : DM D) : DM D := fun st => match fe st with
  | some (.ok d, st1) => if flat d = true then some (.ok d, st1) else none
  | _ => none
def dcalm {β : Type} (fe : DM β) : DM β := fun st => match fe st with
  | some (.ok b, st1) => some (.ok b, st1)
  | _ => none
theorem EvE.run2 {α β : Type} {rel : Hp → α → β → Prop} {te : TG0 α} {fe : DM β} {J R : List Nat} (he : EvP K (c.cf J R) (fun _ => True) rel te fe) {A0 : Nat → Addr} {Φ B0 B H : Hp} {σ : L2.St} {st st' : DS} {b : β} (s : SR K c A0 Φ B0 B σ H st) (hJ : ∀ i ∈ J, i ∈ c.ow ∧ live st i) (hR : ∀ i ∈ R, i ∈ c.ow ∧ i ∉ J ∧ (c.kd.getD i .flat).plain = true) (h : fe st = some (.ok b, st')) (Q : α → Hp → Prop)
    (q : ∀ v B1 H' (z : Addr → Bool), SR K c A0 Φ B0 (cut B1 z) σ H' st' → Ex B (cut B1 z) → (∀ a, z a = true → ∃ o, B1 a = some o ∧ isCell o = true) → rel B1 v b → Q v H') : te σ H Q := by
  obtain ⟨A, Z, Bx, er, ex, hcB, hz, hf, post⟩ := s.run (R := R) hJ hR
  refine he A Z Bx σ H st _ er True.intro h Q (fun b' st2 e v B' H' er' ad rv => ?_) (fun y fl st' e => by cases e)
  cases e
  have := post [] B' H' st' (fun _ h => nomatch h) (fun _ h => nomatch h) (by rw [Zn.add_nil]; exact er') ad
  rw [addF_nil] at this
  refine q v B' H' Z.z this (fun a o ho => ?_) er'.zo rv
  have h1 : cut Bx Z.z a = some o := by rw [hcB]; exact ho
  exact cut_mono ad.ext a o h1
theorem EvE.a {te : TE} {fe : DM D} {J R : List Nat} (he : EvD K (c.cf J R) te fe) (hJ : ∀ i ∈ J, i ∈ c.pa) (hR : ∀ i ∈ R, i ∈ c.ow ∧ i ∉ J ∧ (c.kd.getD i .flat).plain = true) : EvE K c (Rep K) te (dflat fe) := fun A0 Φ B0 B σ H st r s h Q q x => by
  unfold dflat at h
  split at h
  · rename_i d st1 e
    split at h
    · rename_i hfl
      cases h
      exact EvE.run2 he s (fun i hi => ⟨(s.pa i (hJ i hi)).1, (s.pa i (hJ i hi)).2.1⟩) hR e Q fun v B1 H' z s' ex zo rv => q d st1 v _ H' rfl s' ex (rv.cut zo hfl)
    · cases h
  · cases h
theorem EvE.ga {te : TE} {fe : DM D} {J R : List Nat} (he : EvD K (c.cf J R) te fe) (hJ : ∀ i ∈ J, i ∈ c.ow) (hR : ∀ i ∈ R, i ∈ c.ow ∧ i ∉ J ∧ (c.kd.getD i .flat).plain = true) : EvE K c (Rep K) te (dlv J (dflat fe)) := fun A0 Φ B0 B σ H st r s h Q q x => by
  obtain ⟨h1, h2⟩ := dlv_some h
  unfold dflat at h2
  split at h2
  · rename_i d st1 e
    split at h2
    · rename_i hfl
      cases h2
      exact EvE.run2 he s (fun i hi => ⟨hJ i hi, h1 i hi⟩) hR e Q fun v B1 H' z s' ex zo rv => q d st1 v _ H' rfl s' ex (rv.cut zo hfl)
    · cases h2
  · cases h2
theorem EvE.at {tt : TT} {ft : DM Bool} {J R : List Nat} (he : EvT K (c.cf J R) tt ft) (hJ : ∀ i ∈ J, i ∈ c.pa) (hR : ∀ i ∈ R, i ∈ c.ow ∧ i ∉ J ∧ (c.kd.getD i .flat).plain = true) : EvE K c eqR tt (dcalm ft) := fun A0 Φ B0 B σ H st r s h Q q x => by
  unfold dcalm at h
  split at h
  · rename_i d st1 e
    cases h
    exact EvE.run2 he s (fun i hi => ⟨(s.pa i (hJ i hi)).1, (s.pa i (hJ i hi)).2.1⟩) hR e Q fun v B1 H' z s' ex zo rv => q d st1 v _ H' rfl s' ex rv
  · cases h
theorem EvE.gat {tt : TT} {ft : DM Bool} {J R : List Nat} (he : EvT K (c.cf J R) tt ft) (hJ : ∀ i ∈ J, i ∈ c.ow) (hR : ∀ i ∈ R, i ∈ c.ow ∧ i ∉ J ∧ (c.kd.getD i .flat).plain = true) : EvE K c eqR tt (dlv J (dcalm ft)) := fun A0 Φ B0 B σ H st r s h Q q x => by
  obtain ⟨h1, h2⟩ := dlv_some h
  unfold dcalm at h2
  split at h2
  · rename_i d st1 e
    cases h2
    exact EvE.run2 he s (fun i hi => ⟨hJ i hi, h1 i hi⟩) hR e Q fun v B1 H' z s' ex zo rv => q d st1 v _ H' rfl s' ex rv
  · cases h2
/-- a new flat object, with cells read -/
def dflatN (fe : DM D) : DM D := fun st => match fe st with
  | some (.ok (.list ds), st1) => if flatA ds = true then some (.ok (.list ds), st1) else none
  | _ => none
theorem EvEN.a {te : TE} {fe : DM D} {J R : List Nat} (he : EvN .flat K (c.cf J R) te fe) (hJ : ∀ i ∈ J, i ∈ c.pa) (hR : ∀ i ∈ R, i ∈ c.ow ∧ i ∉ J ∧ (c.kd.getD i .flat).plain = true) : EvEN .flat K c te (dflatN fe) := fun A0 Φ B0 B σ H st r s h Q q x => by
  unfold dflatN at h
  split at h
  · rename_i ds st1 e
    split at h
    · rename_i hfl
      cases h
      obtain ⟨A, Z, Bx, er, ex, hcB, hz, hf, post⟩ := s.run (R := R) (J := J) (fun i hi => ⟨(s.pa i (hJ i hi)).1, (s.pa i (hJ i hi)).2.1⟩) hR
      refine he A Z Bx σ H st _ er e Q (fun d st2 e2 p X B' H' er' ad hX ow => ?_) (fun y fl st' e2 => by cases e2)
      cases e2
      have s' := post X B' H' st1 hX ow.has er' ad
      have hΦ : ∀ x ∈ X, Φ x = none := fun x hx => by
        cases w : Φ x with
        | none => rfl
        | some o =>
          have := hf x o w
          rw [hX x hx] at this
          cases this
      obtain ⟨o, xs, G, h0, h1, h2, rfl, h4⟩ := own_list ow
      cases h0
      refine q _ st1 p _ (cut B' Z.z) H' rfl s' (fun a o ho => ?_) hΦ ?_
      · have h1 : cut Bx Z.z a = some o := by rw [hcB]; exact ho
        exact cut_mono ad.ext a o h1
      · have hG : G = [] := h2.foot0
        subst hG
        exact .lst rfl h1 (OwnA.of (h2.flat0.cut er'.zo hfl)) h4
    · cases h
  · cases h
theorem ev_exp {α β : Type} {rel : Hp → α → β → Prop} {te : TG0 α} {fe : DM β} {tk : α → TS} {k : β → DS → Option Out} (he : EvE K c rel te fe)
    (hk : ∀ (x : α) (b : β) (A0 : Nat → Addr) (Φ B0 B : Hp) (σ : L2.St) (H : Hp) (st : DS) (r : Out), SR K c A0 Φ B0 B σ H st → rel B x b → k b st = some r → ∀ De : Ends,
      (∀ st' B' σ' H', r = .nx st' → SR K c A0 Φ B0 B' σ' H' st' → De.nx σ' H') →
      (∀ st' B' σ' H', r = .bk st' → SR K c A0 Φ B0 B' σ' H' st' → De.bk σ' H') →
      (∀ st' B' σ' H', r = .ct st' → SR K c A0 Φ B0 B' σ' H' st' → De.ct σ' H') →
      (∀ d st' v B' H', r = .rt d st' → Ret K c A0 Φ B0 B' H' st' v d → De.rt v H') →
      (∀ x fl st' dx B' H', r = .ex x fl st' → Fin K c A0 Φ B0 B' H' st' → Fld K B' H' dx fl → c.W (.ref x) dx H') → tk x De σ H) :
    EvS K c (fun De σ H => te σ H fun x H1 => tk x De σ H1) (dexp fe k) := fun A0 Φ B0 B σ H st r s h De n b kk t x => by
  cases ef : fe st with
  | none =>
    unfold dexp at h
    rw [ef] at h
    cases h
  | some ro =>
    refine he A0 Φ B0 B σ H st ro s ef _ (fun b0 st1 v B1 H1 e1 s1 _ rv => ?_) (fun y fl st1 dx B1 H1 e1 fi1 fl1 => ?_)
    · subst e1
      rw [dexp_ok ef] at h
      exact hk v b0 A0 Φ B0 B1 σ H1 st1 r s1 rv h De n b kk t x
    · subst e1
      unfold dexp at h
      rw [ef] at h
      exact x y fl st1 dx B1 H1 (Option.some.inj h).symm fi1 fl1
def dset (i : Nat) (fe : DM D) : DT := dexp fe fun d st => some (.nx (st.set i (some d)))
theorem ev_set {i : Nat} {te : TE} {fe : DM D} (h1 : i ∉ c.ow) (he : EvE K c (Rep K) te fe) : EvS K c (tAsg te (gName i)) (dset i fe) :=
  ev_exp (tk := fun x De σ H => gName i x σ H De.nx) he fun x b A0 Φ B0 B σ H st r s rv h De n _ _ _ _ => by
    cases h
    exact n _ _ _ _ rfl (s.set h1 rv)
def ddrop (fe : DM D) : DT := dexp fe fun _ st => some (.nx st)
theorem ev_drop {te : TE} {fe : DM D} (he : EvE K c (Rep K) te fe) : EvS K c (tDrop te) (ddrop fe) :=
  ev_exp (tk := fun _ De σ H => De.nx σ H) he fun x b A0 Φ B0 B σ H st r s rv h De n _ _ _ _ => by
    cases h
    exact n _ _ _ _ rfl s
/-- targets -/
def dasg (fe : DM D) (gd : DG) : DT := dexp fe fun d st => (gd d st).map Out.nx
theorem SR.target {A0 : Nat → Addr} {Φ B0 B H : Hp} {σ : L2.St} {st st' : DS} {vs : List Nat} {g : TG} {gd : DG} {x : V} {d : D} (s : SR K c A0 Φ B0 B σ H st) (hv : ∀ i ∈ vs, i ∉ c.ow) (hg : EvG K (c.cf [] []) vs g gd) (rv : Rep K B x d) (h : gd d st = some st') (Q : L2.St → Hp → Prop)
    (q : ∀ σ', SR K c A0 Φ B0 B σ' H st' → SameOff vs σ σ' → SameOff vs st st' → Q σ' H) : g x σ H Q := by
  obtain ⟨A, Z, er, _, post⟩ := run0 s (J := []) (fun _ h => nomatch h)
  refine hg A Z B σ H st st' x d er rv h Q fun σ' er' s1 s2 => q σ' (s.off er'.len (fun i d hi h => ?_) hv s1 s2) s1 s2
  exact er'.rd i d (fun z => hi (List.mem_filter.mp z).1) (fun z => nomatch z) h
theorem ev_asg {vs : List Nat} {te : TE} {fe : DM D} {g : TG} {gd : DG} (hv : ∀ i ∈ vs, i ∉ c.ow) (he : EvE K c (Rep K) te fe) (hg : EvG K (c.cf [] []) vs g gd) : EvS K c (tAsg te g) (dasg fe gd) :=
  ev_exp (tk := fun x De σ H => g x σ H De.nx) he fun x b A0 Φ B0 B σ H st r s rv h De n _ _ _ _ => by
    obtain ⟨st', h1, rfl⟩ := Option.map_eq_some_iff.mp h
    exact s.target hv hg rv h1 _ fun σ' s' _ _ => n _ _ _ _ rfl s'
/-- a test -/
def dif (ft : DM Bool) (f g : DT) : DT := dexp ft fun b => if b = true then f else g
theorem ev_if {tt : TT} {ft : DM Bool} {t u : TS} {f g : DT} (ht : EvE K c eqR tt ft) (h1 : EvS K c t f) (h2 : EvS K c u g) : EvS K c (tIfS tt t u) (dif ft f g) :=
  ev_exp (tk := fun b De σ H => if b = true then t De σ H else u De σ H) ht fun x b A0 Φ B0 B σ H st r s rv h De n b' k t' x' => by
    have e : x = b := rv
    subst e
    cases x with
    | true => exact h1 A0 Φ B0 B σ H st r s h De n b' k t' x'
    | false => exact h2 A0 Φ B0 B σ H st r s h De n b' k t' x'
/-! ### return -/
def dret (fe : DM D) : DT := dexp fe fun d st => some (.rt d st)
/-- cells that are frozen -/
abbrev Cs.fz (c : Cs) (R : List Nat) : Cs := { c with ow := c.ow.filter fun i => decide (i ∉ R) }
theorem SR.freeze {A0 : Nat → Addr} {Φ B0 B H : Hp} {σ : L2.St} {st : DS} (s : SR K c A0 Φ B0 B σ H st) {R : List Nat} (hR : ∀ i ∈ R, i ∈ c.ow ∧ i ∉ c.pa ∧ (c.kd.getD i .flat).plain = true) : ∃ Bx, Ex B Bx ∧ SR K (c.fz R) A0 Φ B0 Bx σ H st := by
  obtain ⟨F, h1, h2⟩ := s.ow
  obtain ⟨GR, hGR⟩ := feet F (fun j => live st j ∧ j ∈ R) c.ow
  have rh : ∀ x ∈ GR, (∃ o, H x = some o) ∧ B x = none ∧ Φ x = none := fun x hx => by
    obtain ⟨j, hj, ⟨⟨d, hd⟩, hjr⟩, hxj⟩ := (hGR x).mp hx
    obtain ⟨a, _, o, q⟩ := h1 j hj d hd
    exact ⟨o.has x hxj, q x hxj⟩
  have exB : Ex B (addF B H GR) := addF_ex fun x hx => (rh x hx).2.1
  refine ⟨addF B H GR, exB, s.len, fun a o h => exB a o (s.b0 a o h), fun i d h3 h => ?_, ⟨F, fun i hi d h => ?_, fun i hi j hj => h2 i (List.mem_filter.mp hi).1 j (List.mem_filter.mp hj).1⟩, ⟨fun a o q => ?_, fun a o h => ?_⟩, fun i hi => ?_⟩
  · by_cases h5 : i ∈ c.ow
    · have hiR : i ∈ R := by
        by_cases z : i ∈ R
        · exact z
        · exact absurd (List.mem_filter.mpr ⟨h5, decide_eq_true z⟩) h3
      obtain ⟨a, q2, q3, q4⟩ := h1 i h5 d h
      exact ⟨_, q2, q3.frz exB (hR i hiR).2.2 fun x hx => addF_in ((hGR x).mpr ⟨i, h5, ⟨⟨d, h⟩, hiR⟩, hx⟩)⟩
    · obtain ⟨v, q, r⟩ := s.rd i d h5 h
      exact ⟨v, q, r.mono exB⟩
  · obtain ⟨h5, h6⟩ := List.mem_filter.mp hi
    obtain ⟨a, q1, q2, q3⟩ := h1 i h5 d h
    refine ⟨a, q1, q2.mono exB (fun _ _ => rfl), fun x hx => ⟨(addF_out fun z => ?_).trans (q3 x hx).1, (q3 x hx).2⟩⟩
    obtain ⟨j, hj, ⟨l, hjr⟩, hxj⟩ := (hGR x).mp z
    exact h2 i h5 j hj (fun e => (of_decide_eq_true h6) (e ▸ hjr)) ⟨d, h⟩ l x hx hxj
  · by_cases z : a ∈ GR
    · rw [addF_in z] at q
      exact q
    · rw [addF_out z] at q
      exact s.bh a o q
  · obtain ⟨q1, q2⟩ := s.fr.fr a o h
    refine ⟨q1, (addF_out fun z => ?_).trans q2⟩
    rw [(rh a z).2.2] at h
    cases h
  · obtain ⟨q1, q2, q3⟩ := s.pa i hi
    exact ⟨List.mem_filter.mpr ⟨q1, decide_eq_true fun z => (hR i z).2.1 hi⟩, q2, q3⟩
theorem ev_ret {te : TE} {fe : DM D} {J R : List Nat} (hrn : c.rn = none) (hR : ∀ i ∈ R, i ∈ c.ow ∧ i ∉ c.pa ∧ (c.kd.getD i .flat).plain = true) (hJ : ∀ i ∈ J, i ∈ c.pa) (he : EvD K ((c.fz R).cf J []) te fe) : EvS K c (tRet te) (dret fe) := fun A0 Φ B0 B σ H st r s h De n b kk t x => by
  unfold dret at h
  obtain ⟨Bx, ex, sf⟩ := s.freeze hR
  cases ef : fe st with
  | none =>
    unfold dexp at h
    rw [ef] at h
    cases h
  | some ro =>
    refine EvE.run he sf (fun i hi => ⟨(sf.pa i (hJ i hi)).1, (sf.pa i (hJ i hi)).2.1⟩) ef _ (fun b0 st1 v B1 H1 e1 s1 _ rv => ?_) (fun y fl st1 dx B1 H1 e1 fi1 fl1 => ?_)
    · subst e1
      rw [dexp_ok ef] at h
      cases h
      refine t _ _ v B1 H1 rfl ?_
      unfold Ret
      rw [hrn]
      have fi := s1.fin
      exact ⟨⟨fi.b0, fi.fr, fi.pn⟩, rv⟩
    · subst e1
      unfold dexp at h
      rw [ef] at h
      cases h
      exact x _ _ _ dx B1 H1 rfl ⟨fi1.b0, fi1.fr, fi1.pn⟩ fl1
theorem ev_retN (hrn : c.rn = none) : EvS K c tRetN (fun st => some (.rt .none st)) := fun A0 Φ B0 B σ H st r s h De n b k t x => by
  cases h
  refine t _ _ .non B H rfl ?_
  unfold Ret
  rw [hrn]
  exact ⟨s.fin, .non⟩
/-- a new object is told -/
theorem ev_retNew {n : Shp} {te : TE} {fe : DM D} (hrn : c.rn = some n) (he : EvEN n K c te fe) : EvS K c (tRet te) (dret fe) := fun A0 Φ B0 B σ H st r s h De _ b kk t x => by
  unfold dret at h
  cases ef : fe st with
  | none =>
    unfold dexp at h
    rw [ef] at h
    cases h
  | some ro =>
    refine he A0 Φ B0 B σ H st ro s ef _ (fun d st1 p X B1 H1 e1 s1 _ hX ow => ?_) (fun y fl st1 dx B1 H1 e1 fi1 fl1 => ?_)
    · subst e1
      rw [dexp_ok ef] at h
      cases h
      refine t _ _ (.ref p) B1 H1 rfl ?_
      unfold Ret
      rw [hrn]
      exact ⟨p, X, rfl, s1.fin, hX, ow⟩
    · subst e1
      unfold dexp at h
      rw [ef] at h
      cases h
      exact x _ _ _ dx B1 H1 rfl fi1 fl1
/-- a cell is told -/
theorem ev_retCell {n : Shp} {i : Nat} (hrn : c.rn = some n) (hi : i ∈ c.ow) (hp : i ∉ c.pa) (hk : c.kd.getD i .flat = n) : EvS K c (tRet (tVar i)) (dret (dvar i)) := fun A0 Φ B0 B σ H st r s h De _ b kk t x => by
  unfold dret dexp dvar at h
  cases e : st[i]? with
  | none =>
    simp only [e] at h
    cases h
  | some o =>
    cases o with
    | none =>
      simp only [e] at h
      cases h
    | some d =>
      simp only [e] at h
      cases h
      obtain ⟨F, h1, h2⟩ := s.ow
      obtain ⟨a, q1, q2, q3⟩ := h1 i hi d e
      refine ⟨_, q1, t _ _ (.ref a) B H rfl ?_⟩
      unfold Ret
      rw [hrn]
      refine ⟨a, F i, rfl, ⟨s.b0, ⟨s.bh, fun b o hb => ?_⟩, ⟨F, fun j hj => ?_, fun j hj k hk hne => h2 j (s.pa j hj).1 k (s.pa k hk).1 hne (s.pa j hj).2.1 (s.pa k hk).2.1⟩⟩, fun x hx => (q3 x hx).2, hk ▸ q2⟩
      · by_cases z : b ∈ F i
        · rw [addF_in z] at hb
          exact ⟨hb, (q3 b z).1⟩
        · rw [addF_out z] at hb
          exact s.fr.fr b o hb
      · obtain ⟨z1, ⟨d2, z2⟩, z3⟩ := s.pa j hj
        obtain ⟨a2, z4, z5, z6⟩ := h1 j z1 d2 z2
        rw [z3] at z4
        cases z4
        refine ⟨d2, z2, z5, fun x hx => ⟨(z6 x hx).1, (addF_out fun z => ?_).trans (z6 x hx).2⟩⟩
        exact h2 j z1 i hi (fun e => hp (e ▸ hj)) ⟨d2, z2⟩ ⟨d, e⟩ x hx z
/-! ### for -/
def dforL (gd : DG) (f : DT) : List D → DS → Option Out
  | [], st => some (.nx st)
  | d :: r, st => match gd d st with
    | none => none
    | some st1 => match f st1 with
      | some (.nx st2) => dforL gd f r st2
      | some (.ct st2) => dforL gd f r st2
      | some (.bk st2) => some (.nx st2)
      | o => o
def dfor (fi : DM (List D)) (gd : DG) (f : DT) : DT := dexp fi fun ds st => dforL gd f ds st
/-- a turn of a for -/
theorem for_turn {vs : List Nat} {g : TG} {gd : DG} {tb : TS} {f : DT} (hv : ∀ i ∈ vs, i ∉ c.ow) (hg : EvG K (c.cf [] []) vs g gd) (hb : EvS K c tb f) {A0 : Nat → Addr} {Φ B0 B : Hp} {σ : L2.St} {H : Hp} {st : DS} {x : V} {d : D} {rs : List D} {r : Out} (s : SR K c A0 Φ B0 B σ H st) (rx : Rep K B x d)
    (hrun : dforL gd f (d :: rs) st = some r) (De : Ends) (N : L2.St → Hp → Prop) (hN : ∀ st' B' σ' H', SR K c A0 Φ B0 B' σ' H' st' → dforL gd f rs st' = some r → N σ' H')
    (n : ∀ st' B' σ' H', r = .nx st' → SR K c A0 Φ B0 B' σ' H' st' → De.nx σ' H') (t : ∀ d st' v B' H', r = .rt d st' → Ret K c A0 Φ B0 B' H' st' v d → De.rt v H')
    (xx : ∀ x fl st' dx B' H', r = .ex x fl st' → Fin K c A0 Φ B0 B' H' st' → Fld K B' H' dx fl → c.W (.ref x) dx H') : g x σ H fun σ2 H2 => tb { De with nx := N, ct := N, bk := De.nx } σ2 H2 := by
  unfold dforL at hrun
  cases eg : gd d st with
  | none =>
    simp only [eg] at hrun
    cases hrun
  | some st1 =>
    simp only [eg] at hrun
    refine s.target hv hg rx eg _ fun σ1 sr1 _ _ => ?_
    cases ef : f st1 with
    | none =>
      simp only [ef] at hrun
      cases hrun
    | some o =>
      refine hb A0 Φ B0 B σ1 H st1 o sr1 ef _ (fun st' B' σ' H' e sr => ?_) (fun st' B' σ' H' e sr => ?_) (fun st' B' σ' H' e sr => ?_) (fun d' st' v B' H' e rv => ?_) (fun y fl st' dx B' H' e fi fl' => ?_)
      · subst e
        simp only [ef] at hrun
        exact hN st' B' σ' H' sr hrun
      · subst e
        simp only [ef] at hrun
        exact n st' B' σ' H' (Option.some.inj hrun).symm sr
      · subst e
        simp only [ef] at hrun
        exact hN st' B' σ' H' sr hrun
      · subst e
        simp only [ef] at hrun
        exact t d' st' v B' H' (Option.some.inj hrun).symm rv
      · subst e
        simp only [ef] at hrun
        exact xx y fl st' dx B' H' (Option.some.inj hrun).symm fi fl'
theorem ev_for {vs : List Nat} {wi : TI} {fi : DM (List D)} {g : TG} {gd : DG} {tb : TS} {f : DT} (hv : ∀ i ∈ vs, i ∉ c.ow) (hi : EvE K c (WalkD K) wi fi) (hg : EvG K (c.cf [] []) vs g gd) (hb : EvS K c tb f) : EvS K c (tFor wi g tb) (dfor fi gd f) :=
  ev_exp (rel := WalkD K) (te := wi) (tk := fun J De σ H1 => ∃ W : Nat → Nat → L2.St → Hp → Prop, (∃ m, W 0 m σ H1) ∧ ∀ i m σ H, W i m σ H →
    (J.stop i H ∧ De.nx σ H) ∨ (J.go i H ∧ ∃ N : L2.St → Hp → Prop, (∀ σ' H', N σ' H' → ∃ m', m' < m ∧ W (i + 1) m' σ' H') ∧ ∀ x H', J.yld i H x H' → g x σ H' fun σ2 H2 => tb { De with nx := N, ct := N, bk := De.nx } σ2 H2))
    hi fun J ds A0 Φ B0 B σ H st r s wd h De n b k t xx => by
      obtain ⟨G, Y, w, hG, hY⟩ := wd
      have e1 := s.b0
      refine for_it w (fun i σ' H' => ∃ (Bi : Hp) (sti : DS), SR K c A0 Φ B Bi σ' H' sti ∧ dforL gd f (ds.drop i) sti = some r) ⟨B, st, s.rebase (fun _ _ q => q), h⟩ (fun i σ' H' _ ⟨Bi, sti, si, _⟩ => hG H' fun a o q => si.bh a o (si.b0 a o q)) ?_ ?_
      · rintro i x σ' H' H'' hi' ⟨Bi, sti, si, hrun⟩ y
        obtain ⟨Bi', d, pu, hd, rx⟩ := hY i H' x H'' y (fun a o q => si.bh a o (si.b0 a o q)) hi' Bi si.b0 si.bh
        have hds : ds.drop i = d :: ds.drop (i + 1) := by
          obtain ⟨h1, h2⟩ := List.getElem?_eq_some_iff.mp hd
          rw [← h2]
          exact List.drop_eq_getElem_cons h1
        rw [hds] at hrun
        exact for_turn hv hg hb (si.pu pu) rx hrun De _ (fun st' B' σ1 H1 sr hr => ⟨B', st', sr, hr⟩) (fun st' B' σ1 H1 e sr => n st' B' σ1 H1 e (sr.unbase e1)) (fun d' st' v B' H1 e rv => t d' st' v B' H1 e (rv.unbase e1))
          fun y fl st' dx B' H1 e fi fl' => xx y fl st' dx B' H1 e (fi.unbase e1) fl'
      · rintro σ' H' ⟨Bi, sti, si, hrun⟩
        rw [List.drop_length] at hrun
        cases hrun
        exact n _ _ _ _ rfl (si.unbase e1)

/-! ### while: n bounds its turns -/
def dwhile (ft : DM Bool) (f : DT) : Nat → DT
  | 0 => fun _ => none
  | n + 1 => dexp ft fun b => if b = true then (fun st => match f st with
    | some (.nx st2) => dwhile ft f n st2
    | some (.ct st2) => dwhile ft f n st2
    | some (.bk st2) => some (.nx st2)
    | o => o) else fun st => some (.nx st)
theorem ev_while {tt : TT} {ft : DM Bool} {tb : TS} {f : DT} (n : Nat) (ht : EvE K c eqR tt ft) (hb : EvS K c tb f) : EvS K c (tWhile tt tb) (dwhile ft f n) := fun A0 Φ B0 B σ H st r s h De nx b k t xx => by
  refine ⟨fun m σ' H' => ∃ (Bi : Hp) (sti : DS), SR K c A0 Φ B0 Bi σ' H' sti ∧ dwhile ft f m sti = some r, ⟨n, B, st, s, h⟩, ?_⟩
  rintro m σ' H' ⟨Bi, sti, si, hrun⟩
  cases m with
  | zero => cases hrun
  | succ m =>
    unfold dwhile at hrun
    cases et : ft sti with
    | none =>
      unfold dexp at hrun
      rw [et] at hrun
      cases hrun
    | some rt =>
      refine ht A0 Φ B0 Bi σ' H' sti rt si et _ (fun b0 st1 v B1 H1 e1 s1 _ rv => ?_) (fun y fl st1 dx B1 H1 e1 fi1 fl1 => ?_)
      · subst e1
        have e : v = b0 := rv
        subst e
        rw [dexp_ok et] at hrun
        cases v with
        | true =>
          rw [if_pos rfl]
          rw [if_pos rfl] at hrun
          refine ⟨fun σ2 H2 => ∃ (B2 : Hp) (st2 : DS), SR K c A0 Φ B0 B2 σ2 H2 st2 ∧ dwhile ft f m st2 = some r, fun σ2 H2 ⟨B2, st2, s2, h2⟩ => ⟨m, Nat.lt_succ_self m, B2, st2, s2, h2⟩, ?_⟩
          cases ef : f st1 with
          | none =>
            simp only [ef] at hrun
            cases hrun
          | some o =>
            refine hb A0 Φ B0 B1 σ' H1 st1 o s1 ef _ (fun st' B' σ1 H2 e sr => ?_) (fun st' B' σ1 H2 e sr => ?_) (fun st' B' σ1 H2 e sr => ?_) (fun d' st' v B' H2 e rv => ?_) (fun y fl st' dx B' H2 e fi fl' => ?_)
            · subst e
              simp only [ef] at hrun
              exact ⟨B', st', sr, hrun⟩
            · subst e
              simp only [ef] at hrun
              exact nx st' B' σ1 H2 (Option.some.inj hrun).symm sr
            · subst e
              simp only [ef] at hrun
              exact ⟨B', st', sr, hrun⟩
            · subst e
              simp only [ef] at hrun
              exact t d' st' v B' H2 (Option.some.inj hrun).symm rv
            · subst e
              simp only [ef] at hrun
              exact xx y fl st' dx B' H2 (Option.some.inj hrun).symm fi fl'
        | false =>
          rw [if_neg Bool.false_ne_true]
          rw [if_neg Bool.false_ne_true] at hrun
          cases hrun
          exact nx _ _ _ _ rfl s1
      · subst e1
        unfold dexp at hrun
        rw [et] at hrun
        exact xx y fl st1 dx B1 H1 (Option.some.inj hrun).symm fi1 fl1
end
end DR

set_option maxRecDepth 100000
set_option maxHeartbeats 1000000
namespace DR
open PySem PySem.Spec L2
open PyProof.Rows hiding St
open Evl (Ex ex_l ex_t ex_rd)

/-! ### places within an owned tree -/
inductive Stp where
  | key (x : Str)
  | fld (x : Str)
def dgetS (x : Str) : List (D × D) → Option D
  | [] => none
  | (.str y, d) :: r => if y = x then some d else dgetS x r
  | _ :: r => dgetS x r
def dputS (x : Str) (e : D) : List (D × D) → List (D × D)
  | [] => []
  | (.str y, d) :: r => if y = x then (.str y, e) :: r else (.str y, d) :: dputS x e r
  | q :: r => q :: dputS x e r
def getP : D → List Stp → Option D
  | d, [] => some d
  | .dict es, .key x :: r => match dgetS x es with
    | some d => getP d r
    | none => none
  | .dict ((.none, _) :: es), .fld x :: r => match dgetS x es with
    | some d => getP d r
    | none => none
  | _, _ => none
def putP : D → List Stp → D → D
  | _, [], e => e
  | .dict es, .key x :: r, e => match dgetS x es with
    | some d => .dict (dputS x (putP d r e) es)
    | none => .dict es
  | .dict ((.none, c) :: es), .fld x :: r, e => match dgetS x es with
    | some d => .dict ((.none, c) :: dputS x (putP d r e) es)
    | none => .dict ((.none, c) :: es)
  | d, _, _ => d
def goP (H : Hp) : Addr → List Stp → Option Addr
  | a, [] => some a
  | a, .key x :: r => match H a with
    | some (.dK kvs) => match valV kvs (Sum.inr x) with
      | some (.ref b) => goP H b r
      | _ => none
    | _ => none
  | a, .fld x :: r => match H a with
    | some (.ins _ _ fs) => match fs.lookup x with
      | some (.ref b) => goP H b r
      | _ => none
    | _ => none
def shpP : Shp → List Stp → Option Shp
  | s, [] => some s
  | .all s, .key _ :: r => shpP s r
  | .keys l, .key x :: r => match l.lookup x with
    | some s => shpP s r
    | none => none
  | .obj _ l, .fld x :: r => match l.lookup x with
    | some s => shpP s r
    | none => none
  | _, _ => none
section
variable {K : PySem.W.Frag} {B H : Hp}
theorem OwnK.sub {q : Key → Option Shp} {x : Str} {s : Shp} (hq : q (Sum.inr x) = some s) {d : D} : ∀ {F : List Addr} {kvs : List (Key × V)} {es : List (D × D)}, OwnK K B H q F kvs es → dgetS x es = some d →
    ∃ b G, valV kvs (Sum.inr x) = some (.ref b) ∧ Own K B H s G b d ∧ (∀ y ∈ G, y ∈ F) ∧
      ∀ H' G' e, Own K B H' s G' b e → (∀ y ∈ G', y ∈ G ∨ y ∉ F) → (∀ y ∈ F, y ∉ G → H' y = H y) → ∃ F', OwnK K B H' q F' kvs (dputS x e es) ∧ ∀ y ∈ F', y ∈ F ∨ y ∈ G'
  | _, _, _, .nil, h => nomatch h
  | F, _, _, .rep (k := k) (v := v) (d := d0) (ds := es0) hk r o, h => by
    cases k with
    | inl i =>
      obtain ⟨b, G, h1, h2, h3, h4⟩ := OwnK.sub hq o (show dgetS x _ = some d from h)
      refine ⟨b, G, by rw [valV_neg (by simp)]; exact h1, h2, h3, fun H' G' e o' hg hh => ?_⟩
      obtain ⟨F', h5, h6⟩ := h4 H' G' e o' hg hh
      exact ⟨F', .rep hk r h5, h6⟩
    | inr z =>
      by_cases hz : z = x
      · subst hz
        rw [hq] at hk
        cases hk
      · have h' : dgetS x es0 = some d := by
          unfold dgetS at h
          rw [show (kD (Sum.inr z)) = .str z from rfl] at h
          simp only [if_neg hz] at h
          exact h
        obtain ⟨b, G, h1, h2, h3, h4⟩ := OwnK.sub hq o h'
        refine ⟨b, G, by rw [valV_neg (by simpa using hz)]; exact h1, h2, h3, fun H' G' e o' hg hh => ?_⟩
        obtain ⟨F', h5, h6⟩ := h4 H' G' e o' hg hh
        refine ⟨F', ?_, h6⟩
        rw [show (kD (Sum.inr z)) = .str z from rfl]
        unfold dputS
        rw [if_neg hz]
        exact .rep hk r h5
  | _, _, _, .own (k := k) (b := b0) (d := d0) (ds := es0) (F := F) (G := G0) (s := s0) hk o0 o hd, h => by
    by_cases hkx : k = Sum.inr x
    · subst hkx
      rw [hq] at hk
      cases hk
      have h' : d0 = d := by
        rw [show (kD (Sum.inr x)) = .str x from rfl] at h
        unfold dgetS at h
        rw [if_pos rfl] at h
        exact Option.some.inj h
      subst h'
      refine ⟨b0, G0, valV_pos rfl, o0, fun y hy => List.mem_append_left _ hy, fun H' G' e o' hg hh => ⟨G' ++ F, ?_, fun y hy => ?_⟩⟩
      · rw [show (kD (Sum.inr x)) = .str x from rfl]
        unfold dputS
        rw [if_pos rfl]
        refine .own hq o' (o.mono (fun _ _ z => z) fun y hy => hh y (List.mem_append_right _ hy) fun z => hd y z hy) fun y hy hyF => ?_
        rcases hg y hy with z | z
        · exact hd y z hyF
        · exact z (List.mem_append_right _ hyF)
      · rcases List.mem_append.mp hy with z | z
        · exact .inr z
        · exact .inl (List.mem_append_right _ z)
    · have h' : dgetS x es0 = some d := by
        cases k with
        | inl i => exact h
        | inr z =>
          rw [show (kD (Sum.inr z)) = .str z from rfl] at h
          unfold dgetS at h
          rw [if_neg (fun e => hkx (by rw [e]))] at h
          exact h
      obtain ⟨b, G, h1, h2, h3, h4⟩ := OwnK.sub (d := d) hq o h'
      refine ⟨b, G, by rw [valV_neg hkx]; exact h1, h2, fun y hy => List.mem_append_right _ (h3 y hy), fun H' G' e o' hg hh => ?_⟩
      obtain ⟨F', h5, h6⟩ := h4 H' G' e o' (fun y hy => (hg y hy).imp id fun z w => z (List.mem_append_right _ w)) (fun y hy hn => hh y (List.mem_append_right _ hy) hn)
      have o0' : Own K B H' s0 G0 b0 d0 := o0.mono (fun _ _ z => z) fun y hy => hh y (List.mem_append_left _ hy) fun z => hd y hy (h3 y z)
      have hd' : ∀ y ∈ G0, y ∉ F' := fun y hy hyF => by
        rcases h6 y hyF with z | z
        · exact hd y hy z
        · rcases hg y z with w | w
          · exact hd y hy (h3 y w)
          · exact w (List.mem_append_left _ hy)
      refine ⟨G0 ++ F', ?_, fun y hy => ?_⟩
      · cases k with
        | inl i => exact .own hk o0' h5 hd'
        | inr z =>
          rw [show (kD (Sum.inr z)) = .str z from rfl]
          unfold dputS
          rw [if_neg (fun e => hkx (by rw [e]))]
          exact .own (k := Sum.inr z) hk o0' h5 hd'
      · rcases List.mem_append.mp hy with z | z
        · exact .inl (List.mem_append_left _ z)
        · exact (h6 y z).imp (List.mem_append_right _) id
theorem OwnF.sub {q : Str → Option Shp} {x : Str} {s : Shp} (hq : q x = some s) {d : D} : ∀ {F : List Addr} {kvs : List (Str × V)} {es : List (D × D)}, OwnF K B H q F kvs es → dgetS x es = some d →
    ∃ b G, kvs.lookup x = some (.ref b) ∧ Own K B H s G b d ∧ (∀ y ∈ G, y ∈ F) ∧
      ∀ H' G' e, Own K B H' s G' b e → (∀ y ∈ G', y ∈ G ∨ y ∉ F) → (∀ y ∈ F, y ∉ G → H' y = H y) → ∃ F', OwnF K B H' q F' kvs (dputS x e es) ∧ ∀ y ∈ F', y ∈ F ∨ y ∈ G'
  | _, _, _, .nil, h => nomatch h
  | F, _, _, .rep (k := z) (v := v) (d := d0) (ds := es0) hk r o, h => by
    by_cases hz : z = x
    · subst hz
      rw [hq] at hk
      cases hk
    · have h' : dgetS x es0 = some d := by
        unfold dgetS at h
        simp only [if_neg hz] at h
        exact h
      obtain ⟨b, G, h1, h2, h3, h4⟩ := OwnF.sub hq o h'
      refine ⟨b, G, by rw [List.lookup_cons, beq_eq_false_iff_ne.mpr (Ne.symm hz)]; exact h1, h2, h3, fun H' G' e o' hg hh => ?_⟩
      obtain ⟨F', h5, h6⟩ := h4 H' G' e o' hg hh
      refine ⟨F', ?_, h6⟩
      unfold dputS
      rw [if_neg hz]
      exact .rep hk r h5
  | _, _, _, .own (k := z) (b := b0) (d := d0) (ds := es0) (F := F) (G := G0) (s := s0) hk o0 o hd, h => by
    by_cases hz : z = x
    · subst hz
      rw [hq] at hk
      cases hk
      have h' : d0 = d := by
        unfold dgetS at h
        rw [if_pos rfl] at h
        exact Option.some.inj h
      subst h'
      refine ⟨b0, G0, by rw [List.lookup_cons, beq_self_eq_true], o0, fun y hy => List.mem_append_left _ hy, fun H' G' e o' hg hh => ⟨G' ++ F, ?_, fun y hy => ?_⟩⟩
      · unfold dputS
        rw [if_pos rfl]
        refine .own hq o' (o.mono (fun _ _ z => z) fun y hy => hh y (List.mem_append_right _ hy) fun z => hd y z hy) fun y hy hyF => ?_
        rcases hg y hy with z | z
        · exact hd y z hyF
        · exact z (List.mem_append_right _ hyF)
      · rcases List.mem_append.mp hy with z | z
        · exact .inr z
        · exact .inl (List.mem_append_right _ z)
    · have h' : dgetS x es0 = some d := by
        unfold dgetS at h
        rw [if_neg hz] at h
        exact h
      obtain ⟨b, G, h1, h2, h3, h4⟩ := OwnF.sub (d := d) hq o h'
      refine ⟨b, G, by rw [List.lookup_cons, beq_eq_false_iff_ne.mpr (Ne.symm hz)]; exact h1, h2, fun y hy => List.mem_append_right _ (h3 y hy), fun H' G' e o' hg hh => ?_⟩
      obtain ⟨F', h5, h6⟩ := h4 H' G' e o' (fun y hy => (hg y hy).imp id fun z w => z (List.mem_append_right _ w)) (fun y hy hn => hh y (List.mem_append_right _ hy) hn)
      have o0' : Own K B H' s0 G0 b0 d0 := o0.mono (fun _ _ z => z) fun y hy => hh y (List.mem_append_left _ hy) fun z => hd y hy (h3 y z)
      have hd' : ∀ y ∈ G0, y ∉ F' := fun y hy hyF => by
        rcases h6 y hyF with z | z
        · exact hd y hy z
        · rcases hg y z with w | w
          · exact hd y hy (h3 y w)
          · exact w (List.mem_append_left _ hy)
      refine ⟨G0 ++ F', ?_, fun y hy => ?_⟩
      · unfold dputS
        rw [if_neg hz]
        exact .own hk o0' h5 hd'
      · rcases List.mem_append.mp hy with z | z
        · exact .inl (List.mem_append_left _ z)
        · exact (h6 y z).imp (List.mem_append_right _) id
theorem Own.path : ∀ {p : List Stp} {s u : Shp} {F : List Addr} {a : Addr} {d e0 : D}, Own K B H s F a d → shpP s p = some u → getP d p = some e0 →
    ∃ b G, goP H a p = some b ∧ Own K B H u G b e0 ∧ (∀ y ∈ G, y ∈ F) ∧
      ∀ H' G' e, Own K B H' u G' b e → (∀ y ∈ G', y ∈ G ∨ y ∉ F) → (∀ y ∈ F, y ∉ G → H' y = H y) → ∃ F', Own K B H' s F' a (putP d p e) ∧ ∀ y ∈ F', y ∈ F ∨ y ∈ G'
  | [], s, u, F, a, d, e0, o, hs, hg => by
    cases hs
    cases hg
    exact ⟨a, F, rfl, o, fun _ h => h, fun H' G' e o' h1 h2 => ⟨G', o', fun y hy => .inr hy⟩⟩
  | .key x :: r, s, u, F, a, d, e0, o, hs, hg => by
    cases o with
    | lst z h1 o m =>
      unfold getP at hg
      cases hg
    | ins h1 h2 h3 o m l =>
      cases hs
    | @dct _ q _ kvs es F z h1 h2 o m =>
      have hg0 : (match dgetS x es with | some d => getP d r | none => none) = some e0 := hg
      cases e : dgetS x es with
      | none =>
        rw [e] at hg0
        cases hg0
      | some d1 =>
        rw [e] at hg0
        obtain ⟨s1, hq, hs1⟩ : ∃ s1, q (Sum.inr x) = some s1 ∧ shpP s1 r = some u := by
          cases s with
          | flat => cases hs
          | all s1 =>
            cases z
            exact ⟨s1, rfl, hs⟩
          | keys l =>
            cases z
            have hs' : (match l.lookup x with | some s => shpP s r | none => none) = some u := hs
            cases el : l.lookup x with
            | none =>
              rw [el] at hs'
              cases hs'
            | some s1 =>
              rw [el] at hs'
              exact ⟨s1, el, hs'⟩
          | obj y l => cases z
        obtain ⟨b1, G1, g1, o1, g2, g3⟩ := o.sub hq e
        obtain ⟨b, G, k1, o2, k2, k3⟩ := Own.path (p := r) o1 hs1 hg0
        refine ⟨b, G, ?_, o2, fun y hy => List.mem_cons_of_mem _ (g2 y (k2 y hy)), fun H' G' e' o' hG hH => ?_⟩
        · unfold goP
          simp only [h1, g1]
          exact k1
        · obtain ⟨F1, o3, k4⟩ := k3 H' G' e' o' (fun y hy => (hG y hy).imp id fun w z => w (List.mem_cons_of_mem _ (g2 y z))) (fun y hy hn => hH y (List.mem_cons_of_mem _ (g2 y hy)) hn)
          have hab : a ∉ G := fun w => m (g2 a (k2 a w))
          have hF1 : ∀ y ∈ F1, y ∈ G1 ∨ y ∉ F := fun y hy => by
            rcases k4 y hy with w | w
            · exact .inl w
            · rcases hG y w with w | w
              · exact .inl (k2 y w)
              · exact .inr fun v => w (List.mem_cons_of_mem _ v)
          obtain ⟨F2, o4, k5⟩ := g3 H' F1 (putP d1 r e') o3 hF1 (fun y hy hn => hH y (List.mem_cons_of_mem _ hy) fun w => hn (k2 y w))
          refine ⟨a :: F2, ?_, fun y hy => ?_⟩
          · have : putP (.dict es) (.key x :: r) e' = .dict (dputS x (putP d1 r e') es) := by
              show (match dgetS x es with | some d => _ | none => _) = _
              rw [e]
            rw [this]
            refine .dct z ((hH a List.mem_cons_self hab).trans h1) h2 o4 fun w => ?_
            rcases k5 a w with w | w
            · exact m w
            · rcases k4 a w with v | v
              · exact m (g2 a v)
              · rcases hG a v with v | v
                · exact hab v
                · exact v List.mem_cons_self
          · rcases List.mem_cons.mp hy with rfl | hy
            · exact .inl List.mem_cons_self
            · rcases k5 y hy with w | w
              · exact .inl (List.mem_cons_of_mem _ w)
              · rcases k4 y w with v | v
                · exact .inl (List.mem_cons_of_mem _ (g2 y v))
                · exact .inr v
  | .fld x :: r, s, u, F, a, d, e0, o, hs, hg => by
    cases o with
    | lst z h1 o m =>
      unfold getP at hg
      cases hg
    | dct z h1 h2 o m =>
      cases s with
      | flat => cases hs
      | all s1 => cases hs
      | keys l => cases hs
      | obj y l => cases z
    | @ins l _ dx cx fs es F h1 h2 h3 o m ml =>
      have hg0 : (match dgetS x es with | some d => getP d r | none => none) = some e0 := hg
      cases e : dgetS x es with
      | none =>
        rw [e] at hg0
        cases hg0
      | some d1 =>
        rw [e] at hg0
        obtain ⟨s1, hq, hs1⟩ : ∃ s1, l.lookup x = some s1 ∧ shpP s1 r = some u := by
          have hs' : (match l.lookup x with | some s => shpP s r | none => none) = some u := hs
          cases el : l.lookup x with
          | none =>
            rw [el] at hs'
            cases hs'
          | some s1 =>
            rw [el] at hs'
            exact ⟨s1, rfl, hs'⟩
        obtain ⟨b1, G1, g1, o1, g2, g3⟩ := o.sub hq e
        obtain ⟨b, G, k1, o2, k2, k3⟩ := Own.path (p := r) o1 hs1 hg0
        have up : ∀ {y}, y ∈ F → y ∈ a :: dx :: F := fun hy => List.mem_cons_of_mem _ (List.mem_cons_of_mem _ hy)
        refine ⟨b, G, ?_, o2, fun y hy => up (g2 y (k2 y hy)), fun H' G' e' o' hG hH => ?_⟩
        · unfold goP
          simp only [h1, g1]
          exact k1
        · obtain ⟨F1, o3, k4⟩ := k3 H' G' e' o' (fun y hy => (hG y hy).imp id fun w z => w (up (g2 y z))) (fun y hy hn => hH y (up (g2 y hy)) hn)
          have hab : a ∉ G := fun w => m (g2 a (k2 a w))
          have hdb : dx ∉ G := fun w => ml (g2 dx (k2 dx w))
          have hF1 : ∀ y ∈ F1, y ∈ G1 ∨ y ∉ F := fun y hy => by
            rcases k4 y hy with w | w
            · exact .inl w
            · rcases hG y w with w | w
              · exact .inl (k2 y w)
              · exact .inr fun v => w (up v)
          obtain ⟨F2, o4, k5⟩ := g3 H' F1 (putP d1 r e') o3 hF1 (fun y hy hn => hH y (up hy) fun w => hn (k2 y w))
          have out : ∀ y, y ∉ F → y ∈ a :: dx :: F → y ∉ G → y ∉ F2 := fun y hn hi hg w => by
            rcases k5 y w with w | w
            · exact hn w
            · rcases k4 y w with v | v
              · exact hn (g2 y v)
              · rcases hG y v with v | v
                · exact hg v
                · exact v hi
          refine ⟨a :: dx :: F2, ?_, fun y hy => ?_⟩
          · have : putP (.dict ((.none, .str cx) :: es)) (.fld x :: r) e' = .dict ((.none, .str cx) :: dputS x (putP d1 r e') es) := by
              show (match dgetS x es with | some d => _ | none => _) = _
              rw [e]
            rw [this]
            exact .ins ((hH a List.mem_cons_self hab).trans h1) ((hH dx (List.mem_cons_of_mem _ List.mem_cons_self) hdb).trans h2) h3 o4 (out a m List.mem_cons_self hab) (out dx ml (List.mem_cons_of_mem _ List.mem_cons_self) hdb)
          · rcases List.mem_cons.mp hy with rfl | hy
            · exact .inl List.mem_cons_self
            · rcases List.mem_cons.mp hy with rfl | hy
              · exact .inl (List.mem_cons_of_mem _ List.mem_cons_self)
              · rcases k5 y hy with w | w
                · exact .inl (up w)
                · rcases k4 y w with v | v
                  · exact .inl (up (g2 y v))
                  · exact .inr v
end

/-! ### an owned object changes -/
section
variable {K : PySem.W.Frag} {c : Cf} {A : Nat → Addr} {Z : Zn} {B H : Hp} {σ : L2.St} {st : DS}
theorem ER.change {X : List Addr} (er : ER K c A (Z.add H X) B σ H st) (hX : ∀ x ∈ X, Z.fr x = none) (hX2 : ∀ x ∈ X, ∃ o, H x = some o) {i : Nat} (hi : i ∈ c.ps) {p : List Stp} {d0 e0 : D} {u : Shp} (hd : st[i]? = some (some d0)) (hs : shpP (c.kd.getD i .flat) p = some u) (hg : getP d0 p = some e0) :
    σ[i]? = some (some (.ref (A i))) ∧ ∃ b G, goP H (A i) p = some b ∧ Own K (cut B Z.z) H u G b e0 ∧ (∀ y ∈ G, B y = none ∧ Z.fr y = none ∧ y ∉ X) ∧
      ∀ H' G' e, Own K (cut B Z.z) H' u G' b e → (∀ y ∈ G', y ∈ G ∨ y ∈ X) → (∀ y, y ∉ G → H' y = H y) → ER K c A Z B σ H' (st.set i (some (putP d0 p e))) ∧ Adv c.ps A B H st B H' (st.set i (some (putP d0 p e))) := by
  obtain ⟨F, h1, h2⟩ := er.pn
  obtain ⟨d, q1, q2, q3, q4⟩ := h1 i hi
  rw [hd] at q1
  cases q1
  have q5 : ∀ j ∈ c.ps, ∀ x ∈ F j, x ∉ X ∧ Z.fr x = none := fun j hj x hx => by
    obtain ⟨_, _, _, _, w⟩ := h1 j hj
    exact addF_none (w x hx).2 (hX2 x)
  obtain ⟨b, G, g1, g2, g3, g4⟩ := q3.path hs hg
  refine ⟨q2, b, G, g1, g2, fun y hy => ⟨(q4 y (g3 y hy)).1, (q5 i hi y (g3 y hy)).2, (q5 i hi y (g3 y hy)).1⟩, fun H' G' e o' hG hH => ?_⟩
  obtain ⟨F', o2, g5⟩ := g4 H' G' e o' (fun y hy => (hG y hy).imp id fun w z => (q5 i hi y z).1 w) fun y _ hn => hH y hn
  have hF' : ∀ y ∈ F', y ∈ F i ∨ y ∈ X := fun y hy => by
    rcases g5 y hy with w | w
    · exact .inl w
    · exact (hG y w).imp (g3 y) id
  have hXb : ∀ x ∈ X, B x = none := fun x hx => by
    obtain ⟨o, ho⟩ := hX2 x hx
    exact (er.fr x o ((addF_in hx).trans ho)).2
  have hil : i < st.length := (List.getElem?_eq_some_iff.mp hd).1
  refine ⟨⟨?_, fun a o h => ?_, fun j d' h3 h4 h => ?_, ⟨fun j => if j = i then F' else F j, fun j hj => ?_, fun j hj k hk hjk x hx => ?_⟩, fun a o h => ?_, er.zx, er.zo⟩, ⟨fun _ _ h => h, List.length_set, fun j h => List.getElem?_set_ne (show i ≠ j from fun z => h (z ▸ hi)), fun j d' h => ?_⟩⟩
  · rw [List.length_set]
    exact er.len
  · rw [hH a fun z => ?_]
    · exact er.bh a o h
    · rw [(q4 a (g3 a z)).1] at h
      cases h
  · rw [List.getElem?_set_ne (show i ≠ j from fun z => h4 (z ▸ hi))] at h
    exact er.rd j d' h3 h4 h
  · by_cases hji : j = i
    · subst hji
      simp only [if_true]
      refine ⟨_, List.getElem?_set_self hil, q2, o2, fun x hx => ?_⟩
      rcases hF' x hx with w | w
      · exact ⟨(q4 x w).1, (q5 j hj x w).2⟩
      · exact ⟨hXb x w, hX x w⟩
    · simp only [if_neg hji]
      obtain ⟨d', s1, s2, s3, s4⟩ := h1 j hj
      refine ⟨d', by rw [List.getElem?_set_ne (Ne.symm hji)]; exact s1, s2, s3.mono (fun _ _ z => z) (fun x hx => hH x fun z => h2 j hj i hi hji x hx (g3 x z)), fun x hx => ⟨(s4 x hx).1, (q5 j hj x hx).2⟩⟩
  · by_cases hji : j = i
    · subst hji
      simp only [if_true] at hx
      simp only [if_neg (Ne.symm hjk)]
      intro hxk
      rcases hF' x hx with w | w
      · exact h2 j hj k hk hjk x w hxk
      · exact (q5 k hk x hxk).1 w
    · simp only [if_neg hji] at hx
      by_cases hki : k = i
      · subst hki
        simp only [if_true]
        intro hxk
        rcases hF' x hxk with w | w
        · exact h2 j hj k hk hjk x hx w
        · exact (q5 j hj x hx).1 w
      · simp only [if_neg hki]
        exact h2 j hj k hk hjk x hx
  · have hn : a ∉ X := fun z => by
      rw [hX a z] at h
      cases h
    obtain ⟨w1, w2⟩ := er.fr a o ((addF_out hn).trans h)
    refine ⟨(hH a fun z => ?_).trans w1, w2⟩
    rw [(q5 i hi a (g3 a z)).2] at h
    cases h
  · by_cases hji : i = j
    · subst hji
      exact ⟨d0, hd⟩
    · rw [List.getElem?_set_ne hji] at h
      exact ⟨d', h⟩
/-- one pen hidden: it stays -/
abbrev Cf.no (c : Cf) (i : Nat) : Cf := { c with hid := i :: c.hid, ps := c.ps.filter fun j => decide (j ≠ i) }
theorem ER.hide (er : ER K c A Z B σ H st) {i : Nat} (hi : i ∈ c.ps) : ∃ F d, st[i]? = some (some d) ∧ σ[i]? = some (some (.ref (A i))) ∧ Own K (cut B Z.z) H (c.kd.getD i .flat) F (A i) d ∧ ER K (c.no i) A (Z.add H F) B σ H st ∧
    (∀ B1 H1 st1, ER K (c.no i) A (Z.add H F) B1 σ H1 st1 → Adv (c.no i).ps A B H st B1 H1 st1 → ER K c A Z B1 σ H1 st1 ∧ Adv c.ps A B H st B1 H1 st1 ∧ (∀ x ∈ F, H1 x = H x) ∧ st1[i]? = st[i]?) ∧
    ∀ X B1 H1 st1, (∀ x ∈ X, (Z.add H F).fr x = none) → (∀ x ∈ X, ∃ o, H1 x = some o) → ER K (c.no i) A ((Z.add H F).add H1 X) B1 σ H1 st1 → Adv (c.no i).ps A B H st B1 H1 st1 → ER K c A (Z.add H1 X) B1 σ H1 st1 ∧ Adv c.ps A B H st B1 H1 st1 ∧ (∀ x ∈ F, H1 x = H x) ∧ st1[i]? = st[i]? ∧ ∀ x ∈ X, Z.fr x = none := by
  obtain ⟨F, h1, h2⟩ := er.pn
  obtain ⟨d, q1, q2, q3, q4⟩ := h1 i hi
  have hn : i ∉ (c.no i).ps := fun z => (of_decide_eq_true (List.mem_filter.mp z).2) rfl
  have inps : ∀ j, j ∈ (c.no i).ps → j ∈ c.ps ∧ j ≠ i := fun j hj => by
    obtain ⟨z1, z2⟩ := List.mem_filter.mp hj
    exact ⟨z1, of_decide_eq_true z2⟩
  have back : ∀ X B1 H1 st1, (∀ x ∈ X, (Z.add H (F i)).fr x = none) → (∀ x ∈ X, ∃ o, H1 x = some o) → ER K (c.no i) A ((Z.add H (F i)).add H1 X) B1 σ H1 st1 → Adv (c.no i).ps A B H st B1 H1 st1 → ER K c A (Z.add H1 X) B1 σ H1 st1 ∧ Adv c.ps A B H st B1 H1 st1 ∧ (∀ x ∈ F i, H1 x = H x) ∧ st1[i]? = st[i]? ∧ ∀ x ∈ X, Z.fr x = none := fun X B1 H1 st1 hX hX2 er1 ad => by
    have hXF : ∀ x ∈ X, x ∉ F i ∧ Z.fr x = none := fun x hx => addF_none (hX x hx) (q3.has x)
    have hFx : ∀ x ∈ F i, H1 x = H x ∧ B1 x = none := fun x hx => by
      obtain ⟨o, ho⟩ := q3.has x hx
      obtain ⟨w1, w2⟩ := er1.fr x o ((addF_out fun z => (hXF x z).1 hx).trans ((addF_in hx).trans ho))
      exact ⟨w1.trans ho.symm, w2⟩
    obtain ⟨G, g1, g2⟩ := er1.pn
    have gx : ∀ j, j ∈ (c.no i).ps → ∀ x ∈ G j, x ∉ X ∧ x ∉ F i ∧ Z.fr x = none ∧ B1 x = none := fun j hj x hx => by
      obtain ⟨_, _, _, _, w⟩ := g1 j hj
      obtain ⟨w1, w2⟩ := addF_none (w x hx).2 (hX2 x)
      obtain ⟨w3, w4⟩ := addF_none w2 (q3.has x)
      exact ⟨w1, w3, w4, (w x hx).1⟩
    have ups : ∀ j, j ∈ c.ps → j ≠ i → j ∈ (c.no i).ps := fun j hj hne => List.mem_filter.mpr ⟨hj, decide_eq_true hne⟩
    refine ⟨⟨er1.len, er1.bh, fun j d' h3 h4 h => er1.rd j d' (fun z => ?_) (fun z => h4 (inps j z).1) h, ⟨fun j => if j = i then F i else G j, fun j hj => ?_, fun j hj k hk hjk x hx => ?_⟩, fun a o h => ?_, er1.zx, er1.zo⟩, ⟨ad.ext, ad.ln, fun j h => ad.upd j fun z => h (inps j z).1, ad.pst⟩, fun x hx => (hFx x hx).1, ad.upd i hn, fun x hx => (hXF x hx).2⟩
    · rcases List.mem_cons.mp z with e | z
      · exact h4 (e ▸ hi)
      · exact h3 z
    · by_cases hji : j = i
      · subst hji
        simp only [if_true]
        refine ⟨d, (ad.upd j hn).trans q1, q2, q3.mono (cut_mono ad.ext) (fun x hx => (hFx x hx).1), fun x hx => ⟨(hFx x hx).2, (addF_out fun z => (hXF x z).1 hx).trans (q4 x hx).2⟩⟩
      · simp only [if_neg hji]
        obtain ⟨d', s1, s2, s3, s4⟩ := g1 j (ups j hj hji)
        exact ⟨d', s1, s2, s3, fun x hx => ⟨(s4 x hx).1, (addF_out (gx j (ups j hj hji) x hx).1).trans (gx j (ups j hj hji) x hx).2.2.1⟩⟩
    · by_cases hji : j = i
      · subst hji
        simp only [if_true] at hx
        simp only [if_neg (Ne.symm hjk)]
        exact fun hxk => (gx k (ups k hk (Ne.symm hjk)) x hxk).2.1 hx
      · simp only [if_neg hji] at hx
        by_cases hki : k = i
        · subst hki
          simp only [if_true]
          exact (gx j (ups j hj hji) x hx).2.1
        · simp only [if_neg hki]
          exact g2 j (ups j hj hji) k (ups k hk hki) hjk x hx
    · by_cases hx : a ∈ X
      · exact er1.fr a o ((addF_in hx).trans ((addF_in hx).symm.trans h))
      · have h' : Z.fr a = some o := (addF_out hx).symm.trans h
        have hnF : a ∉ F i := fun z => by
          rw [(q4 a z).2] at h'
          cases h'
        exact er1.fr a o ((addF_out hx).trans ((addF_out hnF).trans h'))
  refine ⟨F i, d, q1, q2, q3, ⟨er.len, er.bh, fun j d' h3 h4 h => er.rd j d' (fun z => h3 (List.mem_cons_of_mem _ z)) (fun z => ?_) h, ⟨F, fun j hj => ?_, fun j hj k hk => h2 j (inps j hj).1 k (inps k hk).1⟩, fun a o h => ?_, er.zx, er.zo⟩, fun B1 H1 st1 er1 ad => ?_, back⟩
  · by_cases hji : j = i
    · exact h3 (List.mem_cons.mpr (.inl hji))
    · exact h4 (List.mem_filter.mpr ⟨z, decide_eq_true hji⟩)
  · obtain ⟨d', s1, s2, s3, s4⟩ := h1 j (inps j hj).1
    exact ⟨d', s1, s2, s3, fun x hx => ⟨(s4 x hx).1, (addF_out fun z => h2 j (inps j hj).1 i hi (inps j hj).2 x hx z).trans (s4 x hx).2⟩⟩
  · by_cases z : a ∈ F i
    · exact ⟨(addF_in z).symm.trans h, (q4 a z).1⟩
    · exact er.fr a o ((addF_out z).symm.trans h)
  · obtain ⟨w1, w2, w3, w4, _⟩ := back [] B1 H1 st1 (fun _ h => nomatch h) (fun _ h => nomatch h) (by rw [Zn.add_nil]; exact er1) ad
    rw [Zn.add_nil] at w1
    exact ⟨w1, w2, w3, w4⟩
end

/-! ### places read -/
structure PDPl (X : Cx) (c : Cf) (i : Nat) (p : List Stp) (e : Expr) (te : TE) : Prop where
  pe : PE X e te
  rd : ∀ (A : Nat → Addr) (σ : L2.St) (H : Hp) (B : Hp) (F : List Addr) (d0 e0 : D), σ[i]? = some (some (.ref (A i))) → Own X.K B H (c.kd.getD i .flat) F (A i) d0 → (∃ u, shpP (c.kd.getD i .flat) p = some u) → getP d0 p = some e0 → ∃ b, goP H (A i) p = some b ∧ ∀ Q : VK, Q (.ref b) H → te σ H Q
theorem pl_var {X : Cx} {c : Cf} (i : Nat) {x : Str} {pos : Pos} (hN : X.N[i]? = some x := by rfl) (hv : Vis X.env.scope x := by first | exact Or.inl rfl | exact Or.inr (Or.inl rfl) | exact Or.inr (Or.inr rfl)) (hd : (x == ("__debug__" : Str)) = false := by decide) (hcd : (x == ("__classdict__" : Str)) = false := by decide) :
    PDPl X c i [] (.Name x pos) (tVar i) := ⟨pv i hN hv hd hcd, fun A σ H B F d0 e0 hs o _ hg => ⟨A i, rfl, fun Q q => ⟨_, hs, q⟩⟩⟩
/-- self.f, f an owned field -/
theorem pl_fld0 {X : Cx} {c : Cf} {i : Nat} {cx f : Str} {l : List (Str × Shp)} {e : Expr} {te : TE} {pos : Pos} (hk : c.kd.getD i .flat = .obj cx l) (hp : PDPl X c i [] e te) (hc : Cls X.K (He.ga X.K cx)) (hn : NoAttr X.K (He.ga X.K cx) f) (hb : attributeBase e f X.env (eval e X.env) = eval e X.env := by rfl) : PDPl X c i [.fld f] (.Attribute e f pos) (tFld X.K te f) := by
  refine ⟨pe_fld hp.pe hb, fun A σ H B F d0 e0 hs o ⟨u, hu⟩ hg => ?_⟩
  obtain ⟨b0, h0, h1⟩ := hp.rd A σ H B F d0 d0 hs o ⟨_, rfl⟩ rfl
  cases h0
  obtain ⟨b, G, g1, g2, g3, g4⟩ := o.path hu hg
  rw [hk] at o
  cases o with
  | lst z _ _ _ => cases z
  | dct z _ _ _ _ => cases z
  | ins w1 w2 w3 o m ml =>
    refine ⟨b, g1, fun Q q => h1 _ ⟨_, _, _, _, _, rfl, w1, hc, hn, ?_, q⟩⟩
    unfold goP at g1
    rw [w1] at g1
    dsimp only at g1
    split at g1
    · rename_i b1 e1
      cases g1
      exact e1
    · cases g1
/-- d['k'], k an owned part -/
theorem pl_key0 {X : Cx} {c : Cf} {i : Nat} {z : Str} {e : Expr} {te : TE} {p1 pos : Pos} {j : Nat} (hu : X.A.units + 1 < cLine) (hp : PDPl X c i [] e te) (hk : ∀ x l, c.kd.getD i .flat ≠ .obj x l := by intro x l h; cases h) : PDPl X c i [.key z] (.Subscript e (.Constant (.str z) j p1) pos) (tDGet te (tC (.str z))) := by
  refine ⟨pe_dget hu hp.pe pe_str (fun _ _ => rfl), fun A σ H B F d0 e0 hs o ⟨u, hu⟩ hg => ?_⟩
  obtain ⟨b0, h0, h1⟩ := hp.rd A σ H B F d0 d0 hs o ⟨_, rfl⟩ rfl
  cases h0
  obtain ⟨b, G, g1, g2, g3, g4⟩ := o.path hu hg
  generalize hkd : c.kd.getD i .flat = kd at o
  cases o with
  | lst z1 _ _ _ =>
    unfold getP at hg
    cases hg
  | ins w1 w2 w3 o m ml => exact absurd hkd (hk _ _)
  | dct z1 w1 w2 o m =>
    refine ⟨b, g1, fun Q q => h1 _ ⟨_, .ref b, rfl, ?_, q⟩⟩
    unfold goP at g1
    rw [w1] at g1
    dsimp only at g1
    split at g1
    · rename_i b1 e1
      cases g1
      rw [← e1]
      exact DGet.k (k := Sum.inr z) w1
    · cases g1
structure PDSs (X : Cx) (c : Cs) (b : List Stmt) (t : TS) (f : DT) : Prop where
  ps : PSs X b t
  ev : EvS X.K c t f
structure PDS (X : Cx) (c : Cs) (b : Stmt) (t : TS) (f : DT) : Prop where
  ps : PS X b t
  ev : EvS X.K c t f
abbrev W0 : XK := fun _ _ _ => False
end DR

set_option maxRecDepth 100000
set_option maxHeartbeats 1000000
namespace DR
open PySem PySem.Spec L2
open PyProof.Rows hiding St
open Evl (Ex ex_l ex_t ex_rd)

/-! ### new objects, by values -/
theorem Zn.fresh {K : PySem.W.Frag} {c : Cf} {A : Nat → Addr} {Z : Zn} {B H : Hp} {σ : L2.St} {st : DS} (er : ER K c A Z B σ H st) {p : Addr} (h : H p = none) : Z.fr p = none := by
  cases q : Z.fr p with
  | none => rfl
  | some u =>
    rw [(er.fr p u q).1] at h
    cases h
def RNew {α β : Type} (s : Shp) (K : PySem.W.Frag) (rel : Hp → α → β → Prop) (r : α → Hp → VK → Prop) (g : β → Option D) : Prop := ∀ (v : α) (b : β) (dz : D) (B H : Hp), Ex B H → rel B v b → g b = some dz →
  ∀ Q : VK, (∀ p B' H1 o, Pu B H B' H1 → H p = none → H1 p = none → Own K B' (upd H1 p o) s [p] p dz → Q (.ref p) (upd H1 p o)) → r v H Q
theorem evn_val {α β : Type} {s : Shp} {K : PySem.W.Frag} {c : Cf} {rel : Hp → α → β → Prop} {ta : TG0 α} {fa : DM β} {r : α → Hp → VK → Prop} {g : β → Option D} (ha : EvP K c (fun _ => True) rel ta fa) (hr : RNew s K rel r g) : EvN s K c (fun σ H Q => ta σ H fun v H1 => r v H1 Q) (fa.bind fun b => DM.opt (g b)) := by
  intro A Z B σ H st ro er hf Q hok hex
  cases ea : fa st with
  | none =>
    unfold DM.bind at hf
    rw [ea] at hf
    cases hf
  | some ra =>
    obtain ⟨ra, st1⟩ := ra
    refine ha A Z B σ H st _ er True.intro ea _ (fun b st1' e1 v B1 H1 er1 ad1 rv => ?_) (fun y fl st1' e1 dx B1 H1 er1 ad1 fl1 => ?_)
    · cases e1
      rw [bind_ok ea] at hf
      obtain ⟨dz, h1, rfl⟩ := Option.map_eq_some_iff.mp hf
      refine hr v b dz B1 H1 er1.bh rv h1 Q fun p B2 H2 o pu hp hp2 ow => ?_
      have er2 := er1.pu pu
      exact hok _ st1 rfl p [p] B2 _ (er2.new hp2) ((ad1.trans pu.adv).more fun _ _ q => q) (fun x hx => by rw [List.mem_singleton.mp hx]; exact Zn.fresh er1 hp) ow
    · cases e1
      rw [bind_ex ea] at hf
      exact hex y fl st1 (Option.some.inj hf).symm dx B1 H1 er1 ad1 fl1
theorem Own.lst1 {K : PySem.W.Frag} {B H : Hp} {p : Addr} {xs : List V} {ds : List D} (r : RepA K B xs ds) : Own K B (upd H p (.lst xs)) .flat [p] p (.list ds) := .lst rfl upd_same (OwnA.of r) (by simp)
theorem Own.dct1 {K : PySem.W.Frag} {B H : Hp} {p : Addr} {kvs : List (Key × V)} {ds : List (D × D)} (n : (kvs.map (·.1)).Nodup) (r : RepK K B kvs ds) : Own K B (upd H p (.dK kvs)) .flat [p] p (.dict ds) := .dct rfl upd_same n (OwnK.of r) (by simp)
section
variable {X : Cx} {cf : Cf} {pos : Pos}
theorem pdn_lst {es : List Expr} {t : TA} {f : DM (List D)} (h : PDA X cf es t f) : PDN .flat X cf (.List es pos) (tLst t) (dlst f) :=
  ⟨pe_lst h.pa, evn_val (r := fun xs H Q => xs.length ≤ sizeLine ∧ ∀ p, H p = none → Q (.ref p) (upd H p (.lst xs))) h.ev fun v b dz B H e rv hg Q q => by
    obtain ⟨hl, rfl⟩ := opt_if hg
    exact ⟨by rw [rv.length]; exact hl, fun p hp => q p B H _ (Pu.refl e) hp hp (Own.lst1 rv)⟩⟩
/-- [] of any shape -/
theorem pdn_nil {s : Shp} {o : Option Shp} (hs : s.selL = some o := by rfl) : PDN s X cf (.List [] pos) (tLst tNil) (dlst dnil) :=
  ⟨pe_lst pa_nil, evn_val (rel := fun _ xs ds => xs = [] ∧ ds = []) (r := fun xs H Q => xs.length ≤ sizeLine ∧ ∀ p, H p = none → Q (.ref p) (upd H p (.lst xs))) (EvP.pure fun _ _ => ⟨rfl, rfl⟩) fun v b dz B H e rv hg Q q => by
    obtain ⟨rfl, rfl⟩ := rv
    obtain ⟨hl, rfl⟩ := opt_if hg
    exact ⟨Nat.zero_le _, fun p hp => q p B H (.lst []) (Pu.refl e) hp hp (.lst hs upd_same .nil (by simp))⟩⟩
end
/-! ### modes -/
section
variable {X : Cx} {c : Cs} {st : Stmt} {rest : List Stmt} {t u : TS} {f f2 : DT} {e : Expr} {te : TE} {fe : DM D} {pos : Pos} {J R : List Nat}
theorem pdss_nil : PDSs X c [] tNext dnext := ⟨pss_nil, ev_next⟩
theorem pdss_cons (h1 : PDS X c st t f) (h2 : PDSs X c rest u f2) : PDSs X c (st :: rest) (tSeq t u) (dseq f f2) := ⟨pss_cons h1.ps h2.ps, ev_seq h1.ev h2.ev⟩
theorem pdss_one (h1 : PDS X c st t f) : PDSs X c [st] t f := ⟨pss_one h1.ps, h1.ev⟩
theorem pds_pass : PDS X c (.Pass pos) tNext dnext := ⟨ps_pass, ev_next⟩
theorem pds_break : PDS X c (.Break pos) tBreak (fun st => some (.bk st)) := ⟨ps_break, ev_break⟩
theorem pds_continue : PDS X c (.Continue pos) tCont (fun st => some (.ct st)) := ⟨ps_continue, ev_cont⟩
/-- an expression at a statement: m: pens that were handed in; g: cells as pens, too; a: cells read, a flat value -/
structure PDE (X : Cx) (c : Cs) (e : Expr) (t : TE) (f : DM D) : Prop where
  pe : PE X e t
  ev : EvE X.K c (Rep X.K) t f
theorem PD.m (J : List Nat) (h : PD X (c.cf J []) e te fe) (hJ : ∀ i ∈ J, i ∈ c.pa := by decide) : PDE X c e te fe := ⟨h.pe, .m h.ev hJ⟩
theorem PD.g (J : List Nat) (h : PD X (c.cf J []) e te fe) (hJ : ∀ i ∈ J, i ∈ c.ow := by decide) : PDE X c e te (dlv J fe) := ⟨h.pe, .g h.ev hJ⟩
theorem PD.a (J R : List Nat) (h : PD X (c.cf J R) e te fe) (hJ : ∀ i ∈ J, i ∈ c.pa := by decide) (hR : ∀ i ∈ R, i ∈ c.ow ∧ i ∉ J ∧ (c.kd.getD i .flat).plain = true := by decide) : PDE X c e te (dflat fe) := ⟨h.pe, .a h.ev hJ hR⟩
theorem PD.ga (J R : List Nat) (h : PD X (c.cf J R) e te fe) (hJ : ∀ i ∈ J, i ∈ c.ow := by decide) (hR : ∀ i ∈ R, i ∈ c.ow ∧ i ∉ J ∧ (c.kd.getD i .flat).plain = true := by decide) : PDE X c e te (dlv J (dflat fe)) := ⟨h.pe, .ga h.ev hJ hR⟩
structure PDTE (X : Cx) (c : Cs) (e : Expr) (t : TT) (f : DM Bool) : Prop where
  pt : PT X e t
  ev : EvE X.K c eqR t f
theorem PDT.m {tt : TT} {ft : DM Bool} (J : List Nat) (h : PDT X (c.cf J []) e tt ft) (hJ : ∀ i ∈ J, i ∈ c.pa := by decide) : PDTE X c e tt ft := ⟨h.pt, .m h.ev hJ⟩
theorem PDT.g {tt : TT} {ft : DM Bool} (J : List Nat) (h : PDT X (c.cf J []) e tt ft) (hJ : ∀ i ∈ J, i ∈ c.ow := by decide) : PDTE X c e tt (dlv J ft) := ⟨h.pt, .g h.ev hJ⟩
theorem PDT.a {tt : TT} {ft : DM Bool} (J R : List Nat) (h : PDT X (c.cf J R) e tt ft) (hJ : ∀ i ∈ J, i ∈ c.pa := by decide) (hR : ∀ i ∈ R, i ∈ c.ow ∧ i ∉ J ∧ (c.kd.getD i .flat).plain = true := by decide) : PDTE X c e tt (dcalm ft) := ⟨h.pt, .at h.ev hJ hR⟩
theorem PDT.ga {tt : TT} {ft : DM Bool} (J R : List Nat) (h : PDT X (c.cf J R) e tt ft) (hJ : ∀ i ∈ J, i ∈ c.ow := by decide) (hR : ∀ i ∈ R, i ∈ c.ow ∧ i ∉ J ∧ (c.kd.getD i .flat).plain = true := by decide) : PDTE X c e tt (dlv J (dcalm ft)) := ⟨h.pt, .gat h.ev hJ hR⟩
/-- what a for goes over -/
structure PDIE (X : Cx) (c : Cs) (tg iter : Expr) (wi : TI) (f : DM (List D)) : Prop where
  pi : PI X tg iter wi
  ev : EvE X.K c (WalkD X.K) wi f
theorem PDI.m {tg : Expr} {wi : TI} {fi : DM (List D)} (J : List Nat) (h : PDI X (c.cf J []) tg e wi fi) (hJ : ∀ i ∈ J, i ∈ c.pa := by decide) : PDIE X c tg e wi fi := ⟨h.pi, .m h.ev hJ⟩
theorem PDI.g {tg : Expr} {wi : TI} {fi : DM (List D)} (J : List Nat) (h : PDI X (c.cf J []) tg e wi fi) (hJ : ∀ i ∈ J, i ∈ c.ow := by decide) : PDIE X c tg e wi (dlv J fi) := ⟨h.pi, .g h.ev hJ⟩
/-- a new object at a statement -/
structure PDEN (s : Shp) (X : Cx) (c : Cs) (e : Expr) (t : TE) (f : DM D) : Prop where
  pe : PE X e t
  ev : EvEN s X.K c t f
theorem PDN.m {s : Shp} (J : List Nat) (h : PDN s X (c.cf J []) e te fe) (hJ : ∀ i ∈ J, i ∈ c.pa := by decide) : PDEN s X c e te fe := ⟨h.pe, .m h.ev hJ⟩
theorem PDN.g {s : Shp} (J : List Nat) (h : PDN s X (c.cf J []) e te fe) (hJ : ∀ i ∈ J, i ∈ c.ow := by decide) : PDEN s X c e te (dlv J fe) := ⟨h.pe, .g h.ev hJ⟩
theorem PDN.a (J R : List Nat) (h : PDN .flat X (c.cf J R) e te fe) (hJ : ∀ i ∈ J, i ∈ c.pa := by decide) (hR : ∀ i ∈ R, i ∈ c.ow ∧ i ∉ J ∧ (c.kd.getD i .flat).plain = true := by decide) : PDEN .flat X c e te (dflatN fe) := ⟨h.pe, .a h.ev hJ hR⟩
/-! ### statements -/
theorem pds_set (i : Nat) {x : Str} {pos' : Pos} (he : PDE X c e te fe) (h1 : i ∉ c.ow := by decide) (hN : X.N.Nodup := by assumption) (hi : X.N[i]? = some x := by rfl) (hx : Loc X.env.scope x := by first | exact Or.inl rfl | exact Or.inr rfl)
    (hs : swapsWith e (some (.Name x pos')) pos.line X.env = pure false := by rfl) (hf : X.fn x = true ∨ X.env.scope.names.lookup x = some .local := by first | exact .inl rfl | exact .inr rfl | assumption) : PDS X c (.Assign [.Name x pos'] e pos) (tAsg te (gName i)) (dset i fe) :=
  ⟨ps_set hN hi hx he.pe hs hf, ev_set h1 he.ev⟩
theorem SR.setCell {K : PySem.W.Frag} {A0 : Nat → Addr} {Φ B0 B H : Hp} {σ : L2.St} {st : DS} {X : List Addr} {p : Addr} {d : D} (s : SR K c A0 (addF Φ H X) B0 B σ H st) (hX : ∀ x ∈ X, Φ x = none) {i : Nat} (hi : i ∈ c.ow) (hp : i ∉ c.pa) (o : Own K B H (c.kd.getD i .flat) X p d) : SR K c A0 Φ B0 B (σ.set i (some (.ref p))) H (st.set i (some d)) := by
  obtain ⟨F, h1, h2⟩ := s.ow
  have hF : ∀ j ∈ c.ow, live st j → ∀ x ∈ F j, x ∉ X ∧ Φ x = none ∧ B x = none := fun j hj ⟨e, he⟩ x hx => by
    obtain ⟨_, _, _, w⟩ := h1 j hj e he
    obtain ⟨w1, w2⟩ := addF_none (w x hx).2 (o.has x)
    exact ⟨w1, w2, (w x hx).1⟩
  have hXB : ∀ x ∈ X, B x = none := fun x hx => by
    obtain ⟨u, hu⟩ := o.has x hx
    exact (s.fr.fr x u ((addF_in hx).trans hu)).2
  have lv : ∀ j, j ≠ i → live (st.set i (some d)) j → live st j := fun j hj ⟨e, he⟩ => by
    rw [List.getElem?_set_ne (Ne.symm hj)] at he
    exact ⟨e, he⟩
  refine ⟨by rw [List.length_set, List.length_set]; exact s.len, s.b0, fun j e h3 h => ?_, ⟨fun j => if j = i then X else F j, fun j hj e h => ?_, fun j hj k hk hjk l1 l2 x hx => ?_⟩, ⟨s.bh, fun a u h => ?_⟩, fun j hj => ?_⟩
  · have hne : i ≠ j := fun z => h3 (z ▸ hi)
    rw [List.getElem?_set_ne hne] at h
    rw [List.getElem?_set_ne hne]
    exact s.rd j e h3 h
  · by_cases hji : j = i
    · subst hji
      simp only [if_true]
      have hl : j < st.length := by
        have := (List.getElem?_eq_some_iff.mp h).1
        rwa [List.length_set] at this
      rw [List.getElem?_set_self hl] at h
      cases h
      exact ⟨p, List.getElem?_set_self (by rw [← s.len]; exact hl), o, fun x hx => ⟨hXB x hx, hX x hx⟩⟩
    · simp only [if_neg hji]
      rw [List.getElem?_set_ne (Ne.symm hji)] at h
      rw [List.getElem?_set_ne (Ne.symm hji)]
      obtain ⟨a, w1, w2, w3⟩ := h1 j hj e h
      exact ⟨a, w1, w2, fun x hx => ⟨(w3 x hx).1, (hF j hj ⟨e, h⟩ x hx).2.1⟩⟩
  · by_cases hji : j = i
    · subst hji
      simp only [if_true] at hx
      simp only [if_neg (Ne.symm hjk)]
      exact fun hxk => (hF k hk (lv k (Ne.symm hjk) l2) x hxk).1 hx
    · simp only [if_neg hji] at hx
      by_cases hki : k = i
      · subst hki
        simp only [if_true]
        exact (hF j hj (lv j hji l1) x hx).1
      · simp only [if_neg hki]
        exact h2 j hj k hk hjk (lv j hji l1) (lv k hki l2) x hx
  · have hn : a ∉ X := fun z => by
      rw [hX a z] at h
      cases h
    exact s.fr.fr a u ((addF_out hn).trans h)
  · obtain ⟨q1, ⟨e, q2⟩, q3⟩ := s.pa j hj
    have hne : i ≠ j := fun z => hp (z ▸ hj)
    exact ⟨q1, ⟨e, by rw [List.getElem?_set_ne hne]; exact q2⟩, by rw [List.getElem?_set_ne hne]; exact q3⟩
theorem ev_setC {K : PySem.W.Frag} {i : Nat} {s : Shp} (hi : i ∈ c.ow) (hp : i ∉ c.pa) (hk : c.kd.getD i .flat = s) (he : EvEN s K c te fe) : EvS K c (tAsg te (gName i)) (dset i fe) := fun A0 Φ B0 B σ H st r s0 h De n b kk t x => by
  unfold dset at h
  cases ef : fe st with
  | none =>
    unfold dexp at h
    rw [ef] at h
    cases h
  | some ro =>
    refine he A0 Φ B0 B σ H st ro s0 ef _ (fun d st1 p X B1 H1 e1 s1 _ hX ow => ?_) (fun y fl st1 dx B1 H1 e1 fi1 fl1 => ?_)
    · subst e1
      rw [dexp_ok ef] at h
      cases h
      subst hk
      exact n _ B1 _ H1 rfl (s1.setCell hX hi hp ow)
    · subst e1
      unfold dexp at h
      rw [ef] at h
      exact x y fl st1 dx B1 H1 (Option.some.inj h).symm fi1 fl1
/-- x = a new object: x a cell -/
theorem pds_setC (i : Nat) {s : Shp} {x : Str} {pos' : Pos} (he : PDEN s X c e te fe) (h1 : i ∈ c.ow := by decide) (h2 : i ∉ c.pa := by decide) (hk : c.kd.getD i .flat = s := by rfl) (hN : X.N.Nodup := by assumption) (hi : X.N[i]? = some x := by rfl) (hx : Loc X.env.scope x := by first | exact Or.inl rfl | exact Or.inr rfl)
    (hs : swapsWith e (some (.Name x pos')) pos.line X.env = pure false := by rfl) (hf : X.fn x = true ∨ X.env.scope.names.lookup x = some .local := by first | exact .inl rfl | exact .inr rfl | assumption) : PDS X c (.Assign [.Name x pos'] e pos) (tAsg te (gName i)) (dset i fe) :=
  ⟨ps_set hN hi hx he.pe hs hf, ev_setC h1 h2 hk he.ev⟩
/-- targets of a tuple -/
theorem pds_asg {vs : List Nat} {tg : Expr} {gt : TG} {gd : DG} (he : PDE X c e te fe) (hg : PDG X (c.cf [] []) vs tg gt gd) (hv : ∀ i ∈ vs, i ∉ c.ow := by decide) (hs : swapsWithSole [tg] e pos.line X.env = pure false := by rfl) (hw : swappedStores [tg] e X.env = pure none := by rfl)
    (h1 : (assignEach [tg] X.env).map (·.2) = [assign tg X.env] := by rfl) : PDS X c (.Assign [tg] e pos) (tAsg te gt) (dasg fe gd) := ⟨ps_asg he.pe hg.pg hs hw h1, ev_asg hv he.ev hg.ev⟩
/-- a, b = x, y -/
def dpar (i j : Nat) (fs : DM (List D)) : DT := dexp fs fun ds st => match ds with
  | [d, e] => some (.nx ((st.set i (some d)).set j (some e)))
  | _ => none
/-- several expressions at a statement -/
structure PDAE (X : Cx) (c : Cs) (es : List Expr) (t : TA) (f : DM (List D)) : Prop where
  pa : PA X es t
  ev : EvE X.K c (RepA X.K) t f
theorem PDA.m {es : List Expr} {ta : TA} {fs : DM (List D)} (J : List Nat) (h : PDA X (c.cf J []) es ta fs) (hJ : ∀ i ∈ J, i ∈ c.pa := by decide) : PDAE X c es ta fs := ⟨h.pa, .m h.ev hJ⟩
theorem PDA.g {es : List Expr} {ta : TA} {fs : DM (List D)} (J : List Nat) (h : PDA X (c.cf J []) es ta fs) (hJ : ∀ i ∈ J, i ∈ c.ow := by decide) : PDAE X c es ta (dlv J fs) := ⟨h.pa, .g h.ev hJ⟩
theorem pds_par (i j : Nat) {x y : Str} {a b : Expr} {ta : TA} {fs : DM (List D)} {px py pt : Pos} {kt k2 pt2} (ha : PDAE X c [a, b] ta fs) (h1 : i ∉ c.ow := by decide) (h3 : j ∉ c.ow := by decide) (hc : X.calm = true := by rfl) (hN : X.N.Nodup := by assumption) (hi : X.N[i]? = some x := by rfl) (hj : X.N[j]? = some y := by rfl) (hij : i ≠ j := by decide)
    (hx : X.env.scope.names.lookup x = some .local := by rfl) (hy : X.env.scope.names.lookup y = some .local := by rfl)
    (hw : swappedStores [.Tuple [.Name x px, .Name y py] kt pt] (.Tuple [a, b] k2 pt2) X.env = pure (some [x, y]) := by rfl)
    (hs : swapsWithSole [.Tuple [.Name x px, .Name y py] kt pt] (.Tuple [a, b] k2 pt2) pos.line X.env = pure false := by rfl) :
    PDS X c (.Assign [.Tuple [.Name x px, .Name y py] kt pt] (.Tuple [a, b] k2 pt2) pos) (tPar i j ta) (dpar i j fs) :=
  ⟨ps_par hc hN hi hj hij hx hy ha.pa hw hs, ev_exp (tk := fun vs De σ H => ∃ v w, vs = [v, w] ∧ De.nx ((σ.set i (some v)).set j (some w)) H) ha.ev fun vs ds A0 Φ B0 B σ H st r s ra h De n _ _ _ _ => by
    match ds, h with
    | [d, e], h =>
      cases h
      obtain ⟨v, w, rfl, rv, rw'⟩ := repA2 ra
      exact ⟨v, w, rfl, n _ _ _ _ rfl ((s.set h1 rv).set h3 rw')⟩⟩
theorem pds_expr (he : PDE X c e te fe) (hs : swapsWith e none pos.line X.env = pure false := by rfl) : PDS X c (.Expr e pos) (tDrop te) (ddrop fe) := ⟨ps_expr he.pe hs, ev_drop he.ev⟩
theorem pds_if {a b : List Stmt} {tt : TT} {ft : DM Bool} (ht : PDTE X c e tt ft) (ha : PDSs X c a t f) (hb : PDSs X c b u f2) : PDS X c (.If e a b pos) (tIfS tt t u) (dif ft f f2) := ⟨ps_if ht.pt ha.ps hb.ps, ev_if ht.ev ha.ev hb.ev⟩
theorem pds_for {vs : List Nat} {tg iter : Expr} {body : List Stmt} {wi : TI} {fi : DM (List D)} {gt : TG} {gd : DG} (hp : PassesOwn (model X.prog X.w) X.A X.env X.xe) (hc : X.calm = true) (hi : PDIE X c tg iter wi fi) (hg : PDG X (c.cf [] []) vs tg gt gd) (hb : PDSs X c body t f) (hv : ∀ i ∈ vs, i ∉ c.ow := by decide)
    (hs : ∀ x, foldedSetIterable iter X.env x = pure x := by intro _; rfl) : PDS X c (.For tg iter body [] pos) (tFor wi gt t) (dfor fi gd f) := ⟨ps_for hp hc hi.pi hg.pg hb.ps hs, ev_for hv hi.ev hg.ev hb.ev⟩
theorem pds_while (n : Nat) {body : List Stmt} {tt : TT} {ft : DM Bool} (hp : PassesOwn (model X.prog X.w) X.A X.env X.xe) (ht : PDTE X c e tt ft) (hb : PDSs X c body t f) : PDS X c (.While e body [] pos) (tWhile tt t) (dwhile ft f n) := ⟨ps_while hp ht.pt hb.ps, ev_while n ht.ev hb.ev⟩
/-- return: J: pens that it changes, R: cells that it reads -/
theorem pds_ret (J R : List Nat) (he : PD X ((c.fz R).cf J []) e te fe) (hrn : c.rn = none := by rfl) (hR : ∀ i ∈ R, i ∈ c.ow ∧ i ∉ c.pa ∧ (c.kd.getD i .flat).plain = true := by decide) (hJ : ∀ i ∈ J, i ∈ c.pa := by decide) : PDS X c (.Return (some e) pos) (tRet te) (dret fe) := ⟨ps_ret he.pe, ev_ret hrn hR hJ he.ev⟩
theorem pds_retN (hrn : c.rn = none := by rfl) : PDS X c (.Return none pos) tRetN (fun st => some (.rt .none st)) := ⟨ps_retN, ev_retN hrn⟩
theorem pds_retNew {s : Shp} (he : PDEN s X c e te fe) (hrn : c.rn = some s := by rfl) : PDS X c (.Return (some e) pos) (tRet te) (dret fe) := ⟨ps_ret he.pe, ev_retNew hrn he.ev⟩
theorem pds_retCell (i : Nat) {s : Shp} {x : Str} {px : Pos} (hrn : c.rn = some s := by rfl) (hi : i ∈ c.ow := by decide) (hp : i ∉ c.pa := by decide) (hk : c.kd.getD i .flat = s := by rfl) (hN : X.N[i]? = some x := by rfl) (hv : Vis X.env.scope x := by first | exact Or.inl rfl | exact Or.inr (Or.inl rfl) | exact Or.inr (Or.inr rfl))
    (hd : (x == ("__debug__" : Str)) = false := by decide) (hcd : (x == ("__classdict__" : Str)) = false := by decide) : PDS X c (.Return (some (.Name x px)) pos) (tRet (tVar i)) (dret (dvar i)) := ⟨ps_ret (pv i hN hv hd hcd), ev_retCell hrn hi hp hk⟩
end
end DR

set_option maxRecDepth 100000
set_option maxHeartbeats 1000000
namespace DR
open PySem PySem.Spec L2
open PyProof.Rows hiding St
open Evl (Ex ex_l ex_t ex_rd)

theorem lt_of_some {α : Type} {l : List α} {i : Nat} {x : α} (h : l[i]? = some x) : i < l.length := (List.getElem?_eq_some_iff.mp h).1
/-! ### a def's body keeps its promise -/
def startD (n : Nat) (ds : List D) : DS := ds.map some ++ List.replicate (n - ds.length) none
def mOf (n k : Nat) (g : DT) (ds : List D) : Option D := if ds.length = k then match g (startD n ds) with
  | some (.rt d _) => some d
  | some (.nx _) => some .none
  | _ => none else none
def mOfP (n k : Nat) (g : DT) (pd : D) (ds : List D) : Option (D × D) := if ds.length = k then match g (startD n (pd :: ds)) with
  | some (.rt d st) => (penOf 0 st).map fun p => (d, p)
  | some (.nx st) => (penOf 0 st).map fun p => (.none, p)
  | _ => none else none
theorem mOf_len {n k : Nat} {g : DT} : ∀ ds d, mOf n k g ds = some d → ds.length = k := fun ds d h => (by
  unfold mOf at h
  split at h
  · assumption
  · cases h)
theorem mOfP_len {n k : Nat} {g : DT} : ∀ pd ds d, mOfP n k g pd ds = some d → ds.length = k := fun pd ds d h => (by
  unfold mOfP at h
  split at h
  · assumption
  · cases h)
theorem start_get {vs : List V} {N : List Str} {i : Nat} : (start N vs)[i]? = if i < vs.length then (vs[i]?).map some else if i < vs.length + (N.length - vs.length) then some none else none := by
  unfold L2.start
  rw [List.getElem?_append]
  rw [List.length_map]
  split
  · rw [List.getElem?_map]
  · rename_i h
    rw [List.getElem?_replicate]
    split
    · rename_i h2
      rw [if_pos (by omega)]
    · rename_i h2
      rw [if_neg (by omega)]
theorem startD_get {n : Nat} {ds : List D} {i : Nat} {d : D} (h : (startD n ds)[i]? = some (some d)) : ds[i]? = some d := by
  unfold startD at h
  rw [List.getElem?_append] at h
  split at h
  · rw [List.getElem?_map] at h
    cases e : ds[i]? with
    | none =>
      rw [e] at h
      cases h
    | some u =>
      rw [e] at h
      cases h
      rfl
  · rw [List.getElem?_replicate] at h
    split at h <;> cases h
theorem start_some {vs : List V} {N : List Str} {i : Nat} {v : V} (h : vs[i]? = some v) : (start N vs)[i]? = some (some v) := by
  rw [start_get, if_pos (lt_of_some h), h]
  rfl
/-- what stands beside the base -/
def offB (B H : Hp) : Hp := fun a => match B a with
  | some _ => none
  | none => H a
theorem offB_fr {B H : Hp} (e : Ex B H) : Fr0 (offB B H) B H := ⟨e, fun a o h => by
  unfold offB at h
  split at h
  · cases h
  · rename_i q
    exact ⟨h, q⟩⟩
theorem offB_pu {B H B' H' : Hp} (e : Ex B H) (x : Ex B B') (f : Fr0 (offB B H) B' H') : Pu B H B' H' where
  ext := x
  hx := fun a o h => by
    cases q : B a with
    | none => exact (f.fr a o (by unfold offB; rw [q]; exact h)).1
    | some u =>
      have : u = o := by
        have := e a u q
        rw [h] at this
        exact (Option.some.inj this).symm
      subst this
      exact f.bh a u (x a u q)
  bh := f.bh
  new := fun a o h => by
    cases q : B a with
    | some u =>
      have := x a u q
      rw [h] at this
      exact .inl this.symm
    | none =>
      cases w : H a with
      | none => exact .inr rfl
      | some u =>
        have := (f.fr a u (by unfold offB; rw [q]; exact w)).2
        rw [h] at this
        cases this
/-- the state at the entry: no pens -/
theorem sr_start {K : PySem.W.Frag} {c : Cs} (hpa : c.pa = []) {N : List Str} {vs : List V} {ds : List D} {Φ B H : Hp} (f : Fr0 Φ B H) (r : RepA K B vs ds) (hc : ∀ i ∈ c.ow, ds.length ≤ i) : SR K c (fun _ => 0) Φ B B (start N vs) H (startD N.length ds) where
  len := by
    unfold startD L2.start
    rw [List.length_append, List.length_append, List.length_map, List.length_map, List.length_replicate, List.length_replicate, r.length]
  b0 := fun _ _ h => h
  rd := fun i d _ h => by
    obtain ⟨v, h1, h2⟩ := r.get (startD_get h)
    exact ⟨v, start_some h1, h2⟩
  ow := ⟨fun _ => [], fun i hi d h => by
    have := lt_of_some (startD_get h)
    have := hc i hi
    omega, fun i hi j hj hne l1 l2 x hx => nomatch hx⟩
  fr := f
  pa := fun i hi => by
    rw [hpa] at hi
    cases hi
/-- .. one pen, the first parameter -/
theorem sr_startP {K : PySem.W.Frag} {c : Cs} (hpa : c.pa = [0]) (h0 : 0 ∈ c.ow) {N : List Str} {vs : List V} {pd : D} {ds : List D} {Φ B H : Hp} {l : Addr} {F : List Addr} (f : Fr0 Φ B H) (o : Own K B H (c.kd.getD 0 .flat) F l pd) (off : ∀ x ∈ F, B x = none ∧ Φ x = none) (r : RepA K B vs ds) (hc : ∀ i ∈ c.ow, i = 0 ∨ ds.length + 1 ≤ i) :
    SR K c (fun _ => l) Φ B B (start N (.ref l :: vs)) H (startD N.length (pd :: ds)) := by
  have only : ∀ i ∈ c.ow, ∀ d, (startD N.length (pd :: ds))[i]? = some (some d) → i = 0 := fun i hi d h => by
    have h1 := lt_of_some (startD_get h)
    rw [List.length_cons] at h1
    rcases hc i hi with z | z
    · exact z
    · omega
  refine ⟨?_, fun _ _ h => h, fun i d h1 h => ?_, ⟨fun _ => F, fun i hi d h => ?_, fun i hi j hj hne ⟨d, l1⟩ ⟨e, l2⟩ => ?_⟩, f, fun i hi => ?_⟩
  · unfold startD L2.start
    rw [List.length_append, List.length_append, List.length_map, List.length_map, List.length_replicate, List.length_replicate, List.length_cons, List.length_cons, r.length]
  · have h2 := startD_get h
    cases i with
    | zero => exact absurd h0 h1
    | succ i =>
      obtain ⟨v, h3, h4⟩ := r.get (show ds[i]? = some d from h2)
      exact ⟨v, start_some (show (V.ref l :: vs)[i + 1]? = some v from h3), h4⟩
  · have e0 := only i hi d h
    subst e0
    have := startD_get h
    cases this
    exact ⟨l, start_some rfl, o, off⟩
  · exact absurd ((only i hi d l1).trans (only j hj e l2).symm) hne
  · rw [hpa] at hi
    have e0 : i = 0 := List.mem_singleton.mp hi
    subst e0
    exact ⟨h0, ⟨pd, rfl⟩, start_some rfl⟩
section
variable {P : Program} {w : World} {K : PySem.W.Frag} {mg : Str → Option Value} {base : Heap} {x qual : Str} {params : Arguments} {body : List Stmt} {scope : Scope} {f : Addr} {fd : FuncData}
theorem fin_pu {c : Cs} {A0 : Nat → Addr} {B H B' H' : Hp} {st : DS} (e : Ex B H) (fi : Fin K c A0 (offB B H) B B' H' st) : Pu B H B' H' := offB_pu e fi.b0 fi.fr
/-- a def without pens that raises nothing -/
theorem def_ok {N ps : List Str} {k n : Nat} {ow : List Nat} {kd : List Shp} {g : DT} (F : FunD K x qual params body scope [] [] f fd) (S : FnScope N ps scope) (hn : ps.length = n) (hc : ∀ i ∈ ow, n ≤ i)
    (hbody : ∀ (cdv : Value) (A : Around) (outer : List Env) (s : Shared) (H : Hp) (E : XK), Room k (A.deeper (envOfC qual scope s.heap.objs.size f cdv)) →
      ∃ t, PDSs (cxOf CX0 P w K mg base N qual scope f cdv A outer s H E).nox ⟨ow, [], kd, none, W0⟩ body t g) : FnOk P w K mg base CX0 (k + 1) f fd ps (spD K n (mOf N.length n g)) := by
  refine F.ok S (fun vs H Q E h => ?_) (fun cdv A outer s H vs Q E hr h => ?_)
  · obtain ⟨B, ds, d, hlen, _⟩ := h
    exact hlen.trans hn.symm
  · obtain ⟨B, ds, d, hlen, e, r, hm, q⟩ := h
    obtain ⟨t, ht⟩ := hbody cdv A outer s H E hr
    refine ⟨t, ht.ps.nox, ?_⟩
    have hds : ds.length = n := mOf_len ds d hm
    unfold mOf at hm
    rw [if_pos hds] at hm
    have s0 := sr_start (K := K) (c := ⟨ow, [], kd, none, W0⟩) rfl (N := N) (offB_fr e) r (by rw [hds]; exact hc)
    cases eg : g (startD N.length ds) with
    | none =>
      rw [eg] at hm
      cases hm
    | some o =>
      refine ht.ev _ _ B B _ H _ o s0 eg _ (fun st' B' σ' H' e1 s1 => ?_) (fun st' B' σ' H' e1 s1 => ?_) (fun st' B' σ' H' e1 s1 => ?_) (fun d' st' v B' H' e1 rv => ?_) (fun y fl st' dx B' H' e1 fi fl1 => ?_)
      · subst e1
        rw [eg] at hm
        cases hm
        exact q .non B' H' (fin_pu e s1.fin) .non
      · subst e1
        rw [eg] at hm
        cases hm
      · subst e1
        rw [eg] at hm
        cases hm
      · subst e1
        rw [eg] at hm
        cases hm
        exact q v B' H' (fin_pu e rv.1) rv.2
      · subst e1
        rw [eg] at hm
        cases hm
/-- .. that tells a new object -/
theorem def_okN {N ps : List Str} {k n : Nat} {ow : List Nat} {kd : List Shp} {g : DT} {sh : Shp} (F : FunD K x qual params body scope [] [] f fd) (S : FnScope N ps scope) (hn : ps.length = n) (hc : ∀ i ∈ ow, n ≤ i)
    (hbody : ∀ (cdv : Value) (A : Around) (outer : List Env) (s : Shared) (H : Hp) (E : XK), Room k (A.deeper (envOfC qual scope s.heap.objs.size f cdv)) →
      ∃ t, PDSs (cxOf CX0 P w K mg base N qual scope f cdv A outer s H E).nox ⟨ow, [], kd, some sh, W0⟩ body t g) : FnOk P w K mg base CX0 (k + 1) f fd ps (spN sh K n (mOf N.length n g)) := by
  refine F.ok S (fun vs H Q E h => ?_) (fun cdv A outer s H vs Q E hr h => ?_)
  · obtain ⟨B, ds, d, hlen, _⟩ := h
    exact hlen.trans hn.symm
  · obtain ⟨B, ds, d, hlen, e, r, hm, hnone, q⟩ := h
    obtain ⟨t, ht⟩ := hbody cdv A outer s H E hr
    refine ⟨t, ht.ps.nox, ?_⟩
    have hds : ds.length = n := mOf_len ds d hm
    unfold mOf at hm
    rw [if_pos hds] at hm
    have s0 := sr_start (K := K) (c := ⟨ow, [], kd, some sh, W0⟩) rfl (N := N) (offB_fr e) r (by rw [hds]; exact hc)
    cases eg : g (startD N.length ds) with
    | none =>
      rw [eg] at hm
      cases hm
    | some o =>
      refine ht.ev _ _ B B _ H _ o s0 eg _ (fun st' B' σ' H' e1 s1 => ?_) (fun st' B' σ' H' e1 s1 => ?_) (fun st' B' σ' H' e1 s1 => ?_) (fun d' st' v B' H' e1 rv => ?_) (fun y fl st' dx B' H' e1 fi fl1 => ?_)
      · subst e1
        rw [eg] at hm
        cases hm
        exact absurd rfl hnone
      · subst e1
        rw [eg] at hm
        cases hm
      · subst e1
        rw [eg] at hm
        cases hm
      · subst e1
        rw [eg] at hm
        cases hm
        obtain ⟨p, X, rfl, fi, hX, ow⟩ := rv
        have fr : Fr0 (offB B H) B' H' := ⟨fi.fr.bh, fun a o h => fi.fr.fr a o ((addF_out fun z => by rw [hX a z] at h; cases h).trans h)⟩
        have pu := offB_pu e fi.b0 fr
        have hXB : ∀ x ∈ X, B' x = none := fun x hx => by
          obtain ⟨u, hu⟩ := ow.has x hx
          exact (fi.fr.fr x u ((addF_in hx).trans hu)).2
        refine q p X B' H' ⟨pu.ext, pu.hx, pu.bh, pu.new, fun x hx => ?_, hXB⟩ ow
        have h1 := hX x hx
        unfold offB at h1
        split at h1
        · rename_i u hu
          have := hXB x hx
          rw [fi.b0 x u hu] at this
          cases this
        · exact h1
      · subst e1
        rw [eg] at hm
        cases hm
/-- a new object told is a datum told -/
theorem spN_D {sh : Shp} (hp : sh.plain = true) {n : Nat} {m : List D → Option D} {vs : List V} {H : Hp} {Q : VK} {E : XK} (hn : ∀ ds d, m ds = some d → d ≠ .none) (h : spD K n m vs H Q E) : spN sh K n m vs H Q E := by
  obtain ⟨B, ds, d, hlen, e, r, hm, q⟩ := h
  refine ⟨B, ds, d, hlen, e, r, hm, hn ds d hm, fun p F B' H' pu ow => ?_⟩
  have hx := addF_ex (H := H') pu.fb
  refine q (.ref p) (addF B' H' F) H' ⟨fun a o h => hx a o (pu.ext a o h), pu.hx, fun a o h => ?_, fun a o h => ?_⟩ (ow.frz hx hp fun x hx => addF_in hx)
  · by_cases z : a ∈ F
    · rw [addF_in z] at h
      exact h
    · rw [addF_out z] at h
      exact pu.bh a o h
  · by_cases z : a ∈ F
    · exact .inr (pu.fh a z)
    · rw [addF_out z] at h
      exact pu.new a o h
/-- a def whose first parameter is a pen -/
theorem def_okP {N ps : List Str} {k n : Nat} {ow : List Nat} {kd : List Shp} {g : DT} (F : FunD K x qual params body scope [] [] f fd) (S : FnScope N ps scope) (hn : ps.length = n + 1) (h0 : 0 ∈ ow) (hc : ∀ i ∈ ow, i = 0 ∨ n + 1 ≤ i)
    (hbody : ∀ (cdv : Value) (A : Around) (outer : List Env) (s : Shared) (H : Hp) (E : XK), Room k (A.deeper (envOfC qual scope s.heap.objs.size f cdv)) →
      ∃ t, PDSs (cxOf CX0 P w K mg base N qual scope f cdv A outer s H E).nox ⟨ow, [0], kd, none, W0⟩ body t g) : FnOk P w K mg base CX0 (k + 1) f fd ps (spP (kd.getD 0 .flat) K n (mOfP N.length n g)) := by
  refine F.ok S (fun vs H Q E h => ?_) (fun cdv A outer s H vs Q E hr h => ?_)
  · obtain ⟨B, Φ, l, F, pd, ws, ds, d, pd', rfl, hlen, _⟩ := h
    rw [List.length_cons, hlen, hn]
  · obtain ⟨B, Φ, l, Fo, pd, ws, ds, d, pd', rfl, hlen, fr, o, off, r, hm, q⟩ := h
    obtain ⟨t, ht⟩ := hbody cdv A outer s H E hr
    refine ⟨t, ht.ps.nox, ?_⟩
    have hds : ds.length = n := mOfP_len pd ds _ hm
    unfold mOfP at hm
    rw [if_pos hds] at hm
    have s0 := sr_startP (K := K) (c := ⟨ow, [0], kd, none, W0⟩) rfl h0 (N := N) fr o off r (by rw [hds]; exact hc)
    have fin : ∀ {B' H' : Hp} {st' : DS} {p1 : D}, Fin K ⟨ow, [0], kd, none, W0⟩ (fun _ => l) Φ B B' H' st' → penOf 0 st' = some p1 → ∃ F', PuP (kd.getD 0 .flat) K Φ l F' B B' H' p1 := fun {B' H' st' p1} fi hp => by
      obtain ⟨F', h1, _⟩ := fi.pn
      obtain ⟨d1, q1, q2, q3⟩ := h1 0 (List.mem_singleton.mpr rfl)
      rw [penOf_some hp] at q1
      cases q1
      exact ⟨F' 0, fi.b0, fi.fr, q2, q3⟩
    cases eg : g (startD N.length (pd :: ds)) with
    | none =>
      rw [eg] at hm
      cases hm
    | some o =>
      refine ht.ev _ _ B B _ H _ o s0 eg _ (fun st' B' σ' H' e1 s1 => ?_) (fun st' B' σ' H' e1 s1 => ?_) (fun st' B' σ' H' e1 s1 => ?_) (fun d' st' v B' H' e1 rv => ?_) (fun y fl st' dx B' H' e1 fi fl1 => ?_)
      · subst e1
        rw [eg] at hm
        obtain ⟨p1, hp, e2⟩ := Option.map_eq_some_iff.mp (show (penOf 0 st').map (fun p => (PyData.none, p)) = some (d, pd') from hm)
        cases e2
        obtain ⟨F', pu⟩ := fin s1.fin hp
        exact q .non F' B' H' pu .non
      · subst e1
        rw [eg] at hm
        cases hm
      · subst e1
        rw [eg] at hm
        cases hm
      · subst e1
        rw [eg] at hm
        obtain ⟨p1, hp, e2⟩ := Option.map_eq_some_iff.mp (show (penOf 0 st').map (fun p => (d', p)) = some (d, pd') from hm)
        cases e2
        obtain ⟨F', pu⟩ := fin rv.1 hp
        exact q v F' B' H' pu rv.2
      · subst e1
        rw [eg] at hm
        cases hm
end

/-! ### the law -/
def spLaw (K : PySem.W.Frag) : Sp := fun vs H Q _ => ∃ (a : Addr) (ns : List Int), vs = [.ref a] ∧ Rd H a (.lst (ns.map V.int)) ∧ ns.length ≤ 63 ∧ ∀ H', Q (.bl true) H'
def penL (ns : List Int) : D := .list [.list (ns.map PyData.int), .int 0, .int 0]
def startL (n : Nat) (ns : List Int) : DS := some (.list (ns.map PyData.int)) :: some (penL ns) :: List.replicate (n - 2) none
theorem startL_get {n i : Nat} {ns : List Int} {d : D} (h : (startL n ns)[i + 2]? = some (some d)) : False := by
  have h' : (List.replicate (n - 2) (none : Option D))[i]? = some (some d) := h
  rw [List.getElem?_replicate] at h'
  split at h' <;> cases h'
theorem sr_law {K : PySem.W.Frag} {ow : List Nat} {kd : List Shp} {rn : Option Shp} {W : XK} {N : List Str} (hl : 2 ≤ N.length) (h1 : 1 ∈ ow) (h0 : 0 ∉ ow) (hk : kd.getD 1 .flat = .flat) {H : Hp} {a p : Addr} {ns : List Int} (hS : Rd H a (.lst (ns.map V.int))) (hp : H p = none) :
    SR K ⟨ow, [1], kd, rn, W⟩ (fun _ => p) (fun _ => none) H H ((L2.start N [V.ref a]).set 1 (some (.ref p))) (upd H p (.lst [.ref a, .int 0, .int 0])) (startL N.length ns) := by
  obtain ⟨m, hNm⟩ : ∃ m, N.length = m + 2 := ⟨N.length - 2, by omega⟩
  have hσ : (L2.start N [V.ref a]).set 1 (some (.ref p)) = some (.ref a) :: some (.ref p) :: List.replicate (N.length - 2) none := by
    unfold L2.start
    rw [hNm, List.length_singleton, show m + 2 - 1 = m + 1 by omega, List.replicate_succ]
    rfl
  have rs : Rep K H (.ref a) (.list (ns.map PyData.int)) := .lst hS (repA_ints ns)
  rw [hσ]
  have only : ∀ i ∈ ow, ∀ d, (startL N.length ns)[i]? = some (some d) → i = 1 := fun i hi d h => by
    match i with
    | 0 => exact absurd hi h0
    | 1 => rfl
    | i + 2 => exact (startL_get h).elim
  refine ⟨by unfold startL; simp, fun _ _ h => h, fun i d h2 h => ?_, ⟨fun _ => [p], fun i hi d h => ?_, fun i hi j hj hne ⟨d, l1⟩ ⟨e, l2⟩ => absurd ((only i hi d l1).trans (only j hj e l2).symm) hne⟩, ⟨fun b o h => by rw [upd_ne (ne_of_none h hp)]; exact h, fun _ _ h => nomatch h⟩, fun i hi => ?_⟩
  · match i with
    | 0 =>
      cases h
      exact ⟨_, rfl, rs⟩
    | 1 => exact absurd h1 h2
    | i + 2 => exact (startL_get h).elim
  · have e0 := only i hi d h
    subst e0
    cases h
    refine ⟨p, rfl, ?_, fun x hx => by rw [List.mem_singleton.mp hx]; exact ⟨hp, rfl⟩⟩
    show Own K H _ (kd.getD 1 .flat) [p] p (penL ns)
    rw [hk]
    exact Own.lst1 (.cons rs (.cons (.int 0) (.cons (.int 0) .nil)))
  · have e0 : i = 1 := List.mem_singleton.mp hi
    subst e0
    exact ⟨h1, ⟨_, rfl⟩, rfl⟩
section
variable {P : Program} {w : World} {K : PySem.W.Frag} {mg : Str → Option Value} {base : Heap} {x qual : Str} {params : Arguments} {st0 : Stmt} {body : List Stmt} {scope : Scope} {f : Addr} {fd : FuncData}
theorem law_ok {N : List Str} {s0 : Str} {k : Nat} {ow : List Nat} {kd : List Shp} {g : DT} (F : FunD K x qual params (st0 :: body) scope [] [] f fd) (S : FnScope N [s0] scope) (hl : 2 ≤ N.length) (h1 : 1 ∈ ow) (h0 : 0 ∉ ow) (hk : kd.getD 1 .flat = .flat)
    (hbody : ∀ (cdv : Value) (A : Around) (outer : List Env) (s : Shared) (H : Hp) (E : XK), Room k (A.deeper (envOfC qual scope s.heap.objs.size f cdv)) →
      PS (cxOf CX0 P w K mg base N qual scope f cdv A outer s H E).nox st0 (tAsg (tLst (tCons (tVar 0) (tCons (tC (.int 0)) (tCons (tC (.int 0)) tNil)))) (gName 1)) ∧
      ∃ t, PDSs (cxOf CX0 P w K mg base N qual scope f cdv A outer s H E).nox ⟨ow, [1], kd, none, W0⟩ body t g)
    (math : ∀ ns : List Int, ns.length ≤ 63 → ∃ st', g (startL N.length ns) = some (.rt (.bool true) st')) : FnOk P w K mg base CX0 (k + 1) f fd [s0] (spLaw K) := by
  refine F.ok S (fun vs H Q E h => ?_) (fun cdv A outer s H vs Q E hr h => ?_)
  · obtain ⟨a, ns, rfl, _⟩ := h
    rfl
  · obtain ⟨a, ns, rfl, hS, hlen, q⟩ := h
    obtain ⟨h0', t, ht⟩ := hbody cdv A outer s H E hr
    refine ⟨_, PSs.nox (pss_cons h0' ht.ps), ?_⟩
    obtain ⟨st', hm⟩ := math ns hlen
    refine ⟨_, start_some rfl, by show 3 ≤ sizeLine; decide, fun p hp => ?_⟩
    have s1 := sr_law (K := K) (ow := ow) (kd := kd) (rn := none) (W := W0) (N := N) hl h1 h0 hk hS hp
    refine ht.ev _ _ H H _ _ _ _ s1 hm _ (fun st' B' σ' H' e1 s2 => ?_) (fun st' B' σ' H' e1 s2 => ?_) (fun st' B' σ' H' e1 s2 => ?_) (fun d' st' v B' H' e1 rv => ?_) (fun y fl st' dx B' H' e1 fi fl1 => ?_)
    · cases e1
    · cases e1
    · cases e1
    · cases e1
      obtain ⟨_, rv⟩ := rv
      cases rv
      exact q H'
    · cases e1
end
end DR

set_option maxRecDepth 100000
set_option maxHeartbeats 1000000
namespace DR
open PySem PySem.Spec L2
open PyProof.Rows hiding St
open Evl (Ex ex_l ex_t ex_rd)

theorem hu65 {k : Nat} {A : Around} (hr : Room k A) : A.units + 65 < cLine := by
  have := hr.un
  omega
/-! ### chains of two comparisons -/
def dchain (g g' : D → D → Option D) (fa fb fc : DM D) : DM D := fa.bind fun x => fb.bind fun y => (DM.opt ((g x y).bind asB)).bind fun b => if b = true then fc.bind fun w => DM.opt (g' y w) else DM.pure (.bool false)
section
variable {X : Cx} {c : Cf} {K : PySem.W.Frag} {ta tb tc : TE} {fa fb fc : DM D} {r r' : R2} {g g' : D → D → Option D} {op op' : CmpOp} {a b e : Expr} {pos : Pos}
theorem ev_chain (hr : RD2 K r g) (hr' : RD2 K r' g') (ha : EvD K c ta fa) (hb : EvD K c tb fb) (hc : EvD K c tc fc) : EvD K c (tChain r r' ta tb tc) (dchain g g' fa fb fc) :=
  EvP.bind (relA := Rep K) (relC := Rep K) (tk := fun x σ H Q => tb σ H fun y H2 => r x y H2 fun z H3 => ∃ k, z = .bl k ∧ (if k = true then tc σ H3 fun w' H4 => r' y w' H4 Q else Q (.bl false) H3)) mono_true ha fun x dx =>
  EvP.bind (relA := Rep K) (relC := Rep K) (tk := fun y σ H Q => r x y H fun z H3 => ∃ k, z = .bl k ∧ (if k = true then tc σ H3 fun w' H4 => r' y w' H4 Q else Q (.bl false) H3)) (mono_true.and (monoR_rep x dx)) (hb.weak fun _ _ => True.intro) fun y dy => by
    intro A Z B σ H st ro er p hf Q hok hex
    cases eg : (g dx dy).bind asB with
    | none =>
      have hf' : (DM.opt ((g dx dy).bind asB)).bind (fun b => if b = true then fc.bind fun w => DM.opt (g' dy w) else DM.pure (PyData.bool false)) st = some ro := hf
      unfold DM.bind DM.opt at hf'
      rw [eg] at hf'
      cases hf'
    | some k =>
      have hf' : (DM.opt ((g dx dy).bind asB)).bind (fun b => if b = true then fc.bind fun w => DM.opt (g' dy w) else DM.pure (PyData.bool false)) st = some ro := hf
      have eo : (DM.opt ((g dx dy).bind asB)) st = some (.ok k, st) := by
        unfold DM.opt
        rw [eg]
        rfl
      rw [bind_ok eo] at hf'
      obtain ⟨dz, h1, h2⟩ := Option.bind_eq_some_iff.mp eg
      refine hr x y dx dy dz B H er.bh p.1.2 p.2 h1 _ fun v B1 H1 pu rv => ⟨k, asB_ok rv h2, ?_⟩
      cases k with
      | true =>
        rw [if_pos rfl]
        rw [if_pos rfl] at hf'
        exact EvP.bind (relA := Rep K) (relC := Rep K) (P := fun B => Rep K B y dy) (tk := fun w' _ H Q => r' y w' H Q) (monoR_rep y dy) (hc.weak fun _ _ => True.intro)
          (fun w dw => EvP.val (t := fun H Q => r' y w H Q) fun B H dz e p h Q q => hr' y w dy dw dz B H e p.1 p.2 h Q q) A Z B1 σ H1 st ro (er.pu pu) (p.2.mono pu.ext) hf' Q
          (fun b2 st2 e2 v2 B2 H2 er2 ad2 rv2 => hok b2 st2 e2 v2 B2 H2 er2 (pu.adv.trans ad2) rv2) fun x fl st2 e2 dx B2 H2 er2 ad2 fl2 => hex x fl st2 e2 dx B2 H2 er2 (pu.adv.trans ad2) fl2
      | false =>
        rw [if_neg Bool.false_ne_true]
        rw [if_neg Bool.false_ne_true] at hf'
        cases hf'
        exact hok _ st rfl _ B1 H1 (er.pu pu) pu.adv (.bl false)
theorem pd_chain (ho : OpR X (compareOp op) r) (ho' : OpR X (compareOp op') r') (hr : RD2 X.K r g) (hr' : RD2 X.K r' g') (ha : PD X c a ta fa) (hb : PD X c b tb fb) (hc : PD X c e tc fc)
    (hm : lastMarks [op, op'] [b, e] = false := by with_unfolding_all rfl) : PD X c (.Compare a [op, op'] [b, e] pos) (tChain r r' ta tb tc) (dchain g g' fa fb fc) := ⟨pe_chain ho ho' ha.pe hb.pe hc.pe hm, ev_chain hr hr' ha.ev hb.ev hc.ev⟩
theorem pdt_chain (ho : OpR X (compareOp op) r) (ho' : OpR X (compareOp op') r') (hr : RD2 X.K r g) (hr' : RD2 X.K r' g') (ha : PD X c a ta fa) (hb : PD X c b tb fb) (hc : PD X c e tc fc)
    (hm : lastMarks [op, op'] [b, e] = false := by with_unfolding_all rfl) : PDT X c (.Compare a [op, op'] [b, e] pos) (tTest (tChain r r' ta tb tc)) (dtest (dchain g g' fa fb fc)) := ⟨pt_chain ho ho' ha.pe hb.pe hc.pe hm, ev_test (ev_chain hr hr' ha.ev hb.ev hc.ev)⟩
/-! ### xs[::-1] -/
def revD : D → Option D
  | .list ds => some (.list ds.reverse)
  | _ => none
theorem pd_revL {k : Nat} {p1 p2 p3 : Pos} (ha : PD X c a ta fa) : PD X c (.Subscript a (.Slice none none (some (.UnaryOp .USub (.Constant (.int 1) k p1) p2)) p3) pos) (tRevL X.K ta) (dun revD fa) :=
  ⟨pe_revL ha.pe, EvP.bind (relA := Rep X.K) (tk := fun x _ H1 Q => ∃ a xs, x = V.ref a ∧ SqL X.K H1 a xs ∧ ∀ p, H1 p = none → Q (V.ref p) (upd H1 p (HO.lst xs.reverse))) mono_true ha.ev fun x dx =>
    EvP.val (t := fun H1 Q => ∃ a xs, x = V.ref a ∧ SqL X.K H1 a xs ∧ ∀ p, H1 p = none → Q (V.ref p) (upd H1 p (HO.lst xs.reverse))) fun B H dz e p h Q q => by
      cases dx <;> first | (cases h; done) | skip
      cases h
      obtain ⟨l, vs, rfl, hl, ra⟩ := rep_lst p.2
      refine ⟨l, vs, rfl, .inl (ex_rd e hl), fun p hp => ?_⟩
      have pu := Pu.mk1 (o := .lst vs.reverse) e hp
      exact q _ _ _ pu (.lst (.inl upd_same) (ra.reverse.mono pu.ext))⟩
end

/-! ### a def by its name -/
def CallOk (P : Program) (w : World) (K : PySem.W.Frag) (mg : Str → Option Value) (base : Heap) (x : Str) (k : Nat) (ps : List Str) (sp : Sp) : Prop :=
  ∃ (f : Addr) (fd : FuncData), FnOk P w K mg base CX0 k f fd ps sp ∧ mg x = some (.ref f) ∧ PySem.W.keepIn K (.ref f) = true ∧ Binds K fd ps []
section
variable {X : Cx} {c : Cf} {t : TA} {fs : DM (List D)} {x y : Str} {k j n : Nat} {ps : List Str} {e : Expr} {es : List Expr} {p pos pp : Pos}
theorem pd_fn {m : List D → Option D} (C : CallOk X.prog X.w X.K X.mg X.base x j ps (spD X.K n m)) (hn : ∀ ds d, m ds = some d → ds.length = n) (hr : Room k X.A) (ha : PDA X c (e :: es) t fs) (hjk : j ≤ k := by decide) (hg : Gl X x := by rfl)
    (hdb : (x == ("__debug__" : Str)) = false := by decide) (he : starEach (e :: es) X.env = (false, eval e X.env) :: starEach es X.env := by rfl) (hpl : (backTo pos (starEach es X.env)).any (·.1) = false := by rfl) :
    PD X c (.Call (.Name x p) (e :: es) [] pos) (tCall (spD X.K n m) [] E0 t) (dcall m fs) := by
  obtain ⟨f, fd, F, hm, hk, hb⟩ := C
  exact pd_call F hn (hr.mono hjk) hg hm hk hb pass0 ha hdb he hpl
theorem pd_fnP (i : Nat) {kd : Shp} {m : D → List D → Option (D × D)} (C : CallOk X.prog X.w X.K X.mg X.base x j ps (spP kd X.K n m)) (hn : ∀ pd ds d, m pd ds = some d → ds.length = n) (hr : Room k X.A) (ha : PDA X c es t fs) (hjk : j ≤ k := by decide) (hg : Gl X x := by rfl) (hi : i ∈ c.ps := by decide) (hkd : c.kd.getD i .flat = kd := by rfl) (hN : X.N[i]? = some y := by rfl) (hv : Vis X.env.scope y := by first | exact Or.inl rfl | exact Or.inr (Or.inl rfl) | exact Or.inr (Or.inr rfl)) (hd : (y == ("__debug__" : Str)) = false := by decide) (hcd : (y == ("__classdict__" : Str)) = false := by decide)
    (hdb : (x == ("__debug__" : Str)) = false := by decide) (he : starEach (.Name y pp :: es) X.env = (false, eval (.Name y pp) X.env) :: starEach es X.env := by rfl) (hpl : (backTo pos (starEach es X.env)).any (·.1) = false := by rfl) :
    PD X c (.Call (.Name x p) (.Name y pp :: es) [] pos) (tCall (spP kd X.K n m) [] E0 (tCons (tVar i) t)) (dcallP c.mx i m fs) := by
  obtain ⟨f, fd, F, hm, hk, hb⟩ := C
  exact pd_callP i F hn (hr.mono hjk) hg hm hk hb pass0 ha hi hkd hN hv hd hcd hdb he hpl
end
/-- no list stands in the written part -/
def noLists (K : PySem.W.Frag) : Bool := K.all fun q => !(q.2.cls == .type "list")
theorem noLists_rd {K : PySem.W.Frag} (h : noLists K = true) {H : Hp} {a : Addr} {xs : List V} (s : SqL K H a xs) : Rd H a (.lst xs) := by
  rcases s with s | ⟨o, its, n, hk, hc, _⟩
  · exact s
  · have hm := He.lookup_mem hk
    have h1 := List.all_eq_true.mp h _ hm
    rw [hc] at h1
    exact absurd h1 (by decide)
end DR

set_option maxRecDepth 100000
set_option maxHeartbeats 1000000
namespace DR
open PySem PySem.Spec L2
open PyProof.Rows hiding St
open Evl (Ex ex_l ex_t ex_rd)

/-! ### new objects by an operator -/
def RD2N (K : PySem.W.Frag) (r : R2) (g : D → D → Option D) : Prop := ∀ (x y : V) (dx dy dz : D) (B H : Hp), Ex B H → Rep K B x dx → Rep K B y dy → g dx dy = some dz →
  ∀ Q : VK, (∀ p B' H1 o, Pu B H B' H1 → H p = none → H1 p = none → Own K B' (upd H1 p o) .flat [p] p dz → Q (.ref p) (upd H1 p o)) → r x y H Q
def addL : D → D → Option D
  | .list xs, .list ys => if xs.length + ys.length ≤ sizeLine then some (.list (xs ++ ys)) else none
  | _, _ => none
section
variable {X : Cx} {c : Cf} {K : PySem.W.Frag} {ta tb : TE} {fa fb : DM D} {a b : Expr} {pos : Pos}
theorem rd2n_add : RD2N K (rAddA K) addL := by
  intro x y dx dy dz B H e rx ry hg Q q
  cases dx <;> cases dy <;> first | (cases hg; done) | skip
  rename_i xs ys
  simp only [addL] at hg
  obtain ⟨hl, rfl⟩ := opt_if hg
  obtain ⟨a, vs, rfl, ha, ra⟩ := rep_lst rx
  obtain ⟨b, ws, rfl, hb, rb⟩ := rep_lst ry
  exact .inr (.inr (.inl ⟨a, b, vs, ws, rfl, rfl, ex_rd e ha, ex_rd e hb, by rw [ra.length, rb.length]; exact hl, fun p hp => q p B H _ (Pu.refl e) hp hp (Own.lst1 (ra.append rb))⟩))
theorem ev_pair (ha : EvD K c ta fa) (hb : EvD K c tb fb) : EvP K c (fun _ => True) (fun B (v : V × V) (b : D × D) => Rep K B v.1 b.1 ∧ Rep K B v.2 b.2) (fun σ H Q => ta σ H fun x H1 => tb σ H1 fun y H2 => Q (x, y) H2) (fa.bind fun x => fb.bind fun y => DM.pure (x, y)) :=
  EvP.bind (relA := Rep K) (tk := fun x σ H Q => tb σ H fun y H2 => Q (x, y) H2) mono_true ha fun x dx => EvP.bind (relA := Rep K) (tk := fun y _ H Q => Q (x, y) H) (mono_true.and (monoR_rep x dx)) (hb.weak fun _ _ => True.intro) fun y dy =>
    EvP.pure fun B p => ⟨p.1.2, p.2⟩
theorem ev_opN {r : R2} {g : D → D → Option D} (hr : RD2N K r g) (ha : EvD K c ta fa) (hb : EvD K c tb fb) : EvN .flat K c (tOp r ta tb) (dop g fa fb) := by
  have h := evn_val (s := .flat) (r := fun v H Q => r v.1 v.2 H Q) (g := fun b => g b.1 b.2) (ev_pair ha hb) fun v b dz B H e rv hg Q q => hr v.1 v.2 b.1 b.2 dz B H e rv.1 rv.2 hg Q q
  have e : (dop g fa fb) = ((fa.bind fun x => fb.bind fun y => DM.pure (x, y)).bind fun b => DM.opt (g b.1 b.2)) := by
    funext st
    unfold dop DM.bind DM.pure
    cases fa st with
    | none => rfl
    | some ra =>
      obtain ⟨ra, s1⟩ := ra
      cases ra with
      | ok x =>
        dsimp only
        cases fb s1 with
        | none => rfl
        | some rb =>
          obtain ⟨rb, s2⟩ := rb
          cases rb <;> rfl
      | ex c fl => rfl
  rw [e]
  exact h
theorem pdn_add (ha : PD X c a ta fa) (hb : PD X c b tb fb) : PDN .flat X c (.BinOp a .Add b pos) (tOp (rAddA X.K) ta tb) (dop addL fa fb) := ⟨pe_op op_addA ha.pe hb.pe, ev_opN rd2n_add ha.ev hb.ev⟩
end

/-! ### dicts -/
def keyD : D → Option Key
  | .int i => some (.inl i)
  | .str x => some (.inr x)
  | _ => none
def putD : List (D × D) → D → D → List (D × D)
  | [], k, v => [(k, v)]
  | (j, w) :: r, k, v => if PyData.eqv j k = true then (j, v) :: r else (j, w) :: putD r k v
def mergeD (kvs more : List (D × D)) : List (D × D) := more.foldl (fun acc kv => putD acc kv.1 kv.2) kvs
theorem eqv_key (i j : Key) : PyData.eqv (kD i) (kD j) = decide (i = j) := by
  cases i <;> cases j <;> simp [kD, PyData.eqv]
  · rename_i a b; exact Bool.eq_iff_iff.mpr (by simp)
  · rename_i a b; exact Bool.eq_iff_iff.mpr (by simp)
section
variable {K : PySem.W.Frag} {H : Hp}
theorem putK_nil (k : Key) (v : V) : putK ([] : List (Key × V)) k v = [(k, v)] := rfl
theorem map_ne {k : Key} {v : V} : ∀ {r : List (Key × V)}, k ∉ r.map (·.1) → r.map (fun kv => if kv.1 = k then (kv.1, v) else kv) = r
  | [], _ => rfl
  | (j, w) :: r, h => by
    rw [List.map_cons, List.mem_cons, not_or] at h
    rw [List.map_cons, if_neg fun e => h.1 e.symm, map_ne h.2]
theorem any_ne {k : Key} : ∀ {r : List (Key × V)}, k ∉ r.map (·.1) → (r.any fun kv => decide (kv.1 = k)) = false
  | [], _ => rfl
  | (j, w) :: r, h => by
    rw [List.map_cons, List.mem_cons, not_or] at h
    rw [List.any_cons, any_ne h.2, decide_eq_false fun e => h.1 e.symm]
    rfl
theorem putK_cons (j : Key) (w : V) (r : List (Key × V)) (k : Key) (v : V) (hn : ((j, w) :: r).map (·.1) |>.Nodup) : putK ((j, w) :: r) k v = if j = k then (j, v) :: r else (j, w) :: putK r k v := by
  have hn' := List.nodup_cons.mp (show (j :: r.map (·.1)).Nodup from hn)
  unfold putK
  by_cases e : j = k
  · subst e
    rw [if_pos rfl, List.any_cons, decide_eq_true rfl, Bool.true_or, if_pos rfl, List.map_cons, if_pos rfl, map_ne hn'.1]
  · rw [if_neg e, List.any_cons, decide_eq_false e, Bool.false_or]
    split
    · rw [List.map_cons, if_neg e]
    · rfl
theorem keys_putK (k : Key) (v : V) : ∀ (kvs : List (Key × V)), (kvs.map (·.1)).Nodup → ∀ j, j ∈ (putK kvs k v).map (·.1) ↔ j = k ∨ j ∈ kvs.map (·.1)
  | [], _, j => by simp [putK_nil]
  | (i, w) :: r, hn, j => by
    rw [putK_cons _ _ _ _ _ hn]
    have hn' := List.nodup_cons.mp (show (i :: r.map (·.1)).Nodup from hn)
    by_cases e : i = k
    · subst e
      rw [if_pos rfl]
      simp
    · rw [if_neg e, List.map_cons, List.mem_cons, keys_putK k v r hn'.2 j]
      simp only [List.map_cons, List.mem_cons]
      constructor
      · rintro (h | h | h) <;> simp [h]
      · rintro (h | h | h) <;> simp [h]
theorem nd_put (k : Key) (v : V) : ∀ (kvs : List (Key × V)), (kvs.map (·.1)).Nodup → ((putK kvs k v).map (·.1)).Nodup
  | [], _ => by simp [putK_nil]
  | (i, w) :: r, hn => by
    rw [putK_cons _ _ _ _ _ hn]
    have hn' := List.nodup_cons.mp (show (i :: r.map (·.1)).Nodup from hn)
    by_cases e : i = k
    · subst e
      rw [if_pos rfl]
      exact hn
    · rw [if_neg e, List.map_cons]
      refine List.nodup_cons.mpr ⟨fun h => ?_, nd_put k v r hn'.2⟩
      rcases (keys_putK k v r hn'.2 i).mp h with h | h
      · exact e h
      · exact hn'.1 h
theorem RepK.put {k : Key} {v : V} {d : D} (rv : Rep K H v d) : ∀ {kvs : List (Key × V)} {ds : List (D × D)}, (kvs.map (·.1)).Nodup → RepK K H kvs ds → RepK K H (putK kvs k v) (putD ds (kD k) d)
  | _, _, _, .nil => .cons rv .nil
  | (j, w) :: r, _, hn, .cons (ds := ds) r1 t => by
    rw [putK_cons _ _ _ _ _ hn]
    have hn' := List.nodup_cons.mp (show (j :: r.map (·.1)).Nodup from hn)
    unfold putD
    rw [eqv_key]
    by_cases e : j = k
    · rw [if_pos e, if_pos (decide_eq_true e)]
      exact .cons rv t
    · rw [if_neg e, if_neg (fun z => e (of_decide_eq_true z))]
      exact .cons r1 (RepK.put rv hn'.2 t)
theorem RepK.merge : ∀ {more : List (Key × V)} {ms : List (D × D)} {kvs : List (Key × V)} {ds : List (D × D)}, RepK K H more ms → (kvs.map (·.1)).Nodup → RepK K H kvs ds → RepK K H (mergeK kvs more) (mergeD ds ms) ∧ ((mergeK kvs more).map (·.1)).Nodup
  | _, _, _, _, .nil, hn, r => ⟨r, hn⟩
  | _, _, kvs, ds, .cons (k := k) (v := v) (d := d) (vs := vs) (ds := es) rv t, hn, r => RepK.merge (more := vs) (ms := es) (kvs := putK kvs k v) (ds := putD ds (kD k) d) t (nd_put k v kvs hn) (RepK.put rv hn r)
theorem rep_key {v : V} {d : D} {k : Key} (r : Rep K H v d) (h : keyD d = some k) : v = kV k ∧ d = kD k := by
  cases r <;> first | (cases h; done) | skip
  · cases h
    exact ⟨rfl, rfl⟩
  · cases h
    exact ⟨rfl, rfl⟩
end
/-- the pairs of a display -/
def dpnil : DM (List (D × D)) := DM.pure []
def dpcons (fk fv : DM D) (fr : DM (List (D × D))) : DM (List (D × D)) := fk.bind fun k => fv.bind fun v => fr.bind fun r => DM.pure ((k, v) :: r)
def dispD (ps : List (D × D)) : Option D := if ps.all (fun p => (keyD p.1).isSome) = true ∧ ps.length ≤ 15 then some (.dict (mergeD [] ps)) else none
def ddisp (fs : DM (List (D × D))) : DM D := fs.bind fun ps => DM.opt (dispD ps)
inductive RepP (K : PySem.W.Frag) (H : Hp) : List (V × V) → List (D × D) → Prop
  | nil : RepP K H [] []
  | cons {k v : V} {vs : List (V × V)} {d e : D} {ds : List (D × D)} : Rep K H k d → Rep K H v e → RepP K H vs ds → RepP K H ((k, v) :: vs) ((d, e) :: ds)
theorem RepP.mono {K : PySem.W.Frag} {H H' : Hp} (e : Ex H H') : ∀ {vs : List (V × V)} {ds : List (D × D)}, RepP K H vs ds → RepP K H' vs ds
  | _, _, .nil => .nil
  | _, _, .cons h j t => .cons (h.mono e) (j.mono e) (RepP.mono e t)
theorem RepP.keys {K : PySem.W.Frag} {H : Hp} : ∀ {vs : List (V × V)} {ds : List (D × D)}, RepP K H vs ds → ds.all (fun p => (keyD p.1).isSome) = true → ∃ kvs : List (Key × V), vs = kvs.map (fun kv => (kV kv.1, kv.2)) ∧ kvs.length = ds.length ∧ RepK K H kvs ds
  | _, _, .nil, _ => ⟨[], rfl, rfl, .nil⟩
  | _, _, .cons (d := d) (v := v) h j t, hk => by
    rw [List.all_cons, Bool.and_eq_true] at hk
    obtain ⟨kvs, h1, h2, h3⟩ := RepP.keys t hk.2
    obtain ⟨k, ek⟩ := Option.isSome_iff_exists.mp hk.1
    obtain ⟨e1, e2⟩ := rep_key h ek
    refine ⟨(k, v) :: kvs, ?_, ?_, ?_⟩
    · rw [List.map_cons, h1, e1]
    · rw [List.length_cons, List.length_cons, h2]
    · rw [show d = kD k from e2]
      exact .cons j h3
structure PDP (X : Cx) (c : Cf) (pos : Pos) (keys : List (Option Expr)) (values : List Expr) (trs : List (TE × TE)) (f : DM (List (D × D))) : Prop where
  pp : PPs X pos keys values trs
  ev : EvP X.K c (fun _ => True) (RepP X.K) (fun σ H Q => tPairs trs σ H Q) f
section
variable {X : Cx} {c : Cf} {K : PySem.W.Frag} {pos : Pos} {k v : Expr} {ks : List (Option Expr)} {vs : List Expr} {tk tv : TE} {trs : List (TE × TE)} {fk fv : DM D} {fr : DM (List (D × D))}
theorem monoR_repP : MonoR (RepP K) := fun v d B B' e h => h.mono e
theorem pdp_nil : PDP X c pos [] [] [] dpnil := ⟨pps_nil, EvP.pure fun _ _ => .nil⟩
theorem pdp_cons (hk : PD X c k tk fk) (hv : PD X c v tv fv) (hr : PDP X c pos ks vs trs fr) : PDP X c pos (some k :: ks) (v :: vs) ((tk, tv) :: trs) (dpcons fk fv fr) :=
  ⟨pps_cons hk.pe hv.pe hr.pp, EvP.bind (relA := Rep X.K) (relC := RepP X.K) (tk := fun x σ H Q => tv σ H fun y H2 => tPairs trs σ H2 fun ps H3 => Q ((x, y) :: ps) H3) mono_true hk.ev fun x dx =>
    EvP.bind (relA := Rep X.K) (relC := RepP X.K) (tk := fun y σ H Q => tPairs trs σ H fun ps H3 => Q ((x, y) :: ps) H3) (mono_true.and (monoR_rep x dx)) (hv.ev.weak fun _ _ => True.intro) fun y dy =>
    EvP.bind (relA := RepP X.K) (relC := RepP X.K) (tk := fun ps _ H Q => Q ((x, y) :: ps) H) ((mono_true.and (monoR_rep x dx)).and (monoR_rep y dy)) (hr.ev.weak fun _ _ => True.intro) fun ps ds =>
    EvP.pure fun B p => .cons p.1.1.2 p.1.2 p.2⟩
theorem ev_disp (h : EvP K c (fun _ => True) (RepP K) (fun σ H Q => tPairs trs σ H Q) fr) : EvN .flat K c (tDisp trs) (ddisp fr) := by
  intro A Z B σ H st ro er hf Q hok hex p hp
  have hf' : (fr.bind fun ps => DM.opt (dispD ps)) st = some ro := hf
  have er0 := er.new (o := .dK []) hp
  have hz : ∀ x ∈ [p], Z.fr x = none := fun x hx => by rw [List.mem_singleton.mp hx]; exact Zn.fresh er hp
  cases ef : fr st with
  | none =>
    unfold DM.bind at hf'
    rw [ef] at hf'
    cases hf'
  | some rf =>
    obtain ⟨rf, st1⟩ := rf
    refine h A _ B σ _ st _ er0 True.intro ef _ (fun ds st1' e1 vs B1 H1 er1 ad1 ra => ?_) (fun y fl st1' e1 dx B1 H1 er1 ad1 fl1 => ?_)
    · cases e1
      rw [bind_ok ef] at hf'
      obtain ⟨d, h1, rfl⟩ := Option.map_eq_some_iff.mp hf'
      obtain ⟨hl, rfl⟩ := opt_if h1
      have hk : H1 p = some (.dK []) := (er1.fr p _ ((addF_in (by simp)).trans upd_same)).1
      obtain ⟨kvs, e1, e2, e3⟩ := ra.keys hl.1
      refine ⟨hk, kvs, e1, by omega, ?_⟩
      obtain ⟨m1, m2⟩ := RepK.merge e3 (kvs := []) (ds := []) List.nodup_nil .nil
      rw [Zn.add_eq (H := H1) (H' := upd H p (.dK [])) fun x hx => by rw [List.mem_singleton.mp hx, hk, upd_same]] at er1
      exact hok _ st1 rfl p [p] B1 _ (er1.turn hk) ⟨ad1.ext, ad1.ln, ad1.upd, ad1.pst⟩ hz (Own.dct1 m2 m1)
    · cases e1
      rw [bind_ex ef] at hf'
      have hk : H1 p = some (.dK []) := (er1.fr p _ ((addF_in (by simp)).trans upd_same)).1
      rw [Zn.add_eq (H := H1) (H' := upd H p (.dK [])) fun x hx => by rw [List.mem_singleton.mp hx, hk, upd_same]] at er1
      exact hex y fl st1 (Option.some.inj hf').symm dx B1 H1 (er1.less hz) ⟨ad1.ext, ad1.ln, ad1.upd, ad1.pst⟩ fl1
theorem pdn_disp (h : PDP X c pos ks vs trs fr) (hall : ks.all (·.isSome) = true := by rfl) (hl : ks.length = vs.length := by rfl) (h0 : ks ≠ [] := by exact List.cons_ne_nil _ _) (h15 : ks.length ≤ 15 := by decide) : PDN .flat X c (.Dict ks vs pos) (tDisp trs) (ddisp fr) :=
  ⟨pe_disp h.pp hall hl h0 h15, ev_disp h.ev⟩
/-- {} of any shape -/
theorem pdn_dnew {s : Shp} {q : Key → Option Shp} (hs : s.selK = some q := by rfl) : PDN s X c (.Dict [] [] pos) tDNewK (DM.pure (.dict [])) :=
  ⟨pe_dnewK, fun A Z B σ H st ro er hf Q hok hex p hp => by
    cases hf
    exact hok _ st rfl p [p] B _ (er.new hp) (Adv.refl.more fun _ _ q => q) (fun x hx => by rw [List.mem_singleton.mp hx]; exact Zn.fresh er hp) (.dct hs upd_same List.nodup_nil .nil (by simp))⟩
end
/-! ### comprehensions whose readings may speak of the place -/
abbrev Bl (α : Type) := Shared → Hp → Addr → List (Str × Addr) → List Addr → α
abbrev Bl.at {α : Type} (X : Cx) (g : Bl α) : α := g X.s_0 X.H_0 0 [] []
section
variable {X : Cx} {c : Cs} {te : TE} {fe : DM D}
theorem pdn_lcV {X : Cx} {c : Cf} {elt tg iter : Expr} {ifs : List Expr} {scope : Scope} (own : List (Str × Nat)) {pos : Pos} {wi : TI} {fi : DM (List D)} {g0 : Bl TG} {gd : DG} {tt0 : Bl TT} {ft : DM Bool} {te0 : Bl TE} {fe : DM D} (hc : X.calm = true) (hN : X.N.Nodup) (hi : PDI X c tg iter wi fi) (ok : BlkOk X.N X.env.scope scope own)
    (hv : ∀ i ∈ own.map (·.2), i ∉ c.ps)
    (hg : ∀ (s : Shared) (H : Hp) (C : Addr) (cl : List (Str × Addr)) (fp : List Addr), PDG (X.blk s H scope (compEnvC scope cl C X.env) fp) c (own.map (·.2)) tg (g0 s H C cl fp) gd) (ht : ∀ (s : Shared) (H : Hp) (C : Addr) (cl : List (Str × Addr)) (fp : List Addr), PDTs (X.blk s H scope (compEnvC scope cl C X.env) fp) c ifs (tt0 s H C cl fp) ft)
    (he : ∀ (s : Shared) (H : Hp) (C : Addr) (cl : List (Str × Addr)) (fp : List Addr), PD (X.blk s H scope (compEnvC scope cl C X.env) fp) c elt (te0 s H C cl fp) fe) (eg : ∀ s H C cl fp, g0 s H C cl fp = Bl.at X g0 := by intros; rfl) (et : ∀ s H C cl fp, tt0 s H C cl fp = Bl.at X tt0 := by intros; rfl) (ee : ∀ s H C cl fp, te0 s H C cl fp = Bl.at X te0 := by intros; rfl) (hs : ∀ x, foldedSetIterable iter X.env x = pure x := by intro _; rfl) :
    PDN .flat X c (.ListComp elt [⟨tg, iter, ifs, 0⟩] scope pos) (tLc wi (Bl.at X g0) (Bl.at X tt0) (Bl.at X te0) (own.map (·.2))) (dcomp (own.map (·.2)) fi gd ft fe) := pdn_lc own hc hN hi ok hv (fun s H C cl fp => eg s H C cl fp ▸ hg s H C cl fp) (fun s H C cl fp => et s H C cl fp ▸ ht s H C cl fp) (fun s H C cl fp => ee s H C cl fp ▸ he s H C cl fp) hs
/-- x = [.. for ..], at a statement -/
theorem pds_setLcW {i : Nat} {y : Str} {py : Pos} {elt tg iter : Expr} {ifs : List Expr} {scope : Scope} {own : List (Str × Nat)} {pos0 spos : Pos} {wi : TI} {fi : DM (List D)} {g0 : Bl TG} {te0 : Bl TE} {gd : DG} {tt0 : Bl TT} {ft : DM Bool} {J R : List Nat} {fx : DM D} (hN : X.N.Nodup) (hc : X.calm = true) (hy : X.N[i]? = some y) (hyl : X.env.scope.names.lookup y = some .local)
    (hsw : swapsWith (.ListComp elt [⟨tg, iter, ifs, 0⟩] scope pos0) (some (.Name y py)) spos.line X.env = pure true) (hi : PDI X (c.cf J R) tg iter wi fi) (ok : BlkOk X.N X.env.scope scope own) (hv : ∀ i ∈ own.map (·.2), i ∉ (c.cf J R).ps)
    (hg : ∀ (s : Shared) (H : Hp) (C : Addr) (cl : List (Str × Addr)) (fp : List Addr), PDG (X.blk s H scope (compEnvC scope cl C X.env) fp) (c.cf J R) (own.map (·.2)) tg (g0 s H C cl fp) gd) (ht : ∀ (s : Shared) (H : Hp) (C : Addr) (cl : List (Str × Addr)) (fp : List Addr), PDTs (X.blk s H scope (compEnvC scope cl C X.env) fp) (c.cf J R) ifs (tt0 s H C cl fp) ft)
    (he : ∀ (s : Shared) (H : Hp) (C : Addr) (cl : List (Str × Addr)) (fp : List Addr), PD (X.blk s H scope (compEnvC scope cl C X.env) fp) (c.cf J R) elt (te0 s H C cl fp) fe)
    (hS : ∀ te, EvN .flat X.K (c.cf J R) te (dcomp (own.map (·.2)) fi gd ft fe) → EvS X.K c (tAsg te (gName i)) (dset i fx))
    (eg : ∀ s H C cl fp, g0 s H C cl fp = Bl.at X g0 := by intros; rfl) (et : ∀ s H C cl fp, tt0 s H C cl fp = Bl.at X tt0 := by intros; rfl) (ee : ∀ s H C cl fp, te0 s H C cl fp = Bl.at X te0 := by intros; rfl) (hs : ∀ x, foldedSetIterable iter X.env x = pure x := by intro _; rfl) :
    PDS X c (.Assign [.Name y py] (.ListComp elt [⟨tg, iter, ifs, 0⟩] scope pos0) spos) (tAsg (tLc wi (Bl.at X g0) (Bl.at X tt0) (Bl.at X te0) (own.map (·.2))) (gName i)) (dset i fx) :=
  ⟨ps_setLc hc hN hy hyl hsw hi.pi ok (fun s H C cl fp => eg s H C cl fp ▸ (hg s H C cl fp).pg) (fun s H C cl fp => et s H C cl fp ▸ (ht s H C cl fp).pt) (fun s H C cl fp => ee s H C cl fp ▸ (he s H C cl fp).pe) hs,
   hS _ (ev_lc hv hi.ev (hg X.s_0 X.H_0 0 [] []).ev (ht X.s_0 X.H_0 0 [] []).ev (he X.s_0 X.H_0 0 [] []).ev)⟩
/-! the ways of such a statement: p: a plain name, c: a cell; m: pens that were handed in, g: cells as pens, a: cells read -/
theorem lc_pm {K : PySem.W.Frag} {i : Nat} {J : List Nat} {f : DM D} (h1 : i ∉ c.ow := by decide) (hJ : ∀ i ∈ J, i ∈ c.pa := by decide) : ∀ te, EvN .flat K (c.cf J []) te f → EvS K c (tAsg te (gName i)) (dset i f) := fun te h => ev_set h1 (.m (h.ev rfl) hJ)
theorem lc_pg {K : PySem.W.Frag} {i : Nat} {J : List Nat} {f : DM D} (h1 : i ∉ c.ow := by decide) (hJ : ∀ i ∈ J, i ∈ c.ow := by decide) : ∀ te, EvN .flat K (c.cf J []) te f → EvS K c (tAsg te (gName i)) (dset i (dlv J f)) := fun te h => ev_set h1 (.g (h.ev rfl) hJ)
theorem lc_cm {K : PySem.W.Frag} {i : Nat} {J : List Nat} {f : DM D} (h1 : i ∈ c.ow := by decide) (h2 : i ∉ c.pa := by decide) (hk : c.kd.getD i .flat = .flat := by rfl) (hJ : ∀ i ∈ J, i ∈ c.pa := by decide) : ∀ te, EvN .flat K (c.cf J []) te f → EvS K c (tAsg te (gName i)) (dset i f) := fun te h => ev_setC h1 h2 hk (.m h hJ)
theorem lc_cg {K : PySem.W.Frag} {i : Nat} {J : List Nat} {f : DM D} (h1 : i ∈ c.ow := by decide) (h2 : i ∉ c.pa := by decide) (hk : c.kd.getD i .flat = .flat := by rfl) (hJ : ∀ i ∈ J, i ∈ c.ow := by decide) : ∀ te, EvN .flat K (c.cf J []) te f → EvS K c (tAsg te (gName i)) (dset i (dlv J f)) := fun te h => ev_setC h1 h2 hk (.g h hJ)
theorem lc_ca {K : PySem.W.Frag} {i : Nat} {J R : List Nat} {f : DM D} (h1 : i ∈ c.ow := by decide) (h2 : i ∉ c.pa := by decide) (hk : c.kd.getD i .flat = .flat := by rfl) (hJ : ∀ i ∈ J, i ∈ c.pa := by decide) (hR : ∀ i ∈ R, i ∈ c.ow ∧ i ∉ J ∧ (c.kd.getD i .flat).plain = true := by decide) : ∀ te, EvN .flat K (c.cf J R) te f → EvS K c (tAsg te (gName i)) (dset i (dflatN f)) := fun te h => ev_setC h1 h2 hk (.a h hJ hR)
/-- .. a plain name, the list told flat: taken into the base -/
theorem EvEN.e {K : PySem.W.Frag} {s : Shp} {te : TE} {f : DM D} (hs : s.plain = true) (h : EvEN s K c te f) : EvE K c (Rep K) te f := fun A0 Φ B0 B σ H st r s0 hf Q q x =>
  h A0 Φ B0 B σ H st r s0 hf Q (fun d st' p X B' H' e s1 ex hX ow => by
    have hXB : ∀ y ∈ X, B' y = none := fun y hy => by
      obtain ⟨u, hu⟩ := ow.has y hy
      exact (s1.fr.fr y u ((addF_in hy).trans hu)).2
    have hx := addF_ex (H := H') hXB
    refine q d st' _ (addF B' H' X) H' e ⟨s1.len, fun a o w => hx a o (s1.b0 a o w), fun i d' h1 h2 => ?_, ?_, ⟨fun a o w => ?_, fun a o w => ?_⟩, s1.pa⟩ (fun a o w => hx a o (ex a o w)) (ow.frz hx hs fun y hy => addF_in hy)
    · obtain ⟨v, w1, w2⟩ := s1.rd i d' h1 h2
      exact ⟨v, w1, w2.mono hx⟩
    · obtain ⟨F, h1, h2⟩ := s1.ow
      refine ⟨F, fun i hi d' hd => ?_, h2⟩
      obtain ⟨a, w1, w2, w3⟩ := h1 i hi d' hd
      refine ⟨a, w1, w2.mono hx (fun _ _ => rfl), fun y hy => ?_⟩
      obtain ⟨z1, z2⟩ := addF_none (w3 y hy).2 (ow.has y)
      exact ⟨(addF_out z1).trans (w3 y hy).1, z2⟩
    · by_cases z : a ∈ X
      · rw [addF_in z] at w
        exact w
      · rw [addF_out z] at w
        exact s1.bh a o w
    · have hn : a ∉ X := fun z => by
        rw [hX a z] at w
        cases w
      obtain ⟨w1, w2⟩ := s1.fr.fr a o ((addF_out hn).trans w)
      exact ⟨w1, (addF_out hn).trans w2⟩) x
theorem lc_pa {K : PySem.W.Frag} {i : Nat} {J R : List Nat} {f : DM D} (h1 : i ∉ c.ow := by decide) (hJ : ∀ i ∈ J, i ∈ c.pa := by decide) (hR : ∀ i ∈ R, i ∈ c.ow ∧ i ∉ J ∧ (c.kd.getD i .flat).plain = true := by decide) : ∀ te, EvN .flat K (c.cf J R) te f → EvS K c (tAsg te (gName i)) (dset i (dflatN f)) := fun te h => ev_set h1 (EvEN.e rfl (.a h hJ hR))
theorem PDEN.e {s : Shp} {e : Expr} {te : TE} {f : DM D} (h : PDEN s X c e te f) (hs : s.plain = true := by rfl) : PDE X c e te f := ⟨h.pe, EvEN.e hs h.ev⟩
end
end DR

set_option maxRecDepth 100000
set_option maxHeartbeats 1000000
namespace DR
open PySem PySem.Spec L2
open PyProof.Rows hiding St
open Evl (Ex ex_l ex_t ex_rd)


/-! ### dicts with keys ints and texts: reading -/
theorem rep_dct {K : PySem.W.Frag} {H : Hp} {v : V} {ds : List (D × D)} (r : Rep K H v (.dict ds)) : ∃ a kvs, v = .ref a ∧ H a = some (.dK kvs) ∧ (kvs.map (·.1)).Nodup ∧ RepK K H kvs ds := by
  cases r with
  | dct h n a => exact ⟨_, _, rfl, h, n, a⟩
def lkD (ds : List (D × D)) (k : D) : Option D := match ds with
  | [] => none
  | (j, d) :: r => if PyData.eqv j k = true then some d else lkD r k
theorem RepK.look {K : PySem.W.Frag} {H : Hp} (k : Key) : ∀ {kvs : List (Key × V)} {ds : List (D × D)}, RepK K H kvs ds → (∀ d, lkD ds (kD k) = some d → ∃ v, valV kvs k = some v ∧ Rep K H v d) ∧ (lkD ds (kD k)).isSome = (valV kvs k).isSome
  | _, _, .nil => ⟨fun d h => (nomatch h), rfl⟩
  | _, _, .cons (k := j) (v := v) (d := d0) (vs := vs) (ds := ds) r t => by
    obtain ⟨h1, h2⟩ := RepK.look k t
    unfold lkD
    rw [eqv_key]
    by_cases e : j = k
    · rw [if_pos (decide_eq_true e), valV_pos (p := (j, v)) e]
      exact ⟨fun d h => by cases h; exact ⟨v, rfl, r⟩, rfl⟩
    · rw [if_neg (fun z => e (of_decide_eq_true z)), valV_neg (p := (j, v)) e]
      exact ⟨h1, h2⟩
def dgetD (ds : List (D × D)) (k : D) : Option D := if (keyD k).isSome = true then lkD ds k else none
def dinB (ds : List (D × D)) (k : D) : Option Bool := if (keyD k).isSome = true then some (lkD ds k).isSome else none
def ixA (d k : D) : Option D := match d with
  | .dict ds => dgetD ds k
  | d => ixD d k
def inA (k d : D) : Option D := match d with
  | .dict ds => (dinB ds k).map PyData.bool
  | d => inD k d
def notInA (k d : D) : Option D := match d with
  | .dict ds => (dinB ds k).map fun b => .bool (!b)
  | d => notInD k d
abbrev rDG : R2 := fun x y H Q => ∃ a v, x = .ref a ∧ DGet H a y (some v) ∧ Q v H
abbrev rDI : R2 := fun y x H Q => ∃ a o, x = .ref a ∧ DGet H a y o ∧ Q (.bl o.isSome) H
abbrev rDNI : R2 := fun y x H Q => ∃ a o, x = .ref a ∧ DGet H a y o ∧ Q (.bl (!o.isSome)) H
theorem ix_dict {X : Cx} (hu : X.A.units + 1 < cLine) : IxR X rDG := by
  intro value slice pins s σ H x y v u Q I rx ry h hs
  obtain ⟨a, w, rfl, g, q⟩ := h
  cases rx
  exact tail_any (dict_typeIs I g) slot_dict_getitem.lookup (d_getItem hu I g ry fun w' s3 I3 rw' => ⟨w, H, I3, rw', q⟩) hs
theorem op_din {X : Cx} (hu : X.A.units + 1 < cLine) : OpR X (compareOp .In) rDI := by
  intro pins s σ H y x u v Q I ry rx h
  obtain ⟨a, o, rfl, g, q⟩ := h
  cases rx
  exact d_in hu I g ry fun s3 I3 => ⟨.bl o.isSome, H, I3, rfl, q⟩
theorem op_dnotIn {X : Cx} (hu : X.A.units + 1 < cLine) : OpR X (compareOp .NotIn) rDNI := by
  intro pins s σ H y x u v Q I ry rx h
  obtain ⟨a, o, rfl, g, q⟩ := h
  cases rx
  exact d_notIn hu I g ry fun s3 I3 => ⟨.bl (!o.isSome), H, I3, rfl, q⟩
theorem hu1 {k : Nat} {A : Around} (hr : Room k A) : A.units + 1 < cLine := by
  have := hr.un
  omega
section
variable {K : PySem.W.Frag}
theorem dget_of {B H : Hp} (e : Ex B H) {a : Addr} {kvs : List (Key × V)} {k : Key} (h : B a = some (.dK kvs)) : DGet H a (kV k) (valV kvs k) := .k (e a _ h)
theorem key_of' {d : D} (h : (keyD d).isSome = true) : ∃ k, d = kD k := by
  cases d <;> first | (cases h; done) | exact ⟨.inl _, rfl⟩ | exact ⟨.inr _, rfl⟩
theorem rep_kD {H : Hp} {v : V} {k : Key} (r : Rep K H v (kD k)) : v = kV k := by
  cases k
  · exact rep_int r
  · exact rep_str r
theorem rd2_ixA : RD2 K (fun x y H Q => rIx K x y H Q ∨ rDG x y H Q) ixA := by
  intro x y dx dy dz B H e rx ry hg Q q
  cases dx with
  | dict ds =>
    obtain ⟨hk, hv⟩ : (keyD dy).isSome = true ∧ lkD ds dy = some dz := by
      have h : dgetD ds dy = some dz := hg
      unfold dgetD at h
      split at h
      · exact ⟨by assumption, h⟩
      · cases h
    obtain ⟨a, kvs, rfl, ha, _, rk⟩ := rep_dct rx
    obtain ⟨k, rfl⟩ := key_of' hk
    obtain ⟨v, h1, h2⟩ := (rk.look k).1 dz hv
    exact .inr ⟨a, v, rfl, by rw [rep_kD ry, ← h1]; exact dget_of e ha, q v B H (Pu.refl e) h2⟩
  | _ => exact .inl (rd2_ix x y _ dy dz B H e rx ry hg Q q)
theorem dinB_ok {ds : List (D × D)} {k : D} {b : Bool} (h : dinB ds k = some b) : (keyD k).isSome = true ∧ b = (lkD ds k).isSome := by
  obtain ⟨h1, h2⟩ := opt_if h
  exact ⟨h1, h2.symm⟩
theorem rd2_inA : RD2 K (fun x y H Q => rInA K x y H Q ∨ rDI x y H Q) inA := by
  intro x y dx dy dz B H e rx ry hg Q q
  cases dy with
  | dict ds =>
    obtain ⟨b, h1, rfl⟩ := Option.map_eq_some_iff.mp (show (dinB ds dx).map PyData.bool = some dz from hg)
    obtain ⟨hk, rfl⟩ := dinB_ok h1
    obtain ⟨a, kvs, rfl, ha, _, rk⟩ := rep_dct ry
    obtain ⟨k, rfl⟩ := key_of' hk
    refine .inr ⟨a, valV kvs k, rfl, by rw [rep_kD rx]; exact dget_of e ha, ?_⟩
    rw [← (rk.look k).2]
    exact q _ B H (Pu.refl e) (.bl _)
  | _ => exact .inl (rd2_in x y dx _ dz B H e rx ry hg Q q)
theorem rd2_notInA : RD2 K (fun x y H Q => rNotInA K x y H Q ∨ rDNI x y H Q) notInA := by
  intro x y dx dy dz B H e rx ry hg Q q
  cases dy with
  | dict ds =>
    obtain ⟨b, h1, rfl⟩ := Option.map_eq_some_iff.mp (show ((dinB ds dx).map fun b => PyData.bool (!b)) = some dz from hg)
    obtain ⟨hk, rfl⟩ := dinB_ok h1
    obtain ⟨a, kvs, rfl, ha, _, rk⟩ := rep_dct ry
    obtain ⟨k, rfl⟩ := key_of' hk
    refine .inr ⟨a, valV kvs k, rfl, by rw [rep_kD rx]; exact dget_of e ha, ?_⟩
    rw [← (rk.look k).2]
    exact q _ B H (Pu.refl e) (.bl _)
  | _ => exact .inl (rd2_notIn x y dx _ dz B H e rx ry hg Q q)
theorem op_inAA {X : Cx} (hu : X.A.units + 65 < cLine) : OpR X (compareOp .In) (fun x y H Q => rInA X.K x y H Q ∨ rDI x y H Q) := (op_inA hu).or (op_din (by omega))
theorem op_notInAA {X : Cx} (hu : X.A.units + 65 < cLine) : OpR X (compareOp .NotIn) (fun x y H Q => rNotInA X.K x y H Q ∨ rDNI x y H Q) := (op_notInA hu).or (op_dnotIn (by omega))
end
section
variable {X : Cx} {c : Cf} {ta tb : TE} {fa fb : DM D} {a b : Expr} {pos : Pos}
theorem pd_ixA (hu : X.A.units + 65 < cLine) (ha : PD X c a ta fa) (hb : PD X c b tb fb) (hs : PlainIx b := by exact fun _ _ => rfl) : PD X c (.Subscript a b pos) (tOp (fun x y H Q => rIx X.K x y H Q ∨ rDG x y H Q) ta tb) (dop ixA fa fb) := ⟨pe_ix (ix_seq.or (ix_dict (by omega))) ha.pe hb.pe hs, ev_op rd2_ixA ha.ev hb.ev⟩
end

/-! ### x.update(d): x a cell that is a dict -/
def rUpdK : V → List V → Hp → VK → Prop := fun x vs H Q => ∃ a b kvs more, x = .ref a ∧ vs = [.ref b] ∧ a ≠ b ∧ H a = some (.dK kvs) ∧ H b = some (.dK more) ∧ kvs.length + more.length ≤ sizeLine ∧ Q .non (upd H a (.dK (mergeK kvs more)))
theorem mt_update {X : Cx} : MtM X "dict.update" rUpdK := by
  intro pins s σ H x vs v us Q I rx rv h
  obtain ⟨a, b, kvs, more, rfl, rfl, hne, hA, hB, hz, q⟩ := h
  cases rx
  obtain ⟨u, rfl, ru⟩ := rv.one
  cases ru
  obtain ⟨z1, n1, ks, r1, d1⟩ := dk_of I.hok hA
  obtain ⟨z2, n2, ms, r2, d2⟩ := dk_of I.hok hB
  refine call_meetsIn PySem.F.slot_dict_update d1.typeIs PySem.F.entry_dict_update (PySem.F.args_dict_update_2 _ _) (meets_dict_update (mixKind X.prog X.w) a b hne n2)
    ⟨ks, ms, d1, d2, by rw [← r1.length, ← r2.length]; exact hz, fun h' dm _ hs => ?_⟩
  refine ⟨.non, _, ?_, rfl, q⟩
  have he : ∃ q, h'.get? a = some q := let ⟨q, _, _, hq, _⟩ := dm; ⟨q, hq⟩
  exact d_write (t' := s.toks) I (by rw [hA]; exact True.intro) hs he (dk_new (by have := length_mergeK more kvs; omega) n1 (r2.merge r1) dm)
theorem RepK.len {K : PySem.W.Frag} {H : Hp} : ∀ {kvs : List (Key × V)} {ds : List (D × D)}, RepK K H kvs ds → kvs.length = ds.length
  | _, _, .nil => rfl
  | _, _, .cons _ t => congrArg Nat.succ (RepK.len t)
end DR

set_option maxRecDepth 100000
set_option maxHeartbeats 1000000
namespace DR
open PySem PySem.Spec L2
open PyProof.Rows hiding St
open Evl (Ex ex_l ex_t ex_rd)

/-! ### the module's own data: texts, numbers, tuples; a dict with text keys -/
mutual
def dataB (K : PySem.W.Frag) : D → Value → Bool
  | .none, .none => true
  | .bool b, .bool c => decide (b = c)
  | .int i, .int j _ => decide (i = j)
  | .str x, .str y _ => decide (x = y)
  | .tuple ds, .ref a => match K.lookup a with
    | some ⟨.type c, _, .seq its _, _⟩ => decide (c = "tuple") && (decide (its.size ≤ sizeLine) && dataAll K ds its.toList)
    | _ => false
  | _, _ => false
def dataAll (K : PySem.W.Frag) : List D → List Value → Bool
  | [], [] => true
  | d :: ds, u :: us => dataB K d u && dataAll K ds us
  | _, _ => false
end
theorem ba2 {a b : Bool} (h : (a && b) = true) : a = true ∧ b = true := Bool.and_eq_true_iff.mp h
mutual
theorem dataB_ok {K : PySem.W.Frag} : ∀ {d : D} {u : Value}, dataB K d u = true → ∃ v, RelV v u ∧ ∀ H, Rep K H v d
  | .none, u, h => by
    cases u <;> first | (cases h; done) | skip
    exact ⟨.non, rfl, fun _ => .non⟩
  | .bool b, u, h => by
    cases u <;> first | (cases h; done) | skip
    rename_i c
    have e : b = c := of_decide_eq_true h
    exact ⟨.bl b, by rw [e]; rfl, fun _ => .bl b⟩
  | .int b, u, h => by
    cases u <;> first | (cases h; done) | skip
    rename_i c t
    have e : b = c := of_decide_eq_true h
    exact ⟨.int b, ⟨t, by rw [e]⟩, fun _ => .int b⟩
  | .str b, u, h => by
    cases u <;> first | (cases h; done) | skip
    rename_i c t
    have e : b = c := of_decide_eq_true h
    exact ⟨.str b, ⟨t, by rw [e]⟩, fun _ => .str b⟩
  | .tuple ds, u, h => by
    cases u <;> first | (cases h; done) | skip
    rename_i a
    unfold dataB at h
    split at h
    · rename_i c od its n osl q
      obtain ⟨h1, h2⟩ := ba2 h
      obtain ⟨h3, h4⟩ := ba2 h2
      obtain ⟨vs, r, e⟩ := dataAll_ok h4
      exact ⟨.ref a, rfl, fun H => .tup (.inr ⟨_, its, n, q, congrArg Value.type (of_decide_eq_true h1), rfl, of_decide_eq_true h3, r⟩) (e H)⟩
    · cases h
  | .list _, u, h => by cases u <;> cases h
  | .dict _, u, h => by cases u <;> cases h
theorem dataAll_ok {K : PySem.W.Frag} : ∀ {ds : List D} {us : List Value}, dataAll K ds us = true → ∃ vs, Vals vs us ∧ ∀ H, RepA K H vs ds
  | [], [], _ => ⟨[], .nil, fun _ => .nil⟩
  | d :: ds, u :: us, h => by
    unfold dataAll at h
    obtain ⟨h1, h2⟩ := ba2 h
    obtain ⟨v, r, e⟩ := dataB_ok h1
    obtain ⟨vs, r2, e2⟩ := dataAll_ok h2
    exact ⟨v :: vs, .cons r r2, fun H => .cons (e H) (e2 H)⟩
  | [], _ :: _, h => by simp [dataAll] at h
  | _ :: _, [], h => by simp [dataAll] at h
end
/-- the module's name x is this datum -/
def gloB (K : PySem.W.Frag) (x : Str) (d : D) : Bool := match PySem.W.nsIn K mainGlobals x with
  | some (some u) => dataB K d u
  | _ => false
def gV (K : PySem.W.Frag) (x : Str) : D → V
  | .none => .non
  | .bool b => .bl b
  | .int i => .int i
  | .str z => .str z
  | _ => .ref (He.ga K x)
def GloD (K : PySem.W.Frag) (mg : Str → Option Value) (x : Str) (d : D) : Prop := ∃ u, mg x = some u ∧ RelV (gV K x d) u ∧ ∀ H, Rep K H (gV K x d) d
theorem gloB_ok {K : PySem.W.Frag} {h : Heap} {mg : Str → Option Value} {x : Str} {d : D} (X : K.In h) (G : h.Ns mainGlobals mg) (c : gloB K x d = true) : GloD K mg x d := by
  unfold gloB at c
  cases e : PySem.W.nsIn K mainGlobals x with
  | none =>
    rw [e] at c
    cases c
  | some r =>
    rw [e] at c
    cases r with
    | none => cases c
    | some u =>
      obtain ⟨v, r, q⟩ := dataB_ok c
      have ev : v = gV K x d := by
        have q0 := q fun _ => none
        cases q0 <;> first | rfl | skip
        · cases r
          simp [gV, He.ga, e]
        · cases r
          simp [gV, He.ga, e]
        · cases r
          simp [gV, He.ga, e]
      rw [ev] at r q
      exact ⟨u, PySem.W.mg_of X G e, r, q⟩
/-- .. a dict with these text keys and data, told at every text -/
def tabB (K : PySem.W.Frag) (x : Str) (tab : List (Str × D)) : Bool := eqOA (PySem.W.nsIn K mainGlobals x) (He.ga K x) && match K.lookup (He.ga K x) with
  | some ⟨_, _, .dict es _, _⟩ => tabE K es.toList tab
  | _ => false
where
  eqOA (o : Option (Option Value)) (a : Addr) : Bool := decide (o = some (some (.ref a)))
  tabE (K : PySem.W.Frag) : List DictEntry → List (Str × D) → Bool
    | [], [] => true
    | e :: es, (k, d) :: r => (match e.key with
      | .str y _ => decide (y = k)
      | _ => false) && dataB K d e.val && tabE K es r
    | _, _ => false
theorem tabE_ok {K : PySem.W.Frag} (z : Str) : ∀ {es : List DictEntry} {tab : List (Str × D)}, tabB.tabE K es tab = true →
    (match es.find? (·.key.isStr z) with
      | some e => some (some e.val)
      | none => if es.any (·.refKey) then none else some (none : Option Value)) = some none ∧ tab.lookup z = none ∨
    ∃ u d, (match es.find? (·.key.isStr z) with
      | some e => some (some e.val)
      | none => if es.any (·.refKey) then none else some (none : Option Value)) = some (some u) ∧ tab.lookup z = some d ∧ dataB K d u = true
  | [], [], _ => .inl ⟨rfl, rfl⟩
  | e :: es, (k, d) :: r, h => by
    unfold tabB.tabE at h
    obtain ⟨h1, h3⟩ := ba2 h
    obtain ⟨h1, h2⟩ := ba2 h1
    cases ek : e.key with
    | str y t =>
      rw [ek] at h1
      have ey : y = k := of_decide_eq_true h1
      subst ey
      by_cases ez : z = y
      · subst ez
        refine .inr ⟨e.val, d, ?_, ?_, h2⟩
        · rw [List.find?_cons, ek]
          have : (Value.str z t).isStr z = true := by simp [Value.isStr]
          rw [this]
        · rw [List.lookup_cons]
          simp
      · have e1 : (e.key.isStr z) = false := by
          rw [ek]
          simp [Value.isStr]
          exact fun h => ez h.symm
        have e2 : e.refKey = false := by
          unfold DictEntry.refKey
          rw [ek]
        rw [List.find?_cons, e1, List.any_cons, e2, Bool.false_or, List.lookup_cons]
        have e3 : (z == y) = false := by simpa using ez
        rw [e3]
        exact tabE_ok z h3
    | _ =>
      rw [ek] at h1
      cases h1
  | [], _ :: _, h => by simp [tabB.tabE] at h
  | _ :: _, [], h => by simp [tabB.tabE] at h
/-- the module's name x is a dict with these text keys -/
def TabD (K : PySem.W.Frag) (w : World) (mg : Str → Option Value) (x : Str) (tab : List (Str × D)) : Prop := ∃ (es : Array DictEntry) (n : Nat), mg x = some (.ref (He.ga K x)) ∧ KDict K w (He.ga K x) es n ∧
  ∀ z, (PySem.W.nsIn K (He.ga K x) z = some none ∧ tab.lookup z = none) ∨ ∃ u d, PySem.W.nsIn K (He.ga K x) z = some (some u) ∧ tab.lookup z = some d ∧ dataB K d u = true
theorem tabB_ok {K : PySem.W.Frag} {w : World} {h : Heap} {mg : Str → Option Value} {x : Str} {tab : List (Str × D)} {es : Array DictEntry} {n : Nat} (X : K.In h) (G : h.Ns mainGlobals mg) (c : tabB K x tab = true) (D : KDict K w (He.ga K x) es n) : TabD K w mg x tab := by
  unfold tabB at c
  obtain ⟨c1, c2⟩ := ba2 c
  refine ⟨es, n, PySem.W.mg_of X G (of_decide_eq_true c1), D, fun z => ?_⟩
  rw [D.at_] at c2
  have := tabE_ok z (K := K) c2
  unfold PySem.W.nsIn
  rw [D.at_]
  exact this
/-! the words -/
def gixD (tab : List (Str × D)) : D → Option D
  | .str z => tab.lookup z
  | _ => none
def ginD (tab : List (Str × D)) : D → Option D
  | .str z => some (.bool (tab.lookup z).isSome)
  | _ => none
def gnotInD (tab : List (Str × D)) : D → Option D
  | .str z => some (.bool (!(tab.lookup z).isSome))
  | _ => none
section
variable {X : Cx} {c : Cf} {tb : TE} {fb : DM D} {b : Expr} {pos p1 : Pos} {x : Str} {tab : List (Str × D)}
theorem pd_globD {d : D} (hg : Gl X x) (hm : GloD X.K X.mg x d) (hd : (x == ("__debug__" : Str)) = false := by decide) : PD X c (.Name x pos) (tC (gV X.K x d)) (DM.pure d) := by
  obtain ⟨u, h1, h2, h3⟩ := hm
  exact pd_glob hg h1 h2 (fun H => h3 H) hd
theorem pe_gtab (hg : Gl X x) (T : TabD X.K X.w X.mg x tab) (hd : (x == ("__debug__" : Str)) = false := by decide) : PE X (.Name x pos) (tC (.ref (He.ga X.K x))) := by
  obtain ⟨es, n, h1, _⟩ := T
  exact pe_glob hg h1 rfl hd
theorem ev_gix {K : PySem.W.Frag} {w : World} {mg : Str → Option Value} (T : TabD K w mg x tab) (hb : EvD K c tb fb) : EvD K c (tOp (rIxD K w) (tC (.ref (He.ga K x))) tb) (dun (gixD tab) fb) :=
  EvP.bind (relA := Rep K) (relC := Rep K) (tk := fun y _ H Q => rIxD K w (.ref (He.ga K x)) y H Q) mono_true hb fun y dy => EvP.val (t := fun H Q => rIxD K w (.ref (He.ga K x)) y H Q) fun B H dz e p h Q q => by
    obtain ⟨es, n, _, D, hT⟩ := T
    cases dy <;> first | (cases h; done) | skip
    rename_i z
    rcases hT z with ⟨_, h2⟩ | ⟨u, d, h1, h2, h3⟩
    · rw [show gixD tab (.str z) = tab.lookup z from rfl, h2] at h
      cases h
    · rw [show gixD tab (.str z) = tab.lookup z from rfl, h2] at h
      cases h
      obtain ⟨v, r, q3⟩ := dataB_ok h3
      exact ⟨_, z, v, rfl, rep_str p.2, ⟨es, n, u, D.at_, D.lit, h1, r⟩, q v B H (Pu.refl e) (q3 B)⟩
theorem pd_gix (hg : Gl X x) (T : TabD X.K X.w X.mg x tab) (hb : PD X c b tb fb) (hs : PlainIx b := by exact fun _ _ => rfl) (hd : (x == ("__debug__" : Str)) = false := by decide) : PD X c (.Subscript (.Name x p1) b pos) (tOp (rIxD X.K X.w) (tC (.ref (He.ga X.K x))) tb) (dun (gixD tab) fb) :=
  ⟨pe_ix ix_kdict (pe_gtab hg T hd) hb.pe hs, ev_gix T hb.ev⟩
abbrev rGin (K : PySem.W.Frag) (d : Addr) : R2 := fun x y H Q => ∃ (z : Str) (r : Option Value), x = .str z ∧ y = .ref d ∧ PySem.W.nsIn K d z = some r ∧ Q (.bl r.isSome) H
abbrev rGnin (K : PySem.W.Frag) (d : Addr) : R2 := fun x y H Q => ∃ (z : Str) (r : Option Value), x = .str z ∧ y = .ref d ∧ PySem.W.nsIn K d z = some r ∧ Q (.bl (!r.isSome)) H
theorem ev_gin {K : PySem.W.Frag} {w : World} {mg : Str → Option Value} (T : TabD K w mg x tab) (hb : EvD K c tb fb) : EvD K c (tOp (rGin K (He.ga K x)) tb (tC (.ref (He.ga K x)))) (dun (ginD tab) fb) :=
  EvP.bind (relA := Rep K) (relC := Rep K) (tk := fun y _ H Q => rGin K (He.ga K x) y (.ref (He.ga K x)) H Q) mono_true hb fun y dy => EvP.val (t := fun H Q => rGin K (He.ga K x) y (.ref (He.ga K x)) H Q) fun B H dz e p h Q q => by
    obtain ⟨es, n, _, D, hT⟩ := T
    cases dy <;> first | (cases h; done) | skip
    rename_i z
    cases h
    rcases hT z with ⟨h1, h2⟩ | ⟨u, d, h1, h2, h3⟩
    · exact ⟨z, none, rep_str p.2, rfl, h1, q _ B H (Pu.refl e) (by rw [h2]; exact .bl false)⟩
    · exact ⟨z, some u, rep_str p.2, rfl, h1, q _ B H (Pu.refl e) (by rw [h2]; exact .bl true)⟩
theorem ev_gnin {K : PySem.W.Frag} {w : World} {mg : Str → Option Value} (T : TabD K w mg x tab) (hb : EvD K c tb fb) : EvD K c (tOp (rGnin K (He.ga K x)) tb (tC (.ref (He.ga K x)))) (dun (gnotInD tab) fb) :=
  EvP.bind (relA := Rep K) (relC := Rep K) (tk := fun y _ H Q => rGnin K (He.ga K x) y (.ref (He.ga K x)) H Q) mono_true hb fun y dy => EvP.val (t := fun H Q => rGnin K (He.ga K x) y (.ref (He.ga K x)) H Q) fun B H dz e p h Q q => by
    obtain ⟨es, n, _, D, hT⟩ := T
    cases dy <;> first | (cases h; done) | skip
    rename_i z
    cases h
    rcases hT z with ⟨h1, h2⟩ | ⟨u, d, h1, h2, h3⟩
    · exact ⟨z, none, rep_str p.2, rfl, h1, q _ B H (Pu.refl e) (by rw [h2]; exact .bl true)⟩
    · exact ⟨z, some u, rep_str p.2, rfl, h1, q _ B H (Pu.refl e) (by rw [h2]; exact .bl false)⟩
theorem op_gin (T : TabD X.K X.w X.mg x tab) : OpR X (compareOp .In) (rGin X.K (He.ga X.K x)) := by
  obtain ⟨es, n, _, D, _⟩ := T
  exact op_in_kd D
theorem op_gnin (T : TabD X.K X.w X.mg x tab) : OpR X (compareOp .NotIn) (rGnin X.K (He.ga X.K x)) := by
  obtain ⟨es, n, _, D, _⟩ := T
  exact op_notIn_kd D
theorem pd_gin (hg : Gl X x) (T : TabD X.K X.w X.mg x tab) (hb : PD X c b tb fb) (hd : (x == ("__debug__" : Str)) = false := by decide) (hm : behindInMarks .In (.Name x p1) = false := by first | exact nomark _ | rfl) : PD X c (.Compare b [.In] [.Name x p1] pos) (tOp (rGin X.K (He.ga X.K x)) tb (tC (.ref (He.ga X.K x)))) (dun (ginD tab) fb) :=
  ⟨pe_cmpR (op_gin T) hb.pe (pe_gtab hg T hd) hm, ev_gin T hb.ev⟩
theorem pd_gnin (hg : Gl X x) (T : TabD X.K X.w X.mg x tab) (hb : PD X c b tb fb) (hd : (x == ("__debug__" : Str)) = false := by decide) (hm : behindInMarks .NotIn (.Name x p1) = false := by first | exact nomark _ | rfl) : PD X c (.Compare b [.NotIn] [.Name x p1] pos) (tOp (rGnin X.K (He.ga X.K x)) tb (tC (.ref (He.ga X.K x)))) (dun (gnotInD tab) fb) :=
  ⟨pe_cmpR (op_gnin T) hb.pe (pe_gtab hg T hd) hm, ev_gnin T hb.ev⟩
theorem pdt_gin (hg : Gl X x) (T : TabD X.K X.w X.mg x tab) (hb : PD X c b tb fb) (hd : (x == ("__debug__" : Str)) = false := by decide) (hm : behindInMarks .In (.Name x p1) = false := by first | exact nomark _ | rfl) : PDT X c (.Compare b [.In] [.Name x p1] pos) (tTest (tOp (rGin X.K (He.ga X.K x)) tb (tC (.ref (He.ga X.K x))))) (dtest (dun (ginD tab) fb)) :=
  ⟨pt_cmpR (op_gin T) hb.pe (pe_gtab hg T hd) hm, ev_test (ev_gin T hb.ev)⟩
theorem pdt_gnin (hg : Gl X x) (T : TabD X.K X.w X.mg x tab) (hb : PD X c b tb fb) (hd : (x == ("__debug__" : Str)) = false := by decide) (hm : behindInMarks .NotIn (.Name x p1) = false := by first | exact nomark _ | rfl) : PDT X c (.Compare b [.NotIn] [.Name x p1] pos) (tTest (tOp (rGnin X.K (He.ga X.K x)) tb (tC (.ref (He.ga X.K x))))) (dtest (dun (gnotInD tab) fb)) :=
  ⟨pt_cmpR (op_gnin T) hb.pe (pe_gtab hg T hd) hm, ev_test (ev_gnin T hb.ev)⟩
end
end DR

set_option maxRecDepth 100000
set_option maxHeartbeats 1000000
namespace DR
open PySem PySem.Spec L2
open PyProof.Rows hiding St
open Evl (Ex ex_l ex_t ex_rd)

/-! ### zip of two: lists, tuples, texts -/
inductive Sk where
  | lst (a : Addr)
  | tup (a : Addr)
  | txt (x : Str) (tk : Tok)
def Sk.has (K : PySem.W.Frag) (H : Hp) : Sk → List V → Prop
  | .lst a, xs => SqL K H a xs
  | .tup a, xs => SqT K H a xs
  | .txt x _, xs => xs = x.cps.toList.map fun c => V.str ⟨#[c]⟩
def Sk.on (i : Addr) : Sk → Nat → Heap → Prop
  | .lst a, k, h => h.IsListIter i a k
  | .tup a, k, h => h.IsTupleIter i a k
  | .txt x t, k, h => h.IsStrIter i (strIterType x) x t k
def Sk.off (c : Addr) : Sk → Prop
  | .lst a => a ≠ c
  | .tup a => a ≠ c
  | .txt _ _ => True
def Sk.fp (i : Addr) : Sk → List Addr
  | .lst a => [i, a]
  | .tup a => [i, a]
  | .txt _ _ => [i]
theorem Sk.fp_mem {i c : Addr} {k : Sk} (h : c ∈ k.fp i) (hc : c ≠ i) : ¬ k.off c := by
  cases k <;> simp [Sk.fp] at h <;> simp [Sk.off]
  · exact (h.resolve_left hc).symm
  · exact (h.resolve_left hc).symm
  · exact hc h
theorem vals_back : ∀ {xs : List V} {us : List Value} {j : Nat} {u : Value}, Vals xs us → us[j]? = some u → ∃ x, xs[j]? = some x ∧ RelV x u
  | _, _, _, _, .nil, e => by simp at e
  | _, _, 0, _, .cons r _, e => by
    simp at e
    subst e
    exact ⟨_, rfl, r⟩
  | _, _, j + 1, u, .cons _ t, e => by
    obtain ⟨x, h1, h2⟩ := vals_back (j := j) (u := u) t (by simpa using e)
    exact ⟨x, by simpa using h1, h2⟩
theorem draws_thin {prog : Program} {w : World} {A : Around} {it : Addr} {fp : List Addr} {n : Nat} {P : Nat → Value → Prop} {S : Nat → Heap → Prop} (D : Draws prog w A it fp n P S) : Draws prog w A it fp n P fun j h => S j h ∧ True where
  live := fun i h st => D.live i h st.1
  frame := fun i h h' st k => ⟨D.frame i h h' st.1 k, trivial⟩
  item := fun i s Q E hi st hQ => D.item i s Q E hi st.1 fun x h' tk p q b => hQ x h' tk p ⟨q, trivial⟩ b
  done := fun s Q E st hE => D.done s Q E st.1 hE
theorem Sk.draws {X : Cx} {pins : List (Addr × Obj)} {σ : L2.St} {H : Hp} {s : Shared} (I : Inv X pins σ H s) (hh : X.A.in1.handled = none) {k : Sk} {xs : List V} (h : k.has X.K H xs) (i : Addr) (hi : k.off i) :
    ∃ (n : Nat) (P : Nat → Value → Prop) (Hold : Heap → Prop), n = xs.length ∧ Hold s.heap ∧ (∀ j u, P j u → ∃ x, xs[j]? = some x ∧ RelV x u) ∧ Draws X.prog X.w X.A.in1 i (k.fp i) n P fun j h => k.on i j h ∧ Hold h := by
  cases k with
  | lst a =>
    obtain ⟨us, rv, p, _⟩ := I.list h
    exact ⟨us.toArray.size, fun j u => us.toArray[j]? = some u, fun h => h.IsList a us.toArray, by rw [List.size_toArray, rv.length], p.isList, fun j u e => vals_back rv (by simpa using e), .list hh i a hi us.toArray⟩
  | tup a =>
    obtain ⟨us, rv, p, _⟩ := I.tuple h
    exact ⟨us.toArray.size, fun j u => us.toArray[j]? = some u, fun h => h.IsTuple a us.toArray, by rw [List.size_toArray, rv.length], p, fun j u e => vals_back rv (by simpa using e), .tuple hh i a hi us.toArray⟩
  | txt x t =>
    refine ⟨x.cps.size, _, fun _ => True, ?_, trivial, ?_, draws_thin (Draws.text hh i x t)⟩
    · rw [show xs = x.cps.toList.map fun c => V.str ⟨#[c]⟩ from h, List.length_map, Array.length_toList]
    · rintro j u ⟨c, tk, e, rfl⟩
      refine ⟨.str ⟨#[c]⟩, ?_, tk, rfl⟩
      rw [show xs = x.cps.toList.map fun c => V.str ⟨#[c]⟩ from h, List.getElem?_map, Array.getElem?_toList, e]
      rfl
theorem Sk.has_inj {X : Cx} {pins : List (Addr × Obj)} {σ : L2.St} {H : Hp} {s : Shared} (I : Inv X pins σ H s) {k : Sk} {xs ys : List V} (h : k.has X.K H xs) (h' : k.has X.K H ys) : xs = ys := by
  cases k with
  | lst a => exact I.list_inj h h'
  | tup a => exact I.tuple_inj h h'
  | txt x t => exact Eq.trans h (Eq.symm h')
theorem Sk.on_get {i : Addr} {k : Sk} {j : Nat} {h : Heap} (st : k.on i j h) : ∃ o, h.get? i = some o ∧ ∀ v, o.data ≠ .cell v := by
  cases k with
  | lst a =>
    obtain ⟨o, e, _, d⟩ := st
    exact ⟨o, e, fun v q => by rw [d] at q; cases q⟩
  | tup a =>
    obtain ⟨o, e, _, d⟩ := st
    exact ⟨o, e, fun v q => by rw [d] at q; cases q⟩
  | txt x t =>
    obtain ⟨o, e, _, d⟩ := st
    exact ⟨o, e, fun v q => by rw [d] at q; cases q⟩
theorem Sk.on_keep {i : Addr} {k : Sk} {j : Nat} {h h' : Heap} (st : k.on i j h) (q : ∀ o, h.get? i = some o → h'.get? i = some o) : k.on i j h' := by
  cases k with
  | lst a =>
    obtain ⟨o, e, r⟩ := st
    exact ⟨o, q o e, r⟩
  | tup a =>
    obtain ⟨o, e, r⟩ := st
    exact ⟨o, q o e, r⟩
  | txt x t =>
    obtain ⟨o, e, r⟩ := st
    exact ⟨o, q o e, r⟩
/-- pairs of what the two sources hold, each a new tuple -/
def ItzG (K : PySem.W.Frag) (k1 k2 : Sk) : It where
  go := fun j H => ∃ xs ys, k1.has K H xs ∧ k2.has K H ys ∧ j < xs.length ∧ j < ys.length
  yld := fun j H v H' => ∃ p x y, v = .ref p ∧ H p = none ∧ H' = upd H p (.tup [x, y]) ∧ (∀ xs, k1.has K H xs → xs[j]? = some x) ∧ ∀ ys, k2.has K H ys → ys[j]? = some y
  stop := fun j H => ∃ xs ys, k1.has K H xs ∧ k2.has K H ys ∧ j = min xs.length ys.length
structure Apart5 (z ti to_ i1 i2 : Addr) (k1 k2 : Sk) : Prop where
  sep : ZipSep2 z ti to_ i1 i2 (k1.fp i1) (k2.fp i2)
  o1 : k1.off i1
  o2 : k2.off i2
def tnG (z ti to_ i1 i2 : Addr) (k1 k2 : Sk) (j : Nat) (h : Heap) : Prop := IsZip h z ti to_ .none ∧ IsTupOf2 h ti (.ref i1) (.ref i2) ∧ (∃ u v, IsTupOf2 h to_ u v) ∧ k1.on i1 j h ∧ k2.on i2 j h
theorem turn_zipG {P : Program} {w : World} {K : PySem.W.Frag} {elts : List Expr} {kk : Nat} {tpos : Pos} {z ti to_ i1 i2 : Addr} {k1 k2 : Sk} (D : Apart5 z ti to_ i1 i2 k1 k2) :
    Turn P w K (.Tuple elts kk tpos) (ItzG K k1 k2) [z, ti, to_, i1, i2] z (tnG z ti to_ i1 i2 k1 k2) where
  mem := List.mem_cons_self
  obj := fun j h st c hc => by
    obtain ⟨g1, g2, ⟨u, v, g3⟩, g4, g5⟩ := st
    simp only [List.mem_cons, List.not_mem_nil, or_false] at hc
    rcases hc with rfl | rfl | rfl | rfl | rfl
    · exact ⟨_, g1, fun v q => nomatch q⟩
    · exact ⟨_, g2, fun v q => nomatch q⟩
    · exact ⟨_, g3, fun v q => nomatch q⟩
    · exact Sk.on_get g4
    · exact Sk.on_get g5
  keep := fun j h h' st k => by
    obtain ⟨g1, g2, ⟨u, v, g3⟩, g4, g5⟩ := st
    exact ⟨k _ (by simp) _ g1, k _ (by simp) _ g2, ⟨u, v, k _ (by simp) _ g3⟩, Sk.on_keep g4 fun o q => k _ (by simp) o q, Sk.on_keep g5 fun o q => k _ (by simp) o q⟩
  item := by
    intro X hP hw hK hc j pins s σ H E I hf st hg
    subst hP hw hK
    obtain ⟨g1, g2, g3, g4, g5⟩ := st
    obtain ⟨xs, ys, hx, hy, l1, l2⟩ := hg
    obtain ⟨n1, P1, S1, e1, q1, r1, D1⟩ := k1.draws I (I.ok.hd hc) hx i1 D.o1
    obtain ⟨n2, P2, S2, e2, q2, r2, D2⟩ := k2.draws I (I.ok.hd hc) hy i2 D.o2
    have W := WalksT.zipD2 D.sep D1 D2
    refine W.item j s _ _ (by omega) ⟨g1, g2, g3, ⟨g4, q1⟩, g5, q2⟩ fun T vals h' tk hv hT hTup hm fr => ?_
    obtain ⟨u1, u2, p1, p2, rfl⟩ := hv
    obtain ⟨x, hx1, rx⟩ := r1 j u1 p1
    obtain ⟨y, hy1, ry⟩ := r2 j u2 p2
    refine ⟨_, rfl, W.go elts kk tpos j T { s with heap := h', toks := tk } _ _ hm fun h'' st2 fr2 => ?_⟩
    have hTw := W.apart j T h' hm
    have ch : ∀ b ∈ [z, to_, i1, i2], FpOk X pins H b := fun b hb => hf b (by
      simp only [List.mem_cons, List.not_mem_nil, or_false] at hb ⊢
      rcases hb with h | h | h | h <;> simp [h])
    have hT2 : h''.IsTuple T #[u1, u2] := by
      obtain ⟨o, e, r⟩ := hTup
      exact ⟨o, fr2 T o hTw e, r⟩
    have new : ObjOk X.prog X.w (upd H T (.tup [x, y])) h'' T (.tup [x, y]) := ⟨by show 2 ≤ sizeLine; decide, [u1, u2], .cons rx (.cons ry .nil), hT2⟩
    have I1 := I.turnedNew (t' := tk) (ch := [z, to_, i1, i2]) (fun b o hb e => fr2 b o hb (fr b o hb e)) ch hT new
    obtain ⟨a1, a2, a3, a4, a5⟩ := st2
    have hn : H T = none := I.hok.fresh hT
    refine ⟨.ref T, _, I1, rfl, ⟨T, x, y, rfl, hn, rfl, fun l hl => by rw [Sk.has_inj I hl hx]; exact hx1, fun l hl => by rw [Sk.has_inj I hl hy]; exact hy1⟩, ⟨a1, a2, a3, a4.1, a5.1⟩, fun b hb => ?_⟩
    have hlt : b < s.heap.objs.size := by
      have : ∃ o, s.heap.get? b = some o := by
        simp only [List.mem_cons, List.not_mem_nil, or_false] at hb
        obtain ⟨u, v, g3⟩ := g3
        rcases hb with rfl | rfl | rfl | rfl | rfl
        · exact ⟨_, g1⟩
        · exact ⟨_, g2⟩
        · exact ⟨_, g3⟩
        · obtain ⟨o, e, _⟩ := Sk.on_get g4
          exact ⟨o, e⟩
        · obtain ⟨o, e, _⟩ := Sk.on_get g5
          exact ⟨o, e⟩
      obtain ⟨o, e⟩ := this
      exact Heap.lt_size e
    rw [upd_ne (Nat.ne_of_lt (Nat.lt_of_lt_of_le hlt hT))]
    exact (hf b hb).1
  done := by
    intro X hP hw hK hc j pins s σ H E I hf st hg
    subst hP hw hK
    obtain ⟨g1, g2, g3, g4, g5⟩ := st
    obtain ⟨xs, ys, hx, hy, l1⟩ := hg
    obtain ⟨n1, P1, S1, e1, q1, r1, D1⟩ := k1.draws I (I.ok.hd hc) hx i1 D.o1
    obtain ⟨n2, P2, S2, e2, q2, r2, D2⟩ := k2.draws I (I.ok.hd hc) hy i2 D.o2
    have W := WalksT.zipD2 D.sep D1 D2
    have e : j = min n1 n2 := by rw [e1, e2]; exact l1
    subst e
    have ch : ∀ b ∈ [z, to_, i1, i2], FpOk X pins H b := fun b hb => hf b (by
      simp only [List.mem_cons, List.not_mem_nil, or_false] at hb ⊢
      rcases hb with h | h | h | h <;> simp [h])
    exact W.done s _ _ ⟨g1, g2, g3, ⟨g4, q1⟩, g5, q2⟩ fun h' tk fr => ⟨rfl, I.turnedL (t' := tk) (ch := [z, to_, i1, i2]) fr ch⟩
  self := fun A j s Q E st h => wpAny_pyIter_zip st.1 h
/-- what a value is to zip -/
def SkV (K : PySem.W.Frag) (H : Hp) (v : V) (f : Nat → Sk) (xs : List V) : Prop :=
  (∃ a, v = .ref a ∧ (f = fun _ => .lst a) ∧ SqL K H a xs) ∨ (∃ a, v = .ref a ∧ (f = fun _ => .tup a) ∧ SqT K H a xs) ∨ ∃ x, v = .str x ∧ (f = fun t => .txt x t) ∧ xs = x.cps.toList.map fun c => V.str ⟨#[c]⟩
theorem SkV.begin_ {X : Cx} {pins : List (Addr × Obj)} {σ : L2.St} {H : Hp} {s : Shared} (I : Inv X pins σ H s) {v : V} {f : Nat → Sk} {xs : List V} {u : Value} (h : SkV X.K H v f xs) (r : RelV v u) :
    ∃ (tk : Nat) (o : Obj) (B : Heap → Prop), Begins u o B ∧ B s.heap ∧ (∀ i h', h'.get? i = some o → (f tk).on i 0 h') ∧ ∀ c, s.heap.objs.size ≤ c → (f tk).off c := by
  rcases h with ⟨a, rfl, rfl, h⟩ | ⟨a, rfl, rfl, h⟩ | ⟨x, rfl, rfl, h⟩
  · cases r
    obtain ⟨us, rv, p, _⟩ := I.list h
    exact ⟨0, _, _, begins_list a us.toArray, p.isList, fun i h' e => ⟨_, e, rfl, rfl⟩, fun c hc => Nat.ne_of_lt (Nat.lt_of_lt_of_le p.lt hc)⟩
  · cases r
    obtain ⟨us, rv, p, _⟩ := I.tuple h
    obtain ⟨o, ho, _⟩ := id p
    exact ⟨0, _, _, begins_tuple a us.toArray, p, fun i h' e => ⟨_, e, rfl, rfl⟩, fun c hc => Nat.ne_of_lt (Nat.lt_of_lt_of_le (Heap.lt_size ho) hc)⟩
  · obtain ⟨t, rfl⟩ := r
    exact ⟨t, _, _, begins_text x t, trivial, fun i h' e => ⟨_, e, rfl, rfl⟩, fun c hc => trivial⟩
def iZipG (K : PySem.W.Frag) (ta : TA) : TI := fun σ H R => ta σ H fun vs H1 => ∃ v1 v2 f1 f2 xs ys, vs = [v1, v2] ∧ SkV K H1 v1 f1 xs ∧ SkV K H1 v2 f2 ys ∧ ∀ t1 t2, R (ItzG K (f1 t1) (f2 t2)) H1
theorem apart_new {n : Nat} {k1 k2 : Sk} (h1 : ∀ c, n ≤ c → k1.off c) (h2 : ∀ c, n ≤ c → k2.off c) : Apart5 (n + 4) (n + 2) (n + 3) n (n + 1) k1 k2 where
  sep := by
    have m1 : ∀ c, n ≤ c → c ≠ n → c ∉ k1.fp n := fun c hc hne hm => Sk.fp_mem hm hne (h1 c hc)
    have m2 : ∀ c, n ≤ c → c ≠ n + 1 → c ∉ k2.fp (n + 1) := fun c hc hne hm => Sk.fp_mem hm hne (h2 c hc)
    refine ⟨show (n + 2 : Nat) ≠ n + 4 by omega, show (n + 3 : Nat) ≠ n + 4 by omega, show (n + 2 : Nat) ≠ n + 3 by omega, show (n + 2 : Nat) ≠ n by omega, ?_, m1 _ (by omega) (by omega), m1 _ (by omega) (by omega), show (n + 2 : Nat) ≠ n + 1 by omega, ?_, m2 _ (by omega) (by omega), m2 _ (by omega) (by omega), m2 _ (by omega) (by omega), m1 _ (by omega) (by omega)⟩
    · cases k1 <;> simp [Sk.fp]
    · cases k2 <;> simp [Sk.fp]
  o1 := h1 _ (Nat.le_refl _)
  o2 := h2 _ (by omega)
theorem pi_zipG {X : Cx} {e e2 : Expr} {ta : TA} {p pos tpos : Pos} {elts : List Expr} {kk : Nat} (hg : Gl X "zip") (hm : X.mg "zip" = none) (ha : PA X [e, e2] ta)
    (hse : starEach [e, e2] X.env = (false, eval e X.env) :: starEach [e2] X.env := by rfl) (hb : (backTo pos (starEach [e2] X.env)).any (·.1) = false := by rfl) :
    PI X (.Tuple elts kk tpos) (.Call (.Name "zip" p) [e, e2] [] pos) (iZipG X.K ta) := ⟨fun pins s σ H R I h => by
  refine Call_ (ld_blt I hg hm boot_zip (callWith_type1 (thn (ha.run pos pins s σ H _ I h) fun us s1 ⟨vs, H1, I1, rs, q⟩ => ?_) hse hb))
  obtain ⟨v1, v2, f1, f2, xs, ys, rfl, b1, b2, q⟩ := q
  cases rs with
  | @cons _ u1 _ _ r1 rs =>
    cases rs with
    | @cons _ u2 _ _ r2 rs =>
      cases rs
      obtain ⟨t1, o1, B1, g1, c1, on1, off1⟩ := b1.begin_ I1 r1
      obtain ⟨t2, o2, B2, g2, c2, on2, off2⟩ := b2.begin_ I1 r2
      refine zip_begins2 g1 g2 c1 c2 fun h' hz hti hto hi1 hi2 _ hk => wpAny_pyIter_zip hz ?_
      refine ⟨_, [s1.heap.objs.size + 4, s1.heap.objs.size + 2, s1.heap.objs.size + 3, s1.heap.objs.size, s1.heap.objs.size + 1], _, _, H1, rfl, I1.kept (t' := s1.toks) hk, turn_zipG (apart_new off1 off2), ⟨hz, hti, ⟨_, _, hto⟩, on1 _ _ hi1, on2 _ _ hi2⟩, fun c hc => ?_, q t1 t2⟩
      have hle : s1.heap.objs.size ≤ c := by
        simp only [List.mem_cons, List.not_mem_nil, or_false] at hc
        rcases hc with rfl | rfl | rfl | rfl | rfl <;> first | exact Nat.le_refl _ | exact Nat.le_add_right _ _
      exact I1.fpOk hle (I1.hok.fresh hle)⟩
/-! on data -/
def zipP : List D → List D → List D
  | x :: xs, y :: ys => .tuple [x, y] :: zipP xs ys
  | _, _ => []
def zipD : List D → Option (List D)
  | [a, b] => (itemsD a).bind fun xs => (itemsD b).map fun ys => zipP xs ys
  | _ => none
theorem zipP_len : ∀ {xs ys : List D}, (zipP xs ys).length = min xs.length ys.length
  | [], _ => by simp [zipP]
  | _ :: _, [] => by simp [zipP]
  | x :: xs, y :: ys => by
    rw [zipP, List.length_cons, zipP_len, List.length_cons, List.length_cons]
    omega
theorem zipP_get : ∀ {xs ys : List D} {i : Nat} {x y : D}, xs[i]? = some x → ys[i]? = some y → (zipP xs ys)[i]? = some (.tuple [x, y])
  | [], _, _, _, _, h, _ => by simp at h
  | _ :: _, [], _, _, _, _, h => by simp at h
  | _ :: _, _ :: _, 0, _, _, h, h' => by
    simp at h h'
    subst h h'
    rfl
  | _ :: xs, _ :: ys, i + 1, x, y, h, h' => by
    rw [zipP, List.getElem?_cons_succ]
    exact zipP_get (by simpa using h) (by simpa using h')
theorem rep_sk {K : PySem.W.Frag} {B H : Hp} (e : Ex B H) {v : V} {d : D} {ds : List D} (r : Rep K B v d) (h : itemsD d = some ds) : ∃ f xs, SkV K H v f xs ∧ RepA K B xs ds ∧ ∀ t H', Ex B H' → (f t).has K H' xs := by
  cases d <;> first | (cases h; done) | skip
  · rename_i z
    cases h
    refine ⟨_, _, .inr (.inr ⟨z, rep_str r, rfl, rfl⟩), ?_, fun t H' _ => rfl⟩
    unfold signs
    generalize z.cps.toList = cs
    induction cs with
    | nil => exact .nil
    | cons c cs ih => exact .cons (.str _) ih
  · cases h
    obtain ⟨a, vs, rfl, ha, ra⟩ := rep_lst r
    exact ⟨_, vs, .inl ⟨a, rfl, rfl, .inl (ex_rd e ha)⟩, ra, fun t H' e' => .inl (ex_rd e' ha)⟩
  · cases h
    obtain ⟨a, vs, rfl, ha, ra⟩ := rep_tup r
    exact ⟨_, vs, .inr (.inl ⟨a, rfl, rfl, ex_t e ha⟩), ra, fun t H' e' => ex_t e' ha⟩
theorem walkD_zipG {K : PySem.W.Frag} {B : Hp} {k1 k2 : Sk} {xs ys : List V} {ds es : List D} (ra : RepA K B xs ds) (rb : RepA K B ys es) (h1 : ∀ H, Ex B H → k1.has K H xs) (h2 : ∀ H, Ex B H → k2.has K H ys) : WalkD K B (ItzG K k1 k2) (zipP ds es) := by
  refine ⟨fun H => k1.has K H xs ∧ k2.has K H ys, fun i H v H' => ∃ p x y, v = .ref p ∧ H p = none ∧ H' = upd H p (.tup [x, y]) ∧ xs[i]? = some x ∧ ys[i]? = some y, ⟨fun i H hi q => ?_, fun H q => ?_, fun i H v H' hi q y => ?_⟩, fun H e => ⟨h1 H e, h2 H e⟩, fun i H v H' y e hi B1 e1 e2 => ?_⟩
  · rw [zipP_len] at hi
    exact ⟨xs, ys, q.1, q.2, by rw [ra.length]; omega, by rw [rb.length]; omega⟩
  · exact ⟨xs, ys, q.1, q.2, by rw [zipP_len, ra.length, rb.length]⟩
  · obtain ⟨p, x, y, g1, g2, g3, g4, g5⟩ := y
    exact ⟨p, x, y, g1, g2, g3, g4 xs q.1, g5 ys q.2⟩
  · obtain ⟨p, x, y, rfl, hp, rfl, g4, g5⟩ := y
    obtain ⟨dx, a1, a2⟩ := ra.getV g4
    obtain ⟨dy, b1, b2⟩ := rb.getV g5
    have pu := Pu.mk1 (o := .tup [x, y]) e2 hp
    exact ⟨_, _, pu, zipP_get a1 b1, .tup (SqT.of upd_same) (.cons ((a2.mono e1).mono pu.ext) (.cons ((b2.mono e1).mono pu.ext) .nil))⟩
theorem pdi_zip {X : Cx} {c : Cf} {e e2 : Expr} {t : TA} {f : DM (List D)} {p pos tpos : Pos} {elts : List Expr} {kk : Nat} (hg : Gl X "zip") (hm : X.mg "zip" = none) (ha : PDA X c [e, e2] t f)
    (hse : starEach [e, e2] X.env = (false, eval e X.env) :: starEach [e2] X.env := by rfl) (hb : (backTo pos (starEach [e2] X.env)).any (·.1) = false := by rfl) :
    PDI X c (.Tuple elts kk tpos) (.Call (.Name "zip" p) [e, e2] [] pos) (iZipG X.K t) (f.bind fun ds => DM.opt (zipD ds)) :=
  ⟨pi_zipG hg hm ha.pa hse hb, EvP.bind (relA := RepA X.K) (tk := fun vs _ H1 R => ∃ v1 v2 f1 f2 xs ys, vs = [v1, v2] ∧ SkV X.K H1 v1 f1 xs ∧ SkV X.K H1 v2 f2 ys ∧ ∀ t1 t2, R (ItzG X.K (f1 t1) (f2 t2)) H1) mono_true ha.ev fun vs ds =>
    EvP.val (t := fun H1 R => ∃ v1 v2 f1 f2 xs ys, vs = [v1, v2] ∧ SkV X.K H1 v1 f1 xs ∧ SkV X.K H1 v2 f2 ys ∧ ∀ t1 t2, R (ItzG X.K (f1 t1) (f2 t2)) H1) fun B H l e p hl R q => by
      match ds, hl with
      | [d1, d2], hl =>
        obtain ⟨as, ha1, hl⟩ := Option.bind_eq_some_iff.mp hl
        obtain ⟨bs, hb1, rfl⟩ := Option.map_eq_some_iff.mp hl
        obtain ⟨v1, v2, rfl, r1, r2⟩ := repA2 p.2
        obtain ⟨f1, xs, s1, ra, g1⟩ := rep_sk e r1 ha1
        obtain ⟨f2, ys, s2, rb, g2⟩ := rep_sk e r2 hb1
        exact ⟨v1, v2, f1, f2, xs, ys, rfl, s1, s2, fun t1 t2 => q _ B H (Pu.refl e) (walkD_zipG ra rb (g1 t1) (g2 t2))⟩⟩
theorem all_at {l : List Bool} (h : l.all id = true) {i : Nat} {b : Bool} (e : l[i]? = some b) : b = true := List.all_eq_true.mp h b (List.mem_of_getElem? e)
end DR

set_option maxRecDepth 100000
set_option maxHeartbeats 1000000
namespace DR
open PySem PySem.Spec L2
open PyProof.Rows hiding St
open Evl (Ex ex_l ex_t ex_rd)

/-! ### a loop over something made of cells: what it goes through is flat -/
def dflatA (fe : DM (List D)) : DM (List D) := fun st => match fe st with
  | some (.ok d, st1) => if flatA d = true then some (.ok d, st1) else none
  | _ => none
section
variable {K : PySem.W.Frag} {c : Cs}
theorem EvE.aA {te : TA} {fe : DM (List D)} {J R : List Nat} (he : EvA K (c.cf J R) te fe) (hJ : ∀ i ∈ J, i ∈ c.pa) (hR : ∀ i ∈ R, i ∈ c.ow ∧ i ∉ J ∧ (c.kd.getD i .flat).plain = true) : EvE K c (RepA K) te (dflatA fe) := fun A0 Φ B0 B σ H st r s h Q q x => by
  unfold dflatA at h
  split at h
  · rename_i d st1 e
    split at h
    · rename_i hfl
      cases h
      exact EvE.run2 he s (fun i hi => ⟨(s.pa i (hJ i hi)).1, (s.pa i (hJ i hi)).2.1⟩) hR e Q fun v B1 H' z s' ex zo rv => q d st1 v _ H' rfl s' ex (rv.cut zo hfl)
    · cases h
  · cases h
theorem EvE.then_ {α β γ δ : Type} {relA : Hp → α → β → Prop} {relC : Hp → γ → δ → Prop} {ta : TG0 α} {tk : α → Hp → (γ → Hp → Prop) → Prop} {fa : DM β} {k : β → Option δ} (ha : EvE K c relA ta fa)
    (hk : ∀ (x : α) (b : β) (B H : Hp) (dz : δ), Ex B H → relA B x b → k b = some dz → ∀ Q : γ → Hp → Prop, (∀ v B' H', Pu B H B' H' → relC B' v dz → Q v H') → tk x H Q) :
    EvE K c relC (fun σ H Q => ta σ H fun x H1 => tk x H1 Q) (fa.bind fun b => DM.opt (k b)) := fun A0 Φ B0 B σ H st r s h Q q x => by
  cases ef : fa st with
  | none =>
    unfold DM.bind at h
    rw [ef] at h
    cases h
  | some ro =>
    refine ha A0 Φ B0 B σ H st ro s ef _ (fun b0 st1 v B1 H1 e1 s1 ex1 rv => ?_) (fun y fl st1 dx B1 H1 e1 fi1 fl1 => ?_)
    · subst e1
      rw [bind_ok ef] at h
      cases ek : k b0 with
      | none =>
        unfold DM.opt at h
        rw [ek] at h
        cases h
      | some dz =>
        unfold DM.opt at h
        rw [ek] at h
        cases h
        exact hk v b0 B1 H1 dz s1.bh rv ek Q fun w B2 H2 pu rw_ => q dz st1 w B2 H2 rfl (s1.pu pu) (fun a o z => pu.ext a o (ex1 a o z)) rw_
    · subst e1
      rw [bind_ex ef] at h
      exact x y fl st1 dx B1 H1 (Option.some.inj h).symm fi1 fl1
end
section
variable {X : Cx} {c : Cs}
theorem zip_val {K : PySem.W.Frag} {vs : List V} {ds l : List D} {B H : Hp} (e : Ex B H) (p : RepA K B vs ds) (hl : zipD ds = some l) (R : It → Hp → Prop) (q : ∀ v B' H', Pu B H B' H' → WalkD K B' v l → R v H') :
    ∃ v1 v2 f1 f2 xs ys, vs = [v1, v2] ∧ SkV K H v1 f1 xs ∧ SkV K H v2 f2 ys ∧ ∀ t1 t2, R (ItzG K (f1 t1) (f2 t2)) H := by
  match ds, hl with
  | [d1, d2], hl =>
    obtain ⟨as, ha1, hl⟩ := Option.bind_eq_some_iff.mp hl
    obtain ⟨bs, hb1, rfl⟩ := Option.map_eq_some_iff.mp hl
    obtain ⟨v1, v2, rfl, r1, r2⟩ := repA2 p
    obtain ⟨f1, xs, s1, ra, g1⟩ := rep_sk e r1 ha1
    obtain ⟨f2, ys, s2, rb, g2⟩ := rep_sk e r2 hb1
    exact ⟨v1, v2, f1, f2, xs, ys, rfl, s1, s2, fun t1 t2 => q _ B H (Pu.refl e) (walkD_zipG ra rb (g1 t1) (g2 t2))⟩
theorem pdie_zipA {e e2 : Expr} {t : TA} {f : DM (List D)} {p pos tpos : Pos} {elts : List Expr} {kk : Nat} (hg : Gl X "zip") (hm : X.mg "zip" = none) (J R : List Nat) (ha : PDA X (c.cf J R) [e, e2] t f) (hJ : ∀ i ∈ J, i ∈ c.pa := by decide) (hR : ∀ i ∈ R, i ∈ c.ow ∧ i ∉ J ∧ (c.kd.getD i .flat).plain = true := by decide)
    (hse : starEach [e, e2] X.env = (false, eval e X.env) :: starEach [e2] X.env := by rfl) (hb : (backTo pos (starEach [e2] X.env)).any (·.1) = false := by rfl) :
    PDIE X c (.Tuple elts kk tpos) (.Call (.Name "zip" p) [e, e2] [] pos) (iZipG X.K t) ((dflatA f).bind fun ds => DM.opt (zipD ds)) :=
  ⟨pi_zipG hg hm ha.pa hse hb, EvE.then_ (tk := fun vs H1 R => ∃ v1 v2 f1 f2 xs ys, vs = [v1, v2] ∧ SkV X.K H1 v1 f1 xs ∧ SkV X.K H1 v2 f2 ys ∧ ∀ t1 t2, R (ItzG X.K (f1 t1) (f2 t2)) H1) (EvE.aA ha.ev hJ hR) fun vs ds B H l e p hl R q => zip_val e p hl R q⟩
theorem any_val {K : PySem.W.Frag} {x : V} {d : D} {ds : List D} {B H : Hp} (e : Ex B H) (p : Rep K B x d) (hg : itemsD d = some ds) (R : It → Hp → Prop) (q : ∀ v B' H', Pu B H B' H' → WalkD K B' v ds → R v H') :
    (∃ a, x = .ref a ∧ (∃ xs, SqL K H a xs) ∧ R (Itl K a) H) ∨ ((∃ a, x = .ref a ∧ (∃ xs, SqT K H a xs) ∧ R (Itt K a) H) ∨ ∃ z, x = .str z ∧ R (Its z) H) := by
  cases d <;> first | (cases hg; done) | skip
  · rename_i z
    cases hg
    refine .inr (.inr ⟨z, rep_str p, q _ B H (Pu.refl e) ⟨fun _ => True, _, (by have w := walk_str (z := z); rw [show (signs z).length = z.cps.size by simp [signs]]; exact w), fun _ _ => True.intro, fun i H x H' y e hi B1 e1 e2 => ?_⟩⟩)
    obtain ⟨rfl, c, hc, rfl⟩ := y
    refine ⟨B1, .str ⟨#[c]⟩, Pu.refl e2, ?_, .str _⟩
    unfold signs
    rw [List.getElem?_map, Array.getElem?_toList, hc]
    rfl
  · cases hg
    obtain ⟨a, vs, rfl, ha, ra⟩ := rep_lst p
    exact .inl ⟨a, rfl, ⟨vs, .inl (ex_rd e ha)⟩, q _ B H (Pu.refl e) (walkD_seq ra walk_list fun H h => .inl (ex_rd h ha))⟩
  · cases hg
    obtain ⟨a, vs, rfl, ha, ra⟩ := rep_tup p
    exact .inr (.inl ⟨a, rfl, ⟨vs, ex_t e ha⟩, q _ B H (Pu.refl e) (walkD_seq ra walk_tup fun H h => ex_t h ha)⟩)
/-- a loop over a flat value made with cells -/
theorem pdie_anyA {tg e : Expr} {te : TE} {fe : DM D} (J R : List Nat) (he : PD X (c.cf J R) e te fe) (hJ : ∀ i ∈ J, i ∈ c.pa := by decide) (hR : ∀ i ∈ R, i ∈ c.ow ∧ i ∉ J ∧ (c.kd.getD i .flat).plain = true := by decide) : PDIE X c tg e (iAny X.K te) ((dflat fe).bind fun d => DM.opt (itemsD d)) :=
  ⟨pi_any he.pe, EvE.then_ (tk := fun (x : V) H1 R => (∃ a, x = .ref a ∧ (∃ xs, SqL X.K H1 a xs) ∧ R (Itl X.K a) H1) ∨ ((∃ a, x = .ref a ∧ (∃ xs, SqT X.K H1 a xs) ∧ R (Itt X.K a) H1) ∨ ∃ z, x = .str z ∧ R (Its z) H1)) (EvE.a he.ev hJ hR) fun x d B H ds e p hg R q => any_val e p hg R q⟩
end
end DR

set_option maxRecDepth 100000
set_option maxHeartbeats 1000000
namespace DR
open PySem PySem.Spec L2
open PyProof.Rows hiding St

/-! ### promises that know that no repr is under way -/
structure FnOkG (P : Program) (w : World) (K : PySem.W.Frag) (mg : Str → Option Value) (base : Heap) (k : Nat) (f : Addr) (fd : FuncData) (ps : List Str) (sp : Sp) : Prop where
  len : ∀ vs H Q E, sp vs H Q E → vs.length = ps.length
  run : ∀ (A : Around) (outer : List Env) (s : Shared) (H : Hp) (args : Args) (us : List Value) (vs : List V) (Q : VK) (E : XK), Room k A → A.guards = some [] → Env0 P w K mg base A outer s H →
    BindsTo s fd args (ps.zip us) → Vals vs us → sp vs H Q E → codeAny (model P w) A (.call (.ref f) args) (CR CX0 outer P w H s Q E) s
theorem FnOk.g {P : Program} {w : World} {K : PySem.W.Frag} {mg : Str → Option Value} {base : Heap} {k : Nat} {f : Addr} {fd : FuncData} {ps : List Str} {sp : Sp} (F : FnOk P w K mg base CX0 k f fd ps sp) : FnOkG P w K mg base k f fd ps sp :=
  ⟨F.len, fun A outer s H args us vs Q E hr _ => F.run A outer s H args us vs Q E hr⟩
theorem fnG_of {P : Program} {w : World} {K : PySem.W.Frag} {mg : Str → Option Value} {base : Heap} {N ps : List Str} {k : Nat} {sp : Sp} {x qual : Str} {params : Arguments} {body : List Stmt} {scope : Scope} {f : Addr} {fd : FuncData}
    (F : FunD K x qual params body scope [] [] f fd) (S : FnScope N ps scope) (len : ∀ vs H Q E, sp vs H Q E → vs.length = ps.length)
    (hbody : ∀ (cdv : Value) (A : Around) (outer : List Env) (s : Shared) (H : Hp) (vs : List V) (Q : VK) (E : XK), Room k (A.deeper (envOfC qual scope s.heap.objs.size f cdv)) → A.guards = some [] → sp vs H Q E →
      ∃ t, PSs (cxOf CX0 P w K mg base N qual scope f cdv A outer s H E) body t ∧ t { nx := fun _ H' => Q .non H', rt := Q } (L2.start N vs) H) : FnOkG P w K mg base (k + 1) f fd ps sp := by
  obtain ⟨oc, od, dV, kV, doc, pm, an, cdv, ct, osl, rfl, lk, hcd, _, _⟩ := F.ex
  refine ⟨len, fun A outer s H args us vs Q E room hg e0 bnd rv hsp => ?_⟩
  have hlen := len _ _ _ _ hsp
  have inK : K.In s.heap := e0.mod.kin.keeps fun b o e => (e0.bs b o e).1
  have free : s.heap.NoLimit := e0.mod.nolimit.keeps fun b o e => (e0.bs b o e).1
  have kinds : ∀ y ∈ ps.zip us, scope.names.lookup y.1 = some .local ∨ (scope.names.lookup y.1 = some .cell ∧ ((cellsFrom (s.heap.objs.size + 1) scope.names []).lookup y.1).isSome = true) := fun ⟨n, v⟩ hy => by
    rcases S.par n (List.of_mem_zip hy).1 with q | q
    · exact Or.inl q
    · exact Or.inr ⟨q, PySem.W.cellsFrom_some _ _ _ (Or.inl q)⟩
  refine codeAny_call_function room.depth (inK _ _ lk) rfl S.co S.gen rfl (PySem.W.codeRec_of inK hcd) (bnd _ _ _ _ ?_)
  refine wpAny_newFunctionEnv_cells S.kind kinds fun env he s1 x => ?_
  subst he
  refine ⟨free.keeps x.toInCall.keep, codeAny_func ?_⟩
  obtain ⟨t, ht, hq⟩ := hbody cdv A outer s H vs Q E (room.deeper _) hg hsp
  have J0 : Inv (cxOf CX0 P w K mg base N qual scope f cdv A outer s H E) [] (L2.start N vs) H s1 := inv_start S room.hd e0 hlen rv x
  refine wpAny_mono (ht.run [] s1 (L2.start N vs) H _ J0 hq) (fun fl s' hs => ?_) fun e s' hs => hs
  cases fl with
  | ret u =>
    obtain ⟨v, σ', H', J, rv, q⟩ := hs
    exact ⟨v, H', J.os, J.bare, J.base, J.hok, rv, q⟩
  | next =>
    obtain ⟨σ', H', J, q⟩ := hs
    exact ⟨V.non, H', J.os, J.bare, J.base, J.hok, rfl, q⟩
  | brk => exact False.elim hs.choose_spec.choose_spec.2
  | cont => exact False.elim hs.choose_spec.choose_spec.2
/-- the law's call from the caller, its script out of the written part -/
theorem law_callG {P : Program} {w : World} {K : PySem.W.Frag} {mg mb : Str → Option Value} {k : Nat} {fa a : Addr} {fd : FuncData} {x : Str} {sp : Sp} {s : Shared} {vs : List Value} {ns : List Int}
    (KX : K.In s.heap) (nsG : s.heap.Ns mainGlobals mg) (nsB : s.heap.Ns builtinsNs mb) (bb : ∀ x : Str, x ≠ "__name__" → mb x = bootBuiltins x) (lim : s.heap.NoLimit) (gen : s.gens = #[])
    (ha : s.heap.get? a = some { cls := .type "list", data := .seq vs.toArray }) (hi : IntsAre vs ns) (hl : ns.length ≤ sizeLine) (room : Room k callerA) (hk : K.lookup a = none)
    (F : ∀ base : Heap, K.In base → base.Ns mainGlobals mg → FnOkG P w K mg base k fa fd [x] sp) (bnd : ∀ (s : Shared) (u : Value), BindsTo s fd ⟨[u], []⟩ [(x, u)])
    (hsp : ∀ H : Hp, SqL K H a (ns.map V.int) → sp [.ref a] H (fun v _ => v = .bl true) fun _ _ _ => False) :
    codeAny (model P w) callerA (.call (.ref fa) ⟨[.ref a], []⟩) (fun r s' => r = .ok (.ret (.bool true)) ∧ OldK s.heap s'.heap ∧ s'.os = s.os ∧ AllBare s'.gens) s := by
  have rv := vals_ints hi
  let fz : HO := .frz { cls := .type "list", data := .seq vs.toArray } (.lst (ns.map V.int))
  let H : Hp := fun b => if b = a then some fz else none
  have at_a : H a = some fz := if_pos rfl
  have off : ∀ {b : Addr}, b ≠ a → H b = none := fun n => if_neg n
  have only : ∀ {b : Addr} {o : HO}, H b = some o → b = a ∧ o = fz := fun {b o} e => by
    by_cases z : b = a
    · refine ⟨z, ?_⟩
      rw [z, at_a] at e
      exact (Option.some.inj e).symm
    · rw [off z] at e
      cases e
  have hS : SqL K H a (ns.map V.int) := Or.inl (Or.inr ⟨_, at_a⟩)
  have hok : HOk P w H s.heap := fun b o e => by
    obtain ⟨rfl, rfl⟩ := only e
    exact ⟨ha, by rw [List.length_map]; exact hl, vs, _, rv, ha⟩
  have dictOff : ∀ {b : Addr} {o : Obj} {es : Array DictEntry} {ep : Nat}, s.heap.get? b = some o → o.data = .dict es ep → H b = none := fun {b o es ep} e d => by
    by_cases z : b = a
    · rw [z, ha] at e
      cases e
      cases (show Data.seq vs.toArray _ = Data.dict es ep from d)
    · exact off z
  have nsK : ∀ {b : Addr} {m : Str → Option Value}, s.heap.Ns b m → (hidT s.heap H).Ns b m := fun {b m} ⟨o, es, ep, e, d, r⟩ => ⟨o, es, ep, hidT_get e (dictOff e d), d, r⟩
  have kB : K.In (hidT s.heap H) := fun b o e => hidT_get (KX b o e) (by
    by_cases z : b = a
    · rw [z, hk] at e
      cases e
    · exact off z)
  have mod : Mod K mg (hidT s.heap H) := ⟨kB, nsK nsG, ⟨mb, nsK nsB, bb⟩, let ⟨mc, g1, g2⟩ := lim; ⟨mc, nsK g1, g2⟩⟩
  have e0 : Env0 P w K mg (hidT s.heap H) callerA [] s H := by
    refine ⟨rfl, mod, fun b o e => of_hidT e, Nat.le_of_eq (hidT_size _ _), trivial, fun b hb => absurd (show b ∈ ([] : List Addr) from hb) (by simp), hok, ?_⟩
    first | exact .of_empty gen | (rw [gen]; intro i g h; simp at h) | simp [gen, AllBare]
  refine codeAny_mono ((F _ kB (nsK nsG)).run callerA [] s H ⟨[.ref a], []⟩ [.ref a] [.ref a] _ _ room rfl e0 (bnd s (.ref a)) (.cons rfl .nil) (hsp H hS)) fun r s' h => ?_
  cases r with
  | error e => exact False.elim (nomatch h)
  | ok fl =>
    cases fl with
    | next => exact False.elim h
    | brk => exact False.elim h
    | cont => exact False.elim h
    | ret u =>
      obtain ⟨v, H', os, bare, un, hok', r', q⟩ := h
      obtain rfl : v = .bl true := q
      obtain rfl : u = Value.bool true := r'
      refine ⟨rfl, OldK.of_keep fun b o e => ?_, os, bare⟩
      by_cases z : b = a
      · have z2 := un.frzs b _ _ (z ▸ at_a)
        obtain ⟨g1, _⟩ := hok' b _ z2
        rw [z] at e g1 ⊢
        rw [ha] at e
        cases e
        exact g1
      · exact un.keep b o e (off z) (by intro y; exact absurd (show b ∈ ([] : List Addr) from y) (by simp)) (by simp)
theorem walk_ofG {l : PySem.W.OpenLaw} {n k : Nat} {q : Program} {loose : List Str} {XP : (Str → Option Value) → Heap → Prop} {YP : World → Heap → Prop} {d : DefRec} {x : Str}
    (hn : l.most = some n) (hn2 : n ≤ sizeLine) (hdf : d.params.defaults = []) (hr : Room k callerA)
    (F : ∀ (w : World) (mg : Str → Option Value) (fa : Addr) (h : Heap), YP w h → h.Ns mainGlobals mg → mg d.name = some (.ref fa) →
      ∃ (K : PySem.W.Frag) (fd : FuncData) (sp : Sp), K.In h ∧ noLists K = true ∧ (∀ (s : Shared) (u : Value), BindsTo s fd ⟨[u], []⟩ [(x, u)]) ∧
        (∀ (H : Hp) (a : Addr) (ns : List Int), ns.length ≤ n → SqL K H a (ns.map V.int) → sp [.ref a] H (fun v _ => v = .bl true) fun _ _ _ => False) ∧
        ∀ base : Heap, K.In base → base.Ns mainGlobals mg → FnOkG l.prog w K mg base k fa fd [x] sp) :
    PySem.W.WalkO q loose XP YP l.row.toRowW d [] (fun f vs => PySem.call f vs) :=
  Att.attach_call hn hdf fun w s₀ s₁ mg mb fa o pm cd doc a vs ns G Y ho hd hcd hmg hobj hints hlen hg => by
    obtain ⟨K, fd, sp, inK, nl, bnd, hsp, hF⟩ := F w mg fa _ Y G.T.g hmg
    have hk : K.lookup a = none := by
      cases e : K.lookup a with
      | none => rfl
      | some o' =>
        have e2 := inK a o' e
        rw [hobj] at e2
        cases e2
        have hb : (!(Value.type "list" == Value.type "list")) = true := List.all_eq_true.mp nl _ (He.lookup_mem e)
        exact absurd hb (by decide)
    exact law_callG inK G.T.g G.T.b G.T.builtins G.T.nolimit hg hobj hints (Nat.le_trans hlen hn2) hr hk hF bnd fun H hS => hsp H a ns hlen hS
/-! ### repr of a list or a tuple -/
def rRepr (K : PySem.W.Frag) : List V → Hp → VK → Prop := fun xs H Q => ∃ a d, xs = [.ref a] ∧ Dp K H (.ref a) d ∧ d.showable = true ∧ d.hasDict = false ∧ d.depth ≤ 64 ∧ d.shown.length ≤ sizeLine ∧ Q (.str d.shown) H
theorem call_reprG {X : Cx} (hg : X.A.guards = some []) (hu : X.A.units + 66 < cLine) : CallR X (.builtin "repr") (rRepr X.K) := by
  intro pins s σ H xs us Q I r h
  obtain ⟨a, d, rfl, hd, hs, hn, hdp, hz, q⟩ := h
  obtain ⟨u, rfl, ru⟩ := vals1 r
  cases ru
  obtain ⟨as, rd⟩ := Dp.reads I d (.ref a) (.ref a) hd rfl
  exact repr_of_reads' rd hs (fun z => by rw [hn] at z; cases z) hg (by omega) (fun _ _ e => e) (fun h' u tk hk => ⟨.str _, H, I.kept (t' := tk) hk, ⟨u, rfl⟩, q⟩) hz
/-- .. and of a text, a number, a truth, None -/
def rReprA (K : PySem.W.Frag) : List V → Hp → VK → Prop := fun xs H Q => rRepr K xs H Q ∨ (∃ x, xs = [.str x] ∧ (reprText x).length ≤ sizeLine ∧ Q (.str (reprText x)) H) ∨ (∃ i, xs = [.int i] ∧ i.natAbs.log2 < 1920 ∧ Q (.str (toString i)) H) ∨ (∃ b, xs = [.bl b] ∧ Q (.str (if b then "True" else "False")) H) ∨ (xs = [.non] ∧ Q (.str "None") H)
theorem call_reprA {X : Cx} (hg : X.A.guards = some []) (hu : X.A.units + 66 < cLine) : CallR X (.builtin "repr") (rReprA X.K) := by
  intro pins s σ H xs us Q I r h
  rcases h with h | ⟨x, rfl, hz, q⟩ | ⟨i, rfl, hz, q⟩ | ⟨b, rfl, q⟩ | ⟨rfl, q⟩
  · exact call_reprG hg hu pins s σ H xs us Q I r h
  · obtain ⟨u, rfl, t, rfl⟩ := vals1 r
    exact PySem.P.repr_of_str ⟨.str _, H, I.tok _, ⟨_, rfl⟩, q⟩ hz
  · obtain ⟨u, rfl, t, rfl⟩ := vals1 r
    exact PySem.P.repr_of_int hz ⟨.str _, H, I.tok _, ⟨_, rfl⟩, q⟩
  · obtain ⟨u, rfl, ru⟩ := vals1 r
    cases ru
    exact PySem.P.repr_of_bool ⟨.str _, H, I.tok _, ⟨_, rfl⟩, q⟩
  · obtain ⟨u, rfl, ru⟩ := vals1 r
    cases ru
    exact PySem.P.repr_of_none ⟨.str _, H, I.tok _, ⟨_, rfl⟩, q⟩
def seqOk (d : D) : Prop := SeqAt.shaped d = true ∧ d.showable = true ∧ d.hasDict = false ∧ d.depth ≤ 64 ∧ d.shown.length ≤ sizeLine
instance (d : D) : Decidable (seqOk d) := by unfold seqOk; infer_instance
def reprD : List D → Option D
  | [.list ds] => if seqOk (.list ds) then some (.str (PyData.list ds).shown) else none
  | [.tuple ds] => if seqOk (.tuple ds) then some (.str (PyData.tuple ds).shown) else none
  | [.str x] => if (reprText x).length ≤ sizeLine then some (.str (reprText x)) else none
  | [.int i] => if i.natAbs.log2 < 1920 then some (.str (toString i)) else none
  | [.bool b] => some (.str (if b then "True" else "False"))
  | [.none] => some (.str "None")
  | _ => none
theorem rdc_repr {K : PySem.W.Frag} : RDC K (rReprA K) reprD := by
  intro vs ds dz B H e ra hg Q q
  match ds, hg with
  | [.list xs], hg =>
    obtain ⟨⟨h1, h2, h3, h4, h5⟩, rfl⟩ := opt_if hg
    cases ra with
    | cons r t =>
      cases t
      obtain ⟨a, us, rfl, _⟩ := rep_lst r
      exact .inl ⟨a, _, rfl, dp_of e r h1, h2, h3, h4, h5, q _ B H (Pu.refl e) (.str _)⟩
  | [.tuple xs], hg =>
    obtain ⟨⟨h1, h2, h3, h4, h5⟩, rfl⟩ := opt_if hg
    cases ra with
    | cons r t =>
      cases t
      obtain ⟨a, us, rfl, _⟩ := rep_tup r
      exact .inl ⟨a, _, rfl, dp_of e r h1, h2, h3, h4, h5, q _ B H (Pu.refl e) (.str _)⟩
  | [.str x], hg =>
    obtain ⟨h1, rfl⟩ := opt_if hg
    cases ra with
    | cons r t =>
      cases t
      exact .inr (.inl ⟨x, congrArg (fun v => [v]) (rep_str r), h1, q _ B H (Pu.refl e) (.str _)⟩)
  | [.int i], hg =>
    obtain ⟨h1, rfl⟩ := opt_if hg
    cases ra with
    | cons r t =>
      cases t
      exact .inr (.inr (.inl ⟨i, congrArg (fun v => [v]) (rep_int r), h1, q _ B H (Pu.refl e) (.str _)⟩))
  | [.bool b], hg =>
    cases hg
    cases ra with
    | cons r t =>
      cases t
      exact .inr (.inr (.inr (.inl ⟨b, congrArg (fun v => [v]) (rep_bl r), q _ B H (Pu.refl e) (.str _)⟩)))
  | [.none], hg =>
    cases hg
    cases ra with
    | cons r t =>
      cases t
      cases r
      exact .inr (.inr (.inr (.inr ⟨rfl, q _ B H (Pu.refl e) (.str _)⟩)))
section
variable {P : Program} {w : World} {K : PySem.W.Frag} {mg : Str → Option Value} {base : Heap} {x qual : Str} {params : Arguments} {st0 : Stmt} {body : List Stmt} {scope : Scope} {f : Addr} {fd : FuncData}
theorem law_okG {N : List Str} {s0 : Str} {k : Nat} {ow : List Nat} {kd : List Shp} {g : DT} (F : FunD K x qual params (st0 :: body) scope [] [] f fd) (S : FnScope N [s0] scope) (hl : 2 ≤ N.length) (h1 : 1 ∈ ow) (h0 : 0 ∉ ow) (hk : kd.getD 1 .flat = .flat)
    (hbody : ∀ (cdv : Value) (A : Around) (outer : List Env) (s : Shared) (H : Hp) (E : XK), Room k (A.deeper (envOfC qual scope s.heap.objs.size f cdv)) → A.guards = some [] →
      PS (cxOf CX0 P w K mg base N qual scope f cdv A outer s H E).nox st0 (tAsg (tLst (tCons (tVar 0) (tCons (tC (.int 0)) (tCons (tC (.int 0)) tNil)))) (gName 1)) ∧
      ∃ t, PDSs (cxOf CX0 P w K mg base N qual scope f cdv A outer s H E).nox ⟨ow, [1], kd, none, W0⟩ body t g)
    (math : ∀ ns : List Int, ns.length ≤ 63 → ∃ st', g (startL N.length ns) = some (.rt (.bool true) st')) : FnOkG P w K mg base (k + 1) f fd [s0] (spLaw K) := by
  refine fnG_of F S (fun vs H Q E h => ?_) (fun cdv A outer s H vs Q E hr hgd h => ?_)
  · obtain ⟨a, ns, rfl, _⟩ := h
    rfl
  · obtain ⟨a, ns, rfl, hS, hlen, q⟩ := h
    obtain ⟨h0', t, ht⟩ := hbody cdv A outer s H E hr hgd
    refine ⟨_, PSs.nox (pss_cons h0' ht.ps), ?_⟩
    obtain ⟨st', hm⟩ := math ns hlen
    refine ⟨_, start_some rfl, by show 3 ≤ sizeLine; decide, fun p hp => ?_⟩
    have s1 := sr_law (K := K) (ow := ow) (kd := kd) (rn := none) (W := W0) (N := N) hl h1 h0 hk hS hp
    refine ht.ev _ _ H H _ _ _ _ s1 hm _ (fun st' B' σ' H' e1 s2 => ?_) (fun st' B' σ' H' e1 s2 => ?_) (fun st' B' σ' H' e1 s2 => ?_) (fun d' st' v B' H' e1 rv => ?_) (fun y fl st' dx B' H' e1 fi fl1 => ?_)
    · cases e1
    · cases e1
    · cases e1
    · cases e1
      obtain ⟨_, rv⟩ := rv
      cases rv
      exact q H'
    · cases e1
end
def rUpper : V → List V → Hp → VK → Prop := fun x vs H Q => ∃ z, x = .str z ∧ vs = [] ∧ z.length ≤ 5592405 ∧ Q (.str (Txt.upper z)) H
theorem mt_upper {X : Cx} : MtR X "str.upper" rUpper := by
  intro pins s σ H x xs v us Q I rx rs h
  obtain ⟨z, rfl, rfl, hz, q⟩ := h
  obtain ⟨t, rfl⟩ := rx
  cases rs
  exact PySem.SC.upper (short24 (by have := len_upper z; omega)) ⟨.str _, H, I.tok _, ⟨_, rfl⟩, q⟩
def upperD : D → Option D
  | .str z => if z.length ≤ 5592405 then some (.str (Txt.upper z)) else none
  | _ => none
theorem pd_upper {X : Cx} {c : Cf} {o : Expr} {to : TE} {fo : DM D} {apos cpos : Pos} (ho : PD X c o to fo) (hbase : attributeBase o "upper" X.env (eval o X.env) = eval o X.env := by rfl) (hline : (apos.endLine == cpos.line) = true := by rfl) :
    PD X c (.Call (.Attribute o "upper" apos) [] [] cpos) (tBM0 X.K "str" rUpper to) (dun upperD fo) :=
  ⟨pe_bm0 PySem.F.plainAttrs_str PySem.F.slot_str_upper PySem.F.type_str_upper mt_upper ho.pe hbase hline,
   EvP.bind (relA := Rep X.K) (relC := Rep X.K) (tk := fun x _ H Q => tyV X.K "str" x H ∧ rUpper x [] H Q) mono_true ho.ev fun x d => EvP.val (t := fun H Q => tyV X.K "str" x H ∧ rUpper x [] H Q) fun B H dz e p h Q q => by
    cases d <;> first | (cases h; done) | skip
    rename_i z
    obtain ⟨hl, rfl⟩ := opt_if h
    have ex := rep_str p.2
    subst ex
    exact ⟨rfl, z, rfl, rfl, hl, q _ B H (Pu.refl e) (.str _)⟩⟩
end DR

set_option maxRecDepth 100000
set_option maxHeartbeats 1000000
namespace DR
open PySem PySem.Spec L2
open PyProof.Rows hiding St
open Evl (Ex ex_l ex_t ex_rd)


/-! ### owned slots change -/
section
variable {K : PySem.W.Frag} {c : Cs} {A0 : Nat → Addr} {Φ B0 B H : Hp} {σ : L2.St} {st : DS}
theorem SR.change {X : List Addr} (s : SR K c A0 (addF Φ H X) B0 B σ H st) (hX : ∀ x ∈ X, Φ x = none) (hX2 : ∀ x ∈ X, ∃ o, H x = some o) {i : Nat} (hi : i ∈ c.ow) {p : List Stp} {d0 e0 : D} {u : Shp} (hd : st[i]? = some (some d0)) (hs : shpP (c.kd.getD i .flat) p = some u) (hg : getP d0 p = some e0) :
    ∃ a b G F0, σ[i]? = some (some (.ref a)) ∧ Own K B H (c.kd.getD i .flat) F0 a d0 ∧ goP H a p = some b ∧ Own K B H u G b e0 ∧ (∀ y ∈ G, B y = none ∧ Φ y = none ∧ y ∉ X) ∧
      ∀ H' G' e, Own K B H' u G' b e → (∀ y ∈ G', y ∈ G ∨ y ∈ X) → (∀ y, y ∉ G → H' y = H y) → SR K c A0 Φ B0 B σ H' (st.set i (some (putP d0 p e))) := by
  obtain ⟨F, h1, h2⟩ := s.ow
  obtain ⟨a, q2, q3, q4⟩ := h1 i hi d0 hd
  have q5 : ∀ j ∈ c.ow, live st j → ∀ x ∈ F j, x ∉ X ∧ Φ x = none ∧ B x = none := fun j hj ⟨d, l⟩ x hx => by
    obtain ⟨_, _, _, w⟩ := h1 j hj d l
    obtain ⟨w1, w2⟩ := addF_none (w x hx).2 (hX2 x)
    exact ⟨w1, w2, (w x hx).1⟩
  have li : live st i := ⟨d0, hd⟩
  obtain ⟨b, G, g1, g2, g3, g4⟩ := q3.path hs hg
  refine ⟨a, b, G, F i, q2, q3, g1, g2, fun y hy => ⟨(q5 i hi li y (g3 y hy)).2.2, (q5 i hi li y (g3 y hy)).2.1, (q5 i hi li y (g3 y hy)).1⟩, fun H' G' e o' hG hH => ?_⟩
  obtain ⟨F', o2, g5⟩ := g4 H' G' e o' (fun y hy => (hG y hy).imp id fun w z => (q5 i hi li y z).1 w) fun y _ hn => hH y hn
  have hF' : ∀ y ∈ F', y ∈ F i ∨ y ∈ X := fun y hy => by
    rcases g5 y hy with w | w
    · exact .inl w
    · exact (hG y w).imp (g3 y) id
  have hXb : ∀ x ∈ X, B x = none := fun x hx => by
    obtain ⟨o, ho⟩ := hX2 x hx
    exact (s.fr.fr x o ((addF_in hx).trans ho)).2
  have hil : i < st.length := lt_of_some hd
  have lv : ∀ {j}, live (st.set i (some (putP d0 p e))) j → live st j := fun {j} ⟨d, l⟩ => by
    by_cases hji : i = j
    · exact hji ▸ li
    · rw [List.getElem?_set_ne hji] at l
      exact ⟨d, l⟩
  refine ⟨?_, s.b0, fun j d' h3 h => ?_, ⟨fun j => if j = i then F' else F j, fun j hj d' h => ?_, fun j hj k hk hjk l1 l2 x hx => ?_⟩, ⟨fun y o h => ?_, fun y o h => ?_⟩, fun j hj => ?_⟩
  · rw [List.length_set]
    exact s.len
  · rw [List.getElem?_set_ne (show i ≠ j from fun z => h3 (z ▸ hi))] at h
    exact s.rd j d' h3 h
  · by_cases hji : j = i
    · subst hji
      simp only [if_true]
      rw [List.getElem?_set_self hil] at h
      cases h
      refine ⟨a, q2, o2, fun x hx => ?_⟩
      rcases hF' x hx with w | w
      · exact ⟨(q5 j hj li x w).2.2, (q5 j hj li x w).2.1⟩
      · exact ⟨hXb x w, hX x w⟩
    · simp only [if_neg hji]
      rw [List.getElem?_set_ne (Ne.symm hji)] at h
      obtain ⟨a', s2, s3, s4⟩ := h1 j hj d' h
      exact ⟨a', s2, s3.mono (fun _ _ z => z) (fun x hx => hH x fun z => h2 j hj i hi hji ⟨d', h⟩ li x hx (g3 x z)), fun x hx => ⟨(s4 x hx).1, (q5 j hj ⟨d', h⟩ x hx).2.1⟩⟩
  · by_cases hji : j = i
    · subst hji
      simp only [if_true] at hx
      simp only [if_neg (Ne.symm hjk)]
      intro hxk
      rcases hF' x hx with w | w
      · exact h2 j hj k hk hjk li (lv l2) x w hxk
      · exact (q5 k hk (lv l2) x hxk).1 w
    · simp only [if_neg hji] at hx
      by_cases hki : k = i
      · subst hki
        simp only [if_true]
        intro hxk
        rcases hF' x hxk with w | w
        · exact h2 j hj k hk hjk (lv l1) li x hx w
        · exact (q5 j hj (lv l1) x hx).1 w
      · simp only [if_neg hki]
        exact h2 j hj k hk hjk (lv l1) (lv l2) x hx
  · rw [hH y fun z => ?_]
    · exact s.bh y o h
    · rw [(q5 i hi li y (g3 y z)).2.2] at h
      cases h
  · have hn : y ∉ X := fun z => by
      rw [hX y z] at h
      cases h
    obtain ⟨w1, w2⟩ := s.fr.fr y o ((addF_out hn).trans h)
    refine ⟨(hH y fun z => ?_).trans w1, w2⟩
    rw [(q5 i hi li y (g3 y z)).2.1] at h
    cases h
  · obtain ⟨q1, ⟨d, w⟩, q3⟩ := s.pa j hj
    refine ⟨q1, ?_, q3⟩
    by_cases hji : i = j
    · subst hji
      exact ⟨_, List.getElem?_set_self hil⟩
    · exact ⟨d, by rw [List.getElem?_set_ne hji]; exact w⟩
/-- a flat list at a place -/
theorem SR.listAt (s : SR K c A0 Φ B0 B σ H st) {i : Nat} (hi : i ∈ c.ow) {p : List Stp} {d0 : D} {ds : List D} (hd : st[i]? = some (some d0)) (hs : shpP (c.kd.getD i .flat) p = some .flat) (hg : getP d0 p = some (.list ds)) :
    ∃ a b xs F0, σ[i]? = some (some (.ref a)) ∧ Own K B H (c.kd.getD i .flat) F0 a d0 ∧ goP H a p = some b ∧ H b = some (.lst xs) ∧ RepA K B xs ds ∧ B b = none ∧ ∀ ys es, RepA K B ys es → SR K c A0 Φ B0 B σ (upd H b (.lst ys)) (st.set i (some (putP d0 p (.list es)))) := by
  have s' : SR K c A0 (addF Φ H []) B0 B σ H st := by rw [addF_nil]; exact s
  obtain ⟨a, b, G, F0, q1, q2, q3, q4, q5, q6⟩ := s'.change (fun _ h => nomatch h) (fun _ h => nomatch h) hi hd hs hg
  obtain ⟨o, xs, G', h0, h1, h2, rfl, h4⟩ := own_list q4
  cases h0
  refine ⟨a, b, xs, F0, q1, q2, q3, h1, h2.flat0, (q5 b List.mem_cons_self).1, fun ys es r => q6 _ [b] _ (Own.lst1 r) (fun y hy => .inl (by rw [List.mem_singleton.mp hy]; exact List.mem_cons_self)) fun y hy => upd_ne fun z => hy (z ▸ List.mem_cons_self)⟩
/-- a flat dict at a place -/
theorem SR.dictAt (s : SR K c A0 Φ B0 B σ H st) {i : Nat} (hi : i ∈ c.ow) {p : List Stp} {d0 : D} {ds : List (D × D)} (hd : st[i]? = some (some d0)) (hs : shpP (c.kd.getD i .flat) p = some .flat) (hg : getP d0 p = some (.dict ds)) :
    ∃ a b kvs F0, σ[i]? = some (some (.ref a)) ∧ Own K B H (c.kd.getD i .flat) F0 a d0 ∧ goP H a p = some b ∧ H b = some (.dK kvs) ∧ (kvs.map (·.1)).Nodup ∧ RepK K B kvs ds ∧ B b = none ∧ ∀ ws es, (ws.map (·.1)).Nodup → RepK K B ws es → SR K c A0 Φ B0 B σ (upd H b (.dK ws)) (st.set i (some (putP d0 p (.dict es)))) := by
  have s' : SR K c A0 (addF Φ H []) B0 B σ H st := by rw [addF_nil]; exact s
  obtain ⟨a, b, G, F0, q1, q2, q3, q4, q5, q6⟩ := s'.change (fun _ h => nomatch h) (fun _ h => nomatch h) hi hd hs hg
  cases q4 with
  | dct z h1 n o m =>
    cases z
    refine ⟨a, b, _, F0, q1, q2, q3, h1, n, o.flat0, (q5 b List.mem_cons_self).1, fun ws es n' r => q6 _ [b] _ (Own.dct1 n' r) (fun y hy => .inl (by rw [List.mem_singleton.mp hy]; exact List.mem_cons_self)) fun y hy => upd_ne fun z => hy (z ▸ List.mem_cons_self)⟩
end
def cellOf (i : Nat) (st : DS) : Option (List D) := match st[i]? with
  | some (some (.list ds)) => some ds
  | _ => none
theorem cellOf_some {st : DS} {i : Nat} {ds : List D} (h : cellOf i st = some ds) : st[i]? = some (some (.list ds)) := by
  unfold cellOf at h
  split at h
  · rename_i e
    cases h
    exact e
  · cases h
def dapp (i : Nat) (fe : DM D) : DT := fun st => match cellOf i st with
  | none => none
  | some _ => dexp fe (fun d st1 => match cellOf i st1 with
    | none => none
    | some ds => if ds.length < sizeLine then some (.nx (st1.set i (some (.list (ds ++ [d]))))) else none) st
section
variable {K : PySem.W.Frag} {c : Cs}
theorem SR.cellList {A0 : Nat → Addr} {Φ B0 B H : Hp} {σ : L2.St} {st : DS} (s : SR K c A0 Φ B0 B σ H st) {i : Nat} {ds : List D} (hi : i ∈ c.ow) (hk : c.kd.getD i .flat = .flat) (h : cellOf i st = some ds) : ∃ l xs, σ[i]? = some (some (.ref l)) ∧ H l = some (.lst xs) ∧ RepA K B xs ds ∧ ∀ ys es, RepA K B ys es → SR K c A0 Φ B0 B σ (upd H l (.lst ys)) (st.set i (some (.list es))) := by
  obtain ⟨a, b, xs, F0, q1, q2, q3, q4, q5, _, q6⟩ := s.listAt hi (p := []) (cellOf_some h) (by rw [hk]; rfl) rfl
  cases q3
  exact ⟨a, xs, q1, q4, q5, q6⟩
theorem ev_app {i : Nat} {te : TE} {fe : DM D} (hi : i ∈ c.ow) (hk : c.kd.getD i .flat = .flat) (he : EvE K c (Rep K) te fe) : EvS K c (tDrop (tBM K "list" rAppend (tVar i) (tCons te tNil))) (dapp i fe) := fun A0 Φ B0 B σ H st r s h De n b kk t x => by
  unfold dapp at h
  cases e0 : cellOf i st with
  | none =>
    simp only [e0] at h
    cases h
  | some ds0 =>
    simp only [e0] at h
    obtain ⟨l, xs0, hs, hl0, _⟩ := s.cellList hi hk e0
    refine ⟨_, hs, .inl ⟨rfl, xs0, SqL.of hl0⟩, ?_⟩
    cases ef : fe st with
    | none =>
      unfold dexp at h
      rw [ef] at h
      cases h
    | some ro =>
      refine he A0 Φ B0 B σ H st ro s ef _ (fun d st1 v B1 H1 e1 s1 _ rv => ?_) (fun y fl st1 dx B1 H1 e1 fi1 fl1 => ?_)
      · subst e1
        rw [dexp_ok ef] at h
        cases e1 : cellOf i st1 with
        | none =>
          simp only [e1] at h
          cases h
        | some ds =>
          simp only [e1] at h
          obtain ⟨hz, rfl⟩ := opt_if h
          obtain ⟨l1, xs, hs1, hl1, ra, up⟩ := s1.cellList hi hk e1
          rw [hs] at hs1
          cases hs1
          exact ⟨l, xs, v, rfl, rfl, hl1, by rw [ra.length]; exact hz, n _ B1 _ _ rfl (up _ _ (ra.append (.cons rv .nil)))⟩
      · subst e1
        unfold dexp at h
        rw [ef] at h
        exact x y fl st1 dx B1 H1 (Option.some.inj h).symm fi1 fl1
/-- xs.extend(e): e a list -/
def rExtendL : V → List V → Hp → VK → Prop := fun x vs H Q => ∃ l b xs zs, x = .ref l ∧ vs = [.ref b] ∧ H l = some (.lst xs) ∧ Rd H b (.lst zs) ∧ xs.length + zs.length ≤ sizeLine ∧ Q .non (upd H l (.lst (xs ++ zs)))
theorem mt_extendL {X : Cx} : MtM X "list.extend" rExtendL := by
  intro pins s σ H x vs v us Q I rx rv h
  obtain ⟨l, b, xs, zs, rfl, rfl, hH, hB, hz, q⟩ := h
  cases rx
  obtain ⟨u, rfl, ru⟩ := rv.one
  cases ru
  obtain ⟨z, its, n, r, hl, e⟩ := I.lstM hH
  obtain ⟨z2, its2, n2, r2, hl2, e2⟩ := rd_lstM I hB
  have hsz : its.toArray.size + its2.toArray.size ≤ sizeLine := by rw [List.size_toArray, List.size_toArray]; omega
  have hlong : ¬ (!its.toArray.isEmpty && Builtin.List.listTooLong (its.toArray.size + its2.toArray.size)) = true := by
    rw [notLongL hsz, Bool.and_false]
    exact Bool.false_ne_true
  refine call_meets F.slot_list_extend ⟨_, e, rfl⟩ F.entry_list_extend (F.args_list_extend_2 _ _)
    (AutoSeq1.list_extend_list_list_0 l its.toArray n b its2.toArray n2 hlong (by rw [List.size_toArray]; omega) (by omega)) ⟨e, e2, ?_⟩
  refine ⟨.non, _, I.lset (its' := its ++ its2) hH e (by simp) (r.append r2) ?_, rfl, q⟩
  rw [List.length_append]
  omega
def dext (i : Nat) (fe : DM D) : DT := fun st => match cellOf i st with
  | none => none
  | some _ => dexp fe (fun d st1 => match cellOf i st1, d with
    | some ds, .list es => if ds.length + es.length ≤ sizeLine then some (.nx (st1.set i (some (.list (ds ++ es))))) else none
    | _, _ => none) st
theorem ev_ext {i : Nat} {te : TE} {fe : DM D} (hi : i ∈ c.ow) (hk : c.kd.getD i .flat = .flat) (he : EvE K c (Rep K) te fe) : EvS K c (tDrop (tBM K "list" rExtendL (tVar i) (tCons te tNil))) (dext i fe) := fun A0 Φ B0 B σ H st r s h De n b kk t x => by
  unfold dext at h
  cases e0 : cellOf i st with
  | none =>
    simp only [e0] at h
    cases h
  | some ds0 =>
    simp only [e0] at h
    obtain ⟨l, xs0, hs, hl0, _⟩ := s.cellList hi hk e0
    refine ⟨_, hs, .inl ⟨rfl, xs0, SqL.of hl0⟩, ?_⟩
    cases ef : fe st with
    | none =>
      unfold dexp at h
      rw [ef] at h
      cases h
    | some ro =>
      refine he A0 Φ B0 B σ H st ro s ef _ (fun d st1 v B1 H1 e1 s1 _ rv => ?_) (fun y fl st1 dx B1 H1 e1 fi1 fl1 => ?_)
      · subst e1
        rw [dexp_ok ef] at h
        cases e1 : cellOf i st1 with
        | none =>
          simp only [e1] at h
          cases h
        | some ds =>
          simp only [e1] at h
          cases d <;> first | (cases h; done) | skip
          rename_i es
          obtain ⟨hz, rfl⟩ := opt_if (show (if ds.length + es.length ≤ sizeLine then some (Out.nx (st1.set i (some (.list (ds ++ es))))) else none) = some r from h)
          obtain ⟨l1, xs, hs1, hl1, ra, up⟩ := s1.cellList hi hk e1
          rw [hs] at hs1
          cases hs1
          obtain ⟨b1, zs, rfl, hb1, rb⟩ := rep_lst rv
          exact ⟨l, b1, xs, zs, rfl, rfl, hl1, ex_rd s1.bh hb1, by rw [ra.length, rb.length]; exact hz, n _ B1 _ _ rfl (up _ _ (ra.append rb))⟩
      · subst e1
        unfold dexp at h
        rw [ef] at h
        exact x y fl st1 dx B1 H1 (Option.some.inj h).symm fi1 fl1
/-- x[k] = e: a list's item; x a cell or a pen -/
def dput (i : Nat) (fe fk : DM D) : DT := dexp fe fun d => dexp fk fun k st => match cellOf i st, k with
  | some ds, .int z => (ixN ds.length z).map fun j => .nx (st.set i (some (.list (ds.set j d))))
  | _, _ => none
theorem ev_put {i : Nat} {te tk : TE} {fe fk : DM D} (hi : i ∈ c.ow) (hk : c.kd.getD i .flat = .flat) (hl : i ∈ c.pa) (he : EvE K c (Rep K) te fe) (hkk : EvE K c (Rep K) tk fk) : EvS K c (tAsg te (gSub (tVar i) tk rSetL)) (dput i fe fk) := fun A0 Φ B0 B σ H st r s h De n b kk t x => by
  obtain ⟨_, ⟨d00, hd0⟩, hs0⟩ := s.pa i hl
  unfold dput at h
  cases ef : fe st with
  | none =>
    unfold dexp at h
    rw [ef] at h
    cases h
  | some ro =>
    refine he A0 Φ B0 B σ H st ro s ef _ (fun d st1 v B1 H1 e1 s1 _ rv => ?_) (fun y fl st1 dx B1 H1 e1 fi1 fl1 => ?_)
    · subst e1
      rw [dexp_ok ef] at h
      refine ⟨_, hs0, ?_⟩
      cases ek : fk st1 with
      | none =>
        unfold dexp at h
        rw [ek] at h
        cases h
      | some rk =>
        refine hkk A0 Φ B0 B1 σ H1 st1 rk s1 ek _ (fun k st2 w B2 H2 e2 s2 ex2 rw' => ?_) (fun y fl st2 dx B2 H2 e2 fi2 fl2 => ?_)
        · subst e2
          rw [dexp_ok ek] at h
          cases ec : cellOf i st2 with
          | none =>
            simp only [ec] at h
            cases h
          | some ds =>
            simp only [ec] at h
            cases k <;> first | (cases h; done) | skip
            rename_i z
            obtain ⟨j, hj, rfl⟩ := Option.map_eq_some_iff.mp (show (ixN ds.length z).map (fun j => Out.nx (st2.set i (some (.list (ds.set j d))))) = some r from h)
            obtain ⟨l1, xs, hs1, hl1, ra, up⟩ := s2.cellList hi hk ec
            rw [hs0] at hs1
            cases hs1
            exact ⟨_, xs, z, j, rfl, rep_int rw', hl1, by rw [ra.length]; exact hj, n _ B2 _ _ rfl (up _ _ (ra.set (rv.mono ex2) j))⟩
        · subst e2
          unfold dexp at h
          rw [ek] at h
          exact x y fl st2 dx B2 H2 (Option.some.inj h).symm fi2 fl2
    · subst e1
      unfold dexp at h
      rw [ef] at h
      exact x y fl st1 dx B1 H1 (Option.some.inj h).symm fi1 fl1
theorem ev_putC {i : Nat} {te tk : TE} {fe fk : DM D} (hi : i ∈ c.ow) (hk : c.kd.getD i .flat = .flat) (he : EvE K c (Rep K) te fe) (hkk : EvE K c (Rep K) tk fk) : EvS K c (tAsg te (gSub (tVar i) tk rSetL)) (fun st => match cellOf i st with | none => none | some _ => dput i fe fk st) := fun A0 Φ B0 B σ H st r s h De n b kk t x => by
  cases e0 : cellOf i st with
  | none =>
    simp only [e0] at h
    cases h
  | some ds0 =>
  simp only [e0] at h
  obtain ⟨l, xs0, hs0, hl0, _⟩ := s.cellList hi hk e0
  unfold dput at h
  cases ef : fe st with
  | none =>
    unfold dexp at h
    rw [ef] at h
    cases h
  | some ro =>
    refine he A0 Φ B0 B σ H st ro s ef _ (fun d st1 v B1 H1 e1 s1 _ rv => ?_) (fun y fl st1 dx B1 H1 e1 fi1 fl1 => ?_)
    · subst e1
      rw [dexp_ok ef] at h
      refine ⟨_, hs0, ?_⟩
      cases ek : fk st1 with
      | none =>
        unfold dexp at h
        rw [ek] at h
        cases h
      | some rk =>
        refine hkk A0 Φ B0 B1 σ H1 st1 rk s1 ek _ (fun k st2 w B2 H2 e2 s2 ex2 rw' => ?_) (fun y fl st2 dx B2 H2 e2 fi2 fl2 => ?_)
        · subst e2
          rw [dexp_ok ek] at h
          cases ec : cellOf i st2 with
          | none =>
            simp only [ec] at h
            cases h
          | some ds =>
            simp only [ec] at h
            cases k <;> first | (cases h; done) | skip
            rename_i z
            obtain ⟨j, hj, rfl⟩ := Option.map_eq_some_iff.mp (show (ixN ds.length z).map (fun j => Out.nx (st2.set i (some (.list (ds.set j d))))) = some r from h)
            obtain ⟨l1, xs, hs1, hl1, ra, up⟩ := s2.cellList hi hk ec
            rw [hs0] at hs1
            cases hs1
            exact ⟨_, xs, z, j, rfl, rep_int rw', hl1, by rw [ra.length]; exact hj, n _ B2 _ _ rfl (up _ _ (ra.set (rv.mono ex2) j))⟩
        · subst e2
          unfold dexp at h
          rw [ek] at h
          exact x y fl st2 dx B2 H2 (Option.some.inj h).symm fi2 fl2
    · subst e1
      unfold dexp at h
      rw [ef] at h
      exact x y fl st1 dx B1 H1 (Option.some.inj h).symm fi1 fl1
end
def cellD (i : Nat) (st : DS) : Option (List (D × D)) := match st[i]? with
  | some (some (.dict ds)) => some ds
  | _ => none
def dupd (i : Nat) (fe : DM D) : DT := fun st => match cellD i st with
  | none => none
  | some _ => dexp fe (fun d st1 => match cellD i st1, d with
    | some ds, .dict es => if ds.length + es.length ≤ sizeLine then some (.nx (st1.set i (some (.dict (mergeD ds es))))) else none
    | _, _ => none) st
theorem cellD_some {st : DS} {i : Nat} {ds : List (D × D)} (h : cellD i st = some ds) : st[i]? = some (some (.dict ds)) := by
  unfold cellD at h
  split at h
  · rename_i e
    cases h
    exact e
  · cases h
section
variable {K : PySem.W.Frag} {c : Cs}
theorem SR.cellDict {A0 : Nat → Addr} {Φ B0 B H : Hp} {σ : L2.St} {st : DS} (s : SR K c A0 Φ B0 B σ H st) {i : Nat} {ds : List (D × D)} (hi : i ∈ c.ow) (hk : c.kd.getD i .flat = .flat) (h : cellD i st = some ds) : ∃ l kvs, σ[i]? = some (some (.ref l)) ∧ H l = some (.dK kvs) ∧ (kvs.map (·.1)).Nodup ∧ RepK K B kvs ds ∧ B l = none ∧ ∀ ws es, (ws.map (·.1)).Nodup → RepK K B ws es → SR K c A0 Φ B0 B σ (upd H l (.dK ws)) (st.set i (some (.dict es))) := by
  obtain ⟨a, b, kvs, F0, q1, q2, q3, q4, q5, q6, q7, q8⟩ := s.dictAt hi (p := []) (cellD_some h) (by rw [hk]; rfl) rfl
  cases q3
  exact ⟨a, kvs, q1, q4, q5, q6, q7, q8⟩
theorem ev_upd {i : Nat} {te : TE} {fe : DM D} (hi : i ∈ c.ow) (hk : c.kd.getD i .flat = .flat) (he : EvE K c (Rep K) te fe) : EvS K c (tDrop (tBM K "dict" rUpdK (tVar i) (tCons te tNil))) (dupd i fe) := fun A0 Φ B0 B σ H st r s h De n b kk t x => by
  unfold dupd at h
  cases e0 : cellD i st with
  | none =>
    simp only [e0] at h
    cases h
  | some ds0 =>
    simp only [e0] at h
    obtain ⟨l, xs0, hs, hl0, _⟩ := s.cellDict hi hk e0
    refine ⟨_, hs, .inr (.inr (.inl ⟨rfl, .inl ⟨_, hl0⟩⟩)), ?_⟩
    cases ef : fe st with
    | none =>
      unfold dexp at h
      rw [ef] at h
      cases h
    | some ro =>
      refine he A0 Φ B0 B σ H st ro s ef _ (fun d st1 v B1 H1 e1 s1 _ rv => ?_) (fun y fl st1 dx B1 H1 e1 fi1 fl1 => ?_)
      · subst e1
        rw [dexp_ok ef] at h
        cases e1 : cellD i st1 with
        | none =>
          simp only [e1] at h
          cases h
        | some ds =>
          simp only [e1] at h
          cases d <;> first | (cases h; done) | skip
          rename_i es
          obtain ⟨hz, rfl⟩ := opt_if (show (if ds.length + es.length ≤ sizeLine then some (Out.nx (st1.set i (some (.dict (mergeD ds es))))) else none) = some r from h)
          obtain ⟨l1, kvs, hs1, hl1, hn, ra, hbl, up⟩ := s1.cellDict hi hk e1
          rw [hs] at hs1
          cases hs1
          obtain ⟨b1, more, rfl, hb1, _, rb⟩ := rep_dct rv
          obtain ⟨m1, m2⟩ := RepK.merge rb hn ra
          exact ⟨l, b1, kvs, more, rfl, rfl, (fun z => by rw [← z, hbl] at hb1; cases hb1), hl1, s1.bh _ _ hb1, by rw [ra.len, rb.len]; exact hz, n _ B1 _ _ rfl (up _ _ m2 m1)⟩
      · subst e1
        unfold dexp at h
        rw [ef] at h
        exact x y fl st1 dx B1 H1 (Option.some.inj h).symm fi1 fl1
/-- an expression of any mode, told -/
theorem ev_retE {te : TE} {fe : DM D} (hrn : c.rn = none) (he : EvE K c (Rep K) te fe) : EvS K c (tRet te) (dret fe) :=
  ev_exp (tk := fun x De _ H => De.rt x H) he fun x b A0 Φ B0 B σ H st r s rv h De n _ _ t _ => by
    cases h
    refine t _ _ x B H rfl ?_
    unfold Ret
    rw [hrn]
    exact ⟨s.fin, rv⟩
end
section
variable {X : Cx} {c : Cs} {e : Expr} {te : TE} {fe : DM D} {pos : Pos}
theorem pds_retE (he : PDE X c e te fe) (hrn : c.rn = none := by rfl) : PDS X c (.Return (some e) pos) (tRet te) (dret fe) := ⟨ps_ret he.pe, ev_retE hrn he.ev⟩
theorem pds_app (i : Nat) {x : Str} {px apos cpos : Pos} (he : PDE X c e te fe) (h1 : i ∈ c.ow := by decide) (hkd : c.kd.getD i .flat = .flat := by rfl) (hN : X.N[i]? = some x := by rfl) (hv : Vis X.env.scope x := by first | exact Or.inl rfl | exact Or.inr (Or.inl rfl) | exact Or.inr (Or.inr rfl))
    (hd : (x == ("__debug__" : Str)) = false := by decide) (hcd : (x == ("__classdict__" : Str)) = false := by decide)
    (hbase : attributeBase (.Name x px) "append" X.env (eval (.Name x px) X.env) = eval (.Name x px) X.env := by rfl)
    (hfew : ((backTo cpos (starEach [e] X.env)).all (fun x => !x.1) && (backToKw cpos (keywordEach [] X.env)).all (fun x => x.1.isSome)
      && decide (([e] : List Expr).length + ([] : List Keyword).length + (if ([] : List Keyword).isEmpty then 0 else 1) < 30)) = true := by rfl)
    (hline : (apos.endLine == cpos.line) = true := by rfl) (hse : starEach [e] X.env = (false, eval e X.env) :: starEach [] X.env := by rfl) (hplain : (backTo cpos (starEach [] X.env)).any (·.1) = false := by rfl)
    (hs : swapsWith (.Call (.Attribute (.Name x px) "append" apos) [e] [] cpos) none pos.line X.env = pure false := by rfl) :
    PDS X c (.Expr (.Call (.Attribute (.Name x px) "append" apos) [e] [] cpos) pos) (tDrop (tBM X.K "list" rAppend (tVar i) (tCons te tNil))) (dapp i fe) :=
  ⟨ps_expr (pe_bm PySem.F.plainAttrs_list PySem.F.slot_list_append PySem.F.type_list_append mt_append (pv i hN hv hd hcd) (pa_cons he.pe pa_nil hse) hbase hfew hline hse hplain) hs, ev_app h1 hkd he.ev⟩
theorem pds_ext (i : Nat) {x : Str} {px apos cpos : Pos} (he : PDE X c e te fe) (h1 : i ∈ c.ow := by decide) (hkd : c.kd.getD i .flat = .flat := by rfl) (hN : X.N[i]? = some x := by rfl) (hv : Vis X.env.scope x := by first | exact Or.inl rfl | exact Or.inr (Or.inl rfl) | exact Or.inr (Or.inr rfl))
    (hd : (x == ("__debug__" : Str)) = false := by decide) (hcd : (x == ("__classdict__" : Str)) = false := by decide)
    (hbase : attributeBase (.Name x px) "extend" X.env (eval (.Name x px) X.env) = eval (.Name x px) X.env := by rfl)
    (hfew : ((backTo cpos (starEach [e] X.env)).all (fun x => !x.1) && (backToKw cpos (keywordEach [] X.env)).all (fun x => x.1.isSome)
      && decide (([e] : List Expr).length + ([] : List Keyword).length + (if ([] : List Keyword).isEmpty then 0 else 1) < 30)) = true := by rfl)
    (hline : (apos.endLine == cpos.line) = true := by rfl) (hse : starEach [e] X.env = (false, eval e X.env) :: starEach [] X.env := by rfl) (hplain : (backTo cpos (starEach [] X.env)).any (·.1) = false := by rfl)
    (hs : swapsWith (.Call (.Attribute (.Name x px) "extend" apos) [e] [] cpos) none pos.line X.env = pure false := by rfl) :
    PDS X c (.Expr (.Call (.Attribute (.Name x px) "extend" apos) [e] [] cpos) pos) (tDrop (tBM X.K "list" rExtendL (tVar i) (tCons te tNil))) (dext i fe) :=
  ⟨ps_expr (pe_bm PySem.F.plainAttrs_list PySem.F.slot_list_extend PySem.F.type_list_extend mt_extendL (pv i hN hv hd hcd) (pa_cons he.pe pa_nil hse) hbase hfew hline hse hplain) hs, ev_ext h1 hkd he.ev⟩
theorem pds_putP (i : Nat) {x : Str} {k : Expr} {tk : TE} {fk : DM D} {px pos' : Pos} (he : PDE X c e te fe) (hk : PDE X c k tk fk) (h1 : i ∈ c.pa := by decide) (h1o : i ∈ c.ow := by decide) (hkd : c.kd.getD i .flat = .flat := by rfl) (hN : X.N[i]? = some x := by rfl) (hv : Vis X.env.scope x := by first | exact Or.inl rfl | exact Or.inr (Or.inl rfl) | exact Or.inr (Or.inr rfl))
    (hd : (x == ("__debug__" : Str)) = false := by decide) (hcd : (x == ("__classdict__" : Str)) = false := by decide)
    (ha : ∀ v, assign (.Subscript (.Name x px) k pos') X.env v = (do
      let ov ← holding [v] (eval (.Name x px) X.env)
      let iv ← holding [v, ov] (eval k X.env)
      standAt pos'
      holding [v, ov, iv] (setItem ov iv v)
      release [v, ov, iv] []) := by intro _; rfl) (hs : swapsWithSole [.Subscript (.Name x px) k pos'] e pos.line X.env = pure false := by rfl) (hw : swappedStores [.Subscript (.Name x px) k pos'] e X.env = pure none := by rfl)
    (h2 : (assignEach [.Subscript (.Name x px) k pos'] X.env).map (·.2) = [assign (.Subscript (.Name x px) k pos') X.env] := by rfl) : PDS X c (.Assign [.Subscript (.Name x px) k pos'] e pos) (tAsg te (gSub (tVar i) tk rSetL)) (dput i fe fk) :=
  ⟨ps_asg he.pe (pg_sub (pv i hN hv hd hcd) hk.pe set_list ha) hs hw h2, ev_put h1o hkd h1 he.ev hk.ev⟩
theorem pds_putC (i : Nat) {x : Str} {k : Expr} {tk : TE} {fk : DM D} {px pos' : Pos} (he : PDE X c e te fe) (hk : PDE X c k tk fk) (h1 : i ∈ c.ow := by decide) (hkd : c.kd.getD i .flat = .flat := by rfl) (hN : X.N[i]? = some x := by rfl) (hv : Vis X.env.scope x := by first | exact Or.inl rfl | exact Or.inr (Or.inl rfl) | exact Or.inr (Or.inr rfl))
    (hd : (x == ("__debug__" : Str)) = false := by decide) (hcd : (x == ("__classdict__" : Str)) = false := by decide)
    (ha : ∀ v, assign (.Subscript (.Name x px) k pos') X.env v = (do
      let ov ← holding [v] (eval (.Name x px) X.env)
      let iv ← holding [v, ov] (eval k X.env)
      standAt pos'
      holding [v, ov, iv] (setItem ov iv v)
      release [v, ov, iv] []) := by intro _; rfl) (hs : swapsWithSole [.Subscript (.Name x px) k pos'] e pos.line X.env = pure false := by rfl) (hw : swappedStores [.Subscript (.Name x px) k pos'] e X.env = pure none := by rfl)
    (h2 : (assignEach [.Subscript (.Name x px) k pos'] X.env).map (·.2) = [assign (.Subscript (.Name x px) k pos') X.env] := by rfl) : PDS X c (.Assign [.Subscript (.Name x px) k pos'] e pos) (tAsg te (gSub (tVar i) tk rSetL)) (fun st => match cellOf i st with | none => none | some _ => dput i fe fk st) :=
  ⟨ps_asg he.pe (pg_sub (pv i hN hv hd hcd) hk.pe set_list ha) hs hw h2, ev_putC h1 hkd he.ev hk.ev⟩
theorem pds_upd (i : Nat) {x : Str} {px apos cpos : Pos} (he : PDE X c e te fe) (h1 : i ∈ c.ow := by decide) (hkd : c.kd.getD i .flat = .flat := by rfl) (hN : X.N[i]? = some x := by rfl) (hv : Vis X.env.scope x := by first | exact Or.inl rfl | exact Or.inr (Or.inl rfl) | exact Or.inr (Or.inr rfl))
    (hd : (x == ("__debug__" : Str)) = false := by decide) (hcd : (x == ("__classdict__" : Str)) = false := by decide)
    (hbase : attributeBase (.Name x px) "update" X.env (eval (.Name x px) X.env) = eval (.Name x px) X.env := by rfl)
    (hfew : ((backTo cpos (starEach [e] X.env)).all (fun x => !x.1) && (backToKw cpos (keywordEach [] X.env)).all (fun x => x.1.isSome)
      && decide (([e] : List Expr).length + ([] : List Keyword).length + (if ([] : List Keyword).isEmpty then 0 else 1) < 30)) = true := by rfl)
    (hline : (apos.endLine == cpos.line) = true := by rfl) (hse : starEach [e] X.env = (false, eval e X.env) :: starEach [] X.env := by rfl) (hplain : (backTo cpos (starEach [] X.env)).any (·.1) = false := by rfl)
    (hs : swapsWith (.Call (.Attribute (.Name x px) "update" apos) [e] [] cpos) none pos.line X.env = pure false := by rfl) :
    PDS X c (.Expr (.Call (.Attribute (.Name x px) "update" apos) [e] [] cpos) pos) (tDrop (tBM X.K "dict" rUpdK (tVar i) (tCons te tNil))) (dupd i fe) :=
  ⟨ps_expr (pe_bm PySem.F.plainAttrs_dict PySem.F.slot_dict_update PySem.F.type_dict_update mt_update (pv i hN hv hd hcd) (pa_cons he.pe pa_nil hse) hbase hfew hline hse hplain) hs, ev_upd h1 hkd he.ev⟩

end
end DR

set_option maxRecDepth 100000
set_option maxHeartbeats 1000000
namespace DR
open PySem PySem.Spec L2
open PyProof.Rows hiding St
open Evl (Ex ex_l ex_t ex_rd)

/-! ### calls that tell a new object -/
def mNN (m : List D → Option D) : List D → Option D := fun ds => match m ds with
  | some .none => none
  | r => r
theorem mNN_ne {m : List D → Option D} {ds : List D} {d : D} (h : mNN m ds = some d) : d ≠ .none := by
  unfold mNN at h
  split at h
  · cases h
  · rename_i hne
    intro e
    subst e
    exact hne h
theorem mNN_some {m : List D → Option D} {ds : List D} {d : D} (h : mNN m ds = some d) : m ds = some d := by
  unfold mNN at h
  split at h
  · cases h
  · exact h
theorem spN_NN {sh : Shp} {K : PySem.W.Frag} {n : Nat} {m : List D → Option D} {vs : List V} {H : Hp} {Q : VK} {E : XK} (h : spN sh K n (mNN m) vs H Q E) : spN sh K n m vs H Q E := by
  obtain ⟨B, ds, d, h1, h2, h3, h4, h5, h6⟩ := h
  exact ⟨B, ds, d, h1, h2, h3, mNN_some h4, h5, h6⟩
section
variable {K : PySem.W.Frag} {c : Cf} {A : Nat → Addr} {Z : Zn} {B H B' H' : Hp} {σ : L2.St} {st : DS}
theorem ER.puN (e : ER K c A Z B σ H st) {F : List Addr} (p : PuN F B H B' H') (hh : ∀ x ∈ F, ∃ o, H' x = some o) : ER K c A (Z.add H' F) B' σ H' st where
  len := e.len
  bh := p.bh
  rd := fun i d h1 h2 h => by
    obtain ⟨v, q, r⟩ := e.rd i d h1 h2 h
    exact ⟨v, q, r.mono p.ext⟩
  pn := by
    obtain ⟨G, h1, h2⟩ := e.pn
    refine ⟨G, fun i hi => ?_, h2⟩
    obtain ⟨d, q1, q2, q3, q4⟩ := h1 i hi
    refine ⟨d, q1, q2, q3.hx (cut_mono p.ext) p.hx, fun x hx => ?_⟩
    obtain ⟨o, ho⟩ := q3.has x hx
    have hxF : x ∉ F := fun z => by
      rw [p.fh x z] at ho
      cases ho
    refine ⟨?_, (addF_out hxF).trans (q4 x hx).2⟩
    cases q : B' x with
    | none => rfl
    | some u =>
      rcases p.new x u q with w | w
      · rw [(q4 x hx).1] at w
        cases w
      · rw [w] at ho
        cases ho
  fr := fun a o h => by
    by_cases z : a ∈ F
    · exact ⟨(addF_in z).symm.trans h, p.fb a z⟩
    · obtain ⟨h1, h2⟩ := e.fr a o ((addF_out z).symm.trans h)
      refine ⟨p.hx _ _ h1, ?_⟩
      cases q : B' a with
      | none => rfl
      | some u =>
        rcases p.new a u q with w | w
        · rw [h2] at w
          cases w
        · rw [w] at h1
          cases h1
  zx := e.zx
  zo := fun a h => by
    obtain ⟨o, h1, h2⟩ := e.zo a h
    exact ⟨o, p.ext a o h1, h2⟩
end
section
variable {X : Cx} {c : Cf} {K : PySem.W.Frag} {t : TA} {fs : DM (List D)} {x : Str} {p pos : Pos} {e : Expr} {es : List Expr} {k j n : Nat} {sh : Shp} {ps : List Str} {m : List D → Option D}
theorem ev_callN {E : XK} (hn : ∀ ds d, m ds = some d → ds.length = n) (hne : ∀ ds d, m ds = some d → d ≠ .none) (h : EvA K c t fs) : EvN sh K c (tCall (spN sh K n m) [] E t) (dcall m fs) := by
  intro A Z B σ H st ro er hf Q hok hex
  unfold dcall at hf
  cases ea : fs st with
  | none =>
    unfold DM.bind at hf
    rw [ea] at hf
    cases hf
  | some ra =>
    obtain ⟨ra, st1⟩ := ra
    refine h A Z B σ H st _ er True.intro ea _ (fun ds st1' e1 vs B1 H1 er1 ad1 rv => ?_) (fun y fl st1' e1 dx B1 H1 er1 ad1 fl1 => ?_)
    · cases e1
      rw [bind_ok ea] at hf
      obtain ⟨dz, h1, rfl⟩ := Option.map_eq_some_iff.mp hf
      show spN sh K n m (vs ++ []) H1 Q E
      rw [List.append_nil]
      refine ⟨B1, ds, dz, by rw [rv.length]; exact hn _ _ h1, er1.bh, rv, h1, hne _ _ h1, fun p F B' H' pu ow => ?_⟩
      exact hok dz st1 rfl p F B' H' (er1.puN pu ow.has) (ad1.more pu.ext) (fun x hx => Zn.fresh er1 (pu.fh x hx)) ow
    · cases e1
      rw [bind_ex ea] at hf
      exact hex y fl st1 (Option.some.inj hf).symm dx B1 H1 er1 ad1 fl1
theorem pdn_fn (C : CallOk X.prog X.w X.K X.mg X.base x j ps (spN sh X.K n m)) (hn : ∀ ds d, m ds = some d → ds.length = n) (hne : ∀ ds d, m ds = some d → d ≠ .none) (hr : Room k X.A) (ha : PDA X c (e :: es) t fs) (hjk : j ≤ k := by decide) (hg : Gl X x := by rfl)
    (hdb : (x == ("__debug__" : Str)) = false := by decide) (he : starEach (e :: es) X.env = (false, eval e X.env) :: starEach es X.env := by rfl) (hpl : (backTo pos (starEach es X.env)).any (·.1) = false := by rfl) :
    PDN sh X c (.Call (.Name x p) (e :: es) [] pos) (tCall (spN sh X.K n m) [] E0 t) (dcall m fs) := by
  obtain ⟨f, fd, F, hm, hk, hb⟩ := C
  exact ⟨pe_call F (hr.mono hjk) hg hm hk hb .nil pass0 ha.pa hdb he hpl, ev_callN hn hne ha.ev⟩
theorem pdn_fn0 (C : CallOk X.prog X.w X.K X.mg X.base x j ps (spN sh X.K 0 m)) (hn : ∀ ds d, m ds = some d → ds.length = 0) (hne : ∀ ds d, m ds = some d → d ≠ .none) (hr : Room k X.A) (hjk : j ≤ k := by decide) (hg : Gl X x := by rfl)
    (hdb : (x == ("__debug__" : Str)) = false := by decide) :
    PDN sh X c (.Call (.Name x p) [] [] pos) (tCall (spN sh X.K 0 m) [] E0 tNil) (dcall m dnil) := by
  obtain ⟨f, fd, F, hm, hk, hb⟩ := C
  exact ⟨pe_call0 F (hr.mono hjk) hg hm hk hb .nil pass0 hdb, ev_callN hn hne (EvP.pure fun _ _ => .nil)⟩
theorem pd_fn0 (C : CallOk X.prog X.w X.K X.mg X.base x j ps (spD X.K 0 m)) (hn : ∀ ds d, m ds = some d → ds.length = 0) (hr : Room k X.A) (hjk : j ≤ k := by decide) (hg : Gl X x := by rfl)
    (hdb : (x == ("__debug__" : Str)) = false := by decide) :
    PD X c (.Call (.Name x p) [] [] pos) (tCall (spD X.K 0 m) [] E0 tNil) (dcall m dnil) := by
  obtain ⟨f, fd, F, hm, hk, hb⟩ := C
  exact pd_call0 F hn (hr.mono hjk) hg hm hk hb pass0 hdb
end
/-! ### owned lists within an expression -/
section
variable {K : PySem.W.Frag} {c : Cf} {A : Nat → Addr} {Z : Zn} {B H : Hp} {σ : L2.St} {st : DS} {p : Nat}
theorem cut_back (Z : Zn) (B : Hp) : (fun a => if Z.z a = true then B a else cut B Z.z a) = B := by
  funext a
  by_cases h : Z.z a = true
  · rw [if_pos h]
  · rw [if_neg h]
    unfold cut
    rw [if_neg h]
theorem ER.penList (er : ER K c A Z B σ H st) (hp : p ∈ c.ps) (hk : c.kd.getD p .flat = .flat) {ds : List D} (hd : penOf p st = some (.list ds)) :
    ∃ xs, σ[p]? = some (some (.ref (A p))) ∧ H (A p) = some (.lst xs) ∧ RepA K (cut B Z.z) xs ds ∧ ∀ ys es, RepA K (cut B Z.z) ys es → ER K c A Z B σ (upd H (A p) (.lst ys)) (st.set p (some (.list es))) ∧ Adv c.ps A B H st B (upd H (A p) (.lst ys)) (st.set p (some (.list es))) := by
  obtain ⟨Φ, F, d, p1, p2, p3, p4, p5, post⟩ := er.pens hp
  rw [hk] at p4
  rw [penOf_eq p1] at hd
  cases hd
  obtain ⟨o, xs, G, h1, h2, h3, rfl, h5⟩ := own_list p4
  cases h1
  have hG := h3.foot0
  subst hG
  refine ⟨xs, p2, h2, h3.flat0, fun ys es r => ?_⟩
  obtain ⟨z1, z2⟩ := p5 (A p) List.mem_cons_self
  rw [hk] at post
  have := post (cut B Z.z) (upd H (A p) (.lst ys)) [A p] (.list es) ⟨fun _ _ q => q, ⟨fun a o q => ?_, fun a o q => ?_⟩, Own.lst1 r, fun x hx => by rw [List.mem_singleton.mp hx]; exact ⟨z1, z2⟩⟩
  · rw [cut_back] at this
    exact ⟨this.1, this.2.1⟩
  · have hne : a ≠ A p := fun e => by
      rw [e, z1] at q
      cases q
    rw [upd_ne hne]
    exact p3.bh a o q
  · have hne : a ≠ A p := fun e => by
      rw [e, z2] at q
      cases q
    rw [upd_ne hne]
    exact p3.fr a o q
theorem ER.penDict (er : ER K c A Z B σ H st) (hp : p ∈ c.ps) (hk : c.kd.getD p .flat = .flat) {ds : List (D × D)} (hd : penOf p st = some (.dict ds)) :
    ∃ kvs, σ[p]? = some (some (.ref (A p))) ∧ H (A p) = some (.dK kvs) ∧ (kvs.map (·.1)).Nodup ∧ RepK K (cut B Z.z) kvs ds ∧ ∀ ys es, (ys.map (·.1)).Nodup → RepK K (cut B Z.z) ys es → ER K c A Z B σ (upd H (A p) (.dK ys)) (st.set p (some (.dict es))) ∧ Adv c.ps A B H st B (upd H (A p) (.dK ys)) (st.set p (some (.dict es))) := by
  obtain ⟨Φ, F, d, p1, p2, p3, p4, p5, post⟩ := er.pens hp
  rw [hk] at p4
  rw [penOf_eq p1] at hd
  cases hd
  cases p4 with
  | dct z h1 n o m =>
    cases z
    have hG := o.foot0
    subst hG
    refine ⟨_, p2, h1, n, o.flat0, fun ys es n' r => ?_⟩
    obtain ⟨z1, z2⟩ := p5 (A p) List.mem_cons_self
    rw [hk] at post
    have := post (cut B Z.z) (upd H (A p) (.dK ys)) [A p] (.dict es) ⟨fun _ _ q => q, ⟨fun a o q => ?_, fun a o q => ?_⟩, Own.dct1 n' r, fun x hx => by rw [List.mem_singleton.mp hx]; exact ⟨z1, z2⟩⟩
    · rw [cut_back] at this
      exact ⟨this.1, this.2.1⟩
    · have hne : a ≠ A p := fun e => by
        rw [e, z1] at q
        cases q
      rw [upd_ne hne]
      exact p3.bh a o q
    · have hne : a ≠ A p := fun e => by
        rw [e, z2] at q
        cases q
      rw [upd_ne hne]
      exact p3.fr a o q
end
theorem RepA.eraseIdx {K : PySem.W.Frag} {B : Hp} : ∀ {vs : List V} {ds : List D} (k : Nat), RepA K B vs ds → RepA K B (vs.eraseIdx k) (ds.eraseIdx k)
  | _, _, _, .nil => .nil
  | _, _, 0, .cons r t => t
  | _, _, k + 1, .cons r t => .cons r (RepA.eraseIdx k t)
def isL (i : Nat) (st : DS) : Bool := match penOf i st with
  | some (.list _) => true
  | _ => false
theorem isL_some {i : Nat} {st : DS} (h : isL i st = true) : ∃ ds, penOf i st = some (.list ds) := by
  unfold isL at h
  split at h
  · rename_i ds e
    exact ⟨ds, e⟩
  · cases h
/-- the slot holds a list, ahead of the arguments -/
def donL {β : Type} (i : Nat) (f : DM β) : DM β := fun st => if isL i st = true then f st else none
def popAtD (i : Nat) (y : D) : DM D := fun st => match penOf i st, y with
  | some (.list ds), .int j => if ds.length ≤ sizeLine then (ixN ds.length j).bind fun k => ds[k]?.map fun d => (.ok d, st.set i (some (.list (ds.eraseIdx k)))) else none
  | _, _ => none
def dpopAt (i : Nat) (fb : DM D) : DM D := donL i (fb.bind (popAtD i))
def dpopLast (i : Nat) : DM D := fun st => match penOf i st with
  | some (.list ds) => ds[ds.length - 1]?.map fun d => (.ok d, st.set i (some (.list ds.dropLast)))
  | _ => none
def dplen (i : Nat) : DM D := fun st => match penOf i st with
  | some (.list ds) => some (.ok (.int ds.length), st)
  | _ => none
theorem RepA.dropLast {K : PySem.W.Frag} {B : Hp} {vs : List V} {ds : List D} (h : RepA K B vs ds) : RepA K B vs.dropLast ds.dropLast := by
  rw [List.dropLast_eq_take, List.dropLast_eq_take, h.length]
  exact h.take _
section
variable {X : Cx} {c : Cf} {K : PySem.W.Frag} {te : TE} {fe : DM D} {e : Expr} {i : Nat} {x : Str} {pos p apos cpos : Pos}
theorem ER.tyList {A : Nat → Addr} {Z : Zn} {B H : Hp} {σ : L2.St} {st : DS} (er : ER K c A Z B σ H st) (hi : i ∈ c.ps) (hk : c.kd.getD i .flat = .flat) (h : isL i st = true) : σ[i]? = some (some (.ref (A i))) ∧ ∃ xs, H (A i) = some (.lst xs) := by
  obtain ⟨ds, hd⟩ := isL_some h
  obtain ⟨xs, h1, h2, _⟩ := er.penList hi hk hd
  exact ⟨h1, xs, h2⟩
theorem ev_popAt (hi : i ∈ c.ps) (hk : c.kd.getD i .flat = .flat) (he : EvD K c te fe) : EvD K c (tBM K "list" rPopAt (tVar i) (tCons te tNil)) (dpopAt i fe) := by
  intro A Z B σ H st r er _ hf Q hok hex
  unfold dpopAt donL at hf
  split at hf
  · rename_i hL
    obtain ⟨q2, xs0, hl0⟩ := er.tyList hi hk hL
    refine ⟨_, q2, .inl ⟨rfl, xs0, SqL.of hl0⟩, ?_⟩
    cases eb : fe st with
    | none =>
      unfold DM.bind at hf
      rw [eb] at hf
      cases hf
    | some rb =>
      obtain ⟨rb, st1⟩ := rb
      refine he A Z B σ H st _ er True.intro eb _ (fun dy st1' e1 y B1 H1 er1 ad1 ry => ?_) (fun x fl st1' e1 dx B1 H1 er1 ad1 fl1 => ?_)
      · cases e1
        rw [bind_ok eb] at hf
        unfold popAtD at hf
        split at hf
        · rename_i ds j hd
          split at hf
          · rename_i hsz
            obtain ⟨k, hk1, hf⟩ := Option.bind_eq_some_iff.mp hf
            obtain ⟨d, hd1, rfl⟩ := Option.map_eq_some_iff.mp hf
            obtain ⟨xs, h1, h2, h3, post⟩ := er1.penList hi hk hd
            obtain ⟨v, hv, rv⟩ := h3.get hd1
            obtain ⟨er2, ad2⟩ := post _ _ (h3.eraseIdx k)
            have hl := h3.length
            obtain ⟨w1, w2, w3, w4⟩ := ixN_seq hk1
            have hs := sizeLine_eq
            refine ⟨A i, xs, j, k, v, rfl, by rw [rep_int ry], h2, by omega, by omega, by rw [hl]; exact w1, hv, hok d _ rfl v B1 _ er2 (ad1.trans ad2) (rv.mono cut_ex)⟩
          · cases hf
        · cases hf
      · cases e1
        rw [bind_ex eb] at hf
        exact hex x fl st1 (Option.some.inj hf).symm dx B1 H1 er1 ad1 fl1
  · cases hf
theorem ev_popLast (hi : i ∈ c.ps) (hk : c.kd.getD i .flat = .flat) : EvD K c (tBM0 K "list" rPop (tVar i)) (dpopLast i) := by
  intro A Z B σ H st r er _ hf Q hok hex
  unfold dpopLast at hf
  split at hf
  · rename_i ds hd
    obtain ⟨d, hd1, rfl⟩ := Option.map_eq_some_iff.mp hf
    obtain ⟨xs, h1, h2, h3, post⟩ := er.penList hi hk hd
    obtain ⟨v, hv, rv⟩ := h3.get hd1
    obtain ⟨er2, ad2⟩ := post _ _ h3.dropLast
    exact ⟨_, h1, .inl ⟨rfl, xs, SqL.of h2⟩, A i, xs, v, rfl, rfl, h2, by rw [h3.length]; exact hv, hok d _ rfl v B _ er2 ad2 (rv.mono cut_ex)⟩
  · cases hf
theorem ev_plen (hi : i ∈ c.ps) (hk : c.kd.getD i .flat = .flat) : EvD K c (tCB (rLenA K) (tCons (tVar i) tNil)) (dplen i) := by
  intro A Z B σ H st r er _ hf Q hok hex
  unfold dplen at hf
  split at hf
  · rename_i ds hd
    cases hf
    obtain ⟨xs, h1, h2, h3, post⟩ := er.penList hi hk hd
    refine ⟨_, h1, .ref (A i), xs.length, rfl, .inl ⟨xs, SqL.of h2, rfl⟩, ?_⟩
    rw [h3.length]
    exact hok _ st rfl _ B H er Adv.refl (.int _)
  · cases hf
theorem pd_popAt (i : Nat) (he : PD X c e te fe) (hi : i ∈ c.ps := by decide) (hk : c.kd.getD i .flat = .flat := by rfl) (hN : X.N[i]? = some x := by rfl) (hv : Vis X.env.scope x := by first | exact Or.inl rfl | exact Or.inr (Or.inl rfl) | exact Or.inr (Or.inr rfl)) (hd : (x == ("__debug__" : Str)) = false := by decide) (hcd : (x == ("__classdict__" : Str)) = false := by decide)
    (hbase : attributeBase (.Name x p) "pop" X.env (eval (.Name x p) X.env) = eval (.Name x p) X.env := by rfl)
    (hfew : ((backTo cpos (starEach (e :: []) X.env)).all (fun x => !x.1) && (backToKw cpos (keywordEach [] X.env)).all (fun x => x.1.isSome) && decide ((e :: ([] : List Expr)).length + ([] : List Keyword).length + (if ([] : List Keyword).isEmpty then 0 else 1) < 30)) = true := by rfl)
    (hline : (apos.endLine == cpos.line) = true := by rfl) (hse : starEach [e] X.env = (false, eval e X.env) :: starEach [] X.env := by rfl) (hplain : (backTo cpos (starEach [] X.env)).any (·.1) = false := by rfl) :
    PD X c (.Call (.Attribute (.Name x p) "pop" apos) [e] [] cpos) (tBM X.K "list" rPopAt (tVar i) (tCons te tNil)) (dpopAt i fe) :=
  ⟨pe_bm PySem.F.plainAttrs_list PySem.F.slot_list_pop PySem.F.type_list_pop mt_popAt (pv i hN hv hd hcd) (pa_cons he.pe pa_nil hse) hbase hfew hline hse hplain, ev_popAt hi hk he.ev⟩
theorem pd_popLast (i : Nat) (hi : i ∈ c.ps := by decide) (hk : c.kd.getD i .flat = .flat := by rfl) (hN : X.N[i]? = some x := by rfl) (hv : Vis X.env.scope x := by first | exact Or.inl rfl | exact Or.inr (Or.inl rfl) | exact Or.inr (Or.inr rfl)) (hd : (x == ("__debug__" : Str)) = false := by decide) (hcd : (x == ("__classdict__" : Str)) = false := by decide)
    (hbase : attributeBase (.Name x p) "pop" X.env (eval (.Name x p) X.env) = eval (.Name x p) X.env := by rfl) (hline : (apos.endLine == cpos.line) = true := by rfl) :
    PD X c (.Call (.Attribute (.Name x p) "pop" apos) [] [] cpos) (tBM0 X.K "list" rPop (tVar i)) (dpopLast i) :=
  ⟨pe_bm0 PySem.F.plainAttrs_list PySem.F.slot_list_pop PySem.F.type_list_pop mt_pop (pv i hN hv hd hcd) hbase hline, ev_popLast hi hk⟩
theorem pd_plen (i : Nat) (hi : i ∈ c.ps := by decide) (hk : c.kd.getD i .flat = .flat := by rfl) (hg : Gl X "len" := by rfl) (hm : X.mg "len" = none) (hN : X.N[i]? = some x := by rfl) (hv : Vis X.env.scope x := by first | exact Or.inl rfl | exact Or.inr (Or.inl rfl) | exact Or.inr (Or.inr rfl)) (hd : (x == ("__debug__" : Str)) = false := by decide) (hcd : (x == ("__classdict__" : Str)) = false := by decide)
    (he : starEach [.Name x p] X.env = (false, eval (.Name x p) X.env) :: starEach [] X.env := by rfl) {pp : Pos} :
    PD X c (.Call (.Name "len" pp) [.Name x p] [] pos) (tCB (rLenA X.K) (tCons (tVar i) tNil)) (dplen i) :=
  ⟨pe_callB call_len hg hm (by decide +kernel) (pa_cons (pv i hN hv hd hcd) pa_nil he) (by decide) (by decide) he rfl, ev_plen hi hk⟩
end
/-! ### methods of an owned list, within an expression -/
def RLM (K : PySem.W.Frag) (mx : Bool) (r : V → List V → Hp → VK → Prop) (g : List D → List D → Option (D × List D)) : Prop :=
  ∀ (l : Addr) (xs vs : List V) (ds as es : List D) (d : D) (Bc B H : Hp), H l = some (.lst xs) → RepA K Bc xs ds → RepA K B vs as → (mx = true → flatA as = true) → (∀ v' d', flatA [d'] = true ∨ mx = false → Rep K B v' d' → Rep K Bc v' d') → Ex Bc B → g as ds = some (d, es) →
    ∃ ys, RepA K Bc ys es ∧ ∀ Q : VK, (∀ v, Rep K B v d → Q v (upd H l (.lst ys))) → r (.ref l) vs H Q
def lmD (mx : Bool) (i : Nat) (g : List D → List D → Option (D × List D)) (as : List D) : DM D := fun st => match penOf i st with
  | some (.list ds) => if mx = true ∧ flatA as = false then none else (g as ds).map fun r => (.ok r.1, st.set i (some (.list r.2)))
  | _ => none
def dlm (mx : Bool) (i : Nat) (g : List D → List D → Option (D × List D)) (fs : DM (List D)) : DM D := donL i (fs.bind (lmD mx i g))
section
variable {X : Cx} {c : Cf} {K : PySem.W.Frag} {ta : TA} {fs : DM (List D)} {e : Expr} {es : List Expr} {i : Nat} {x name : Str} {pos p apos cpos : Pos} {id : String} {r : V → List V → Hp → VK → Prop} {g : List D → List D → Option (D × List D)}
theorem ev_lm (hi : i ∈ c.ps) (hk : c.kd.getD i .flat = .flat) (hr : RLM K c.mx r g) (ha : EvA K c ta fs) : EvD K c (tBM K "list" r (tVar i) ta) (dlm c.mx i g fs) := by
  intro A Z B σ H st ro er _ hf Q hok hex
  unfold dlm donL at hf
  split at hf
  · rename_i hL
    obtain ⟨q2, xs0, hl0⟩ := er.tyList hi hk hL
    refine ⟨_, q2, .inl ⟨rfl, xs0, SqL.of hl0⟩, ?_⟩
    cases eb : fs st with
    | none =>
      unfold DM.bind at hf
      rw [eb] at hf
      cases hf
    | some rb =>
      obtain ⟨rb, st1⟩ := rb
      refine ha A Z B σ H st _ er True.intro eb _ (fun as st1' e1 vs B1 H1 er1 ad1 ra => ?_) (fun x fl st1' e1 dx B1 H1 er1 ad1 fl1 => ?_)
      · cases e1
        rw [bind_ok eb] at hf
        unfold lmD at hf
        split at hf
        · rename_i ds hd
          split at hf
          · cases hf
          · rename_i hfl
            obtain ⟨rd, hg, rfl⟩ := Option.map_eq_some_iff.mp hf
            obtain ⟨xs, h1, h2, h3, post⟩ := er1.penList hi hk hd
            obtain ⟨ys, ry, q⟩ := hr (A i) xs vs ds as rd.2 rd.1 (cut B1 Z.z) B1 H1 h2 h3 ra (fun hm => by
              cases hff : flatA as with
              | true => rfl
              | false => exact absurd ⟨hm, hff⟩ hfl) (fun v' d' hc rv => by
                cases hmx : c.mx with
                | false =>
                  rw [cut_none (er1.zx hmx)]
                  exact rv
                | true =>
                  rcases hc with hc | hc
                  · exact rv.cut er1.zo (by simpa [flatA] using hc)
                  · rw [hmx] at hc
                    cases hc) cut_ex hg
            obtain ⟨er2, ad2⟩ := post ys rd.2 ry
            exact q _ fun v rv => hok rd.1 _ rfl v B1 _ er2 (ad1.trans ad2) rv
        · cases hf
      · cases e1
        rw [bind_ex eb] at hf
        exact hex x fl st1 (Option.some.inj hf).symm dx B1 H1 er1 ad1 fl1
  · cases hf
theorem ev_lm0 (hi : i ∈ c.ps) (hk : c.kd.getD i .flat = .flat) (hr : RLM K c.mx r g) : EvD K c (tBM0 K "list" r (tVar i)) (dlm c.mx i g dnil) := fun A Z B σ H st ro er p hf Q hok hex =>
  ev_lm (ta := tNil) hi hk hr (EvP.pure fun _ _ => .nil) A Z B σ H st ro er p hf Q hok hex
theorem pd_lm0 (i : Nat) (slot : Slot "list" name id) (hty : typeOf (.builtin id) = pure (.type "method_descriptor")) (hm : MtR X id r) (hr : RLM X.K c.mx r g) (hi : i ∈ c.ps := by decide) (hk : c.kd.getD i .flat = .flat := by rfl) (hN : X.N[i]? = some x := by rfl) (hv : Vis X.env.scope x := by first | exact Or.inl rfl | exact Or.inr (Or.inl rfl) | exact Or.inr (Or.inr rfl)) (hd : (x == ("__debug__" : Str)) = false := by decide) (hcd : (x == ("__classdict__" : Str)) = false := by decide)
    (hbase : attributeBase (.Name x p) name X.env (eval (.Name x p) X.env) = eval (.Name x p) X.env := by rfl) (hline : (apos.endLine == cpos.line) = true := by rfl) :
    PD X c (.Call (.Attribute (.Name x p) name apos) [] [] cpos) (tBM0 X.K "list" r (tVar i)) (dlm c.mx i g dnil) :=
  ⟨pe_bm0 PySem.F.plainAttrs_list slot hty hm (pv i hN hv hd hcd) hbase hline, ev_lm0 hi hk hr⟩
theorem pd_lm (i : Nat) (slot : Slot "list" name id) (hty : typeOf (.builtin id) = pure (.type "method_descriptor")) (hm : MtR X id r) (hr : RLM X.K c.mx r g) (ha : PDA X c (e :: es) ta fs) (hi : i ∈ c.ps := by decide) (hk : c.kd.getD i .flat = .flat := by rfl) (hN : X.N[i]? = some x := by rfl) (hv : Vis X.env.scope x := by first | exact Or.inl rfl | exact Or.inr (Or.inl rfl) | exact Or.inr (Or.inr rfl)) (hd : (x == ("__debug__" : Str)) = false := by decide) (hcd : (x == ("__classdict__" : Str)) = false := by decide)
    (hbase : attributeBase (.Name x p) name X.env (eval (.Name x p) X.env) = eval (.Name x p) X.env := by rfl)
    (hfew : ((backTo cpos (starEach (e :: es) X.env)).all (fun x => !x.1) && (backToKw cpos (keywordEach [] X.env)).all (fun x => x.1.isSome) && decide ((e :: es).length + ([] : List Keyword).length + (if ([] : List Keyword).isEmpty then 0 else 1) < 30)) = true := by rfl)
    (hline : (apos.endLine == cpos.line) = true := by rfl) (hse : starEach (e :: es) X.env = (false, eval e X.env) :: starEach es X.env := by rfl) (hplain : (backTo cpos (starEach es X.env)).any (·.1) = false := by rfl) :
    PD X c (.Call (.Attribute (.Name x p) name apos) (e :: es) [] cpos) (tBM X.K "list" r (tVar i) ta) (dlm c.mx i g fs) :=
  ⟨pe_bm PySem.F.plainAttrs_list slot hty hm (pv i hN hv hd hcd) ha.pa hbase hfew hline hse hplain, ev_lm hi hk hr ha.ev⟩
end
def reverseL : List D → List D → Option (D × List D)
  | [], ds => some (.none, ds.reverse)
  | _, _ => none
def insertL : List D → List D → Option (D × List D)
  | [.int j, d], ds => if ds.length < sizeLine ∧ 0 ≤ j ∧ j < 2 ^ 63 then some (.none, ds.take j.toNat ++ [d] ++ ds.drop j.toNat) else none
  | _, _ => none
theorem rlm_reverse {K : PySem.W.Frag} {mx : Bool} : RLM K mx rReverse reverseL := fun l xs vs ds as es d Bc B H hl ra rv hf hcut ex hg => by
  cases rv with
  | nil =>
    cases hg
    exact ⟨xs.reverse, ra.reverse, fun Q q => ⟨l, xs, rfl, rfl, hl, q _ .non⟩⟩
  | cons _ _ => cases hg
def rInsert : V → List V → Hp → VK → Prop := fun x vs H Q => ∃ (l : Addr) (xs : List V) (i : Int) (y : V), x = .ref l ∧ vs = [.int i, y] ∧ H l = some (.lst xs) ∧ xs.length < sizeLine ∧ 0 ≤ i ∧ i < 2 ^ 63 ∧
    Q .non (upd H l (.lst (xs.take i.toNat ++ [y] ++ xs.drop i.toNat)))
theorem rlm_insert {K : PySem.W.Frag} {mx : Bool} : RLM K mx rInsert insertL := fun l xs vs ds as es d Bc B H hl ra rv hf hcut ex hg => by
  unfold insertL at hg
  split at hg
  · rename_i _ _ j z
    obtain ⟨⟨h1, h2, h3⟩, hg⟩ := opt_if hg
    cases hg
    cases rv with
    | cons r1 rv =>
      cases rv with
      | cons r2 rv =>
        cases rv
        rename_i v1 v2
        have hz := hcut v2 z (by
          cases mx with
          | false => exact .inr rfl
          | true => exact .inl (by simpa [flatA, flat] using hf rfl)) r2
        exact ⟨_, ((ra.take _).append (.cons hz .nil)).append (ra.drop _), fun Q q => ⟨l, xs, j, v2, rfl, by rw [rep_int r1], hl, by rw [ra.length]; exact h1, h2, h3, q _ .non⟩⟩
  · cases hg
/-! ### new objects from built-ins -/
section
variable {X : Cx} {c : Cf} {K : PySem.W.Frag} {t : TA} {f : DM (List D)} {e : Expr} {es : List Expr} {x : Str} {pos p : Pos} {r : List V → Hp → VK → Prop} {g : List D → Option D}
theorem pdn_callB {id : String} (hc : CallR X (.builtin id) r) (hr : RNew .flat X.K (RepA X.K) r g) (hg : Gl X x) (hm : X.mg x = none) (hv : bootBuiltins x = some (.builtin id)) (ha : PDA X c (e :: es) t f)
    (hn : x ≠ "__name__" := by decide) (hdb : (x == ("__debug__" : Str)) = false := by decide) (he : starEach (e :: es) X.env = (false, eval e X.env) :: starEach es X.env := by rfl)
    (hpl : (backTo pos (starEach es X.env)).any (·.1) = false := by rfl) : PDN .flat X c (.Call (.Name x p) (e :: es) [] pos) (tCB r t) (dcb g f) := ⟨pe_callB hc hg hm hv ha.pa hn hdb he hpl, evn_val (r := r) ha.ev hr⟩
theorem pdn_callTy {T : String} (hc : CallR X (.type T) r) (hr : RNew .flat X.K (RepA X.K) r g) (hg : Gl X x) (hm : X.mg x = none) (hv : bootBuiltins x = some (.type T)) (ha : PDA X c (e :: es) t f)
    (hn : x ≠ "__name__" := by decide) (hdb : (x == ("__debug__" : Str)) = false := by decide) (he : starEach (e :: es) X.env = (false, eval e X.env) :: starEach es X.env := by rfl)
    (hpl : (backTo pos (starEach es X.env)).any (·.1) = false := by rfl) : PDN .flat X c (.Call (.Name x p) (e :: es) [] pos) (tCB r t) (dcb g f) := ⟨pe_callTy hc hg hm hv ha.pa hn hdb he hpl, evn_val (r := r) ha.ev hr⟩
end
theorem rn_list {K : PySem.W.Frag} : RNew .flat K (RepA K) (fun xs H Q => ∃ p ys, xs = [.ref p] ∧ (SqL K H p ys ∨ SqT K H p ys) ∧ ∀ l, H l = none → Q (.ref l) (upd H l (.lst ys))) listD := by
  intro vs ds dz B H e r hg Q q
  match ds, hg with
  | [.list xs], hg =>
    cases hg
    obtain ⟨v, rfl, rv⟩ := repA1 r
    obtain ⟨a, ws, rfl, ha, ra⟩ := rep_lst rv
    exact ⟨a, ws, rfl, .inl (.inl (ex_rd e ha)), fun p hp => q p B H _ (Pu.refl e) hp hp (Own.lst1 ra)⟩
  | [.tuple xs], hg =>
    cases hg
    obtain ⟨v, rfl, rv⟩ := repA1 r
    obtain ⟨a, ws, rfl, ha, ra⟩ := rep_tup rv
    exact ⟨a, ws, rfl, .inr (ex_t e ha), fun p hp => q p B H _ (Pu.refl e) hp hp (Own.lst1 ra)⟩
/-- the pairs of dict(..) -/
def pairsD : List D → Option (List (D × D))
  | [] => some []
  | .tuple [k, v] :: r => if (keyD k).isSome = true then (pairsD r).map fun ps => (k, v) :: ps else none
  | _ :: _ => none
def dictD : List D → Option D
  | [.list ds] => (pairsD ds).map fun ps => .dict (mergeD [] ps)
  | [.dict ps] => some (.dict ps)
  | _ => none
def dictPD : List D → Option D := fun ds => match ds with | [.list es] => dictD [.list es] | _ => none
def dictDD : List D → Option D := fun ds => match ds with | [.dict es] => dictD [.dict es] | _ => none
theorem pairs_rep {K : PySem.W.Frag} {B H : Hp} (e : Ex B H) : ∀ {ds : List D} {vs : List V} {ps : List (D × D)}, RepA K B vs ds → pairsD ds = some ps → ∃ (as : List Addr) (kvs : List (Key × V)), vs = as.map V.ref ∧ Paired (fun p kv => SqT K H p [kV kv.1, kv.2]) as kvs ∧ RepK K B kvs ps
  | [], _, _, .nil, h => by
    cases h
    exact ⟨[], [], rfl, .nil, .nil⟩
  | d :: ds, _, ps, .cons (v := v) r t, h => by
    unfold pairsD at h
    split at h
    · rename_i he
      cases he
    · rename_i k w r' he
      cases he
      split at h
      case isFalse => cases h
      rename_i hk
      obtain ⟨ps', h1, rfl⟩ := Option.map_eq_some_iff.mp h
      obtain ⟨as, kvs, h2, h3, h4⟩ := pairs_rep e t h1
      obtain ⟨a, ws, rfl, ha, ra⟩ := rep_tup r
      cases ra with
      | cons r1 ra =>
        cases ra with
        | cons r2 ra =>
          cases ra
          rename_i v1 v2
          obtain ⟨k', hk'⟩ := Option.isSome_iff_exists.mp hk
          obtain ⟨e1, e2⟩ := rep_key r1 hk'
          subst e1
          refine ⟨a :: as, (k', v2) :: kvs, by rw [h2]; rfl, .cons (ex_t e ha) h3, ?_⟩
          rw [e2]
          exact .cons r2 h4
    · cases h
theorem rn_dictP {K : PySem.W.Frag} : RNew .flat K (RepA K) (fun xs H Q => ∃ (a : Addr) (ps : List Addr) (kvs : List (Key × V)), xs = [.ref a] ∧ SqL K H a (ps.map V.ref) ∧ Paired (fun p kv => SqT K H p [kV kv.1, kv.2]) ps kvs ∧
    ∀ p, H p = none → Q (.ref p) (upd H p (.dK (mergeK [] kvs)))) dictPD := by
  intro vs ds dz B H e r hg Q q
  match ds, hg with
  | [.list xs], hg =>
    obtain ⟨ps, h1, rfl⟩ := Option.map_eq_some_iff.mp (show (pairsD xs).map (fun ps => PyData.dict (mergeD [] ps)) = some dz from hg)
    obtain ⟨v, rfl, rv⟩ := repA1 r
    obtain ⟨a, ws, rfl, ha, ra⟩ := rep_lst rv
    obtain ⟨as, kvs, rfl, h3, h4⟩ := pairs_rep e ra h1
    obtain ⟨m1, m2⟩ := RepK.merge h4 (kvs := []) (ds := []) List.nodup_nil .nil
    exact ⟨a, as, kvs, rfl, .inl (ex_rd e ha), h3, fun p hp => q p B H _ (Pu.refl e) hp hp (Own.dct1 m2 m1)⟩
theorem rn_dictD {K : PySem.W.Frag} : RNew .flat K (RepA K) (fun xs H Q => ∃ (a : Addr) (kvs : List (Key × V)), xs = [.ref a] ∧ Rd H a (.dK kvs) ∧ ∀ p, H p = none → Q (.ref p) (upd H p (.dK kvs))) dictDD := by
  intro vs ds dz B H e r hg Q q
  match ds, hg with
  | [.dict xs], hg =>
    cases hg
    obtain ⟨v, rfl, rv⟩ := repA1 r
    obtain ⟨a, ws, rfl, ha, hn, ra⟩ := rep_dct rv
    exact ⟨a, ws, rfl, .inl (e _ _ ha), fun p hp => q p B H _ (Pu.refl e) hp hp (Own.dct1 hn ra)⟩
/-! ### d[k] = e, d an owned dict -/
def dkput (i : Nat) (fe fk : DM D) : DT := dexp fe fun d st1 => match cellD i st1 with
  | none => none
  | some _ => dexp fk (fun k st2 => match cellD i st2 with
    | none => none
    | some ds => if (keyD k).isSome = true ∧ ds.length < sizeLine then some (.nx (st2.set i (some (.dict (putD ds k d))))) else none) st1
section
variable {K : PySem.W.Frag} {c : Cs}
theorem ev_kput {i : Nat} {te tk : TE} {fe fk : DM D} (hi : i ∈ c.ow) (hk : c.kd.getD i .flat = .flat) (he : EvE K c (Rep K) te fe) (hkk : EvE K c (Rep K) tk fk) : EvS K c (sDPut (tVar i) tk te) (dkput i fe fk) := fun A0 Φ B0 B σ H st r s h De n b kk t x => by
  unfold dkput at h
  cases ef : fe st with
  | none =>
    unfold dexp at h
    rw [ef] at h
    cases h
  | some ro =>
    refine he A0 Φ B0 B σ H st ro s ef _ (fun d st1 v B1 H1 e1 s1 ex1 rv => ?_) (fun y fl st1 dx B1 H1 e1 fi1 fl1 => ?_)
    · subst e1
      rw [dexp_ok ef] at h
      cases e0 : cellD i st1 with
      | none =>
        simp only [e0] at h
        cases h
      | some ds0 =>
        simp only [e0] at h
        obtain ⟨l, kvs0, hs, hl0, _⟩ := s1.cellDict hi hk e0
        refine ⟨_, hs, ?_⟩
        cases ek : fk st1 with
        | none =>
          unfold dexp at h
          rw [ek] at h
          cases h
        | some rk =>
          refine hkk A0 Φ B0 B1 σ H1 st1 rk s1 ek _ (fun k st2 w B2 H2 e2 s2 ex2 rw' => ?_) (fun y fl st2 dx B2 H2 e2 fi2 fl2 => ?_)
          · subst e2
            rw [dexp_ok ek] at h
            cases ec : cellD i st2 with
            | none =>
              simp only [ec] at h
              cases h
            | some ds =>
              simp only [ec] at h
              obtain ⟨⟨h1, h2⟩, rfl⟩ := opt_if h
              obtain ⟨k', hk'⟩ := Option.isSome_iff_exists.mp h1
              obtain ⟨w1, w2⟩ := rep_key rw' hk'
              subst w1 w2
              obtain ⟨l1, kvs, hs1, hl1, nd, ra, _, up⟩ := s2.cellDict hi hk ec
              rw [hs] at hs1
              cases hs1
              exact ⟨_, _, rfl, DPut.k hl1 (by rw [ra.len]; exact h2), n _ B2 _ _ rfl (up _ _ (nd_put _ _ _ nd) (RepK.put (rv.mono ex2) nd ra))⟩
          · subst e2
            unfold dexp at h
            rw [ek] at h
            exact x y fl st2 dx B2 H2 (Option.some.inj h).symm fi2 fl2
    · subst e1
      unfold dexp at h
      rw [ef] at h
      exact x y fl st1 dx B1 H1 (Option.some.inj h).symm fi1 fl1
end
section
variable {X : Cx} {c : Cs} {e : Expr} {te : TE} {fe : DM D} {pos : Pos}
theorem pds_kput (i : Nat) {x : Str} {k : Expr} {tk : TE} {fk : DM D} {px pos' : Pos} (hu : X.A.units + 1 < cLine) (he : PDE X c e te fe) (hk : PDE X c k tk fk) (h1 : i ∈ c.ow := by decide) (hkd : c.kd.getD i .flat = .flat := by rfl) (hN : X.N[i]? = some x := by rfl) (hv : Vis X.env.scope x := by first | exact Or.inl rfl | exact Or.inr (Or.inl rfl) | exact Or.inr (Or.inr rfl))
    (hd : (x == ("__debug__" : Str)) = false := by decide) (hcd : (x == ("__classdict__" : Str)) = false := by decide)
    (hs : swapsWith e (some (.Subscript (.Name x px) k pos')) pos.line X.env = pure false := by rfl) : PDS X c (.Assign [.Subscript (.Name x px) k pos'] e pos) (sDPut (tVar i) tk te) (dkput i fe fk) :=
  ⟨ps_dput hu (pv i hN hv hd hcd) hk.pe he.pe hs, ev_kput h1 hkd he.ev hk.ev⟩
end
/-! ### new objects told: never none -/
theorem fnNN {P : Program} {w : World} {K : PySem.W.Frag} {mg : Str → Option Value} {base : Heap} {CX : CXT} {k n : Nat} {f : Addr} {fd : FuncData} {ps : List Str} {sh : Shp} {m : List D → Option D} (F : FnOk P w K mg base CX k f fd ps (spN sh K n m)) : FnOk P w K mg base CX k f fd ps (spN sh K n (mNN m)) :=
  F.imp fun vs H Q E h => spN_NN h
theorem fnNNG {P : Program} {w : World} {K : PySem.W.Frag} {mg : Str → Option Value} {base : Heap} {k n : Nat} {f : Addr} {fd : FuncData} {ps : List Str} {sh : Shp} {m : List D → Option D} (F : FnOkG P w K mg base k f fd ps (spN sh K n m)) : FnOkG P w K mg base k f fd ps (spN sh K n (mNN m)) :=
  ⟨fun vs H Q E h => F.len vs H Q E (spN_NN h), fun A outer s H args us vs Q E hr hg e0 hb rv h => F.run A outer s H args us vs Q E hr hg e0 hb rv (spN_NN h)⟩
/-! ### a slot that is owned from here on -/
def forgetO (i : Nat) : Out → Out
  | .nx st => .nx (st.set i none)
  | .bk st => .bk (st.set i none)
  | .ct st => .ct (st.set i none)
  | o => o
def dsw (i : Nat) (f : DT) : DT := fun st => (f (st.set i none)).map (forgetO i)
section
variable {K : PySem.W.Frag} {ow ow2 pa : List Nat} {kd : List Shp} {rn : Option Shp} {W : XK} {i : Nat} {A0 : Nat → Addr} {Φ B0 B H : Hp} {σ : L2.St} {st : DS}
theorem SR.into (h1 : ∀ j ∈ ow2, j = i ∨ j ∈ ow) (h2 : ∀ j ∈ ow, j ∈ ow2) (h4 : i ∉ ow) (h3 : i ∈ ow2) (s : SR K ⟨ow, pa, kd, rn, W⟩ A0 Φ B0 B σ H st) : SR K ⟨ow2, pa, kd, rn, W⟩ A0 Φ B0 B σ H (st.set i none) where
  len := by rw [List.length_set]; exact s.len
  b0 := s.b0
  rd := fun j d hj h => by
    have hne : i ≠ j := fun e => hj (e ▸ h3)
    rw [List.getElem?_set_ne hne] at h
    exact s.rd j d (fun z => hj (h2 j z)) h
  ow := by
    obtain ⟨F, q1, q2⟩ := s.ow
    have lv : ∀ {j}, j ∈ ow2 → live (st.set i none) j → j ∈ ow ∧ live st j ∧ i ≠ j := fun {j} hj ⟨d, l⟩ => by
      have hne : i ≠ j := fun e => by
        subst e
        by_cases hl : i < st.length
        · rw [List.getElem?_set_self hl] at l
          cases l
        · rw [List.getElem?_eq_none (by rw [List.length_set]; omega)] at l
          cases l
      rw [List.getElem?_set_ne hne] at l
      exact ⟨(h1 j hj).resolve_left (Ne.symm hne), ⟨d, l⟩, hne⟩
    refine ⟨F, fun j hj d h => ?_, fun j hj k hk hne l1 l2 => q2 j (lv hj l1).1 k (lv hk l2).1 hne (lv hj l1).2.1 (lv hk l2).2.1⟩
    obtain ⟨w1, _, w3⟩ := lv hj ⟨d, h⟩
    rw [List.getElem?_set_ne w3] at h
    exact q1 j w1 d h
  fr := s.fr
  pa := fun j hj => by
    obtain ⟨q1, ⟨d, q2⟩, q3⟩ := s.pa j hj
    have hne : i ≠ j := fun e => h4 (e ▸ q1)
    exact ⟨h2 j q1, ⟨d, by rw [List.getElem?_set_ne hne]; exact q2⟩, q3⟩
theorem SR.outof (h1 : ∀ j ∈ ow2, j = i ∨ j ∈ ow) (h2 : ∀ j ∈ ow, j ∈ ow2) (h4 : i ∉ ow) (h5 : i ∉ pa) (s : SR K ⟨ow2, pa, kd, rn, W⟩ A0 Φ B0 B σ H st) : SR K ⟨ow, pa, kd, rn, W⟩ A0 Φ B0 B σ H (st.set i none) where
  len := by rw [List.length_set]; exact s.len
  b0 := s.b0
  rd := fun j d hj h => by
    have hne : i ≠ j := fun e => by
      subst e
      by_cases hl : i < st.length
      · rw [List.getElem?_set_self hl] at h
        cases h
      · rw [List.getElem?_eq_none (by rw [List.length_set]; omega)] at h
        cases h
    rw [List.getElem?_set_ne hne] at h
    exact s.rd j d (fun z => (h1 j z).elim (fun e => hne e.symm) hj) h
  ow := by
    obtain ⟨F, q1, q2⟩ := s.ow
    have lv : ∀ {j}, j ∈ ow → live (st.set i none) j → live st j := fun {j} hj ⟨d, l⟩ => by
      rw [List.getElem?_set_ne (show i ≠ j from fun e => h4 (e ▸ hj))] at l
      exact ⟨d, l⟩
    refine ⟨F, fun j hj d h => ?_, fun j hj k hk hne l1 l2 => q2 j (h2 j hj) k (h2 k hk) hne (lv hj l1) (lv hk l2)⟩
    rw [List.getElem?_set_ne (show i ≠ j from fun e => h4 (e ▸ hj))] at h
    exact q1 j (h2 j hj) d h
  fr := s.fr
  pa := fun j hj => by
    obtain ⟨q1, ⟨d, q2⟩, q3⟩ := s.pa j hj
    have hne : i ≠ j := fun e => h5 (e ▸ hj)
    exact ⟨(h1 j q1).resolve_left (Ne.symm hne), ⟨d, by rw [List.getElem?_set_ne hne]; exact q2⟩, q3⟩
theorem Fin.sw {v : V} (h : Fin K ⟨ow2, pa, kd, rn, W⟩ A0 Φ B0 B H st) : Fin K ⟨ow, pa, kd, rn, W⟩ A0 Φ B0 B H st := ⟨h.b0, h.fr, h.pn⟩
theorem Ret.sw {v : V} {d : D} (h : Ret K ⟨ow2, pa, kd, rn, W⟩ A0 Φ B0 B H st v d) : Ret K ⟨ow, pa, kd, rn, W⟩ A0 Φ B0 B H st v d := by
  cases rn with
  | none => exact ⟨h.1.sw (v := v), h.2⟩
  | some n =>
    obtain ⟨p, X, h1, h2, h3⟩ := h
    exact ⟨p, X, h1, h2.sw (v := v), h3⟩
theorem ev_sw {t : TS} {f : DT} (h1 : ∀ j ∈ ow2, j = i ∨ j ∈ ow) (h2 : ∀ j ∈ ow, j ∈ ow2) (h3 : i ∈ ow2) (h4 : i ∉ ow) (h5 : i ∉ pa) (h : EvS K ⟨ow2, pa, kd, rn, W⟩ t f) : EvS K ⟨ow, pa, kd, rn, W⟩ t (dsw i f) := fun A0 Φ B0 B σ H st r s hr De n b kk rt x => by
  obtain ⟨r0, e0, rfl⟩ := Option.map_eq_some_iff.mp hr
  refine h A0 Φ B0 B σ H _ r0 (s.into h1 h2 h4 h3) e0 De (fun st' B' σ' H' e s' => ?_) (fun st' B' σ' H' e s' => ?_) (fun st' B' σ' H' e s' => ?_) (fun d st' v B' H' e q => ?_) (fun y fl st' dx B' H' e fi fl' => ?_)
  · subst e
    exact n _ B' σ' H' rfl (s'.outof h1 h2 h4 h5)
  · subst e
    exact b _ B' σ' H' rfl (s'.outof h1 h2 h4 h5)
  · subst e
    exact kk _ B' σ' H' rfl (s'.outof h1 h2 h4 h5)
  · subst e
    exact rt d st' v B' H' rfl q.sw
  · subst e
    exact x y fl st' dx B' H' rfl (fi.sw (v := .non)) fl'
end
theorem pdss_sw (i : Nat) {X : Cx} {ow ow2 pa : List Nat} {kd : List Shp} {rn : Option Shp} {W : XK} {b : List Stmt} {t : TS} {f : DT} (h : PDSs X ⟨ow2, pa, kd, rn, W⟩ b t f) (h1 : ∀ j ∈ ow2, j = i ∨ j ∈ ow := by decide) (h2 : ∀ j ∈ ow, j ∈ ow2 := by decide) (h3 : i ∈ ow2 := by decide) (h4 : i ∉ ow := by decide) (h5 : i ∉ pa := by decide) :
    PDSs X ⟨ow, pa, kd, rn, W⟩ b t (dsw i f) := ⟨h.ps, ev_sw h1 h2 h3 h4 h5 h.ev⟩
/-! ### a method of an owned list at a statement: the arguments of any mode -/
def dslm (i : Nat) (g : List D → List D → Option (D × List D)) (fs : DM (List D)) : DT := fun st => match cellOf i st with
  | none => none
  | some _ => dexp fs (fun as st1 => match cellOf i st1 with
    | none => none
    | some ds => (g as ds).map fun r => .nx (st1.set i (some (.list r.2)))) st
section
variable {K : PySem.W.Frag} {c : Cs}
theorem ev_slm {i : Nat} {ta : TA} {fs : DM (List D)} {r : V → List V → Hp → VK → Prop} {g : List D → List D → Option (D × List D)} (hi : i ∈ c.ow) (hk : c.kd.getD i .flat = .flat) (hr : RLM K false r g) (ha : EvE K c (RepA K) ta fs) : EvS K c (tDrop (tBM K "list" r (tVar i) ta)) (dslm i g fs) := fun A0 Φ B0 B σ H st ro s h De n b kk t x => by
  unfold dslm at h
  cases e0 : cellOf i st with
  | none =>
    simp only [e0] at h
    cases h
  | some ds0 =>
    simp only [e0] at h
    obtain ⟨l, xs0, hs, hl0, _⟩ := s.cellList hi hk e0
    refine ⟨_, hs, .inl ⟨rfl, xs0, SqL.of hl0⟩, ?_⟩
    cases ef : fs st with
    | none =>
      unfold dexp at h
      rw [ef] at h
      cases h
    | some rf =>
      refine ha A0 Φ B0 B σ H st rf s ef _ (fun as st1 vs B1 H1 e1 s1 _ rv => ?_) (fun y fl st1 dx B1 H1 e1 fi1 fl1 => ?_)
      · subst e1
        rw [dexp_ok ef] at h
        cases e1 : cellOf i st1 with
        | none =>
          simp only [e1] at h
          cases h
        | some ds =>
          simp only [e1] at h
          obtain ⟨rd, hg, rfl⟩ := Option.map_eq_some_iff.mp h
          obtain ⟨l1, xs, hs1, hl1, ra, up⟩ := s1.cellList hi hk e1
          rw [hs] at hs1
          cases hs1
          obtain ⟨ys, ry, q⟩ := hr l xs vs ds as rd.2 rd.1 B1 B1 H1 hl1 ra rv (fun z => by cases z) (fun _ _ _ z => z) (fun _ _ z => z) hg
          exact q _ fun v _ => n _ B1 _ _ rfl (up _ _ ry)
      · subst e1
        unfold dexp at h
        rw [ef] at h
        exact x y fl st1 dx B1 H1 (Option.some.inj h).symm fi1 fl1
end
theorem PDA.a {X : Cx} {c : Cs} {es : List Expr} {ta : TA} {fs : DM (List D)} (J R : List Nat) (h : PDA X (c.cf J R) es ta fs) (hJ : ∀ i ∈ J, i ∈ c.pa := by decide) (hR : ∀ i ∈ R, i ∈ c.ow ∧ i ∉ J ∧ (c.kd.getD i .flat).plain = true := by decide) : PDAE X c es ta (dflatA fs) := ⟨h.pa, .aA h.ev hJ hR⟩
theorem pds_lm {X : Cx} {c : Cs} {pos : Pos} {e : Expr} {es : List Expr} {ta : TA} {fs : DM (List D)} {r : V → List V → Hp → VK → Prop} {g : List D → List D → Option (D × List D)} {name : Str} {id : String} (i : Nat) {x : Str} {px apos cpos : Pos} (slot : Slot "list" name id) (hty : typeOf (.builtin id) = pure (.type "method_descriptor")) (hm : MtR X id r) (hr : RLM X.K false r g) (ha : PDAE X c (e :: es) ta fs) (h1 : i ∈ c.ow := by decide) (hkd : c.kd.getD i .flat = .flat := by rfl) (hN : X.N[i]? = some x := by rfl) (hv : Vis X.env.scope x := by first | exact Or.inl rfl | exact Or.inr (Or.inl rfl) | exact Or.inr (Or.inr rfl))
    (hd : (x == ("__debug__" : Str)) = false := by decide) (hcd : (x == ("__classdict__" : Str)) = false := by decide)
    (hbase : attributeBase (.Name x px) name X.env (eval (.Name x px) X.env) = eval (.Name x px) X.env := by rfl)
    (hfew : ((backTo cpos (starEach (e :: es) X.env)).all (fun x => !x.1) && (backToKw cpos (keywordEach [] X.env)).all (fun x => x.1.isSome) && decide ((e :: es).length + ([] : List Keyword).length + (if ([] : List Keyword).isEmpty then 0 else 1) < 30)) = true := by rfl)
    (hline : (apos.endLine == cpos.line) = true := by rfl) (hse : starEach (e :: es) X.env = (false, eval e X.env) :: starEach es X.env := by rfl) (hplain : (backTo cpos (starEach es X.env)).any (·.1) = false := by rfl)
    (hs : swapsWith (.Call (.Attribute (.Name x px) name apos) (e :: es) [] cpos) none pos.line X.env = pure false := by rfl) :
    PDS X c (.Expr (.Call (.Attribute (.Name x px) name apos) (e :: es) [] cpos) pos) (tDrop (tBM X.K "list" r (tVar i) ta)) (dslm i g fs) :=
  ⟨ps_expr (pe_bm PySem.F.plainAttrs_list slot hty hm (pv i hN hv hd hcd) ha.pa hbase hfew hline hse hplain) hs, ev_slm h1 hkd hr ha.ev⟩
end DR

set_option maxRecDepth 100000
set_option maxHeartbeats 1000000
namespace DR
open PySem PySem.Spec L2
open PyProof.Rows hiding St
open Evl (Ex ex_l ex_t ex_rd)

/-! ### a stable sort of one's own -/
section
variable {α β : Type}
def insB (lt : α → α → Bool) (x : α) : List α → List α
  | [] => [x]
  | y :: l => if lt x y = true then x :: y :: l else y :: insB lt x l
def isort (lt : α → α → Bool) (l : List α) : List α := l.foldl (fun acc x => insB lt x acc) []
theorem insB_split {lt : α → α → Bool} (O : SrtO.Swo lt) (x : α) : ∀ {l : List α}, SrtO.Srtd lt l → ∃ M N, insB lt x l = M ++ x :: N ∧ l = M ++ N ∧ (∀ m ∈ M, lt x m = false) ∧ ∀ n ∈ N, lt x n = true
  | [], _ => ⟨[], [], rfl, rfl, fun _ h => (nomatch h), fun _ h => (nomatch h)⟩
  | y :: l, h => by
    unfold insB
    by_cases hxy : lt x y = true
    · rw [if_pos hxy]
      exact ⟨[], y :: l, rfl, rfl, fun _ h => (nomatch h), O.lt_all h hxy⟩
    · rw [if_neg hxy]
      obtain ⟨M, N, e1, e2, h1, h2⟩ := insB_split O x (List.pairwise_cons.mp h).2
      refine ⟨y :: M, N, by rw [e1]; rfl, by rw [e2]; rfl, fun m hm => ?_, h2⟩
      rcases List.mem_cons.mp hm with rfl | hm
      · exact Bool.eq_false_iff.mpr hxy
      · exact h1 m hm
theorem isort_go {lt : α → α → Bool} (O : SrtO.Swo lt) : ∀ (l acc done : List α), SrtO.Srtd lt acc → SrtO.Stb lt acc done → SrtO.Srtd lt (l.foldl (fun acc x => insB lt x acc) acc) ∧ SrtO.Stb lt (l.foldl (fun acc x => insB lt x acc) acc) (done ++ l)
  | [], acc, done, h1, h2 => ⟨h1, by rw [List.append_nil]; exact h2⟩
  | x :: l, acc, done, h1, h2 => by
    obtain ⟨M, N, e1, e2, h3, h4⟩ := insB_split O x h1
    rw [e2] at h1 h2
    have q := isort_go O l (insB lt x acc) (done ++ [x]) (by rw [e1]; exact SrtO.ins_srtd O h1 h3 h4) (by rw [e1]; exact SrtO.ins_stb O h4 h2)
    rw [List.append_assoc] at q
    exact q
theorem isort_srtd {lt : α → α → Bool} (O : SrtO.Swo lt) (l : List α) : SrtO.Srtd lt (isort lt l) := (isort_go O l [] [] List.Pairwise.nil (SrtO.Stb.refl _)).1
theorem isort_stb {lt : α → α → Bool} (O : SrtO.Swo lt) (l : List α) : SrtO.Stb lt (isort lt l) l := (isort_go O l [] [] List.Pairwise.nil (SrtO.Stb.refl _)).2
theorem isort_uniq {lt : α → α → Bool} (O : SrtO.Swo lt) {l m : List α} (h1 : SrtO.Srtd lt m) (h2 : SrtO.Stb lt m l) : m = isort lt l :=
  SrtO.stb_uniq O h1 (isort_srtd O l) (h2.trans ⟨(isort_stb O l).perm.symm, fun x => ((isort_stb O l).cls x).symm⟩)
/-- two lists told by each other -/
theorem insB_pair {lt : α → α → Bool} {lu : β → β → Bool} {R : α → β → Prop} (hl : ∀ a b c d, R a b → R c d → lt a c = lu b d) {x : α} {y : β} (r : R x y) : ∀ {l : List α} {m : List β}, Paired R l m → Paired R (insB lt x l) (insB lu y m)
  | _, _, .nil => .cons r .nil
  | _, _, .cons (a := a) (b := b) q t => by
    unfold insB
    rw [hl x y a b r q]
    split
    · exact .cons r (.cons q t)
    · exact .cons q (insB_pair hl r t)
theorem isort_pair {lt : α → α → Bool} {lu : β → β → Bool} {R : α → β → Prop} (hl : ∀ a b c d, R a b → R c d → lt a c = lu b d) {l : List α} {m : List β} (p : Paired R l m) : Paired R (isort lt l) (isort lu m) := by
  unfold isort
  suffices h : ∀ {l : List α} {m : List β}, Paired R l m → ∀ {a : List α} {b : List β}, Paired R a b → Paired R (l.foldl (fun acc x => insB lt x acc) a) (m.foldl (fun acc x => insB lu x acc) b) from h p .nil
  intro l m p
  induction p with
  | nil => exact fun h => h
  | cons q t ih => exact fun h => ih (insB_pair hl q h)
theorem isort_map {lt : β → β → Bool} (f : α → β) (l : List α) : isort lt (l.map f) = (isort (fun a b => lt (f a) (f b)) l).map f := by
  have h := isort_pair (lt := fun a b => lt (f a) (f b)) (lu := lt) (R := fun a b => b = f a) (fun a b c d h1 h2 => by rw [h1, h2]) (l := l) (m := l.map f) (by
    induction l with
    | nil => exact .nil
    | cons x l ih => exact .cons rfl ih)
  have : ∀ {a : List α} {b : List β}, Paired (fun a b => b = f a) a b → b = a.map f := by
    intro a b p
    induction p with
    | nil => rfl
    | cons q t ih => rw [List.map_cons, q, ih]
  exact this h
end

/-! ### keys -/
abbrev KI : Type := Int ⊕ List Nat
def itemK : D → Option KI
  | .int i => some (.inl i)
  | .str x => some (.inr x.cps.toList)
  | _ => none
def itemsK : List D → Option (List KI)
  | [] => some []
  | d :: r => match itemK d, itemsK r with
    | some a, some l => some (a :: l)
    | _, _ => none
def keyK : D → Option (List KI)
  | .tuple ds => itemsK ds
  | _ => none
def sideK (l : List KI) : List Bool := l.map Sum.isRight
def keysK : List D → Option (List (List KI))
  | [] => some []
  | d :: r => match keyK d, keysK r with
    | some a, some l => some (a :: l)
    | _, _ => none
def unif : List (List KI) → Bool
  | [] => true
  | l :: r => !l.isEmpty && r.all fun m => decide (sideK m = sideK l)
abbrev kLt (a b : List KI) : Bool := PyProof.Rows.lexLt PyProof.Rows.itemOrd a b
theorem swo_ord (O : KeyOrd) : SrtO.Swo O.blt := by
  refine ⟨fun x y h => ?_, fun x y z h1 h2 => ?_⟩
  · cases q : O.blt y x with
    | false => rfl
    | true =>
      have := O.trans x y x h q
      rw [O.irrefl] at this
      cases this
  · cases q : O.blt z x with
    | false => rfl
    | true =>
      rcases O.negTrans z y x q with r | r
      · rw [h2] at r
        cases r
      · rw [h1] at r
        cases r
theorem swo_k : SrtO.Swo kLt := swo_ord (PyProof.Rows.listOrd PyProof.Rows.itemOrd)
theorem swo_on {α : Type} {β : Type} {lt : β → β → Bool} (O : SrtO.Swo lt) (f : α → β) : SrtO.Swo fun x y => lt (f x) (f y) := ⟨fun x y => O.asym _ _, fun x y z => O.tr _ _ _⟩
/-- the data, put in order by their keys -/
def sortOn (ks ds : List D) : Option (List D) := match keysK ks with
  | some ls => if unif ls = true then some ((isort (fun p q : List KI × D => kLt p.1 q.1) (ls.zip ds)).map Prod.snd) else none
  | none => none
def keysM (m : List D → Option D) : List D → Option (List D)
  | [] => some []
  | d :: r => match m [d], keysM m r with
    | some a, some l => some (a :: l)
    | _, _ => none
theorem keysM_len {m : List D → Option D} : ∀ {ds ks : List D}, keysM m ds = some ks → ks.length = ds.length
  | [], ks, h => by cases h; rfl
  | d :: r, ks, h => by
    unfold keysM at h
    split at h
    · rename_i a l e1 e2
      cases h
      rw [List.length_cons, List.length_cons, keysM_len e2]
    · cases h
theorem keysM_get {m : List D → Option D} : ∀ {ds ks : List D} {j : Nat} {d : D}, keysM m ds = some ks → ds[j]? = some d → ∃ k, ks[j]? = some k ∧ m [d] = some k
  | [], ks, j, d, _, h => by simp at h
  | d :: r, ks, j, d', h, hj => by
    unfold keysM at h
    split at h
    · rename_i a l e1 e2
      cases h
      cases j with
      | zero =>
        simp at hj
        subst hj
        exact ⟨a, rfl, e1⟩
      | succ j =>
        obtain ⟨k, h1, h2⟩ := keysM_get e2 (show r[j]? = some d' by simpa using hj)
        exact ⟨k, by simpa using h1, h2⟩
    · cases h

/-! ### the keys in the heap -/
section
variable {X : Cx} {pins : List (Addr × Obj)} {σ : L2.St} {H B : Hp} {s : Shared}
theorem tupItems_of {K : PySem.W.Frag} {shape : Nat → Bool} : ∀ {xs : List V} {its : List Value} {ds : List D} {l : List KI} {i : Nat}, Vals xs its → RepA K B xs ds → itemsK ds = some l → (∀ j b, (sideK l)[j]? = some b → shape (i + j) = b) → tupItems shape i its = some l
  | _, _, _, l, i, .nil, .nil, h, _ => by
    cases h
    unfold tupItems
    rfl
  | _, _, _, l, i, .cons rv tv, .cons (d := d) (ds := ds) rd td, h, hs => by
    unfold itemsK at h
    split at h
    · rename_i a l' e1 e2
      cases h
      have h0 := hs 0 _ rfl
      have ht := tupItems_of (shape := shape) (i := i + 1) tv td e2 (fun j b hb => by
        have := hs (j + 1) b (by simpa [sideK] using hb)
        rw [← this]
        congr 1
        omega)
      cases d <;> first | (cases e1; done) | skip
      · cases e1
        cases rd
        obtain ⟨t, rfl⟩ := rv
        unfold tupItems
        have : shape i = false := h0
        rw [if_neg (by rw [this]; decide), ht]
        rfl
      · cases e1
        cases rd
        obtain ⟨t, rfl⟩ := rv
        unfold tupItems
        have : shape i = true := h0
        rw [if_pos this, ht]
        rfl
    · cases h
def shapeOf (sh : List Bool) : Nat → Bool := fun i => sh.getD i false
theorem shape_at {sh : List Bool} {j : Nat} {b : Bool} (h : sh[j]? = some b) : shapeOf sh (0 + j) = b := by
  unfold shapeOf
  rw [Nat.zero_add, List.getD_eq_getElem?_getD, h]
  rfl
theorem key_at (I : Inv X pins σ H s) (e : Ex B H) {x : V} {u : Value} {d : D} {l : List KI} {sh : List Bool} (r : Rep X.K B x d) (rv : RelV x u) (hk : keyK d = some l) (hs : sideK l = sh) (hne : l ≠ []) :
    G.tupKeyC s.heap (shapeOf sh) u = some l ∧ ∃ f, PyProof.Rows.TupOf s.heap (shapeOf sh) u f := by
  cases d <;> first | (cases hk; done) | skip
  rename_i ds
  obtain ⟨a, xs, rfl, ha, ra⟩ := rep_tup r
  obtain ⟨its, vs, ⟨o, ho, hc, n, hd⟩, _⟩ := I.tuple (ex_t e ha)
  cases rv
  have hi : tupItems (shapeOf sh) 0 its = some l := tupItems_of vs ra hk fun j b hb => shape_at (by rw [← hs]; exact hb)
  have htk : tupKey s.heap (shapeOf sh) (.ref a) = some l := by
    unfold tupKey
    simp only [ho, hd]
    exact hi
  refine ⟨?_, ?_⟩
  · unfold G.tupKeyC
    rw [if_pos (by unfold G.isTupObj; simp only [ho, hc]; rfl)]
    exact htk
  · obtain ⟨k0, lr, rfl⟩ : ∃ k0 lr, l = k0 :: lr := by
      cases l with
      | nil => exact absurd rfl hne
      | cons a b => exact ⟨a, b, rfl⟩
    cases vs with
    | nil =>
      cases ra
      cases hk
    | @cons w0 u0 ws0 us0 rv0 tv =>
      cases ra with
      | @cons v0 vr d0 dr rd td =>
        have hk' : itemsK (d0 :: dr) = some (k0 :: lr) := hk
        unfold itemsK at hk'
        split at hk'
        · rename_i a0 l0 e1 e2
          cases hk'
          refine ⟨u0, a, o, (u0 :: us0).toArray, n, rfl, ho, hc, hd, by simp, fun h0 => ?_, fun h0 => ?_⟩
          · have h1 : shapeOf sh 0 = Sum.isRight k0 := shape_at (j := 0) (by rw [← hs]; rfl)
            cases d0 <;> first | (cases e1; done) | skip
            · cases rd
              obtain ⟨t, rfl⟩ := rv0
              exact ⟨_, t, rfl⟩
            · cases e1
              rw [h0] at h1
              cases h1
          · have h1 : shapeOf sh 0 = Sum.isRight k0 := shape_at (j := 0) (by rw [← hs]; rfl)
            cases d0 <;> first | (cases e1; done) | skip
            · cases e1
              rw [h0] at h1
              cases h1
            · cases rd
              obtain ⟨t, rfl⟩ := rv0
              exact ⟨_, t, rfl⟩
        · cases hk'
end

/-! ### the machine's sort by keys -/
theorem hok_adopt {P : Program} {w : World} {H : Hp} {h h' : Heap} {a : Addr} {o : HO} (x : HOk P w H h) (k : ∀ b u, b ≠ a → h.get? b = some u → h'.get? b = some u) (hn : H a = none) (new : ObjOk P w (upd H a o) h' a o) : HOk P w (upd H a o) h' := fun b u e => by
  by_cases hb : b = a
  · subst hb
    rw [upd_same] at e
    cases e
    exact new
  · rw [upd_ne hb] at e
    refine (x b u e).stay (fun c v hc q => k c v (fun z => ?_) q) (fun c q => by rw [upd_ne (ne_of_none q hn)]; exact q) fun c xs q => by rw [upd_ne (ne_of_none q hn)]; exact q
    rcases hc with hc | hc
    · exact hb (hc.symm.trans z)
    · rw [z, hn] at hc
      cases hc
theorem un_adopt {fs : List Addr} {H : Hp} {h h' : Heap} {a : Addr} {o : HO} (k : ∀ b u, b ≠ a → h.get? b = some u → h'.get? b = some u) (hn : H a = none) : Un fs [a] H (upd H a o) h h' where
  keep := fun b ob q _ _ hx => k b ob (by simpa using hx) q
  slot := fun b ob q _ _ hx => ⟨ob.slots, k b ob (by simpa using hx) q⟩
  free := fun b ob _ n hx => by rw [upd_ne (by simpa using hx)]; exact n
  there := fun b ob q hx => ⟨ob, k b ob (by simpa using hx) q⟩
  tups := fun b xs q => by rw [upd_ne (ne_of_none q hn)]; exact q
  frzs := fun b u xs q => by rw [upd_ne (ne_of_none q hn)]; exact q
  tbls := fun b ps q => ⟨#[], by rw [upd_ne (ne_of_none q hn), q]; simp⟩
theorem un_turn {fs : List Addr} {H : Hp} {h h' : Heap} {a : Addr} (k : ∀ b u, b ≠ a → h.get? b = some u → h'.get? b = some u) (hn : H a = none) : Un fs [a] H H h h' where
  keep := fun b ob q _ _ hx => k b ob (by simpa using hx) q
  slot := fun b ob q _ _ hx => ⟨ob.slots, k b ob (by simpa using hx) q⟩
  free := fun b ob _ n hx => n
  there := fun b ob q hx => ⟨ob, k b ob (by simpa using hx) q⟩
  tups := fun b xs q => q
  frzs := fun b u xs q => q
  tbls := fun b ps q => ⟨#[], by rw [q]; simp⟩
theorem hok_turn {P : Program} {w : World} {H : Hp} {h h' : Heap} {a : Addr} (x : HOk P w H h) (k : ∀ b u, b ≠ a → h.get? b = some u → h'.get? b = some u) (hn : H a = none) : HOk P w H h' := fun b u e =>
  (x b u e).stay (fun c v hc q => k c v (fun z => by
    rcases hc with hc | hc
    · rw [← hc, z, hn] at e
      cases e
    · rw [z, hn] at hc
      cases hc) q) (fun c q => q) fun c xs q => q
section
variable {X : Cx} {pins : List (Addr × Obj)} {σ : L2.St} {H B : Hp} {s : Shared}
/-- an object of one's own at a, made behind the entry -/
structure Mine (X : Cx) (a : Addr) : Prop where
  loc : a ≠ X.env.locals
  fs : a ∉ X.fs
  old : X.s_0.heap.objs.size ≤ a
  cell : ∀ x c, X.env.cells.lookup x = some c → c ≠ a
theorem Mine.of (I : Inv X pins σ H s) {a : Addr} (h : s.heap.objs.size ≤ a) : Mine X a :=
  ⟨fun e => by
    have h2 := I.lt
    rw [← e] at h2
    exact absurd h (Nat.not_le.mpr h2), I.nofs h, Nat.le_trans I.sz h, fun x c e z => by
    obtain ⟨v, o, hv, _⟩ := I.cell x c e
    rw [z] at hv
    exact absurd h (Nat.not_le.mpr (Heap.lt_size hv))⟩
theorem not_cell {xs : Array Value} {n : Nat} : ∀ v, (seqObj "list" xs n).data ≠ .cell v := fun v e => by cases e
theorem Inv.turnAt {a : Addr} {h' : Heap} {ob : Obj} (I : Inv X ((a, ob) :: pins) σ H s) (M : Mine X a) (hp : ∀ p ∈ X.pn ++ pins, p.1 ≠ a) (k : ∀ b u, b ≠ a → s.heap.get? b = some u → h'.get? b = some u) {o' : Obj} (ho : h'.get? a = some o') (hc : ∀ v, o'.data ≠ .cell v) :
    Inv X ((a, o') :: pins) σ H { s with heap := h' } := by
  have p0 := I.pin (a, ob) (List.mem_append_right _ List.mem_cons_self)
  have I0 : Inv X pins σ H s := I.pins_of fun p hq => I.pin p (List.mem_append_right _ (List.mem_cons_of_mem _ hq))
  have I1 := I0.call (ch := [a]) (t' := s.toks) (g' := s.gens) (d' := s.drawn) (un_turn k p0.2.1) (hok_turn I.hok k p0.2.1) I.bare fun b hb => by
    rw [List.mem_singleton.mp hb]
    exact ⟨.inr M.old, M.loc, M.cell, hp⟩
  refine I1.pins_of fun p hq => ?_
  rcases List.mem_cons.mp hq with rfl | hq
  · exact ⟨ho, p0.2.1, M.loc, M.fs, hc⟩
  · have q := I0.pin p (List.mem_append_right _ hq)
    exact ⟨k _ _ (hp p (List.mem_append_right _ hq)) q.1, q.2.1, q.2.2.1, q.2.2.2.1, q.2.2.2.2⟩
theorem Inv.adoptAt {a : Addr} {h' : Heap} {ob : Obj} {o : HO} (I : Inv X ((a, ob) :: pins) σ H s) (M : Mine X a) (hp : ∀ p ∈ X.pn ++ pins, p.1 ≠ a) (k : ∀ b u, b ≠ a → s.heap.get? b = some u → h'.get? b = some u) (new : ObjOk X.prog X.w (upd H a o) h' a o) :
    Inv X pins σ (upd H a o) { s with heap := h' } := by
  have p0 := I.pin (a, ob) (List.mem_append_right _ List.mem_cons_self)
  have I0 : Inv X pins σ H s := I.pins_of fun p hq => I.pin p (List.mem_append_right _ (List.mem_cons_of_mem _ hq))
  exact I0.call (ch := [a]) (t' := s.toks) (g' := s.gens) (d' := s.drawn) (un_adopt k p0.2.1) (hok_adopt I.hok k p0.2.1 new) I.bare fun b hb => by
    rw [List.mem_singleton.mp hb]
    exact ⟨.inr M.old, M.loc, M.cell, hp⟩
/-- a def of one argument, called below the running body -/
theorem run_key {A : Around} {k : Nat} {f : Addr} {fd : FuncData} {ps : List Str} {m : List D → Option D} (F : FnOk X.prog X.w X.K X.mg X.base CX0 k f fd ps (spD X.K 1 m)) (hb : Binds X.K fd ps []) (hr : Room k A) (hA : Env0 X.prog X.w X.K X.mg X.base A X.stack s H)
    (I : Inv X pins σ H s) (e : Ex B H) {x : V} {u : Value} {d kd : D} (rv : RelV x u) (rd : Rep X.K B x d) (hm : m [d] = some kd) {E : Value → Shared → Prop} {Q : Value → Shared → Prop}
    (q : ∀ v u' s' B' H', Inv X pins σ H' s' → RelV v u' → Pu B H B' H' → Rep X.K B' v kd → Q u' s') : wpAny (model X.prog X.w) A (call (.ref f) [u]) Q E s := by
  have hl : ([u] ++ ([] : List Value)).length = ps.length := by
    have := F.len [x] H (fun _ _ => True) E0 ⟨B, [d], kd, rfl, e, .cons rd .nil, hm, fun _ _ _ _ _ => trivial⟩
    exact this
  refine wpAny_call (codeAny_mono (F.run A X.stack s H ⟨[u], []⟩ [u] [x] (fun v H' => ∃ B', Pu B H B' H' ∧ Rep X.K B' v kd) E0 hr hA (hb s [u] I.kIn hl) (.cons rv .nil) ⟨B, [d], kd, rfl, e, .cons rd .nil, hm, fun v B' H' p r => ⟨B', p, r⟩⟩) fun r s' hq => ?_)
  cases r with
  | error e => exact hq.elim
  | ok fl =>
    cases fl with
    | ret u' =>
      obtain ⟨v, H', I', rv', B', p, r⟩ := I.after hq
      exact q v u' s' B' H' I' rv' p r
    | next => exact False.elim hq
    | brk => exact False.elim hq
    | cont => exact False.elim hq
end

theorem keysK_len : ∀ {ks : List D} {ls : List (List KI)}, keysK ks = some ls → ls.length = ks.length
  | [], ls, h => by cases h; rfl
  | d :: r, ls, h => by
    unfold keysK at h
    split at h
    · rename_i a l e1 e2
      cases h
      rw [List.length_cons, List.length_cons, keysK_len e2]
    · cases h
theorem keysK_get : ∀ {ks : List D} {ls : List (List KI)} {d : D}, keysK ks = some ls → d ∈ ks → ∃ l ∈ ls, keyK d = some l
  | [], ls, d, h, hd => (nomatch hd)
  | d :: r, ls, d', h, hd => by
    unfold keysK at h
    split at h
    · rename_i a l e1 e2
      cases h
      rcases List.mem_cons.mp hd with rfl | hd
      · exact ⟨a, List.mem_cons_self, e1⟩
      · obtain ⟨l', h1, h2⟩ := keysK_get e2 hd
        exact ⟨l', List.mem_cons_of_mem _ h1, h2⟩
    · cases h
theorem unif_side {ls : List (List KI)} (h : unif ls = true) : ∃ sh, ∀ l ∈ ls, sideK l = sh ∧ l ≠ [] := by
  cases ls with
  | nil => exact ⟨[], fun l hl => (nomatch hl)⟩
  | cons a r =>
    unfold unif at h
    obtain ⟨h1, h2⟩ := Bool.and_eq_true_iff.mp h
    have ha : a ≠ [] := by
      intro e
      rw [e] at h1
      cases h1
    refine ⟨sideK a, fun l hl => ?_⟩
    rcases List.mem_cons.mp hl with rfl | hl
    · exact ⟨rfl, ha⟩
    · have h3 := of_decide_eq_true (List.all_eq_true.mp h2 l hl)
      refine ⟨h3, fun e => ?_⟩
      rw [e] at h3
      have h4 : a.map Sum.isRight = [] := h3.symm
      exact ha (List.map_eq_nil_iff.mp h4)
theorem tups_list {h : Heap} {shape : Nat → Bool} : ∀ {us : List Value}, (∀ u ∈ us, ∃ f, PyProof.Rows.TupOf h shape u f) → ∃ fs, PyProof.Rows.TupsOf h shape us fs
  | [], _ => ⟨[], .nil⟩
  | u :: r, hh => by
    obtain ⟨f, h1⟩ := hh u List.mem_cons_self
    obtain ⟨fs, h2⟩ := tups_list fun v hv => hh v (List.mem_cons_of_mem _ hv)
    exact ⟨f :: fs, .cons h1 h2⟩
theorem vals_getB : ∀ {xs : List V} {us : List Value} {j : Nat} {u : Value}, Vals xs us → us[j]? = some u → ∃ x, xs[j]? = some x ∧ RelV x u
  | _, _, _, _, .nil, e => by simp at e
  | _, _, 0, _, .cons r _, e => by
    simp at e
    subst e
    exact ⟨_, rfl, r⟩
  | _, _, j + 1, u, .cons _ t, e => by
    obtain ⟨x, h1, h2⟩ := vals_getB (j := j) (u := u) t (by simpa using e)
    exact ⟨x, by simpa using h1, h2⟩
abbrev Tri : Type := List KI × V × D
theorem tri_pair {K : PySem.W.Frag} {B : Hp} {κ : Value → List KI} : ∀ {ks : List D} {ls : List (List KI)} {kvs : List V} {us : List Value} {xs : List V} {its : List Value} {ds : List D}, (∀ x u d l, Rep K B x d → RelV x u → keyK d = some l → d ∈ ks → κ u = l) → keysK ks = some ls → RepA K B kvs ks → Vals kvs us → Vals xs its → RepA K B xs ds → ks.length = ds.length →
    Paired (fun (p : Keyed) (t : Tri) => κ p.1 = t.1 ∧ RelV t.2.1 p.2 ∧ Rep K B t.2.1 t.2.2) (us.zip its) (ls.zip (xs.zip ds)) ∧ (ls.zip (xs.zip ds)).map (fun t : Tri => (t.1, t.2.2)) = ls.zip ds
  | [], ls, kvs, us, xs, its, ds, _, h, r1, r2, v2, r3, hl => by
    cases h
    cases r1
    cases r2
    exact ⟨.nil, by simp⟩
  | d :: ks, ls, kvs, us, xs, its, ds, hh, h, r1, r2, v2, r3, hl => by
    unfold keysK at h
    split at h
    · rename_i a l e1 e2
      cases h
      cases r1 with
      | cons q1 t1 =>
        cases r2 with
        | cons q2 t2 =>
          cases r3 with
          | nil => cases hl
          | cons q3 t3 =>
            cases v2 with
            | cons q4 t4 =>
              obtain ⟨p, e⟩ := tri_pair (fun x u d l h1 h2 h3 h4 => hh x u d l h1 h2 h3 (List.mem_cons_of_mem _ h4)) e2 t1 t2 t4 t3 (Nat.succ.inj hl)
              refine ⟨.cons ⟨hh _ _ _ _ q1 q2 e1 List.mem_cons_self, q4, q3⟩ p, ?_⟩
              rw [List.zip_cons_cons, List.zip_cons_cons, List.map_cons, e, List.zip_cons_cons]
    · cases h
theorem tri_out {K : PySem.W.Frag} {B : Hp} {κ : Value → List KI} {l : List Keyed} {m : List Tri} (p : Paired (fun (p : Keyed) (t : Tri) => κ p.1 = t.1 ∧ RelV t.2.1 p.2 ∧ Rep K B t.2.1 t.2.2) l m) :
    Vals (m.map (·.2.1)) (l.map (·.2)) ∧ RepA K B (m.map (·.2.1)) (m.map (·.2.2)) := by
  induction p with
  | nil => exact ⟨.nil, .nil⟩
  | cons q t ih => exact ⟨.cons q.2.1 ih.1, .cons q.2.2 ih.2⟩
section
variable {X : Cx} {pins : List (Addr × Obj)} {σ : L2.St} {H B : Hp} {s : Shared}
/-- the keys stand; the list is put in order -/
theorem end_key {A : Around} {E : Value → Shared → Prop} {a kS : Addr} {e1 e2 : Nat} {kA : Array Value} {its : List Value} {xs kvs : List V} {ds ks zs : List D} {P : PySem.Fin → Shared → Prop}
    (I : Inv X ((kS, seqObj "list" kA e2) :: (a, seqObj "list" #[] e1) :: pins) σ H s) (e : Ex B H) (Ma : Mine X a) (Mk : Mine X kS) (hka : kS ≠ a) (hpa : ∀ p ∈ X.pn ++ pins, p.1 ≠ a) (hpk : ∀ p ∈ X.pn ++ pins, p.1 ≠ kS)
    (rk : Vals kvs kA.toList) (rk2 : RepA X.K B kvs ks) (rv : Vals xs its) (ra : RepA X.K B xs ds) (hlen : ks.length = ds.length) (hZ : its.length ≤ sizeLine) (hz : sortOn ks ds = some zs)
    (h : ∀ H1 ys s', Inv X pins σ (upd H a (.lst ys)) s' → H1 = H → RepA X.K B ys zs → P (.done (.ret .none)) s') :
    wpAny (model X.prog X.w) A (ksk_end a false its.toArray e1 (.ref kS) kA) P E s := by
  unfold sortOn at hz
  split at hz
  · rename_i ls hls
    split at hz
    · rename_i hu
      cases hz
      obtain ⟨sh, hsh⟩ := unif_side hu
      have hkey : ∀ x u d l, Rep X.K B x d → RelV x u → keyK d = some l → d ∈ ks → G.tupKeyC s.heap (shapeOf sh) u = some l ∧ ∃ f, PyProof.Rows.TupOf s.heap (shapeOf sh) u f := fun x u d l r1 r2 h1 h2 => by
        obtain ⟨l', h3, h4⟩ := keysK_get hls h2
        rw [h1] at h4
        cases h4
        exact key_at I e r1 r2 h1 (hsh l h3).1 (hsh l h3).2
      have hall : ∀ u ∈ kA.toList, (∃ l, G.tupKeyC s.heap (shapeOf sh) u = some l) ∧ ∃ f, PyProof.Rows.TupOf s.heap (shapeOf sh) u f := fun u hu => by
        obtain ⟨j, hj⟩ := List.getElem?_of_mem hu
        obtain ⟨x, hx, hxu⟩ : ∃ x, kvs[j]? = some x ∧ RelV x u := vals_getB rk hj
        obtain ⟨d, hd, hr⟩ := rk2.getV hx
        obtain ⟨l, h3, h4⟩ := keysK_get hls (List.mem_of_getElem? hd)
        obtain ⟨h5, h6⟩ := hkey x u d l hr hxu h4 (List.mem_of_getElem? hd)
        exact ⟨⟨l, h5⟩, h6⟩
      let κ : Value → List KI := fun u => (G.tupKeyC s.heap (shapeOf sh) u).getD []
      let ltv : Value → Value → Bool := fun u v => kLt (κ u) (κ v)
      have O : SrtO.Swo ltv := swo_on swo_k κ
      obtain ⟨pr, em⟩ := tri_pair (κ := κ) (fun x u d l h1 h2 h3 h4 => by
        show (G.tupKeyC s.heap (shapeOf sh) u).getD [] = l
        rw [(hkey x u d l h1 h2 h3 h4).1]
        rfl) hls rk2 rk rv ra hlen
      have hkl : kA.size = its.length := by
        have h1 := rk.length
        have h2 := rk2.length
        have h3 := rv.length
        have h4 := ra.length
        have h0 : kA.toList.length = kA.size := Array.length_toList
        omega
      have ezip : (kA.zip its.toArray).toList = kA.toList.zip its := by rw [Array.toList_zip]
      have fin : ∀ st' : SortSt, SrtO.Srtd (SrtO.lt2 ltv) (arrOf st').toList → SrtO.Stb (SrtO.lt2 ltv) (arrOf st').toList (kA.toList.zip its) → failedOf st' = none →
          wpAny (model X.prog X.w) A (ksk_tail a false e1 (.ref kS) st') P E s := by
        intro st' h1 h2 hf
        have eo : (arrOf st').toList = isort (SrtO.lt2 ltv) (kA.toList.zip its) := isort_uniq (SrtO.swo2 O) h1 h2
        have pr2 := isort_pair (lt := SrtO.lt2 ltv) (lu := fun s t : Tri => kLt s.1 t.1) (fun a b c d r1 r2 => by
          show kLt (κ a.1) (κ c.1) = _
          rw [r1.1, r2.1]) pr
        rw [← eo] at pr2
        obtain ⟨q1, q2⟩ := tri_out pr2
        have pa := I.pin (a, seqObj "list" #[] e1) (List.mem_append_right _ (List.mem_cons_of_mem _ List.mem_cons_self))
        have pk := I.pin (kS, seqObj "list" kA e2) (List.mem_append_right _ List.mem_cons_self)
        have hsz2 : (arrOf st').size = its.length := by
          have := h2.len
          rw [Array.length_toList, List.length_zip, Array.length_toList, hkl, Nat.min_self] at this
          exact this
        have s1 := Heap.SameBut.update s.heap kS (Obj.mapSeq fun _ => (#[] : Array Value))
        obtain ⟨c1, hc1⟩ : ∃ c1, (s.heap.update kS (Obj.mapSeq fun _ => (#[] : Array Value))).get? kS = some (seqObj "list" #[] c1) := ⟨_, get?_update_seq pk.1 fun _ => #[]⟩
        have I1 : Inv X ((kS, seqObj "list" #[] c1) :: (a, seqObj "list" #[] e1) :: pins) σ H { s with heap := s.heap.update kS (Obj.mapSeq fun _ => (#[] : Array Value)) } :=
          Inv.turnAt I Mk (fun p hp => by
            rcases List.mem_append.mp hp with hp | hp
            · exact hpk p (List.mem_append_left _ hp)
            · rcases List.mem_cons.mp hp with rfl | hp
              · exact Ne.symm hka
              · exact hpk p (List.mem_append_right _ hp)) (fun b u hb q => (s1.2 b hb).trans q) hc1 not_cell
        have pa1 := I1.pin (a, seqObj "list" #[] e1) (List.mem_append_right _ (List.mem_cons_of_mem _ List.mem_cons_self))
        have I2 : Inv X ((a, seqObj "list" #[] e1) :: pins) σ H { s with heap := s.heap.update kS (Obj.mapSeq fun _ => (#[] : Array Value)) } := I1.pins_of fun p hp => I1.pin p (List.mem_append_right _ (List.mem_cons_of_mem _ hp))
        have s2 := Heap.SameBut.update (s.heap.update kS (Obj.mapSeq fun _ => (#[] : Array Value))) a (Obj.mapSeq fun _ => (arrOf st').map (·.2))
        obtain ⟨c2, hc2⟩ : ∃ c2, ((s.heap.update kS (Obj.mapSeq fun _ => (#[] : Array Value))).update a (Obj.mapSeq fun _ => (arrOf st').map (·.2))).get? a = some (seqObj "list" ((arrOf st').map (·.2)) c2) :=
          ⟨_, get?_update_seq pa1.1 fun _ => (arrOf st').map (·.2)⟩
        unfold ksk_tail
        try dsimp only
        refine wpAny_bind (listUpdate_at pk.1 rfl ?_ (by rw [hkl]; exact hZ) (Nat.zero_le _))
        refine wpAny_bind (wpAny_letGo ?_)
        refine wpAny_bind (seqEpoch_at pa1.1 rfl ?_)
        refine wpAny_bind (listUpdate_at pa1.1 rfl ?_ (Nat.zero_le _) (by
          show ((arrOf st').map (·.2)).size ≤ _
          rw [Array.size_map, hsz2]
          omega))
        rw [hf]
        simp only [bne_self_eq_false, Bool.false_eq_true, if_false]
        have earr : (arrOf st').map (·.2) = ((arrOf st').toList.map (·.2)).toArray := by rw [← Array.toList_map, Array.toArray_toList]
        have I3 := Inv.adoptAt (o := .lst ((isort (fun s t : Tri => kLt s.1 t.1) (ls.zip (xs.zip ds))).map (·.2.1))) I2 Ma hpa (fun b u hb q => (s2.2 b hb).trans q) ⟨by
          rw [q1.length, List.length_map, Array.length_toList, hsz2]
          exact hZ, _, c2, q1, hc2.trans (by rw [earr])⟩
        refine wpAny_pure (h H ((isort (fun s t : Tri => kLt s.1 t.1) (ls.zip (xs.zip ds))).map (·.2.1)) _ I3 rfl ?_)
        · have e5 : (isort (fun p q : List KI × D => kLt p.1 q.1) (ls.zip ds)).map Prod.snd = (isort (fun s t : Tri => kLt s.1 t.1) (ls.zip (xs.zip ds))).map (·.2.2) := by
            rw [← em, isort_map, List.map_map]
            rfl
          rw [e5]
          exact q2
      unfold ksk_end
      try dsimp only
      simp only [Bool.false_eq_true, if_false]
      by_cases h2 : its.toArray.size < 2
      · rw [if_pos h2, if_pos h2]
        refine wpAny_bind (wpAny_pure ?_)
        rw [StateT.run_pure]
        refine wpAny_bind (wpAny_pure ?_)
        try dsimp only
        refine fin (SortSt.mk' general' (kA.zip its.toArray) #[] 7 none) ?_ ?_ rfl
        · show SrtO.Srtd (SrtO.lt2 ltv) (kA.zip its.toArray).toList
          rw [ezip]
          have hl1 : (kA.toList.zip its).length < 2 := by
            rw [List.length_zip, Array.length_toList, hkl, Nat.min_self]
            simpa using h2
          match kA.toList.zip its, hl1 with
          | [], _ => exact List.Pairwise.nil
          | [v], _ => exact List.pairwise_singleton _ _
          | _ :: _ :: l, h => exact absurd h (by rw [List.length_cons, List.length_cons]; omega)
        · show SrtO.Stb (SrtO.lt2 ltv) (kA.zip its.toArray).toList _
          rw [ezip]
          exact SrtO.Stb.refl _
      · rw [if_neg h2, if_neg h2]
        obtain ⟨fs, hfs⟩ := tups_list (us := kA.toList) fun u hu => (hall u hu).2
        have hfl := G.TupsOf.length hfs
        have hk2 : keyKind' kA = keyKind' kA.toList.toArray := by rw [Array.toArray_toList]
        rw [hk2]
        refine wpAny_bind (tup_kind (by rw [hfl, Array.length_toList, hkl]; rw [List.size_toArray] at h2; omega) hfs ?_)
        try dsimp only
        have hT : SrtO.Cmp X.prog X.w A s (tuples' true) (fun p => p.1 ∈ kA.toList) (SrtO.lt2 ltv) := by
          intro p q hp hq
          obtain ⟨l1, hl1⟩ := (hall _ hp).1
          obtain ⟨l2, hl2⟩ := (hall _ hq).1
          refine G.tupC_ltAt (s := s) (h := s.heap) (shape := shapeOf sh) true (G.KeepsTups.refl _) A _ p.1 q.1 l1 l2 hl1 hl2 ⟨rfl, ?_⟩
          show _ = kLt ((G.tupKeyC s.heap (shapeOf sh) p.1).getD []) ((G.tupKeyC s.heap (shapeOf sh) q.1).getD [])
          rw [hl1, hl2]
          rfl
        have hP0 : SrtO.AllL (fun p : Keyed => p.1 ∈ kA.toList) (kA.zip its.toArray).toList := fun p hm => by
          rw [ezip] at hm
          exact (List.of_mem_zip hm).1
        refine wpAny_bind (wpAny_mono (SrtO.wpS_sortO (st0 := SortSt.mk' (tuples' true) (kA.zip its.toArray) #[] 7 none)
          (Q := fun _ st' => SrtO.Srtd (SrtO.lt2 ltv) (arrOf st').toList ∧ SrtO.Stb (SrtO.lt2 ltv) (arrOf st').toList (kA.toList.zip its) ∧ failedOf st' = none) (SrtO.swo2 O) hT rfl hP0 rfl rfl fun st' a1 a2 a3 => ⟨a1, by
            have a2' : SrtO.Stb (SrtO.lt2 ltv) (arrOf st').toList (kA.zip its.toArray).toList := a2
            rw [ezip] at a2'
            exact a2', a3⟩) ?_ fun _ _ e => e)
        rintro ⟨⟨⟩, st'⟩ s' ⟨rfl, hp1, hp2, hf⟩
        exact fin st' hp1 hp2 hf
    · cases hz
  · cases hz
end

theorem RepA.snoc {K : PySem.W.Frag} {B : Hp} {vs : List V} {ds : List D} {v : V} {d : D} (h : RepA K B vs ds) (r : Rep K B v d) : RepA K B (vs ++ [v]) (ds ++ [d]) := h.append (.cons r .nil)
section
variable {X : Cx} {pins : List (Addr × Obj)} {σ : L2.St} {H B : Hp} {s : Shared}
theorem rest_key {k : Nat} {f : Addr} {fd : FuncData} {ps : List Str} {m : List D → Option D} (F : FnOk X.prog X.w X.K X.mg X.base CX0 k f fd ps (spD X.K 1 m)) (hb : Binds X.K fd ps []) (hr : Room (k + 2) X.A)
    {E : Value → Shared → Prop} {a kS : Addr} {e1 : Nat} {its : List Value} {xs : List V} {ds ks zs : List D} {P : PySem.Fin → Shared → Prop}
    (I : Inv X ((kS, seqObj "list" #[] 0) :: (a, seqObj "list" #[] e1) :: pins) σ H s) (e : Ex B H) (Ma : Mine X a) (Mk : Mine X kS) (hka : kS ≠ a) (hpa : ∀ p ∈ X.pn ++ pins, p.1 ≠ a) (hpk : ∀ p ∈ X.pn ++ pins, p.1 ≠ kS)
    (rv : Vals xs its) (ra : RepA X.K B xs ds) (hk : keysM m ds = some ks) (hZ : its.length ≤ sizeLine) (hz : sortOn ks ds = some zs)
    (h : ∀ B1 H1 ys s', Inv X pins σ (upd H1 a (.lst ys)) s' → Pu B H B1 H1 → H1 a = none → RepA X.K B1 ys zs → P (.done (.ret .none)) s') :
    wpAny (model X.prog X.w) X.A.in1.in1 (ksk_rest a (.ref f) false its.toArray e1 (.ref kS)) P E s := by
  have hkl := keysM_len hk
  have hil : its.length = ds.length := by
    have h1 := rv.length
    have h2 := ra.length
    omega
  unfold ksk_rest
  refine wpAny_bind (wpAny_rule ?_)
  first
    | rw [List.forIn_toArray]
    | (rw [← Array.forIn_toList]; simp only [List.toList_toArray])
    | rw [← Array.forIn_toList]
  refine wpAny_bind (ksk_fold (fun i s' => ∃ (B1 H1 : Hp) (kA : Array Value) (c : Nat) (kvs : List V), Inv X ((kS, seqObj "list" kA c) :: (a, seqObj "list" #[] e1) :: pins) σ H1 s' ∧ Pu B H B1 H1 ∧ Vals kvs kA.toList ∧ RepA X.K B1 kvs (ks.take i)) its 0 s
    ⟨B, H, #[], 0, [], I, Pu.refl e, .nil, by rw [List.take_zero]; exact .nil⟩ ?step ?done)
  case step =>
    rintro j u s' hu ⟨B1, H1, kA, c, kvs, I', pu, hv, hrp⟩
    simp only [Nat.zero_add] at hrp ⊢
    obtain ⟨x, hx, hxu⟩ := vals_getB rv hu
    obtain ⟨d, hd, hrd⟩ := ra.getV hx
    obtain ⟨kd, hkd, hmk⟩ := keysM_get hk hd
    refine wpAny_bind (wpAny_attempt ?_)
    refine run_key F hb (show Room (k + 1) X.A.in1 from Room.in1 hr).in1 I'.env0.in1.in1 I' pu.bh hxu (hrd.mono pu.ext) hmk fun v u' s2 B2 H2 I2 rv2 pu2 rp2 => ?_
    try dsimp only
    have pk := I2.pin (kS, seqObj "list" kA c) (List.mem_append_right _ List.mem_cons_self)
    have s1 := Heap.SameBut.update s2.heap kS (Obj.mapSeq (·.push u'))
    obtain ⟨c2, hc2⟩ : ∃ c2, (s2.heap.update kS (Obj.mapSeq (·.push u'))).get? kS = some (seqObj "list" (kA.push u') c2) := ⟨_, get?_update_seq pk.1 (·.push u')⟩
    have hks : kA.size = (ks.take j).length := by
      have h1 := hv.length
      have h2 := hrp.length
      have h0 : kA.toList.length = kA.size := Array.length_toList
      omega
    have hj : j < its.length := (List.getElem?_eq_some_iff.mp hu).1
    have hkj : kA.size ≤ its.length := by
      rw [hks, List.length_take]
      omega
    refine wpAny_bind (listUpdate_at pk.1 rfl ?_ (Nat.le_trans hkj hZ) (by
      show (kA.push u').size ≤ _
      rw [Array.size_push]
      omega))
    have ek : ks.take (j + 1) = ks.take j ++ [kd] := by rw [List.take_add_one, hkd]; simp
    refine wpAny_pure ⟨rfl, B2, H2, kA.push u', c2, kvs ++ [v], Inv.turnAt I2 Mk (fun p hp => ?_) (fun b u hb q => (s1.2 b hb).trans q) hc2 not_cell, pu.trans pu2, ?_, ?_⟩
    · rcases List.mem_append.mp hp with hp | hp
      · exact hpk p (List.mem_append_left _ hp)
      · rcases List.mem_cons.mp hp with rfl | hp
        · exact Ne.symm hka
        · exact hpk p (List.mem_append_right _ hp)
    · rw [Array.toList_push]
      exact hv.append (.cons rv2 .nil)
    · rw [ek]
      exact (hrp.mono pu2.ext).snoc rp2
  case done =>
    rintro s' ⟨B1, H1, kA, c, kvs, I', pu, hv, hrp⟩
    have e3 : ks.take (0 + its.length) = ks := List.take_of_length_le (by omega)
    rw [e3] at hrp
    have pk := I'.pin (kS, seqObj "list" kA c) (List.mem_append_right _ List.mem_cons_self)
    have pa := I'.pin (a, seqObj "list" #[] e1) (List.mem_append_right _ (List.mem_cons_of_mem _ List.mem_cons_self))
    try dsimp only
    refine wpAny_bind (listItems_at pk.1 rfl ?_)
    refine end_key I' pu.bh Ma Mk hka hpa hpk hv hrp rv (ra.mono pu.ext) hkl hZ hz fun H2 ys s2 I2 _ ry => h B1 H1 ys s2 I2 pu pa.2.1 ry
theorem sorted_key {k : Nat} {f : Addr} {fd : FuncData} {ps : List Str} {m : List D → Option D} (F : FnOk X.prog X.w X.K X.mg X.base CX0 k f fd ps (spD X.K 1 m)) (hb : Binds X.K fd ps []) (hr : Room (k + 2) X.A)
    {l : Addr} {xs : List V} {ds ks zs : List D} {Q : VK} (I : Inv X pins σ H s) (e : Ex B H) (hl : SqL X.K H l xs) (ra : RepA X.K B xs ds) (hk : keysM m ds = some ks) (hz : sortOn ks ds = some zs)
    (q : ∀ p B1 H1 ys, Pu B H B1 H1 → H p = none → H1 p = none → RepA X.K B1 ys zs → Q (.ref p) (upd H1 p (.lst ys))) :
    wpAny (model X.prog X.w) X.A (call (.builtin "sorted") [.ref l] [(Str.ofString "key", .ref f)]) (EP X pins σ Q) X.xe s := by
  obtain ⟨its, rv, hpl, hsz0⟩ := I.list hl
  have hZ : its.length ≤ sizeLine := by rw [← rv.length]; exact hsz0
  refine call_function_entry_kw kind_sorted plain_sorted entry_sorted (ksk_s1 _ _) ?_
  unfold Builtin.«sorted»
  refine wpAny_bind (m := checkCount "sorted" 1 1 _) (wpAny_pure ?_)
  refine wpAny_bind (collect_list hpl.isList ?_ hZ)
  refine wpAny_bind (wpAny_newList ?_ hZ)
  have hsz : ((s.heap.push (seqObj "list" #[] 0)).update s.heap.objs.size (Obj.mapSeq (· ++ its.toArray))).objs.size = s.heap.objs.size + 1 := by
    rw [Heap.size_update, size_push']
  have hoL : (((s.heap.push (seqObj "list" #[] 0)).update s.heap.objs.size (Obj.mapSeq (· ++ its.toArray))).push (seqObj "list" its.toArray 0)).get? (s.heap.objs.size + 1) = some (seqObj "list" its.toArray 0) := by
    rw [← hsz]; exact Heap.get?_push_size _ rfl
  have keep : ∀ b o, s.heap.get? b = some o → (((s.heap.push (seqObj "list" #[] 0)).update s.heap.objs.size (Obj.mapSeq (· ++ its.toArray))).push (seqObj "list" its.toArray 0)).get? b = some o := fun b o q => by
    have hlt : b < s.heap.objs.size := Heap.lt_size q
    rw [Heap.get?_push_ne _ _ _ (by rw [hsz]; exact Nat.ne_of_lt (Nat.lt_succ_of_lt hlt)), Heap.get?_update_ne _ _ _ _ (Nat.ne_of_lt hlt), Heap.get?_push_ne _ _ _ (Nat.ne_of_lt hlt)]
    exact q
  have hsz1 : (((s.heap.push (seqObj "list" #[] 0)).update s.heap.objs.size (Obj.mapSeq (· ++ its.toArray))).push (seqObj "list" its.toArray 0)).objs.size = s.heap.objs.size + 2 := by
    rw [size_push', hsz]
  show wpAny _ _ _ _ _ { s with heap := ((s.heap.push (seqObj "list" #[] 0)).update s.heap.objs.size (Obj.mapSeq (· ++ its.toArray))).push (seqObj "list" its.toArray 0) }
  rw [hsz]
  generalize ((s.heap.push (seqObj "list" #[] 0)).update s.heap.objs.size (Obj.mapSeq (· ++ its.toArray))).push (seqObj "list" its.toArray 0) = h1 at hoL keep hsz1 ⊢
  refine wpAny_bind (wpAny_holding (wpAny_call_entry_kw slot_list_sort ⟨_, hoL, rfl⟩ entry_list_sort ?body (ksk_l1 _ _)))
  case body =>
    have ht := ksk_t1 f (s.heap.objs.size + 1)
    show wpAny (model X.prog X.w) X.A.in1.in1 (Builtin.«list.sort» ⟨[.ref (s.heap.objs.size + 1)], [(Str.ofString "key", .ref f)]⟩) _ _ _
    rw [ht]
    have Ma : Mine X (s.heap.objs.size + 1) := Mine.of I (Nat.le_succ _)
    have s1 := Heap.SameBut.update h1 (s.heap.objs.size + 1) (Obj.mapSeq fun _ => (#[] : Array Value))
    obtain ⟨e1, ho1⟩ : ∃ e1, (h1.update (s.heap.objs.size + 1) (Obj.mapSeq fun _ => (#[] : Array Value))).get? (s.heap.objs.size + 1) = some (seqObj "list" #[] e1) := ⟨_, get?_update_seq hoL fun _ => #[]⟩
    have hkS : ((h1.update (s.heap.objs.size + 1) (Obj.mapSeq fun _ => (#[] : Array Value))).push (seqObj "tuple" its.toArray 0)).objs.size = s.heap.objs.size + 3 := by rw [size_push', Heap.size_update, hsz1]
    unfold ksk_tree
    refine wpAny_bind (listItems_at hoL rfl ?_)
    refine wpAny_bind (listUpdate_at hoL rfl ?_ (by rw [List.size_toArray]; exact hZ) (Nat.zero_le _))
    refine wpAny_bind (seqEpoch_at ho1 rfl ?_)
    refine wpAny_bind (wpAny_newTuple ?_ (by show its.length ≤ _; exact hZ))
    refine wpAny_bind (wpAny_newList ?_ (Nat.zero_le _))
    refine wpAny_holding ?_
    have Mk : Mine X (s.heap.objs.size + 3) := Mine.of I (by omega)
    have keep4 : ∀ b o, s.heap.get? b = some o → (((h1.update (s.heap.objs.size + 1) (Obj.mapSeq fun _ => (#[] : Array Value))).push (seqObj "tuple" its.toArray 0)).push (seqObj "list" #[] 0)).get? b = some o := fun b o q => by
      have hlt : b < s.heap.objs.size := Heap.lt_size q
      refine Heap.get?_push_of_some _ (Heap.get?_push_of_some _ ?_)
      exact (s1.2 b (Nat.ne_of_lt (Nat.lt_succ_of_lt hlt))).trans (keep b o q)
    have ha4 : (((h1.update (s.heap.objs.size + 1) (Obj.mapSeq fun _ => (#[] : Array Value))).push (seqObj "tuple" its.toArray 0)).push (seqObj "list" #[] 0)).get? (s.heap.objs.size + 1) = some (seqObj "list" #[] e1) :=
      Heap.get?_push_of_some _ (Heap.get?_push_of_some _ ho1)
    have hk4 : (((h1.update (s.heap.objs.size + 1) (Obj.mapSeq fun _ => (#[] : Array Value))).push (seqObj "tuple" its.toArray 0)).push (seqObj "list" #[] 0)).get? (s.heap.objs.size + 3) = some (seqObj "list" #[] 0) := by
      rw [← hkS]
      exact Heap.get?_push_size _ rfl
    have lt_pin : ∀ p ∈ X.pn ++ pins, p.1 < s.heap.objs.size := fun p hp => Heap.lt_size (I.pin p hp).1
    have ek : (Value.ref ((h1.update (s.heap.objs.size + 1) (Obj.mapSeq fun _ => (#[] : Array Value))).push (seqObj "tuple" its.toArray 0)).objs.size) = Value.ref (s.heap.objs.size + 3) := by rw [hkS]
    show wpAny (model X.prog X.w) X.A.in1.in1 (ksk_rest (s.heap.objs.size + 1) (.ref f) false its.toArray e1 (Value.ref ((h1.update (s.heap.objs.size + 1) (Obj.mapSeq fun _ => (#[] : Array Value))).push (seqObj "tuple" its.toArray 0)).objs.size)) _ _ { s with heap := ((h1.update (s.heap.objs.size + 1) (Obj.mapSeq fun _ => (#[] : Array Value))).push (seqObj "tuple" its.toArray 0)).push (seqObj "list" #[] 0) }
    rw [ek]
    have I4 : Inv X ((s.heap.objs.size + 3, seqObj "list" #[] 0) :: (s.heap.objs.size + 1, seqObj "list" #[] e1) :: pins) σ H { s with heap := ((h1.update (s.heap.objs.size + 1) (Obj.mapSeq fun _ => (#[] : Array Value))).push (seqObj "tuple" its.toArray 0)).push (seqObj "list" #[] 0) } :=
      (I.kept (t' := s.toks) keep4).pins_of fun p hp => by
        rcases List.mem_cons.mp hp with rfl | hp
        · exact ⟨hk4, I.hok.fresh (by show _ ≤ s.heap.objs.size + 3; omega), Mk.loc, Mk.fs, not_cell⟩
        · rcases List.mem_cons.mp hp with rfl | hp
          · exact ⟨ha4, I.hok.fresh (by show _ ≤ s.heap.objs.size + 1; omega), Ma.loc, Ma.fs, not_cell⟩
          · have z := I.pin p (List.mem_append_right _ hp)
            exact ⟨keep4 _ _ z.1, z.2⟩
    refine rest_key F hb hr I4 e Ma Mk (fun z => absurd (Nat.add_left_cancel z) (by decide)) (fun p hp => Nat.ne_of_lt (Nat.lt_succ_of_lt (lt_pin p hp))) (fun p hp => Nat.ne_of_lt (Nat.lt_of_lt_of_le (lt_pin p hp) (Nat.le_add_right _ 3))) rv ra hk hZ hz fun B1 H1 ys s2 I2 pu hn ry => ⟨_, rfl, ?_⟩
    exact wpAny_pure ⟨_, rfl, .ref (s.heap.objs.size + 1), _, I2, rfl, q _ B1 H1 ys pu (I.hok.fresh (Nat.le_succ _)) hn ry⟩
end
end DR

set_option maxRecDepth 100000
set_option maxHeartbeats 1000000
namespace DR
open PySem PySem.Spec L2
open PyProof.Rows hiding St
open Evl (Ex ex_l ex_t ex_rd)

/-! ### texts in order -/
def sLt (x y : Str) : Bool := ltCps x.cps.toList y.cps.toList
theorem sLt_irrefl (x : Str) : sLt x x = false := by unfold sLt; rw [ltCps_eq]; simp
theorem sLt_trans {x y z : Str} (h1 : sLt x y = true) (h2 : sLt y z = true) : sLt x z = true := by
  unfold sLt at *
  rw [ltCps_eq, decide_eq_true_iff] at *
  exact List.lt_trans h1 h2
theorem sLt_total {x y : Str} (h1 : sLt x y = false) (h2 : sLt y x = false) : x = y := by
  unfold sLt at *
  rw [ltCps_eq, decide_eq_false_iff_not] at *
  have : x.cps.toList = y.cps.toList := List.le_antisymm (List.not_lt.mp h2) (List.not_lt.mp h1)
  cases x
  cases y
  simp_all [Array.ext_iff]
theorem sLt_neg {x y z : Str} (h : sLt x z = true) : sLt x y = true ∨ sLt y z = true := by
  cases h1 : sLt x y with
  | true => exact .inl rfl
  | false =>
    refine .inr ?_
    cases h2 : sLt y x with
    | true => exact sLt_trans h2 h
    | false => rw [← sLt_total h1 h2]; exact h
theorem sLe_trans {x y z : Str} (h1 : sLt y x = false) (h2 : sLt z y = false) : sLt z x = false := by
  cases h : sLt z x with
  | false => rfl
  | true =>
    rcases sLt_neg (y := y) h with q | q
    · rw [h2] at q; cases q
    · rw [h1] at q; cases q
theorem sLt_asym {x y : Str} (h : sLt x y = true) : sLt y x = false := by
  cases q : sLt y x with
  | false => rfl
  | true =>
    have := sLt_trans h q
    rw [sLt_irrefl] at this
    cases this
theorem swo_s : SrtO.Swo sLt := ⟨fun _ _ h => sLt_asym h, fun _ _ _ h1 h2 => sLe_trans h1 h2⟩
theorem risingS_pw : ∀ (p : Str) (l : List Str), risingS p l = true → (∀ x ∈ l, sLt x p = false) ∧ l.Pairwise fun a b => sLt b a = false
  | p, [], _ => ⟨fun _ h => (nomatch h), List.Pairwise.nil⟩
  | p, x :: r, h => by
    obtain ⟨h1, h2⟩ := Bool.and_eq_true_iff.mp (show (!ltCps x.cps.toList p.cps.toList && risingS x r) = true from h)
    have h1' : sLt x p = false := by simpa [sLt] using h1
    obtain ⟨h3, h4⟩ := risingS_pw x r h2
    refine ⟨fun y hy => ?_, .cons h3 h4⟩
    rcases List.mem_cons.mp hy with rfl | hy
    · exact h1'
    · exact sLe_trans h1' (h3 y hy)
theorem sortedS_pw : ∀ (l : List Str), sortedS l = true → l.Pairwise fun a b => sLt b a = false
  | [], _ => .nil
  | x :: r, h => .cons (risingS_pw x r h).1 (risingS_pw x r h).2
def sortSt (xs : List Str) : List Str := isort sLt xs
theorem isort_perm {α : Type} (lt : α → α → Bool) (l : List α) : (isort lt l).Perm l := by
  have ins : ∀ (x : α) (l : List α), (insB lt x l).Perm (x :: l) := fun x l => by
    induction l with
    | nil => exact .refl _
    | cons y r ih =>
      unfold insB
      split
      · exact .refl _
      · exact (List.Perm.cons y ih).trans (.swap ..)
  have go : ∀ (l acc : List α), (l.foldl (fun acc x => insB lt x acc) acc).Perm (acc ++ l) := fun l => by
    induction l with
    | nil => intro acc; simp
    | cons x r ih =>
      intro acc
      refine (ih _).trans ?_
      refine ((ins x acc).append_right r).trans ?_
      exact (List.perm_middle (l₁ := acc) (l₂ := r) (a := x)).symm
  exact go l []
theorem sortSt_srtd (xs : List Str) : (sortSt xs).Pairwise fun a b => sLt b a = false := isort_srtd swo_s xs
theorem sortSt_eq {xs ys : List Str} (p : ys.Perm xs) (h : ys.Pairwise fun a b => sLt b a = false) : ys = sortSt xs :=
  List.Perm.eq_of_pairwise (le := fun a b => sLt b a = false) (fun a b _ _ h1 h2 => sLt_total h2 h1) h (sortSt_srtd xs) (p.trans (isort_perm _ _).symm)
theorem rep_strs {K : PySem.W.Frag} {B : Hp} : ∀ {xs : List Str}, RepA K B (xs.map V.str) (xs.map PyData.str)
  | [] => .nil
  | _ :: _ => .cons (.str _) rep_strs
def sortedSD : List D → Option D
  | [.list ds] => (strsD ds).bind fun xs => if xs.length < 64 then some (.list ((sortSt xs).map .str)) else none
  | _ => none
theorem rn_sortedS {K : PySem.W.Frag} : RNew .flat K (RepA K) (rSortedS K) sortedSD := by
  intro vs ds dz B H e r hg Q q
  match ds, hg with
  | [.list xs], hg =>
    obtain ⟨ss, h1, h2⟩ := Option.bind_eq_some_iff.mp (show (strsD xs).bind _ = some dz from hg)
    obtain ⟨hl, rfl⟩ := opt_if h2
    obtain ⟨v, rfl, rv⟩ := repA1 r
    obtain ⟨a, ws, rfl, ha, ra⟩ := rep_lst rv
    rw [strsD_eq h1] at ra
    rw [repA_strs_of ra] at ha
    refine ⟨a, ss, rfl, .inl (ex_rd e ha), hl, fun ys p hp hs hn => ?_⟩
    rw [sortSt_eq hp (sortedS_pw ys hs)]
    exact q p B H _ (Pu.refl e) hn hn (Own.lst1 rep_strs)
/-- sorted(d): the keys of a dict -/
def keysS : List (D × D) → Option (List Str)
  | [] => some []
  | (.str x, _) :: r => (keysS r).map (x :: ·)
  | _ => none
theorem keysS_rep {K : PySem.W.Frag} {B : Hp} : ∀ {kvs : List (Key × V)} {ps : List (D × D)} {ks : List Str}, RepK K B kvs ps → keysS ps = some ks → kvs.map (·.1) = ks.map Sum.inr
  | _, _, _, .nil, h => by cases h; rfl
  | (k, _) :: kvs, _, ks, .cons r t, h => by
    cases k with
    | inl i => cases h
    | inr x =>
      obtain ⟨l, h1, rfl⟩ := Option.map_eq_some_iff.mp (show (keysS _).map (x :: ·) = some ks from h)
      rw [List.map_cons, keysS_rep t h1]
      rfl
def sortedDD : List D → Option D
  | [.dict ps] => (keysS ps).bind fun xs => if xs.length < 64 then some (.list ((sortSt xs).map .str)) else none
  | _ => none
theorem rn_sortedD {K : PySem.W.Frag} : RNew .flat K (RepA K) (fun xs H Q => ∃ (a : Addr) (kvs : List (Key × V)) (ks : List Str), xs = [.ref a] ∧ Rd H a (.dK kvs) ∧ kvs.map (·.1) = ks.map Sum.inr ∧ ks.length < 64 ∧
    ∀ ys p, ys.Perm ks → sortedS ys = true → H p = none → Q (.ref p) (upd H p (.lst (ys.map V.str)))) sortedDD := by
  intro vs ds dz B H e r hg Q q
  match ds, hg with
  | [.dict xs], hg =>
    obtain ⟨ss, h1, h2⟩ := Option.bind_eq_some_iff.mp (show (keysS xs).bind _ = some dz from hg)
    obtain ⟨hl, rfl⟩ := opt_if h2
    obtain ⟨v, rfl, rv⟩ := repA1 r
    obtain ⟨a, ws, rfl, ha, _, ra⟩ := rep_dct rv
    refine ⟨a, ws, ss, rfl, .inl (e _ _ ha), keysS_rep ra h1, hl, fun ys p hp hs hn => ?_⟩
    rw [sortSt_eq hp (sortedS_pw ys hs)]
    exact q p B H _ (Pu.refl e) hn hn (Own.lst1 rep_strs)
/-! ### sorted(e, key=f) -/
def sortKD (m : List D → Option D) : List D → Option D
  | [.list ds] => (keysM m ds).bind fun ks => (sortOn ks ds).map .list
  | _ => none
def rSortK (K : PySem.W.Frag) (m : List D → Option D) (f : Addr) : List V → List V → Hp → VK → Prop := fun xs zs H Q => ∃ (l : Addr) (vs : List V) (B : Hp) (ds ks es : List D), xs = [.ref l] ∧ zs = [.ref f] ∧ Ex B H ∧ SqL K H l vs ∧ RepA K B vs ds ∧ keysM m ds = some ks ∧ sortOn ks ds = some es ∧
  ∀ p B1 H1 ys, Pu B H B1 H1 → H p = none → H1 p = none → RepA K B1 ys es → Q (.ref p) (upd H1 p (.lst ys))
section
variable {X : Cx} {c : Cf} {te : TE} {fe : DM D} {e : Expr} {x y : Str} {pos p kp kpos : Pos} {k j : Nat} {ps : List Str} {m : List D → Option D}
theorem cr_sortK {f : Addr} {fd : FuncData} (F : FnOk X.prog X.w X.K X.mg X.base CX0 k f fd ps (spD X.K 1 m)) (hb : Binds X.K fd ps []) (hr : Room (k + 2) X.A) : CallRK X (.builtin "sorted") [Str.ofString "key"] (rSortK X.K m f) := by
  intro pins s σ H xs zs us ws Q I rx rz h
  obtain ⟨l, vs, B, ds, ks, es, rfl, rfl, hB, hl, ra, hk, hs, q⟩ := h
  obtain rfl := Vals.ref1 rx
  obtain rfl := Vals.ref1 rz
  exact sorted_key F hb hr I hB hl ra hk hs q
def fAd (mg : Str → Option Value) (y : Str) : Addr := match mg y with
  | some (.ref f) => f
  | _ => 0
theorem fAd_eq {mg : Str → Option Value} {y : Str} {f : Addr} (h : mg y = some (.ref f)) : fAd mg y = f := by
  unfold fAd
  rw [h]
theorem pdn_sortK (C : CallOk X.prog X.w X.K X.mg X.base y j ps (spD X.K 1 m)) (hr : Room k X.A) (ha : PD X c e te fe) (hmb : X.mg "sorted" = none) (hjk : j + 2 ≤ k := by decide) (hg : Gl X "sorted" := by rfl) (hgy : Gl X y := by rfl) (hdy : (y == ("__debug__" : Str)) = false := by decide)
    (hse : starEach [e] X.env = (false, eval e X.env) :: starEach [] X.env := by rfl)
    (he : backTo pos (starEach [e] X.env) = (false, eval e X.env) :: backTo pos (starEach [] X.env) := by rfl) (hpl : (backTo pos (starEach [e] X.env)).any (·.1) = false := by rfl)
    (hall : (backToKw pos (keywordEach [⟨some "key", .Name y kp, kpos⟩] X.env)).all (·.1.isSome) = true := by rfl) (hnone : (backToKw pos (keywordEach [⟨some "key", .Name y kp, kpos⟩] X.env)).any (·.1.isNone) = false := by rfl) (hks : (backToKw pos (keywordEach [⟨some "key", .Name y kp, kpos⟩] X.env)).filterMap (·.1) = [Str.ofString "key"] := by rfl) :
    PDN .flat X c (.Call (.Name "sorted" p) [e] [⟨some "key", .Name y kp, kpos⟩] pos) (tCKw (rSortK X.K m (fAd X.mg y)) (tCons te tNil) (tCons (tC (.ref (fAd X.mg y))) tNil)) (fe.bind fun d => DM.opt (sortKD m [d])) := by
  obtain ⟨f, fd, F, hm, hk, hb⟩ := C
  rw [fAd_eq hm]
  refine ⟨pe_callBK (cr_sortK F hb (hr.mono hjk)) hg hmb (by decide +kernel) (pa_cons ha.pe pa_nil hse) (pk_cons (pe_glob (v := .ref f) hgy hm rfl hdy) pk_nil) (by decide) (by decide) he hpl hall hnone hks, ?_⟩
  refine evn_val (r := fun x H Q => rSortK X.K m f [x] [.ref f] H Q) ha.ev fun v b dz B H ex rv hg Q q => ?_
  unfold sortKD at hg
  split at hg
  · rename_i ds hb
    cases hb
    obtain ⟨ks, h1, h2⟩ := Option.bind_eq_some_iff.mp hg
    obtain ⟨es, h3, rfl⟩ := Option.map_eq_some_iff.mp h2
    obtain ⟨a, ws, rfl, ha, ra⟩ := rep_lst rv
    exact ⟨a, ws, B, ds, ks, es, rfl, rfl, ex, .inl (ex_rd ex ha), ra, h1, h3, fun p B1 H1 ys pu h4 h5 ry => q p B1 H1 _ pu h4 h5 (Own.lst1 ry)⟩
  · cases hg
end
end DR

set_option maxRecDepth 100000
set_option maxHeartbeats 1000000
namespace DR
open PySem PySem.Spec L2
open PyProof.Rows hiding St
open Evl (Ex ex_l ex_t ex_rd)

/-! ### is None -/
def isNo : D → Bool
  | .none => true
  | _ => false
theorem rep_isNo {K : PySem.W.Frag} {B : Hp} {v : V} {d : D} (r : Rep K B v d) : decide (v = .non) = isNo d := by
  cases r <;> simp [isNo]
def isNoD : D → D → Option D
  | d, .none => some (.bool (isNo d))
  | _, _ => none
def notNoD : D → D → Option D
  | d, .none => some (.bool (!isNo d))
  | _, _ => none
theorem rd2_isN {K : PySem.W.Frag} : RD2 K rIsN isNoD := fun x y dx dy dz B H e rx ry hg Q q => by
  cases dy <;> first | (cases hg; done) | skip
  cases hg
  cases ry
  exact ⟨rfl, by rw [rep_isNo rx]; exact q _ B H (Pu.refl e) (.bl _)⟩
theorem rd2_notN {K : PySem.W.Frag} : RD2 K rNotN notNoD := fun x y dx dy dz B H e rx ry hg Q q => by
  cases dy <;> first | (cases hg; done) | skip
  cases hg
  cases ry
  exact ⟨rfl, by rw [rep_isNo rx]; exact q _ B H (Pu.refl e) (.bl _)⟩
/-! ### index -/
def idxD : D → List D → Option D
  | .list ds, [d] => if SeqAt.shaped (.list ds) = true ∧ SeqAt.shaped d = true then (ds.findIdx? fun z => PyData.eqv z d).map (fun j : Nat => PyData.int (j : Int)) else none
  | _, _ => none
def idxS (ss : List Str) : List D → Option D
  | [.str z] => (ss.findIdx? fun y => decide (y = z)).map (fun j : Nat => PyData.int (j : Int))
  | _ => none
theorem findIdx_at {α : Type} {p : α → Bool} : ∀ {l : List α} {j : Nat}, l.findIdx? p = some j → (∃ z, l[j]? = some z ∧ p z = true) ∧ ∀ (m : Nat) (z : α), m < j → l[m]? = some z → p z = false
  | [], j, h => by simp at h
  | a :: l, j, h => by
    rw [List.findIdx?_cons] at h
    split at h
    · rename_i hp
      cases h
      exact ⟨⟨a, rfl, hp⟩, fun m z hm => by omega⟩
    · rename_i hp
      obtain ⟨k, hk, rfl⟩ := Option.map_eq_some_iff.mp h
      obtain ⟨⟨z, h1, h2⟩, h3⟩ := findIdx_at hk
      refine ⟨⟨z, by simpa using h1, h2⟩, fun m y hm hy => ?_⟩
      cases m with
      | zero =>
        cases (show some a = some y from by simpa using hy)
        simpa using hp
      | succ m => exact h3 m y (by omega) (by simpa using hy)
/-- a tuple of texts of the module -/
def tupB (K : PySem.W.Frag) (x : Str) : Bool := match K.lookup (He.ga K x) with
  | some o => (match o.cls with | .type t => t == "tuple" | _ => false) && o.dict.isNone
  | none => false
def TupG (K : PySem.W.Frag) (x : Str) : Prop := ∃ o, K.lookup (He.ga K x) = some o ∧ o.cls = .type "tuple" ∧ o.dict = none
theorem tupB_ok {K : PySem.W.Frag} {x : Str} (h : tupB K x = true) : TupG K x := by
  unfold tupB at h
  split at h
  · rename_i o e
    obtain ⟨h1, h2⟩ := Bool.and_eq_true_iff.mp h
    split at h1
    · rename_i t et
      rw [beq_iff_eq] at h1
      subst h1
      refine ⟨o, e, et, ?_⟩
      cases q : o.dict with
      | none => rfl
      | some z =>
        rw [q] at h2
        cases h2
    · cases h1
  · cases h
def dOnL (d : D) (f : DM D) : DM D := match d with
  | .list _ => f
  | _ => fun _ => none
def dindex (fo fe : DM D) : DM D := fo.bind fun d => dOnL d (fe.bind fun y => DM.opt (idxD d [y]))
section
variable {X : Cx} {c : Cf} {to te : TE} {fo fe : DM D} {o e : Expr} {x : Str} {p apos cpos : Pos}
theorem ev_index (ho : EvD X.K c to fo) (he : EvD X.K c te fe) : EvD X.K c (tBM X.K "list" (rIndexD X.K) to (tCons te tNil)) (dindex fo fe) := by
  refine EvP.bind (relA := Rep X.K) (relC := Rep X.K) (tk := fun x σ H Q => tyV X.K "list" x H ∧ te σ H fun y H2 => rIndexD X.K x [y] H2 Q) mono_true ho fun x dx => ?_
  intro A Z B σ H st r er hp hf Q hok hex
  unfold dOnL at hf
  split at hf
  · rename_i ds
    obtain ⟨a, vs, rfl, ha, ra⟩ := rep_lst hp.2
    refine ⟨.inl ⟨rfl, vs, .inl (ex_rd er.bh ha)⟩, ?_⟩
    refine EvP.bind (P := fun B => True ∧ Rep X.K B (.ref a) (.list ds)) (relA := Rep X.K) (relC := Rep X.K) (tk := fun y σ H Q => rIndexD X.K (.ref a) [y] H Q) (mono_true.and (monoR_rep _ _)) (he.weak fun _ _ => True.intro) (fun y dy => ?_) A Z B σ H st r er hp hf Q hok hex
    exact EvP.val (t := fun H Q => rIndexD X.K (.ref a) [y] H Q) fun B H dz e p hg Q q => by
      have hg' : (if SeqAt.shaped (.list ds) = true ∧ SeqAt.shaped dy = true then (ds.findIdx? fun z => PyData.eqv z dy).map (fun j : Nat => PyData.int (j : Int)) else none) = some dz := hg
      split at hg'
      case isFalse => cases hg'
      rename_i hs
      obtain ⟨j, hj, rfl⟩ := Option.map_eq_some_iff.mp hg'
      obtain ⟨⟨z, h1, h2⟩, h3⟩ := findIdx_at hj
      exact ⟨a, y, _, ds, j, z, rfl, rfl, dp_of e p.1.2 hs.1, dp_of e p.2 hs.2, hs.1, hs.2, h1, h2, h3, q _ B H (Pu.refl e) (.int _)⟩
  · cases hf
theorem pd_index (hu : X.A.units + 65 < cLine) (ho : PD X c o to fo) (he : PD X c e te fe)
    (hbase : attributeBase o "index" X.env (eval o X.env) = eval o X.env := by rfl)
    (hfew : ((backTo cpos (starEach (e :: []) X.env)).all (fun x => !x.1) && (backToKw cpos (keywordEach [] X.env)).all (fun x => x.1.isSome) && decide ((e :: ([] : List Expr)).length + ([] : List Keyword).length + (if ([] : List Keyword).isEmpty then 0 else 1) < 30)) = true := by rfl)
    (hline : (apos.endLine == cpos.line) = true := by rfl) (hse : starEach [e] X.env = (false, eval e X.env) :: starEach [] X.env := by rfl) (hplain : (backTo cpos (starEach [] X.env)).any (·.1) = false := by rfl) :
    PD X c (.Call (.Attribute o "index" apos) [e] [] cpos) (tBM X.K "list" (rIndexD X.K) to (tCons te tNil)) (dindex fo fe) :=
  ⟨pe_bm PySem.F.plainAttrs_list PySem.F.slot_list_index PySem.F.type_list_index (mt_indexD hu) ho.pe (pa_cons he.pe pa_nil hse) hbase hfew hline hse hplain, ev_index ho.ev he.ev⟩
def rTupIx (K : PySem.W.Frag) : V → List V → Hp → VK → Prop := fun x xs H Q => ∃ p, ∃ ys : List Str, ∃ z j, x = .ref p ∧ xs = [.str z] ∧ SqT K H p (ys.map V.str) ∧ ys[j]? = some z ∧ (∀ m, m < j → ys[m]? ≠ some z) ∧ Q (.int (j : Nat)) H
theorem pd_tindex {ss : List Str} (hg : Gl X x) (hm : GloD X.K X.mg x (.tuple (ss.map .str))) (ht : TupG X.K x) (he : PD X c e te fe) (hd : (x == ("__debug__" : Str)) = false := by decide)
    (hbase : attributeBase (.Name x p) "index" X.env (eval (.Name x p) X.env) = eval (.Name x p) X.env := by rfl)
    (hfew : ((backTo cpos (starEach (e :: []) X.env)).all (fun x => !x.1) && (backToKw cpos (keywordEach [] X.env)).all (fun x => x.1.isSome) && decide ((e :: ([] : List Expr)).length + ([] : List Keyword).length + (if ([] : List Keyword).isEmpty then 0 else 1) < 30)) = true := by rfl)
    (hline : (apos.endLine == cpos.line) = true := by rfl) (hse : starEach [e] X.env = (false, eval e X.env) :: starEach [] X.env := by rfl) (hplain : (backTo cpos (starEach [] X.env)).any (·.1) = false := by rfl) :
    PD X c (.Call (.Attribute (.Name x p) "index" apos) [e] [] cpos) (tBM X.K "tuple" (rTupIx X.K) (tC (.ref (He.ga X.K x))) (tCons te tNil)) (fe.bind fun y => DM.opt (idxS ss [y])) := by
  obtain ⟨u, h1, h2, h3⟩ := hm
  refine ⟨pe_bm PySem.F.plainAttrs_tuple PySem.F.slot_tuple_index PySem.F.type_tuple_index mt_tup_index (pe_glob hg h1 h2 hd) (pa_cons he.pe pa_nil hse) hbase hfew hline hse hplain, ?_⟩
  intro A Z B σ H st r er hp hf Q hok hex
  refine ⟨.inr (.inl ⟨rfl, ht⟩), ?_⟩
  refine EvP.bind (relA := Rep X.K) (relC := Rep X.K) (tk := fun y σ H Q => rTupIx X.K (.ref (He.ga X.K x)) [y] H Q) mono_true he.ev (fun y dy => ?_) A Z B σ H st r er hp hf Q hok hex
  exact EvP.val (t := fun H Q => rTupIx X.K (.ref (He.ga X.K x)) [y] H Q) fun B H dz e p hg Q q => by
    unfold idxS at hg
    split at hg
    · rename_i z e1
      have e1 := (List.cons.inj e1).1
      subst e1
      obtain ⟨j, hj, rfl⟩ := Option.map_eq_some_iff.mp hg
      obtain ⟨⟨z', g1, g2⟩, g3⟩ := findIdx_at hj
      rw [decide_eq_true_iff] at g2
      subst g2
      obtain ⟨a, vs, e2, ha, ra⟩ := rep_tup (show Rep X.K H (.ref (He.ga X.K x)) (.tuple (ss.map .str)) from h3 H)
      cases e2
      rw [repA_strs_of ra] at ha
      refine ⟨_, ss, z', j, rfl, by rw [rep_str p.2], ha, g1, fun m hm hz => ?_, q _ B H (Pu.refl e) (.int _)⟩
      have := g3 m z' hm hz
      simp at this
    · cases hg
end
/-! ### str -/
def strOfD : List D → Option D
  | [.int i] => if i.natAbs.log2 < 1920 then some (.str (toString i)) else none
  | [.str x] => some (.str x)
  | _ => none
theorem CallR.or {X : Cx} {f : Value} {r r' : List V → Hp → VK → Prop} (h : CallR X f r) (h' : CallR X f r') : CallR X f (fun xs H Q => r xs H Q ∨ r' xs H Q) := by
  intro pins s σ H xs us Q I rx q
  rcases q with q | q
  · exact h pins s σ H xs us Q I rx q
  · exact h' pins s σ H xs us Q I rx q
def rStrA : List V → Hp → VK → Prop := fun xs H Q => (∃ i, xs = [.int i] ∧ i.natAbs.log2 < 1920 ∧ Q (.str (toString i)) H) ∨ ∃ a, xs = [.str a] ∧ Q (.str a) H
theorem call_strA {X : Cx} : CallR X (.type "str") rStrA := CallR.or call_str_int SkE.call_str_str
theorem rdc_str {K : PySem.W.Frag} : RDC K rStrA strOfD := by
  intro vs ds dz B H e ra hg Q q
  match ds, hg with
  | [.int i], hg =>
    obtain ⟨h1, rfl⟩ := opt_if hg
    obtain ⟨v, rfl, rv⟩ := repA1 ra
    exact .inl ⟨i, by rw [rep_int rv], h1, q _ B H (Pu.refl e) (.str _)⟩
  | [.str x], hg =>
    cases hg
    obtain ⟨v, rfl, rv⟩ := repA1 ra
    exact .inr ⟨x, by rw [rep_str rv], q _ B H (Pu.refl e) (.str _)⟩
/-! ### < of data of one make -/
def rLtDt (K : PySem.W.Frag) : R2 := fun x y H Q => ∃ d e, Dp K H x d ∧ Dp K H y e ∧ PySem.W.alike d e = true ∧ d ≠ .none ∧ min d.depth e.depth ≤ 64 ∧ Q (.bl (PySem.W.dataLt d e)) H
theorem op_ltDt {X : Cx} (hu : X.A.units + 65 < cLine) : OpR X (compareOp .Lt) (rLtDt X.K) := by
  intro pins s σ H x y v u Q I rx ry h
  obtain ⟨d, e, hd, he, ha, hn, hm, q⟩ := h
  obtain ⟨as, r1⟩ := Dp.reads I d x v hd rx
  obtain ⟨bs, r2⟩ := Dp.reads I e y u he ry
  exact PySem.W.lt_data r1 r2 ha hn (by omega) ⟨.bl _, H, I, rfl, q⟩
def ltDt (d e : D) : Option D := if SeqAt.shaped d = true ∧ SeqAt.shaped e = true ∧ PySem.W.alike d e = true ∧ isNo d = false ∧ min d.depth e.depth ≤ 64 then some (.bool (PySem.W.dataLt d e)) else none
theorem rd2_ltDt {K : PySem.W.Frag} : RD2 K (rLtDt K) ltDt := fun x y dx dy dz B H e rx ry hg Q q => by
  unfold ltDt at hg
  split at hg
  case isFalse => cases hg
  rename_i h
  obtain ⟨h1, h2, h3, h4, h5⟩ := h
  cases hg
  exact ⟨dx, dy, dp_of e rx h1, dp_of e ry h2, h3, (fun z => by subst z; cases h4), h5, q _ B H (Pu.refl e) (.bl _)⟩
end DR

set_option maxRecDepth 100000
set_option maxHeartbeats 1000000
namespace DR
open PySem PySem.Spec L2
open PyProof.Rows hiding St
open Evl (Ex ex_l ex_t ex_rd)

/-! ### defs that want no guards (repr) -/
def CallOkG (P : Program) (w : World) (K : PySem.W.Frag) (mg : Str → Option Value) (base : Heap) (x : Str) (k : Nat) (ps : List Str) (sp : Sp) : Prop :=
  ∃ (f : Addr) (fd : FuncData), FnOkG P w K mg base k f fd ps sp ∧ mg x = some (.ref f) ∧ PySem.W.keepIn K (.ref f) = true ∧ Binds K fd ps []
theorem FnOkG.mono {P : Program} {w : World} {K : PySem.W.Frag} {mg : Str → Option Value} {base : Heap} {j k : Nat} {f : Addr} {fd : FuncData} {ps : List Str} {sp : Sp} (F : FnOkG P w K mg base j f fd ps sp) (h : j ≤ k) : FnOkG P w K mg base k f fd ps sp :=
  ⟨F.len, fun A outer s H args us vs Q E hr => F.run A outer s H args us vs Q E (hr.mono h)⟩
section
variable {X : Cx} {k j n : Nat} {f : Addr} {fd : FuncData} {ps : List Str} {sp : Sp} {E : XK} {x y : Str} {p pos pp : Pos} {e : Expr} {es : List Expr} {t : TA}
theorem run_fnG {pins : List (Addr × Obj)} {σ : L2.St} {H : Hp} {s : Shared} {Q : VK} {us : List Value} {vs : List V} (F : FnOkG X.prog X.w X.K X.mg X.base k f fd ps sp) (hr : Room k X.A) (hgd : X.A.guards = some []) (hb : Binds X.K fd ps []) (hx : Passes CX0 X E)
    (I : Inv X pins σ H s) (r : Vals vs us) (h : sp (vs ++ []) H Q E) : wpAny (model X.prog X.w) X.A (call (.ref f) us) (EP X pins σ Q) X.xe s := by
  have r2 : Vals (vs ++ []) (us ++ []) := r.append .nil
  have hl : (us ++ []).length = ps.length := by rw [← r2.length]; exact F.len _ _ _ _ h
  refine wpAny_call (codeAny_mono (F.run X.A X.stack s H ⟨us, []⟩ (us ++ []) (vs ++ []) Q E hr hgd I.env0 (hb s us I.kIn hl) r2 h) fun r s' hq => ?_)
  cases r with
  | error e => exact hx pins σ H s e s' I hq
  | ok fl =>
    cases fl with
    | ret u => exact I.after hq
    | next => exact False.elim hq
    | brk => exact False.elim hq
    | cont => exact False.elim hq
theorem pe_callG (F : FnOkG X.prog X.w X.K X.mg X.base k f fd ps sp) (hr : Room k X.A) (hgd : X.A.guards = some []) (hg : Gl X x) (hm : X.mg x = some (.ref f)) (hk : PySem.W.keepIn X.K (.ref f) = true) (hb : Binds X.K fd ps []) (hx : Passes CX0 X E)
    (ha : PA X (e :: es) t) (hdb : (x == ("__debug__" : Str)) = false := by decide) (he : starEach (e :: es) X.env = (false, eval e X.env) :: starEach es X.env := by rfl) (hpl : (backTo pos (starEach es X.env)).any (·.1) = false := by rfl) :
    PE X (.Call (.Name x p) (e :: es) [] pos) (tCall sp [] E t) := by
  refine ⟨fun pins s σ H Q I h => ?_⟩
  refine wpAny_Call_Name_kw (ld_glob I hg hm ?_ hdb)
  refine PySem.W.callWith_K (h₀ := X.base) I.ok.mod.kin hk (thn (ha.run pos pins s σ H _ I h) fun us s1 ⟨vs, H1, I1, r, q⟩ => ⟨I1.kIn, ?_⟩) he hpl
  exact run_fnG F hr hgd hb hx I1 r q
variable {c : Cf} {fs : DM (List D)}
theorem pd_fnG {m : List D → Option D} (C : CallOkG X.prog X.w X.K X.mg X.base x j ps (spD X.K n m)) (hn : ∀ ds d, m ds = some d → ds.length = n) (hr : Room k X.A) (hgd : X.A.guards = some []) (ha : PDA X c (e :: es) t fs) (hjk : j ≤ k := by decide) (hg : Gl X x := by rfl)
    (hdb : (x == ("__debug__" : Str)) = false := by decide) (he : starEach (e :: es) X.env = (false, eval e X.env) :: starEach es X.env := by rfl) (hpl : (backTo pos (starEach es X.env)).any (·.1) = false := by rfl) :
    PD X c (.Call (.Name x p) (e :: es) [] pos) (tCall (spD X.K n m) [] E0 t) (dcall m fs) := by
  obtain ⟨f, fd, F, hm, hk, hb⟩ := C
  exact ⟨pe_callG F (hr.mono hjk) hgd hg hm hk hb pass0 ha.pa hdb he hpl, ev_call hn ha.ev⟩
theorem pdn_fnG {sh : Shp} {m : List D → Option D} (C : CallOkG X.prog X.w X.K X.mg X.base x j ps (spN sh X.K n m)) (hn : ∀ ds d, m ds = some d → ds.length = n) (hne : ∀ ds d, m ds = some d → d ≠ .none) (hr : Room k X.A) (hgd : X.A.guards = some []) (ha : PDA X c (e :: es) t fs) (hjk : j ≤ k := by decide) (hg : Gl X x := by rfl)
    (hdb : (x == ("__debug__" : Str)) = false := by decide) (he : starEach (e :: es) X.env = (false, eval e X.env) :: starEach es X.env := by rfl) (hpl : (backTo pos (starEach es X.env)).any (·.1) = false := by rfl) :
    PDN sh X c (.Call (.Name x p) (e :: es) [] pos) (tCall (spN sh X.K n m) [] E0 t) (dcall m fs) := by
  obtain ⟨f, fd, F, hm, hk, hb⟩ := C
  exact ⟨pe_callG F (hr.mono hjk) hgd hg hm hk hb pass0 ha.pa hdb he hpl, ev_callN hn hne ha.ev⟩
theorem pd_fnPG (i : Nat) {kd : Shp} {m : D → List D → Option (D × D)} (C : CallOkG X.prog X.w X.K X.mg X.base x j ps (spP kd X.K n m)) (hn : ∀ pd ds d, m pd ds = some d → ds.length = n) (hr : Room k X.A) (hgd : X.A.guards = some []) (ha : PDA X c es t fs) (hjk : j ≤ k := by decide) (hg : Gl X x := by rfl) (hi : i ∈ c.ps := by decide) (hkd : c.kd.getD i .flat = kd := by rfl) (hN : X.N[i]? = some y := by rfl) (hv : Vis X.env.scope y := by first | exact Or.inl rfl | exact Or.inr (Or.inl rfl) | exact Or.inr (Or.inr rfl)) (hd : (y == ("__debug__" : Str)) = false := by decide) (hcd : (y == ("__classdict__" : Str)) = false := by decide)
    (hdb : (x == ("__debug__" : Str)) = false := by decide) (he : starEach (.Name y pp :: es) X.env = (false, eval (.Name y pp) X.env) :: starEach es X.env := by rfl) (hpl : (backTo pos (starEach es X.env)).any (·.1) = false := by rfl) :
    PD X c (.Call (.Name x p) (.Name y pp :: es) [] pos) (tCall (spP kd X.K n m) [] E0 (tCons (tVar i) t)) (dcallP c.mx i m fs) := by
  obtain ⟨f, fd, F, hm, hk, hb⟩ := C
  exact ⟨pe_callG F (hr.mono hjk) hgd hg hm hk hb pass0 (pa_cons (pv i hN hv hd hcd) ha.pa he) hdb he hpl, ev_callP hi hkd hn ha.ev⟩
end
section
variable {P : Program} {w : World} {K : PySem.W.Frag} {mg : Str → Option Value} {base : Heap} {x qual : Str} {params : Arguments} {body : List Stmt} {scope : Scope} {f : Addr} {fd : FuncData}
theorem def_okG {N ps : List Str} {k n : Nat} {ow : List Nat} {kd : List Shp} {g : DT} (F : FunD K x qual params body scope [] [] f fd) (S : FnScope N ps scope) (hn : ps.length = n) (hc : ∀ i ∈ ow, n ≤ i)
    (hbody : ∀ (cdv : Value) (A : Around) (outer : List Env) (s : Shared) (H : Hp) (E : XK), Room k (A.deeper (envOfC qual scope s.heap.objs.size f cdv)) → A.guards = some [] →
      ∃ t, PDSs (cxOf CX0 P w K mg base N qual scope f cdv A outer s H E).nox ⟨ow, [], kd, none, W0⟩ body t g) : FnOkG P w K mg base (k + 1) f fd ps (spD K n (mOf N.length n g)) := by
  refine fnG_of F S (fun vs H Q E h => ?_) (fun cdv A outer s H vs Q E hr hgd h => ?_)
  · obtain ⟨B, ds, d, hlen, _⟩ := h
    exact hlen.trans hn.symm
  · obtain ⟨B, ds, d, hlen, e, r, hm, q⟩ := h
    obtain ⟨t, ht⟩ := hbody cdv A outer s H E hr hgd
    refine ⟨t, PSs.nox ht.ps, ?_⟩
    have hds : ds.length = n := mOf_len ds d hm
    unfold mOf at hm
    rw [if_pos hds] at hm
    have s0 := sr_start (K := K) (c := ⟨ow, [], kd, none, W0⟩) rfl (N := N) (offB_fr e) r (by rw [hds]; exact hc)
    cases eg : g (startD N.length ds) with
    | none =>
      rw [eg] at hm
      cases hm
    | some o =>
      refine ht.ev _ _ B B _ H _ o s0 eg _ (fun st' B' σ' H' e1 s1 => ?_) (fun st' B' σ' H' e1 s1 => ?_) (fun st' B' σ' H' e1 s1 => ?_) (fun d' st' v B' H' e1 rv => ?_) (fun y fl st' dx B' H' e1 fi fl1 => ?_)
      · subst e1
        rw [eg] at hm
        cases hm
        exact q .non B' H' (fin_pu e s1.fin) .non
      · subst e1
        rw [eg] at hm
        cases hm
      · subst e1
        rw [eg] at hm
        cases hm
      · subst e1
        rw [eg] at hm
        cases hm
        exact q v B' H' (fin_pu e rv.1) rv.2
      · subst e1
        rw [eg] at hm
        cases hm
theorem def_okNG {N ps : List Str} {k n : Nat} {ow : List Nat} {kd : List Shp} {g : DT} {sh : Shp} (F : FunD K x qual params body scope [] [] f fd) (S : FnScope N ps scope) (hn : ps.length = n) (hc : ∀ i ∈ ow, n ≤ i)
    (hbody : ∀ (cdv : Value) (A : Around) (outer : List Env) (s : Shared) (H : Hp) (E : XK), Room k (A.deeper (envOfC qual scope s.heap.objs.size f cdv)) → A.guards = some [] →
      ∃ t, PDSs (cxOf CX0 P w K mg base N qual scope f cdv A outer s H E).nox ⟨ow, [], kd, some sh, W0⟩ body t g) : FnOkG P w K mg base (k + 1) f fd ps (spN sh K n (mOf N.length n g)) := by
  refine fnG_of F S (fun vs H Q E h => ?_) (fun cdv A outer s H vs Q E hr hgd h => ?_)
  · obtain ⟨B, ds, d, hlen, _⟩ := h
    exact hlen.trans hn.symm
  · obtain ⟨B, ds, d, hlen, e, r, hm, hnone, q⟩ := h
    obtain ⟨t, ht⟩ := hbody cdv A outer s H E hr hgd
    refine ⟨t, PSs.nox ht.ps, ?_⟩
    have hds : ds.length = n := mOf_len ds d hm
    unfold mOf at hm
    rw [if_pos hds] at hm
    have s0 := sr_start (K := K) (c := ⟨ow, [], kd, some sh, W0⟩) rfl (N := N) (offB_fr e) r (by rw [hds]; exact hc)
    cases eg : g (startD N.length ds) with
    | none =>
      rw [eg] at hm
      cases hm
    | some o =>
      refine ht.ev _ _ B B _ H _ o s0 eg _ (fun st' B' σ' H' e1 s1 => ?_) (fun st' B' σ' H' e1 s1 => ?_) (fun st' B' σ' H' e1 s1 => ?_) (fun d' st' v B' H' e1 rv => ?_) (fun y fl st' dx B' H' e1 fi fl1 => ?_)
      · subst e1
        rw [eg] at hm
        cases hm
        exact absurd rfl hnone
      · subst e1
        rw [eg] at hm
        cases hm
      · subst e1
        rw [eg] at hm
        cases hm
      · subst e1
        rw [eg] at hm
        cases hm
        obtain ⟨p, X, rfl, fi, hX, ow⟩ := rv
        have fr : Fr0 (offB B H) B' H' := ⟨fi.fr.bh, fun a o h => fi.fr.fr a o ((addF_out fun z => by rw [hX a z] at h; cases h).trans h)⟩
        have pu := offB_pu e fi.b0 fr
        have hXB : ∀ x ∈ X, B' x = none := fun x hx => by
          obtain ⟨u, hu⟩ := ow.has x hx
          exact (fi.fr.fr x u ((addF_in hx).trans hu)).2
        refine q p X B' H' ⟨pu.ext, pu.hx, pu.bh, pu.new, fun x hx => ?_, hXB⟩ ow
        have h1 := hX x hx
        unfold offB at h1
        split at h1
        · rename_i u hu
          have := hXB x hx
          rw [fi.b0 x u hu] at this
          cases this
        · exact h1
      · subst e1
        rw [eg] at hm
        cases hm
theorem def_okPG {N ps : List Str} {k n : Nat} {ow : List Nat} {kd : List Shp} {g : DT} (F : FunD K x qual params body scope [] [] f fd) (S : FnScope N ps scope) (hn : ps.length = n + 1) (h0 : 0 ∈ ow) (hc : ∀ i ∈ ow, i = 0 ∨ n + 1 ≤ i)
    (hbody : ∀ (cdv : Value) (A : Around) (outer : List Env) (s : Shared) (H : Hp) (E : XK), Room k (A.deeper (envOfC qual scope s.heap.objs.size f cdv)) → A.guards = some [] →
      ∃ t, PDSs (cxOf CX0 P w K mg base N qual scope f cdv A outer s H E).nox ⟨ow, [0], kd, none, W0⟩ body t g) : FnOkG P w K mg base (k + 1) f fd ps (spP (kd.getD 0 .flat) K n (mOfP N.length n g)) := by
  refine fnG_of F S (fun vs H Q E h => ?_) (fun cdv A outer s H vs Q E hr hgd h => ?_)
  · obtain ⟨B, Φ, l, F, pd, ws, ds, d, pd', rfl, hlen, _⟩ := h
    rw [List.length_cons, hlen, hn]
  · obtain ⟨B, Φ, l, Fo, pd, ws, ds, d, pd', rfl, hlen, fr, o, off, r, hm, q⟩ := h
    obtain ⟨t, ht⟩ := hbody cdv A outer s H E hr hgd
    refine ⟨t, PSs.nox ht.ps, ?_⟩
    have hds : ds.length = n := mOfP_len pd ds _ hm
    unfold mOfP at hm
    rw [if_pos hds] at hm
    have s0 := sr_startP (K := K) (c := ⟨ow, [0], kd, none, W0⟩) rfl h0 (N := N) fr o off r (by rw [hds]; exact hc)
    have fin : ∀ {B' H' : Hp} {st' : DS} {p1 : D}, Fin K ⟨ow, [0], kd, none, W0⟩ (fun _ => l) Φ B B' H' st' → penOf 0 st' = some p1 → ∃ F', PuP (kd.getD 0 .flat) K Φ l F' B B' H' p1 := fun {B' H' st' p1} fi hp => by
      obtain ⟨F', h1, _⟩ := fi.pn
      obtain ⟨d1, q1, q2, q3⟩ := h1 0 (List.mem_singleton.mpr rfl)
      rw [penOf_some hp] at q1
      cases q1
      exact ⟨F' 0, fi.b0, fi.fr, q2, q3⟩
    cases eg : g (startD N.length (pd :: ds)) with
    | none =>
      rw [eg] at hm
      cases hm
    | some o =>
      refine ht.ev _ _ B B _ H _ o s0 eg _ (fun st' B' σ' H' e1 s1 => ?_) (fun st' B' σ' H' e1 s1 => ?_) (fun st' B' σ' H' e1 s1 => ?_) (fun d' st' v B' H' e1 rv => ?_) (fun y fl st' dx B' H' e1 fi fl1 => ?_)
      · subst e1
        rw [eg] at hm
        obtain ⟨p1, hp, e2⟩ := Option.map_eq_some_iff.mp (show (penOf 0 st').map (fun p => (PyData.none, p)) = some (d, pd') from hm)
        cases e2
        obtain ⟨F', pu⟩ := fin s1.fin hp
        exact q .non F' B' H' pu .non
      · subst e1
        rw [eg] at hm
        cases hm
      · subst e1
        rw [eg] at hm
        cases hm
      · subst e1
        rw [eg] at hm
        obtain ⟨p1, hp, e2⟩ := Option.map_eq_some_iff.mp (show (penOf 0 st').map (fun p => (d', p)) = some (d, pd') from hm)
        cases e2
        obtain ⟨F', pu⟩ := fin rv.1 hp
        exact q v F' B' H' pu rv.2
      · subst e1
        rw [eg] at hm
        cases hm
end
end DR

set_option maxRecDepth 100000
set_option maxHeartbeats 1000000
namespace DR
open PySem PySem.Spec L2
open PyProof.Rows hiding St

/-! ### what a data function comes to -/
def Wp {β : Type} (f : DM β) (st : DS) (Q : β → DS → Prop) : Prop := ∃ b st', f st = some (.ok b, st') ∧ Q b st'
def Out.calm : Out → Prop
  | .ex _ _ _ => False
  | _ => True
/-- a statement that raises nothing -/
def Sp2 (g : DT) (st : DS) (Q : Out → Prop) : Prop := ∃ o, g st = some o ∧ o.calm ∧ Q o
def MD (m : List D → Option D) (ds : List D) (Q : D → Prop) : Prop := ∃ d, m ds = some d ∧ Q d
def MP (m : D → List D → Option (D × D)) (p : D) (ds : List D) (Q : D → D → Prop) : Prop := ∃ d p', m p ds = some (d, p') ∧ Q d p'
theorem Wp.mono {β : Type} {f : DM β} {st : DS} {Q R : β → DS → Prop} (h : Wp f st Q) (k : ∀ b s, Q b s → R b s) : Wp f st R := by
  obtain ⟨b, s, e, q⟩ := h
  exact ⟨b, s, e, k b s q⟩
theorem Sp2.mono {f : DT} {st : DS} {Q R : Out → Prop} (h : Sp2 f st Q) (k : ∀ o, Q o → R o) : Sp2 f st R := by
  obtain ⟨o, e, c, q⟩ := h
  exact ⟨o, e, c, k o q⟩
/-! ### answers that must be there; evaluated from outside in (simp lemmas for use with the arrow) -/
def onS {α : Type} (o : Option α) (k : α → Prop) : Prop := ∃ a, o = some a ∧ k a
def lk (st : DS) (i : Nat) : Option D := penOf i st
def onB (d : D) (k : Bool → Prop) : Prop := ∃ b, d = .bool b ∧ k b
def onI (d : D) (k : Int → Prop) : Prop := ∃ b, d = .int b ∧ k b
def onStr (d : D) (k : Str → Prop) : Prop := ∃ b, d = .str b ∧ k b
def onL (d : D) (k : List D → Prop) : Prop := ∃ b, d = .list b ∧ k b
def onPut (s : List D) (i : Nat) (d : D) (k : List D → Prop) : Prop := k (s.set i d)
def onSet (s : DS) (i : Nat) (d : D) (k : DS → Prop) : Prop := k (s.set i (some d))
section
variable {α : Type} {k : α → Prop}
theorem onS_some {a : α} : onS (some a) k ↔ k a := ⟨fun ⟨_, e, q⟩ => by cases e; exact q, fun q => ⟨_, rfl, q⟩⟩
theorem onS_if {c : Prop} [Decidable c] {a : α} : onS (if c then some a else none) k ↔ c ∧ k a := ⟨fun ⟨_, e, q⟩ => by obtain ⟨h, rfl⟩ := opt_if e; exact ⟨h, q⟩, fun ⟨h, q⟩ => ⟨a, if_pos h, q⟩⟩
theorem onS_map {β : Type} {o : Option β} {f : β → α} : onS (o.map f) k ↔ onS o fun a => k (f a) := by
  cases o with
  | none => exact ⟨fun ⟨_, e, _⟩ => (nomatch e), fun ⟨_, e, _⟩ => (nomatch e)⟩
  | some b => exact ⟨fun ⟨_, e, q⟩ => by cases e; exact ⟨b, rfl, q⟩, fun ⟨_, e, q⟩ => by cases e; exact ⟨_, rfl, q⟩⟩
theorem onB_b {b : Bool} {k : Bool → Prop} : onB (.bool b) k ↔ k b := ⟨fun ⟨_, e, q⟩ => by cases e; exact q, fun q => ⟨_, rfl, q⟩⟩
theorem onI_i {b : Int} {k : Int → Prop} : onI (.int b) k ↔ k b := ⟨fun ⟨_, e, q⟩ => by cases e; exact q, fun q => ⟨_, rfl, q⟩⟩
theorem onStr_s {b : Str} {k : Str → Prop} : onStr (.str b) k ↔ k b := ⟨fun ⟨_, e, q⟩ => by cases e; exact q, fun q => ⟨_, rfl, q⟩⟩
theorem onL_l {b : List D} {k : List D → Prop} : onL (.list b) k ↔ k b := ⟨fun ⟨_, e, q⟩ => by cases e; exact q, fun q => ⟨_, rfl, q⟩⟩
theorem lk_0 {d : D} {r : DS} {k : D → Prop} : onS (lk (some d :: r) 0) k ↔ k d := onS_some
theorem lk_S {x : Option D} {r : DS} {n : Nat} {k : D → Prop} : onS (lk (x :: r) (n + 1)) k ↔ onS (lk r n) k := Iff.rfl
theorem onSet_0 {x : Option D} {r : DS} {d : D} {k : DS → Prop} : onSet (x :: r) 0 d k ↔ k (some d :: r) := Iff.rfl
theorem onSet_S {x : Option D} {r : DS} {n : Nat} {d : D} {k : DS → Prop} : onSet (x :: r) (n + 1) d k ↔ onSet r n d fun s => k (x :: s) := Iff.rfl
theorem onPut_0 {x : D} {r : List D} {d : D} {k : List D → Prop} : onPut (x :: r) 0 d k ↔ k (d :: r) := Iff.rfl
theorem onPut_S {x : D} {r : List D} {n : Nat} {d : D} {k : List D → Prop} : onPut (x :: r) (n + 1) d k ↔ onPut r n d fun s => k (x :: s) := Iff.rfl
theorem ite_dec {c : Prop} [Decidable c] {p q : Prop} : (if decide c = true then p else q) ↔ if c then p else q := by simp only [decide_eq_true_eq]
theorem ite_ndec {c : Prop} [Decidable c] {p q : Prop} : (if (!decide c) = true then p else q) ↔ if c then q else p := by
  by_cases h : c
  · simp [h]
  · simp [h]
theorem ite_tt {p q : Prop} : (if true = true then p else q) ↔ p := by simp
theorem ite_ff {p q : Prop} : (if false = true then p else q) ↔ q := by simp
theorem ite_nt {p q : Prop} : (if (!true) = true then p else q) ↔ q := by simp
theorem ite_nf {p q : Prop} : (if (!false) = true then p else q) ↔ p := by simp
end
section
variable {k : D → Prop} {i j : Int} {x y : Str} {ds es : List D} {d0 d1 : D}
theorem v_gt : onS (gtD (.int i) (.int j)) k ↔ k (.bool (decide (j < i))) := onS_some
theorem v_lt : onS (ltD (.int i) (.int j)) k ↔ k (.bool (decide (i < j))) := onS_some
theorem v_le : onS (leD (.int i) (.int j)) k ↔ k (.bool (decide (i ≤ j))) := onS_some
theorem v_ge : onS (geD (.int i) (.int j)) k ↔ k (.bool (decide (j ≤ i))) := onS_some
theorem v_ltS : onS (ltD (.str x) (.str y)) k ↔ k (.bool (ltS x y)) := onS_some
theorem v_add : onS (addD (.int i) (.int j)) k ↔ k (.int (i + j)) := onS_some
theorem v_addS : onS (addD (.str x) (.str y)) k ↔ x.length + y.length ≤ sizeLine ∧ k (.str (x ++ y)) := onS_if
theorem v_addL : onS (addD (.list ds) (.list es)) k ↔ ds.length + es.length ≤ sizeLine ∧ k (.list (ds ++ es)) := onS_if
theorem v_addT : onS (addD (.tuple ds) (.tuple es)) k ↔ ds.length + es.length ≤ sizeLine ∧ k (.tuple (ds ++ es)) := onS_if
theorem v_addN : onS (addL (.list ds) (.list es)) k ↔ ds.length + es.length ≤ sizeLine ∧ k (.list (ds ++ es)) := onS_if
theorem v_sub : onS (subD (.int i) (.int j)) k ↔ k (.int (i - j)) := onS_some
theorem v_mul : onS (mulD (.int i) (.int j)) k ↔ ((-18446744073709551616 < i ∧ i < 18446744073709551616) ∨ (-18446744073709551616 < j ∧ j < 18446744073709551616)) ∧ k (.int (i * j)) := onS_if
theorem v_mulS : onS (mulD (.str x) (.int i)) k ↔ (i ≤ 100000 ∧ -100000 ≤ i ∧ x.length ≤ 100) ∧ k (.str (strTimes x i)) := onS_if
theorem v_mod : onS (modD (.int i) (.int j)) k ↔ 0 < j ∧ k (.int (i % j)) := onS_if
theorem v_fdiv : onS (fdivD (.int i) (.int j)) k ↔ (0 < j ∧ j < 18446744073709551616) ∧ k (.int (i / j)) := onS_if
theorem v_pow : onS (powD (.int i) (.int j)) k ↔ (0 ≤ j ∧ j ≤ 1000 ∧ -18446744073709551616 < i ∧ i < 18446744073709551616) ∧ k (.int (i ^ j.toNat)) := onS_if
theorem v_neg : onS (negD (.int i)) k ↔ k (.int (-i)) := onS_some
theorem v_lenL : onS (lenD [.list ds]) k ↔ k (.int ds.length) := onS_some
theorem v_lenT : onS (lenD [.tuple ds]) k ↔ k (.int ds.length) := onS_some
theorem v_lenS : onS (lenD [.str x]) k ↔ x.length ≤ sizeLine ∧ k (.int x.length) := onS_if
theorem v_abs : onS (absD [.int i]) k ↔ k (.int (if i < 0 then -i else i)) := onS_some
theorem v_rev : onS (revD (.list ds)) k ↔ k (.list ds.reverse) := onS_some
theorem v_ixL : onS (ixD (.list ds) (.int i)) k ↔ onS (L2.atI ds i) k := Iff.rfl
theorem v_ixT : onS (ixD (.tuple ds) (.int i)) k ↔ onS (L2.atI ds i) k := Iff.rfl
theorem v_all : onS (allD [.list ds]) k ↔ onS (blsD ds) fun bs => k (.bool (bs.all id)) := onS_map
theorem v_any : onS (anyD [.list ds]) k ↔ onS (blsD ds) fun bs => k (.bool (bs.any id)) := onS_map
theorem v_sum : onS (sumD [.list ds]) k ↔ onS (intsD ds) fun bs => k (.int bs.sum) := onS_map
theorem v_eq : onS (eqD d0 d1) k ↔ onS (eqB d0 d1) fun b => k (.bool b) := onS_map
theorem v_ne : onS (neD d0 d1) k ↔ onS (eqB d0 d1) fun b => k (.bool (!b)) := onS_map
theorem v_in : onS (inD d0 d1) k ↔ onS (inB d0 d1) fun b => k (.bool b) := onS_map
theorem v_notIn : onS (notInD d0 d1) k ↔ onS (inB d0 d1) fun b => k (.bool (!b)) := onS_map
theorem eqB_ii : eqB (.int i) (.int j) = some (decide (i = j)) := by
  unfold eqB
  rw [if_pos (by exact Or.inl rfl), PyData.eqv]
  exact congrArg some (Bool.eq_iff_iff.mpr (by simp))
theorem eqB_ss : eqB (.str x) (.str y) = some (decide (x = y)) := by
  unfold eqB
  rw [if_pos (by exact Or.inl rfl), PyData.eqv]
  exact congrArg some (Bool.eq_iff_iff.mpr (by simp))
theorem q_ii {k : Bool → Prop} : onS (eqB (.int i) (.int j)) k ↔ k (decide (i = j)) := by rw [eqB_ii, onS_some]
theorem q_ss {k : Bool → Prop} : onS (eqB (.str x) (.str y)) k ↔ k (decide (x = y)) := by rw [eqB_ss, onS_some]
theorem items_l {k : List D → Prop} : onS (itemsD (.list ds)) k ↔ k ds := onS_some
theorem items_t {k : List D → Prop} : onS (itemsD (.tuple ds)) k ↔ k ds := onS_some
theorem items_s {k : List D → Prop} : onS (itemsD (.str x)) k ↔ k (signs x) := onS_some
theorem items_r1 {k : List D → Prop} : onS (range1D [.int j]) k ↔ (-100000000 ≤ j ∧ j ≤ 100000000) ∧ k (rangeL 0 j.toNat) := onS_if
theorem items_r2 {k : List D → Prop} : onS (range2D [.int i, .int j]) k ↔ (-100000000 ≤ i ∧ i ≤ 100000000 ∧ -100000000 ≤ j ∧ j ≤ 100000000) ∧ k (rangeL i (j - i).toNat) := onS_if
theorem sl_l {lo hi : Option Int} : onS (sliceD (.list ds) lo hi) k ↔ k (.list (cutL ds lo hi)) := onS_some
theorem sl_t {lo hi : Option Int} : onS (sliceD (.tuple ds) lo hi) k ↔ k (.tuple (cutL ds lo hi)) := onS_some
theorem sl_s {lo hi : Option Int} : onS (sliceD (.str x) lo hi) k ↔ x.length ≤ sizeLine ∧ k (.str (cutS x lo hi)) := onS_if
theorem put_1 {a b c : D} {k : Nat → Prop} : onS (ixN [a, b, c].length 1) k ↔ k 1 := onS_some
theorem put_2 {a b c : D} {k : Nat → Prop} : onS (ixN [a, b, c].length 2) k ↔ k 2 := onS_some
theorem pen_0 {a b c : D} : onS (L2.atI [a, b, c] 0) k ↔ k a := onS_some
theorem pen_1 {a b c : D} : onS (L2.atI [a, b, c] 1) k ↔ k b := onS_some
theorem pen_2 {a b c : D} : onS (L2.atI [a, b, c] 2) k ↔ k c := onS_some
end
section
variable {β γ : Type} {st : DS} {Q : β → DS → Prop}
@[simp] theorem Wp_pure {b : β} : Wp (DM.pure b) st Q ↔ Q b st := ⟨fun ⟨_, _, e, q⟩ => by cases e; exact q, fun q => ⟨_, _, rfl, q⟩⟩
@[simp] theorem Wp_opt {o : Option β} : Wp (DM.opt o) st Q ↔ onS o fun b => Q b st := by
  constructor
  · rintro ⟨b, s, e, q⟩
    cases o with
    | none => cases e
    | some b => cases e; exact ⟨_, rfl, q⟩
  · rintro ⟨b, rfl, q⟩
    exact ⟨b, st, rfl, q⟩
@[simp] theorem Wp_bind {m : DM γ} {k : γ → DM β} : Wp (m.bind k) st Q ↔ Wp m st fun b s => Wp (k b) s Q := by
  constructor
  · rintro ⟨b, s, e, q⟩
    unfold DM.bind at e
    split at e
    · cases e
    · rename_i b1 s1 e1
      exact ⟨b1, s1, e1, b, s, e, q⟩
    · cases e
  · rintro ⟨b1, s1, e1, b, s, e, q⟩
    exact ⟨b, s, by rw [bind_ok e1]; exact e, q⟩
@[simp] theorem Wp_ite {c : Prop} [Decidable c] {f g : DM β} : Wp (if c then f else g) st Q ↔ if c then Wp f st Q else Wp g st Q := by
  split <;> exact Iff.rfl
end
section
variable {st : DS} {Q : D → DS → Prop} {QB : Bool → DS → Prop} {QA : List D → DS → Prop} {fa fb fc : DM D} {fs : DM (List D)} {ft fu : DM Bool}
theorem lk_iff {i : Nat} {d : D} : lk st i = some d ↔ st[i]? = some (some d) := by
  unfold lk penOf
  constructor
  · intro h
    split at h
    · rename_i d' hd
      cases h
      exact hd
    · cases h
  · intro h
    rw [h]
@[simp] theorem Wp_var {i : Nat} : Wp (dvar i) st Q ↔ onS (lk st i) fun d => Q d st := by
  constructor
  · rintro ⟨b, s, e, q⟩
    unfold dvar at e
    split at e
    · rename_i d hd
      cases e
      exact ⟨_, lk_iff.mpr hd, q⟩
    · cases e
  · rintro ⟨d, h, q⟩
    exact ⟨d, st, by unfold dvar; rw [lk_iff.mp h], q⟩
@[simp] theorem Wp_op {g : D → D → Option D} : Wp (dop g fa fb) st Q ↔ Wp fa st fun x s => Wp fb s fun y s2 => onS (g x y) fun z => Q z s2 := by unfold dop; simp only [Wp_bind, Wp_opt]
@[simp] theorem Wp_un {g : D → Option D} : Wp (dun g fa) st Q ↔ Wp fa st fun x s => onS (g x) fun z => Q z s := by unfold dun; simp only [Wp_bind, Wp_opt]
@[simp] theorem Wp_test : Wp (dtest fa) st QB ↔ Wp fa st fun x s => onB x fun b => QB b s := by
  unfold dtest
  simp only [Wp_bind, Wp_opt]
  refine ⟨fun h => h.mono fun d s ⟨b, e, q⟩ => ?_, fun h => h.mono fun d s ⟨b, e, q⟩ => ⟨b, by rw [e]; rfl, q⟩⟩
  cases d <;> first | (cases e; done) | skip
  cases e
  exact ⟨_, rfl, q⟩
@[simp] theorem Wp_dand : Wp (dand ft fu) st QB ↔ Wp ft st fun b s => if b = true then Wp fu s QB else QB false s := by unfold dand; simp only [Wp_bind, Wp_ite, Wp_pure]
@[simp] theorem Wp_dor : Wp (dor ft fu) st QB ↔ Wp ft st fun b s => if b = true then QB true s else Wp fu s QB := by unfold dor; simp only [Wp_bind, Wp_ite, Wp_pure]
@[simp] theorem Wp_dnot : Wp (dnot ft) st QB ↔ Wp ft st fun b s => QB (!b) s := by unfold dnot; simp only [Wp_bind, Wp_pure]
@[simp] theorem Wp_dandV : Wp (dandV fa fb) st Q ↔ Wp fa st fun x s => onB x fun b => if b = true then Wp fb s Q else Q (.bool false) s := by unfold dandV; simp only [Wp_bind, Wp_ite, Wp_pure, Wp_test]
@[simp] theorem Wp_dorV : Wp (dorV fa fb) st Q ↔ Wp fa st fun x s => onB x fun b => if b = true then Q (.bool true) s else Wp fb s Q := by unfold dorV; simp only [Wp_bind, Wp_ite, Wp_pure, Wp_test]
@[simp] theorem Wp_dnotV : Wp (dnotV fa) st Q ↔ Wp fa st fun x s => onB x fun b => Q (.bool (!b)) s := by unfold dnotV; simp only [Wp_bind, Wp_pure, Wp_test]
@[simp] theorem Wp_chain {g g' : D → D → Option D} : Wp (dchain g g' fa fb fc) st Q ↔ Wp fa st fun x s => Wp fb s fun y s2 => onS (g x y) fun z => onB z fun b => if b = true then Wp fc s2 fun w s3 => onS (g' y w) fun z => Q z s3 else Q (.bool false) s2 := by
  unfold dchain
  simp only [Wp_bind, Wp_ite, Wp_pure, Wp_opt]
  refine ⟨fun h => h.mono fun x s h => h.mono fun y s2 ⟨b, e, q⟩ => ?_, fun h => h.mono fun x s h => h.mono fun y s2 ⟨z, e, b, e2, q⟩ => ⟨b, by rw [e, e2]; rfl, q⟩⟩
  obtain ⟨z, e1, e2⟩ := Option.bind_eq_some_iff.mp e
  cases z <;> first | (cases e2; done) | skip
  cases e2
  exact ⟨_, e1, _, rfl, q⟩
@[simp] theorem Wp_cb {g : List D → Option D} : Wp (dcb g fs) st Q ↔ Wp fs st fun x s => onS (g x) fun z => Q z s := by unfold dcb; simp only [Wp_bind, Wp_opt]
@[simp] theorem Wp_cons : Wp (dcons fa fs) st QA ↔ Wp fa st fun x s => Wp fs s fun xs s2 => QA (x :: xs) s2 := by unfold dcons; simp only [Wp_bind, Wp_pure]
@[simp] theorem Wp_nil : Wp dnil st QA ↔ QA [] st := Wp_pure
@[simp] theorem Wp_tup : Wp (dtup fs) st Q ↔ Wp fs st fun xs s => xs.length ≤ sizeLine ∧ Q (.tuple xs) s := by
  unfold dtup
  simp only [Wp_bind, Wp_opt]
  exact ⟨fun h => h.mono fun d s ⟨b, e, q⟩ => by obtain ⟨h1, rfl⟩ := opt_if e; exact ⟨h1, q⟩, fun h => h.mono fun d s ⟨e, q⟩ => ⟨_, if_pos e, q⟩⟩
@[simp] theorem Wp_lst : Wp (dlst fs) st Q ↔ Wp fs st fun xs s => xs.length ≤ sizeLine ∧ Q (.list xs) s := by
  unfold dlst
  simp only [Wp_bind, Wp_opt]
  exact ⟨fun h => h.mono fun d s ⟨b, e, q⟩ => by obtain ⟨h1, rfl⟩ := opt_if e; exact ⟨h1, q⟩, fun h => h.mono fun d s ⟨e, q⟩ => ⟨_, if_pos e, q⟩⟩
@[simp] theorem Wp_part {QO : Option Int → DS → Prop} : Wp (dpart fa) st QO ↔ Wp fa st fun x s => onI x fun i => QO (some i) s := by
  unfold dpart
  simp only [Wp_bind, Wp_opt]
  refine ⟨fun h => h.mono fun d s ⟨b, e, q⟩ => ?_, fun h => h.mono fun d s ⟨b, e, q⟩ => ⟨_, by rw [e]; rfl, q⟩⟩
  cases d <;> first | (cases e; done) | skip
  cases e
  exact ⟨_, rfl, q⟩
@[simp] theorem Wp_nopart {QO : Option Int → DS → Prop} : Wp dnopart st QO ↔ QO none st := Wp_pure
@[simp] theorem Wp_slice {fl fh : DM (Option Int)} : Wp (dslice fa fl fh) st Q ↔ Wp fa st fun x s => Wp fl s fun l s2 => Wp fh s2 fun u s3 => onS (sliceD x l u) fun z => Q z s3 := by unfold dslice; simp only [Wp_bind, Wp_opt]
@[simp] theorem Wp_isi {T : String} : Wp (disi T fa) st Q ↔ Wp fa st fun x s => Q (.bool (insN T (tyN x))) s := by unfold disi; simp only [Wp_bind, Wp_pure]
@[simp] theorem Wp_isi2 {T U : String} : Wp (disi2 T U fa) st Q ↔ Wp fa st fun x s => Q (.bool (insN T (tyN x) || insN U (tyN x))) s := by unfold disi2; simp only [Wp_bind, Wp_pure]
@[simp] theorem Wp_m1 {g : Str → D → Option D} : Wp (dm1 g fa fb) st Q ↔ Wp fa st fun x s => onStr x fun a => Wp fb s fun y s2 => onS (g a y) fun z => Q z s2 := by
  unfold dm1
  simp only [Wp_bind, Wp_opt]
  refine ⟨fun h => h.mono fun d s ⟨b, e, q⟩ => ?_, fun h => h.mono fun d s ⟨b, e, q⟩ => ⟨_, by rw [e]; rfl, q⟩⟩
  cases d <;> first | (cases e; done) | skip
  cases e
  exact ⟨_, rfl, q⟩
@[simp] theorem Wp_call {m : List D → Option D} : Wp (dcall m fs) st Q ↔ Wp fs st fun x s => MD m x fun z => Q z s := by unfold dcall; simp only [Wp_bind, Wp_opt]; exact Iff.rfl
@[simp] theorem Wp_pix {i : Nat} : Wp (dpix i fb) st Q ↔ Wp fb st fun y s => onS (lk s i) fun p => onL p fun ds => onS (ixD (.list ds) y) fun d => Q d s := by
  unfold dpix
  simp only [Wp_bind]
  refine ⟨fun h => h.mono fun y s ⟨b, s', e, q⟩ => ?_, fun h => h.mono fun y s ⟨p, e1, ds, e3, d, e2, q⟩ => ⟨d, s, by dsimp only; rw [show penOf i s = some p from e1, e3]; show (ixD (.list ds) y).map _ = _; rw [e2]; rfl, q⟩⟩
  dsimp only at e
  split at e
  · rename_i ds hd
    obtain ⟨d, h1, h2⟩ := Option.map_eq_some_iff.mp e
    cases h2
    exact ⟨_, hd, ds, rfl, _, h1, q⟩
  · cases e
@[simp] theorem Wp_callP {mx : Bool} {p : Nat} {m : D → List D → Option (D × D)} : Wp (dcallP mx p m fs) st Q ↔ Wp fs st fun ds s => onS (lk s p) fun pd => (if mx = true then flatA ds = true else True) ∧ MP m pd ds fun d p' => onSet s p p' fun s' => Q d s' := by
  unfold dcallP MP
  simp only [Wp_bind]
  refine ⟨fun h => h.mono fun y s ⟨b, s', e, q⟩ => ?_, fun h => h.mono fun y s ⟨pd, e1, n, d, p', e2, q⟩ => ⟨d, _, by
    dsimp only
    rw [show penOf p s = some pd from e1]
    show (if _ then _ else _) = _
    rw [if_neg (fun z => by rw [if_pos z.1, z.2] at n; exact Bool.false_ne_true n), e2]
    rfl, q⟩⟩
  dsimp only at e
  split at e
  · rename_i pd hd
    split at e
    · cases e
    · rename_i n
      obtain ⟨⟨d, p'⟩, h1, h2⟩ := Option.map_eq_some_iff.mp e
      cases h2
      refine ⟨pd, hd, ?_, d, p', h1, q⟩
      split
      · rename_i hm
        cases hf : flatA y with
        | true => rfl
        | false => exact absurd ⟨hm, hf⟩ n
      · exact True.intro
  · cases e
theorem Wp_callP0 {p : Nat} {m : D → List D → Option (D × D)} : Wp (dcallP false p m fs) st Q ↔ Wp fs st fun ds s => onS (lk s p) fun pd => MP m pd ds fun d p' => onSet s p p' fun s' => Q d s' := by
  rw [Wp_callP]
  simp only [Bool.false_eq_true, if_false, true_and]
theorem Wp_callP1 {p : Nat} {m : D → List D → Option (D × D)} : Wp (dcallP true p m fs) st Q ↔ Wp fs st fun ds s => onS (lk s p) fun pd => flatA ds = true ∧ MP m pd ds fun d p' => onSet s p p' fun s' => Q d s' := by
  rw [Wp_callP]
  simp only [if_true]
def Cp (vs : List Nat) (g : DG) (tt : DM Bool) (te : DM D) (ds : List D) (st : DS) (acc : List D) (Q : List D → DS → Prop) : Prop := ∃ r s, dcompL vs g tt te ds st acc = some (r, s) ∧ Q r s
@[simp] theorem Wp_comp {vs : List Nat} {items : DM (List D)} {g : DG} {tt : DM Bool} {te : DM D} : Wp (dcomp vs items g tt te) st Q ↔ Wp items st fun ds s => Cp vs g tt te ds s [] fun r s' => Q (.list r) s' := by
  unfold dcomp Cp
  simp only [Wp_bind]
  refine ⟨fun h => h.mono fun y s ⟨b, s', e, q⟩ => ?_, fun h => h.mono fun y s ⟨r, s', e, q⟩ => ⟨_, s', by dsimp only; rw [e]; rfl, q⟩⟩
  obtain ⟨⟨d, p'⟩, h1, h2⟩ := Option.map_eq_some_iff.mp e
  cases h2
  exact ⟨_, _, h1, q⟩
@[simp] theorem Wp_disp {fr : DM (List (D × D))} : Wp (ddisp fr) st Q ↔ Wp fr st fun ps s => onS (dispD ps) fun d => Q d s := by unfold ddisp; simp only [Wp_bind, Wp_opt]
@[simp] theorem Wp_dpnil {QP : List (D × D) → DS → Prop} : Wp dpnil st QP ↔ QP [] st := Wp_pure
@[simp] theorem Wp_dpcons {QP : List (D × D) → DS → Prop} {fr : DM (List (D × D))} : Wp (dpcons fa fb fr) st QP ↔ Wp fa st fun k s => Wp fb s fun v s2 => Wp fr s2 fun r s3 => QP ((k, v) :: r) s3 := by unfold dpcons; simp only [Wp_bind, Wp_pure]
@[simp] theorem Wp_flat : Wp (dflat fa) st Q ↔ Wp fa st fun d s => flat d = true ∧ Q d s := by
  unfold dflat
  constructor
  · rintro ⟨b, s, e, q⟩
    dsimp only at e
    split at e
    · rename_i d s1 e1
      split at e
      · rename_i hfl
        cases e
        exact ⟨_, _, e1, hfl, q⟩
      · cases e
    · cases e
  · rintro ⟨d, s, e, hfl, q⟩
    exact ⟨d, s, by simp only [e, hfl, if_true], q⟩
theorem Wp_flatN : Wp (dflatN fa) st Q ↔ Wp fa st fun d s => ∃ ds, d = .list ds ∧ flatA ds = true ∧ Q d s := by
  unfold dflatN
  constructor
  · rintro ⟨b, s, e, q⟩
    dsimp only at e
    split at e
    · rename_i ds s1 e1
      split at e
      · rename_i hfl
        cases e
        exact ⟨_, _, e1, ds, rfl, hfl, q⟩
      · cases e
    · cases e
  · rintro ⟨d, s, e, ds, rfl, hfl, q⟩
    exact ⟨_, s, by simp only [e, hfl, if_true], q⟩
end
theorem Wp_calm {β : Type} {fa : DM β} {st : DS} {Q : β → DS → Prop} : Wp (dcalm fa) st Q ↔ Wp fa st Q := by
  unfold dcalm
  constructor
  · rintro ⟨b, s, e, q⟩
    dsimp only at e
    split at e
    · rename_i d s1 e1
      cases e
      exact ⟨_, _, e1, q⟩
    · cases e
  · rintro ⟨d, s, e, q⟩
    exact ⟨d, s, by simp only [e], q⟩
/-- the slots are alive -/
def Lvs (J : List Nat) (st : DS) : Prop := (J.all fun i => (penOf i st).isSome) = true
theorem Wp_lv {β : Type} {J : List Nat} {fa : DM β} {st : DS} {Q : β → DS → Prop} : Wp (dlv J fa) st Q ↔ Lvs J st ∧ Wp fa st Q := by
  unfold dlv Lvs
  constructor
  · rintro ⟨b, s, e, q⟩
    dsimp only at e
    split at e
    · rename_i h
      exact ⟨h, b, s, e, q⟩
    · cases e
  · rintro ⟨h, b, s, e, q⟩
    exact ⟨b, s, by dsimp only; rw [if_pos h]; exact e, q⟩
/-! ### comprehensions -/
section
variable {vs : List Nat} {g : DG} {tt : DM Bool} {te : DM D}
theorem Cp_inv (I : DS → Prop) (P : D → Prop) : ∀ {ds : List D} {st : DS} {acc : List D} {Q : List D → DS → Prop}, I st → (∀ a ∈ acc, P a) → acc.length + ds.length ≤ sizeLine →
    (∀ d ∈ ds, ∀ s, I s → ∃ s1, g d (wipeD s vs) = some s1 ∧ Wp tt s1 fun b s2 => b = true ∧ Wp te s2 fun y s3 => P y ∧ I (backD s s3 vs)) →
    (∀ r s', I s' → (∀ a ∈ r, P a) → r.length = acc.length + ds.length → Q r s') → Cp vs g tt te ds st acc Q
  | [], st, acc, Q, hI, ha, _, _, q => ⟨acc, st, rfl, q _ _ hI ha rfl⟩
  | d :: ds, st, acc, Q, hI, ha, hl, h, q => by
    obtain ⟨s1, e1, b, s2, e2, rfl, y, s3, e3, hp, hI2⟩ := h d List.mem_cons_self st hI
    rw [List.length_cons] at hl
    obtain ⟨r, s', e4, hq⟩ := Cp_inv I P (ds := ds) (st := backD st s3 vs) (acc := acc ++ [y]) (Q := Q) hI2 (fun a h => by
      rcases List.mem_append.mp h with h | h
      · exact ha a h
      · rw [List.mem_singleton.mp h]; exact hp) (by rw [List.length_append, List.length_singleton]; omega) (fun d hd => h d (List.mem_cons_of_mem _ hd)) (fun r s' a b c => q r s' a b (by rw [c, List.length_append, List.length_singleton, List.length_cons]; omega))
    refine ⟨r, s', ?_, hq⟩
    rw [dcompL, e1]
    dsimp only
    rw [e2]
    dsimp only
    rw [e3]
    dsimp only
    rw [if_pos (by omega)]
    exact e4
theorem Cp_fm (f : D → Bool) (h : D → D) {st : DS} : ∀ {ds : List D} {acc : List D} {Q : List D → DS → Prop}, acc.length + ds.length ≤ sizeLine →
    (∀ d ∈ ds, ∃ s1, g d (wipeD st vs) = some s1 ∧ Wp tt s1 fun b s2 => b = f d ∧ (if f d = true then Wp te s2 fun y s3 => y = h d ∧ backD st s3 vs = st else backD st s2 vs = st)) →
    Q (acc ++ (ds.filter f).map h) st → Cp vs g tt te ds st acc Q
  | [], acc, Q, _, _, q => ⟨acc, st, rfl, by simpa using q⟩
  | d :: ds, acc, Q, hl, hh, q => by
    obtain ⟨s1, e1, b, s2, e2, rfl, hd⟩ := hh d List.mem_cons_self
    rw [List.length_cons] at hl
    by_cases hf : f d = true
    · rw [if_pos hf] at hd
      obtain ⟨y, s3, e3, rfl, e5⟩ := hd
      obtain ⟨r, s', e4, hq⟩ := Cp_fm f h (st := st) (ds := ds) (acc := acc ++ [h d]) (Q := Q) (by rw [List.length_append, List.length_singleton]; omega) (fun d hd => hh d (List.mem_cons_of_mem _ hd)) (by
        rw [List.filter_cons_of_pos hf, List.map_cons] at q
        rw [List.append_assoc]
        exact q)
      refine ⟨r, s', ?_, hq⟩
      rw [dcompL, e1]
      dsimp only
      rw [e2, hf]
      dsimp only
      rw [e3]
      dsimp only
      rw [if_pos (by omega), e5]
      exact e4
    · rw [if_neg hf] at hd
      obtain ⟨r, s', e4, hq⟩ := Cp_fm f h (st := st) (ds := ds) (acc := acc) (Q := Q) (by omega) (fun d hd => hh d (List.mem_cons_of_mem _ hd)) (by
        rw [List.filter_cons_of_neg hf] at q
        exact q)
      refine ⟨r, s', ?_, hq⟩
      rw [dcompL, e1]
      dsimp only
      rw [e2, Bool.eq_false_iff.mpr hf]
      dsimp only
      rw [hd]
      exact e4
theorem Cp_map (h : D → D) {st : DS} {ds : List D} {Q : List D → DS → Prop} (hl : ds.length ≤ sizeLine) (hh : ∀ d ∈ ds, ∃ s1, g d (wipeD st vs) = some s1 ∧ Wp tt s1 fun b s2 => b = true ∧ Wp te s2 fun y s3 => y = h d ∧ backD st s3 vs = st)
    (q : Q (ds.map h) st) : Cp vs g tt te ds st [] Q := Cp_fm (fun _ => true) h (by rw [List.length_nil]; omega) (fun d hd => by simpa using hh d hd) (by rw [List.nil_append, List.filter_eq_self.mpr fun _ _ => rfl]; exact q)
end
/-! ### statements -/
def onNx (k : DS → Prop) (Q : Out → Prop) : Out → Prop
  | .nx s => k s
  | o => Q o
section
variable {k : DS → Prop} {Q : Out → Prop} {st : DS} {f g : DT} {fe fk : DM D} {ft : DM Bool} {i : Nat}
@[simp] theorem onNx_nx {s : DS} : onNx k Q (.nx s) ↔ k s := Iff.rfl
@[simp] theorem onNx_bk {s : DS} : onNx k Q (.bk s) ↔ Q (.bk s) := Iff.rfl
@[simp] theorem onNx_ct {s : DS} : onNx k Q (.ct s) ↔ Q (.ct s) := Iff.rfl
@[simp] theorem onNx_rt {d : D} {s : DS} : onNx k Q (.rt d s) ↔ Q (.rt d s) := Iff.rfl
@[simp] theorem onNx_ex {c : Addr} {fl : Option (Str × D)} {s : DS} : onNx k Q (.ex c fl s) ↔ Q (.ex c fl s) := Iff.rfl
@[simp] theorem S_next : Sp2 dnext st Q ↔ Q (.nx st) := ⟨fun ⟨_, e, _, q⟩ => by cases e; exact q, fun q => ⟨_, rfl, True.intro, q⟩⟩
@[simp] theorem S_seq : Sp2 (dseq f g) st Q ↔ Sp2 f st (onNx (fun s => Sp2 g s Q) Q) := by
  unfold Sp2 dseq
  constructor
  · rintro ⟨o, e, c, q⟩
    split at e
    · rename_i s1 e1
      exact ⟨.nx s1, e1, True.intro, o, e, c, q⟩
    · rename_i hno
      refine ⟨o, e, c, ?_⟩
      cases o with
      | nx s => exact absurd e (hno s)
      | _ => exact q
  · rintro ⟨o, e, c, q⟩
    cases o with
    | nx s =>
      obtain ⟨o', e', c', q'⟩ := q
      exact ⟨o', by rw [e]; exact e', c', q'⟩
    | _ => exact ⟨_, by rw [e], c, q⟩
/-- an expression that raises nothing -/
@[simp] theorem S_exp {β : Type} {fx : DM β} {kk : β → DS → Option Out} : Sp2 (dexp fx kk) st Q ↔ Wp fx st fun b s => Sp2 (kk b) s Q := by
  constructor
  · rintro ⟨o, e, c, q⟩
    unfold dexp at e
    split at e
    · cases e
    · rename_i b s e1
      exact ⟨b, s, e1, o, e, c, q⟩
    · cases e
      exact c.elim
  · rintro ⟨b, s, e, o, e2, c, q⟩
    exact ⟨o, by rw [dexp_ok e]; exact e2, c, q⟩
@[simp] theorem S_nx {s : DS → DS} : Sp2 (fun st => some (.nx (s st))) st Q ↔ Q (.nx (s st)) := ⟨fun ⟨_, e, _, q⟩ => by cases e; exact q, fun q => ⟨_, rfl, True.intro, q⟩⟩
@[simp] theorem S_bk : Sp2 (fun st => some (.bk st)) st Q ↔ Q (.bk st) := ⟨fun ⟨_, e, _, q⟩ => by cases e; exact q, fun q => ⟨_, rfl, True.intro, q⟩⟩
@[simp] theorem S_ct : Sp2 (fun st => some (.ct st)) st Q ↔ Q (.ct st) := ⟨fun ⟨_, e, _, q⟩ => by cases e; exact q, fun q => ⟨_, rfl, True.intro, q⟩⟩
@[simp] theorem S_rtd {d : D} : Sp2 (fun st => some (.rt d st)) st Q ↔ Q (.rt d st) := ⟨fun ⟨_, e, _, q⟩ => by cases e; exact q, fun q => ⟨_, rfl, True.intro, q⟩⟩
@[simp] theorem S_ite {c : Prop} [Decidable c] : Sp2 (if c then f else g) st Q ↔ if c then Sp2 f st Q else Sp2 g st Q := by
  split <;> exact Iff.rfl
@[simp] theorem S_set : Sp2 (dset i fe) st Q ↔ Wp fe st fun d s => onSet s i d fun s' => Q (.nx s') := by unfold dset; simp only [S_exp, S_nx]; exact Iff.rfl
@[simp] theorem S_drop : Sp2 (ddrop fe) st Q ↔ Wp fe st fun d s => Q (.nx s) := by unfold ddrop; simp only [S_exp]; exact ⟨fun h => h.mono fun _ _ ⟨_, e, _, q⟩ => by cases e; exact q, fun h => h.mono fun _ _ q => ⟨_, rfl, True.intro, q⟩⟩
@[simp] theorem S_ret : Sp2 (dret fe) st Q ↔ Wp fe st fun d s => Q (.rt d s) := by unfold dret; simp only [S_exp, S_rtd]
@[simp] theorem S_if : Sp2 (dif ft f g) st Q ↔ Wp ft st fun b s => if b = true then Sp2 f s Q else Sp2 g s Q := by unfold dif; simp only [S_exp, S_ite]
@[simp] theorem S_asg {gd : DG} : Sp2 (dasg fe gd) st Q ↔ Wp fe st fun d s => onS (gd d s) fun s' => Q (.nx s') := by
  unfold dasg
  simp only [S_exp]
  refine ⟨fun h => h.mono fun _ _ ⟨o, e, _, q⟩ => ?_, fun h => h.mono fun _ _ ⟨s', e, q⟩ => ⟨.nx s', by dsimp only; rw [e]; rfl, True.intro, q⟩⟩
  obtain ⟨s', e1, rfl⟩ := Option.map_eq_some_iff.mp e
  exact ⟨s', e1, q⟩
theorem cell_on {s : DS} {k : List D → Prop} : (∃ ds, cellOf i s = some ds ∧ k ds) ↔ onS (lk s i) fun p => onL p k := by
  constructor
  · rintro ⟨ds, e, q⟩
    exact ⟨_, penOf_eq (cellOf_some e), ds, rfl, q⟩
  · rintro ⟨p, e, ds, rfl, q⟩
    refine ⟨ds, ?_, q⟩
    unfold lk penOf at e
    unfold cellOf
    split at e
    · rename_i d hd
      cases e
      rw [hd]
    · cases e
@[simp] theorem S_put : Sp2 (dput i fe fk) st Q ↔ Wp fe st fun d s => Wp fk s fun z s2 => onS (lk s2 i) fun p => onL p fun ds => onI z fun j => onS (ixN ds.length j) fun n => onPut ds n d fun ds' => onSet s2 i (.list ds') fun s' => Q (.nx s') := by
  unfold dput
  simp only [S_exp]
  refine ⟨fun h => h.mono fun d s h => ?_, fun h => h.mono fun d s h => h.mono fun z s2 h => ?_⟩
  · refine h.mono fun z s2 ⟨o, e, _, q⟩ => cell_on.mp ?_
    dsimp only at e
    split at e
    · rename_i x y ds j e1
      obtain ⟨n, e2, rfl⟩ := Option.map_eq_some_iff.mp e
      exact ⟨_, by assumption, _, rfl, n, e2, q⟩
    · cases e
  · obtain ⟨ds, e1, j, e2, n, e3, q⟩ := cell_on.mpr h
    exact ⟨.nx (s2.set i (some (.list (ds.set n d)))), by dsimp only; rw [e1, e2]; show (ixN ds.length j).map _ = _; rw [e3]; rfl, True.intro, q⟩
@[simp] theorem S_app : Sp2 (dapp i fe) st Q ↔ onS (lk st i) fun p => onL p fun _ => Wp fe st fun d s => onS (lk s i) fun p => onL p fun ds => ds.length < sizeLine ∧ onSet s i (.list (ds ++ [d])) fun s' => Q (.nx s') := by
  rw [← cell_on]
  constructor
  · rintro ⟨o, e, c, q⟩
    unfold dapp at e
    split at e
    · cases e
    · rename_i ds0 e0
      refine ⟨ds0, e0, (S_exp.mp ⟨o, e, c, q⟩).mono fun d s ⟨o, e, _, q⟩ => cell_on.mp ?_⟩
      dsimp only at e
      split at e
      · cases e
      · rename_i ds e1
        obtain ⟨h1, rfl⟩ := opt_if e
        exact ⟨ds, e1, h1, q⟩
  · rintro ⟨ds0, e0, h⟩
    unfold dapp Sp2
    dsimp only
    rw [e0]
    refine S_exp.mpr (h.mono fun d s h => ?_)
    obtain ⟨ds, e1, e2, q⟩ := cell_on.mpr h
    exact ⟨.nx (s.set i (some (.list (ds ++ [d])))), by dsimp only; rw [e1]; show (if _ then _ else _) = _; rw [if_pos e2], True.intro, q⟩
@[simp] theorem S_ext : Sp2 (dext i fe) st Q ↔ onS (lk st i) fun p => onL p fun _ => Wp fe st fun d s => onS (lk s i) fun p => onL p fun ds => onL d fun es => ds.length + es.length ≤ sizeLine ∧ onSet s i (.list (ds ++ es)) fun s' => Q (.nx s') := by
  rw [← cell_on]
  constructor
  · rintro ⟨o, e, c, q⟩
    unfold dext at e
    split at e
    · cases e
    · rename_i ds0 e0
      refine ⟨ds0, e0, (S_exp.mp ⟨o, e, c, q⟩).mono fun d s ⟨o, e, _, q⟩ => cell_on.mp ?_⟩
      dsimp only at e
      split at e
      · rename_i x y ds es e1
        obtain ⟨h1, rfl⟩ := opt_if e
        exact ⟨_, by assumption, _, rfl, h1, q⟩
      · cases e
  · rintro ⟨ds0, e0, h⟩
    unfold dext Sp2
    dsimp only
    rw [e0]
    refine S_exp.mpr (h.mono fun d s h => ?_)
    obtain ⟨ds, e1, es, e2, e3, q⟩ := cell_on.mpr h
    exact ⟨.nx (s.set i (some (.list (ds ++ es)))), by dsimp only; rw [e1, e2]; show (if _ then _ else _) = _; rw [if_pos e3], True.intro, q⟩
def Fl (gd : DG) (f : DT) (ds : List D) (st : DS) (Q : Out → Prop) : Prop := Sp2 (dforL gd f ds) st Q
@[simp] theorem S_for {fi : DM (List D)} {gd : DG} : Sp2 (dfor fi gd f) st Q ↔ Wp fi st fun ds s => Fl gd f ds s Q := S_exp
theorem Fl_inv {gd : DG} (I : List D → DS → Prop) : ∀ {ds : List D} {st : DS}, I ds st → (∀ d r s, I (d :: r) s → ∃ s1, gd d s = some s1 ∧ Sp2 f s1 fun o => match o with
    | .nx s2 => I r s2
    | .ct s2 => I r s2
    | .bk s2 => Q (.nx s2)
    | o => Q o) → (∀ s, I [] s → Q (.nx s)) → Fl gd f ds st Q
  | [], st, hI, _, q => ⟨_, rfl, True.intro, q _ hI⟩
  | d :: r, st, hI, h, q => by
    obtain ⟨s1, e1, o, e2, c2, hq⟩ := h d r st hI
    cases o with
    | nx s2 =>
      obtain ⟨o, e3, c3, q3⟩ := Fl_inv I (ds := r) (st := s2) hq h q
      exact ⟨o, by rw [dforL, e1]; dsimp only; rw [e2]; exact e3, c3, q3⟩
    | ct s2 =>
      obtain ⟨o, e3, c3, q3⟩ := Fl_inv I (ds := r) (st := s2) hq h q
      exact ⟨o, by rw [dforL, e1]; dsimp only; rw [e2]; exact e3, c3, q3⟩
    | bk s2 => exact ⟨.nx s2, by rw [dforL, e1]; dsimp only; rw [e2], True.intro, hq⟩
    | rt d s2 => exact ⟨_, by rw [dforL, e1]; dsimp only; rw [e2], c2, hq⟩
    | ex c fl s2 => exact ⟨_, by rw [dforL, e1]; dsimp only; rw [e2], c2, hq⟩
end
/-! ### defs -/
def onRt (Q : D → DS → Prop) : Out → Prop
  | .rt d s => Q d s
  | .nx s => Q .none s
  | _ => False
@[simp] theorem onRt_rt {Q : D → DS → Prop} {d : D} {s : DS} : onRt Q (.rt d s) ↔ Q d s := Iff.rfl
@[simp] theorem onRt_nx {Q : D → DS → Prop} {s : DS} : onRt Q (.nx s) ↔ Q .none s := Iff.rfl
theorem MD_of {n k : Nat} {g : DT} {ds : List D} {Q : D → Prop} (hl : ds.length = k) (h : Sp2 g (startD n ds) (onRt fun d _ => Q d)) : MD (mOf n k g) ds Q := by
  obtain ⟨o, e, _, q⟩ := h
  unfold MD mOf
  rw [if_pos hl, e]
  cases o with
  | rt d s => exact ⟨d, rfl, q⟩
  | nx s => exact ⟨_, rfl, q⟩
  | _ => exact q.elim
theorem MP_of {n k : Nat} {g : DT} {p : D} {ds : List D} {Q : D → D → Prop} (hl : ds.length = k) (h : Sp2 g (startD n (p :: ds)) (onRt fun d s => onS (lk s 0) fun p' => Q d p')) : MP (mOfP n k g) p ds Q := by
  obtain ⟨o, e, _, q⟩ := h
  unfold MP mOfP
  rw [if_pos hl, e]
  cases o with
  | rt d s =>
    obtain ⟨p', e2, q⟩ := q
    exact ⟨d, p', by show (penOf 0 s).map _ = _; rw [show penOf 0 s = some p' from e2]; rfl, q⟩
  | nx s =>
    obtain ⟨p', e2, q⟩ := q
    exact ⟨_, p', by show (penOf 0 s).map _ = _; rw [show penOf 0 s = some p' from e2]; rfl, q⟩
  | _ => exact q.elim
theorem MD.mono {m : List D → Option D} {ds : List D} {Q R : D → Prop} (h : MD m ds Q) (k : ∀ d, Q d → R d) : MD m ds R := by
  obtain ⟨d, e, q⟩ := h
  exact ⟨d, e, k d q⟩
theorem MP.mono {m : D → List D → Option (D × D)} {p : D} {ds : List D} {Q R : D → D → Prop} (h : MP m p ds Q) (k : ∀ d p', Q d p' → R d p') : MP m p ds R := by
  obtain ⟨d, p', e, q⟩ := h
  exact ⟨d, p', e, k d p' q⟩
theorem MD.eq {m : List D → Option D} {ds : List D} {d : D} (h : m ds = some d) {Q : D → Prop} : MD m ds Q ↔ Q d := ⟨fun ⟨_, e, q⟩ => by rw [h] at e; cases e; exact q, fun q => ⟨d, h, q⟩⟩

/-! ### the pen of a law -/
def Pen (p : D) : Prop := ∃ (ns : List Int) (at_ great : Int), p = .list [.list (ns.map PyData.int), .int at_, .int great] ∧ ns.length ≤ 63 ∧ 0 ≤ at_ ∧ 0 ≤ great
theorem Pen.start {ns : List Int} (h : ns.length ≤ 63) : Pen (penL ns) := ⟨ns, 0, 0, rfl, h, by omega, by omega⟩
/-! ### kinds -/
theorem ins_NoneType_none  : insN "NoneType" (tyN .none) = true := (by decide : insN "NoneType" "NoneType" = true)
theorem ins_NoneType_bool {x : Bool} : insN "NoneType" (tyN (.bool x)) = false := (by decide : insN "NoneType" "bool" = false)
theorem ins_NoneType_int {x : Int} : insN "NoneType" (tyN (.int x)) = false := (by decide : insN "NoneType" "int" = false)
theorem ins_NoneType_str {x : Str} : insN "NoneType" (tyN (.str x)) = false := (by decide : insN "NoneType" "str" = false)
theorem ins_NoneType_list {x : List D} : insN "NoneType" (tyN (.list x)) = false := (by decide : insN "NoneType" "list" = false)
theorem ins_NoneType_tuple {x : List D} : insN "NoneType" (tyN (.tuple x)) = false := (by decide : insN "NoneType" "tuple" = false)
theorem ins_NoneType_dict {x : List (D × D)} : insN "NoneType" (tyN (.dict x)) = false := (by decide : insN "NoneType" "dict" = false)
theorem ins_bool_none  : insN "bool" (tyN .none) = false := (by decide : insN "bool" "NoneType" = false)
theorem ins_bool_bool {x : Bool} : insN "bool" (tyN (.bool x)) = true := (by decide : insN "bool" "bool" = true)
theorem ins_bool_int {x : Int} : insN "bool" (tyN (.int x)) = false := (by decide : insN "bool" "int" = false)
theorem ins_bool_str {x : Str} : insN "bool" (tyN (.str x)) = false := (by decide : insN "bool" "str" = false)
theorem ins_bool_list {x : List D} : insN "bool" (tyN (.list x)) = false := (by decide : insN "bool" "list" = false)
theorem ins_bool_tuple {x : List D} : insN "bool" (tyN (.tuple x)) = false := (by decide : insN "bool" "tuple" = false)
theorem ins_bool_dict {x : List (D × D)} : insN "bool" (tyN (.dict x)) = false := (by decide : insN "bool" "dict" = false)
theorem ins_int_none  : insN "int" (tyN .none) = false := (by decide : insN "int" "NoneType" = false)
theorem ins_int_bool {x : Bool} : insN "int" (tyN (.bool x)) = true := (by decide : insN "int" "bool" = true)
theorem ins_int_int {x : Int} : insN "int" (tyN (.int x)) = true := (by decide : insN "int" "int" = true)
theorem ins_int_str {x : Str} : insN "int" (tyN (.str x)) = false := (by decide : insN "int" "str" = false)
theorem ins_int_list {x : List D} : insN "int" (tyN (.list x)) = false := (by decide : insN "int" "list" = false)
theorem ins_int_tuple {x : List D} : insN "int" (tyN (.tuple x)) = false := (by decide : insN "int" "tuple" = false)
theorem ins_int_dict {x : List (D × D)} : insN "int" (tyN (.dict x)) = false := (by decide : insN "int" "dict" = false)
theorem ins_str_none  : insN "str" (tyN .none) = false := (by decide : insN "str" "NoneType" = false)
theorem ins_str_bool {x : Bool} : insN "str" (tyN (.bool x)) = false := (by decide : insN "str" "bool" = false)
theorem ins_str_int {x : Int} : insN "str" (tyN (.int x)) = false := (by decide : insN "str" "int" = false)
theorem ins_str_str {x : Str} : insN "str" (tyN (.str x)) = true := (by decide : insN "str" "str" = true)
theorem ins_str_list {x : List D} : insN "str" (tyN (.list x)) = false := (by decide : insN "str" "list" = false)
theorem ins_str_tuple {x : List D} : insN "str" (tyN (.tuple x)) = false := (by decide : insN "str" "tuple" = false)
theorem ins_str_dict {x : List (D × D)} : insN "str" (tyN (.dict x)) = false := (by decide : insN "str" "dict" = false)
theorem ins_list_none  : insN "list" (tyN .none) = false := (by decide : insN "list" "NoneType" = false)
theorem ins_list_bool {x : Bool} : insN "list" (tyN (.bool x)) = false := (by decide : insN "list" "bool" = false)
theorem ins_list_int {x : Int} : insN "list" (tyN (.int x)) = false := (by decide : insN "list" "int" = false)
theorem ins_list_str {x : Str} : insN "list" (tyN (.str x)) = false := (by decide : insN "list" "str" = false)
theorem ins_list_list {x : List D} : insN "list" (tyN (.list x)) = true := (by decide : insN "list" "list" = true)
theorem ins_list_tuple {x : List D} : insN "list" (tyN (.tuple x)) = false := (by decide : insN "list" "tuple" = false)
theorem ins_list_dict {x : List (D × D)} : insN "list" (tyN (.dict x)) = false := (by decide : insN "list" "dict" = false)
theorem ins_tuple_none  : insN "tuple" (tyN .none) = false := (by decide : insN "tuple" "NoneType" = false)
theorem ins_tuple_bool {x : Bool} : insN "tuple" (tyN (.bool x)) = false := (by decide : insN "tuple" "bool" = false)
theorem ins_tuple_int {x : Int} : insN "tuple" (tyN (.int x)) = false := (by decide : insN "tuple" "int" = false)
theorem ins_tuple_str {x : Str} : insN "tuple" (tyN (.str x)) = false := (by decide : insN "tuple" "str" = false)
theorem ins_tuple_list {x : List D} : insN "tuple" (tyN (.list x)) = false := (by decide : insN "tuple" "list" = false)
theorem ins_tuple_tuple {x : List D} : insN "tuple" (tyN (.tuple x)) = true := (by decide : insN "tuple" "tuple" = true)
theorem ins_tuple_dict {x : List (D × D)} : insN "tuple" (tyN (.dict x)) = false := (by decide : insN "tuple" "dict" = false)
theorem ins_dict_none  : insN "dict" (tyN .none) = false := (by decide : insN "dict" "NoneType" = false)
theorem ins_dict_bool {x : Bool} : insN "dict" (tyN (.bool x)) = false := (by decide : insN "dict" "bool" = false)
theorem ins_dict_int {x : Int} : insN "dict" (tyN (.int x)) = false := (by decide : insN "dict" "int" = false)
theorem ins_dict_str {x : Str} : insN "dict" (tyN (.str x)) = false := (by decide : insN "dict" "str" = false)
theorem ins_dict_list {x : List D} : insN "dict" (tyN (.list x)) = false := (by decide : insN "dict" "list" = false)
theorem ins_dict_tuple {x : List D} : insN "dict" (tyN (.tuple x)) = false := (by decide : insN "dict" "tuple" = false)
theorem ins_dict_dict {x : List (D × D)} : insN "dict" (tyN (.dict x)) = true := (by decide : insN "dict" "dict" = true)
theorem MD.get {m : List D → Option D} {ds : List D} {r : D} (h : MD m ds fun d => d = r) : m ds = some r := by
  obtain ⟨d, e, rfl⟩ := h
  exact e
theorem lineB {n : Nat} (h : n ≤ 10000) : n ≤ sizeLine := by
  rw [sizeLine_eq]
  omega
theorem inB_sign (c : Nat) (z : Str) : inB (.str ⟨#[c]⟩) (.str z) = some (decide (c ∈ z.cps.toList)) := by
  show (if (⟨#[c]⟩ : Str).length = 1 then some (decide ((⟨#[c]⟩ : Str).cps.getD 0 0 ∈ z.cps.toList)) else none) = _
  exact if_pos (show (⟨#[c]⟩ : Str).length = 1 from rfl)
theorem in_sign {c : Nat} {z : Str} {k : Bool → Prop} : onS (inB (.str ⟨#[c]⟩) (.str z)) k ↔ k (decide (c ∈ z.cps.toList)) := by rw [inB_sign, onS_some]
theorem signs_len (z : Str) : (signs z).length = z.length := by
  unfold signs
  rw [List.length_map]
  rfl
theorem ite_i {c : Prop} [Decidable c] {p q : Prop} (h1 : c → p) (h2 : ¬c → q) : if c then p else q := by
  by_cases h : c
  · rw [if_pos h]
    exact h1 h
  · rw [if_neg h]
    exact h2 h
theorem Pen.mk {ns : List Int} {a gr : Int} (hl : ns.length ≤ 63) (ha : 0 ≤ a) (hg : 0 ≤ gr) : Pen (.list [.list (ns.map PyData.int), .int a, .int gr]) := ⟨ns, a, gr, rfl, hl, ha, hg⟩
theorem at_in {ds : List D} {i : Int} (h0 : 0 ≤ i) (h1 : i < ds.length) : ∃ d, L2.atI ds i = some d ∧ d ∈ ds := by
  have h : i.toNat < ds.length := by omega
  refine ⟨ds[i.toNat], ?_, List.getElem_mem h⟩
  unfold L2.atI ixN
  rw [if_pos h0, if_pos h1]
  exact List.getElem?_eq_getElem h
theorem at_ints {ns : List Int} {i : Int} (h0 : 0 ≤ i) (h1 : i < (ns.map PyData.int).length) : ∃ x, L2.atI (ns.map PyData.int) i = some (.int x) := by
  obtain ⟨d, e, m⟩ := at_in h0 h1
  obtain ⟨x, _, rfl⟩ := List.mem_map.mp m
  exact ⟨x, e⟩
theorem at_str {z : Str} {i : Int} (h0 : 0 ≤ i) (h1 : i < z.length) (h2 : z.length ≤ 10000) : ∃ c, ixD (.str z) (.int i) = some (.str ⟨#[c]⟩) ∧ c ∈ z.cps.toList := by
  have h : i.toNat < z.cps.toList.length := by
    have : z.cps.toList.length = z.length := Array.length_toList
    omega
  refine ⟨z.cps.toList[i.toNat], ?_, List.getElem_mem h⟩
  show (if z.length ≤ sizeLine then (L2.atI z.cps.toList i).map fun c => PyData.str ⟨#[c]⟩ else none) = _
  rw [if_pos (lineB h2)]
  unfold L2.atI ixN
  rw [if_pos h0, if_pos (by rw [Array.length_toList]; exact h1)]
  show (z.cps.toList[i.toNat]?).map _ = _
  rw [List.getElem?_eq_getElem h]
  rfl
theorem cutS_len (z : Str) (lo hi : Option Int) : (cutS z lo hi).length ≤ z.length := by
  unfold cutS
  show (List.toArray _).size ≤ z.cps.size
  rw [List.size_toArray, List.length_take, List.length_drop, Array.length_toList]
  omega
theorem app_len (x y : Str) : (x ++ y).length = x.length + y.length := Array.size_append
theorem rangeL_len (lo : Int) (n : Nat) : (rangeL lo n).length = n := by simp [rangeL]
theorem strsD_len : ∀ {ds : List D} {ys : List Str}, strsD ds = some ys → ys.length = ds.length
  | [], ys, h => by
    cases h
    rfl
  | .str i :: r, ys, h => by
    obtain ⟨zs, e, rfl⟩ := Option.map_eq_some_iff.mp h
    rw [List.length_cons, List.length_cons, strsD_len e]
/-- texts of one sign each -/
theorem strs_of {P : Nat → Prop} : ∀ {ds : List D}, (∀ d ∈ ds, ∃ c, d = .str ⟨#[c]⟩ ∧ P c) → ∃ cs : List Nat, ds = cs.map (fun c => PyData.str ⟨#[c]⟩) ∧ ∀ c ∈ cs, P c
  | [], _ => ⟨[], rfl, fun _ h => nomatch h⟩
  | d :: r, h => by
    obtain ⟨c, rfl, hc⟩ := h d List.mem_cons_self
    obtain ⟨cs, rfl, h2⟩ := strs_of (fun d hd => h d (List.mem_cons_of_mem _ hd))
    exact ⟨c :: cs, rfl, fun a ha => by
      rcases List.mem_cons.mp ha with rfl | ha
      · exact hc
      · exact h2 a ha⟩
end DR

set_option maxRecDepth 100000
set_option maxHeartbeats 1000000
namespace DR
open PySem PySem.Spec L2
open PyProof.Rows hiding St

/-! ### the evaluator: comprehensions and loops over displayed lists -/
def onClr (s : DS) (i : Nat) (k : DS → Prop) : Prop := k (s.set i none)
theorem onClr_0 {x : Option D} {r : DS} {k : DS → Prop} : onClr (x :: r) 0 k ↔ k (none :: r) := Iff.rfl
theorem onClr_S {x : Option D} {r : DS} {n : Nat} {k : DS → Prop} : onClr (x :: r) (n + 1) k ↔ onClr r n fun s => k (x :: s) := Iff.rfl
def onW (st : DS) (vs : List Nat) (k : DS → Prop) : Prop := k (wipeD st vs)
theorem onW_nil {st : DS} {k : DS → Prop} : onW st [] k ↔ k st := Iff.rfl
theorem onW_cons {st : DS} {v : Nat} {vs : List Nat} {k : DS → Prop} : onW st (v :: vs) k ↔ onW st vs fun s => onClr s v k := Iff.rfl
def onRe (st s : DS) (v : Nat) (k : DS → Prop) : Prop := k (s.set v (st.getD v none))
theorem onRe_0 {x y : Option D} {r s : DS} {k : DS → Prop} : onRe (x :: r) (y :: s) 0 k ↔ k (x :: s) := Iff.rfl
theorem onRe_S {x y : Option D} {r s : DS} {n : Nat} {k : DS → Prop} : onRe (x :: r) (y :: s) (n + 1) k ↔ onRe r s n fun s' => k (y :: s') := by
  unfold onRe
  simp only [List.set_cons_succ, List.getD_cons_succ]
def onBk (st s : DS) (vs : List Nat) (k : DS → Prop) : Prop := k (backD st s vs)
theorem onBk_nil {st s : DS} {k : DS → Prop} : onBk st s [] k ↔ k s := Iff.rfl
theorem onBk_cons {st s : DS} {v : Nat} {vs : List Nat} {k : DS → Prop} : onBk st s (v :: vs) k ↔ onBk st s vs fun s' => onRe st s' v k := Iff.rfl
def onG (g : DG) (d : D) (s : DS) (k : DS → Prop) : Prop := onS (g d s) k
def onGs (g : DGs) (ds : List D) (s : DS) (k : DS → Prop) : Prop := onS (g ds s) k
theorem onG_name {i : Nat} {d : D} {s : DS} {k : DS → Prop} : onG (gdName i) d s k ↔ onSet s i d k := onS_some
theorem onGs_nil {s : DS} {k : DS → Prop} : onGs gdNil [] s k ↔ k s := onS_some
theorem onGs_cons {g : DG} {u : DGs} {d : D} {r : List D} {s : DS} {k : DS → Prop} : onGs (gdCons g u) (d :: r) s k ↔ onG g d s fun s1 => onGs u r s1 k := by
  unfold onGs onG gdCons onS
  cases e : g d s with
  | none => exact ⟨fun ⟨_, h, _⟩ => (by simp only [e] at h; cases h), fun ⟨_, h, _⟩ => (by cases h)⟩
  | some s1 => exact ⟨fun ⟨a, h, q⟩ => ⟨s1, rfl, a, (by simpa only [e] using h), q⟩, fun ⟨a, h, b, h2, q⟩ => (by cases h; exact ⟨b, (by simp only [e]; exact h2), q⟩)⟩
theorem onG_tup {n : Nat} {u : DGs} {ds : List D} {s : DS} {k : DS → Prop} : onG (gdTup n u) (.tuple ds) s k ↔ ds.length = n ∧ onGs u ds s k := by
  unfold onG onGs gdTup onS
  constructor
  · rintro ⟨a, h, q⟩
    dsimp only at h
    split at h
    · rename_i hl
      exact ⟨hl, a, h, q⟩
    · cases h
  · rintro ⟨hl, a, h, q⟩
    exact ⟨a, by dsimp only; rw [if_pos hl]; exact h, q⟩
theorem a_tup {n : Nat} {u : DGs} {ds : List D} {s : DS} {k : DS → Prop} : onS (gdTup n u (.tuple ds) s) k ↔ ds.length = n ∧ onGs u ds s k := onG_tup
section
variable {vs : List Nat} {g : DG} {tt : DM Bool} {te : DM D} {st : DS} {acc : List D} {Q : List D → DS → Prop}
theorem Cp_nil : Cp vs g tt te [] st acc Q ↔ Q acc st := ⟨fun ⟨_, _, e, q⟩ => by cases e; exact q, fun q => ⟨_, _, rfl, q⟩⟩
theorem Cp_cons {d : D} {r : List D} : Cp vs g tt te (d :: r) st acc Q ↔ onW st vs fun s0 => onG g d s0 fun s1 => Wp tt s1 fun b s2 => if b = true then Wp te s2 fun y s3 => acc.length < sizeLine ∧ onBk st s3 vs fun s4 => Cp vs g tt te r s4 (acc ++ [y]) Q else onBk st s2 vs fun s4 => Cp vs g tt te r s4 acc Q := by
  constructor
  · rintro ⟨a, s, e, q⟩
    rw [dcompL] at e
    split at e
    · cases e
    · rename_i s1 e1
      split at e
      · rename_i s2 e2
        split at e
        · rename_i y s3 e3
          split at e
          · rename_i hl
            exact ⟨s1, e1, true, s2, e2, y, s3, e3, hl, a, s, e, q⟩
          · cases e
        · cases e
      · rename_i s2 e2
        exact ⟨s1, e1, false, s2, e2, a, s, e, q⟩
      · cases e
  · rintro ⟨s1, e1, b, s2, e2, h⟩
    cases b with
    | true =>
      obtain ⟨y, s3, e3, hl, a, s, e, q⟩ := h
      refine ⟨a, s, ?_, q⟩
      rw [dcompL, e1]
      dsimp only
      rw [e2]
      dsimp only
      rw [e3]
      dsimp only
      rw [if_pos hl]
      exact e
    | false =>
      obtain ⟨a, s, e, q⟩ := h
      refine ⟨a, s, ?_, q⟩
      rw [dcompL, e1]
      dsimp only
      rw [e2]
      exact e
end
def onTurn (k : DS → Prop) (Q : Out → Prop) : Out → Prop
  | .nx s => k s
  | .ct s => k s
  | .bk s => Q (.nx s)
  | o => Q o
section
variable {k : DS → Prop} {Q : Out → Prop} {s : DS}
theorem onTurn_nx : onTurn k Q (.nx s) ↔ k s := Iff.rfl
theorem onTurn_ct : onTurn k Q (.ct s) ↔ k s := Iff.rfl
theorem onTurn_bk : onTurn k Q (.bk s) ↔ Q (.nx s) := Iff.rfl
theorem onTurn_rt {d : D} : onTurn k Q (.rt d s) ↔ Q (.rt d s) := Iff.rfl
theorem Fl_nil {gd : DG} {f : DT} : Fl gd f [] s Q ↔ Q (.nx s) := ⟨fun ⟨_, e, _, q⟩ => by cases e; exact q, fun q => ⟨_, rfl, True.intro, q⟩⟩
theorem Fl_cons {gd : DG} {f : DT} {d : D} {r : List D} : Fl gd f (d :: r) s Q ↔ onG gd d s fun s1 => Sp2 f s1 (onTurn (fun s2 => Fl gd f r s2 Q) Q) := by
  constructor
  · rintro ⟨o, e, c, q⟩
    rw [dforL] at e
    split at e
    · cases e
    · rename_i s1 e1
      refine ⟨s1, e1, ?_⟩
      split at e
      · rename_i s2 e2
        exact ⟨_, e2, True.intro, o, e, c, q⟩
      · rename_i s2 e2
        exact ⟨_, e2, True.intro, o, e, c, q⟩
      · rename_i s2 e2
        cases e
        exact ⟨_, e2, True.intro, q⟩
      · rename_i h1 h2 h3
        refine ⟨o, e, c, ?_⟩
        cases o with
        | nx s => exact absurd e (h1 s)
        | ct s => exact absurd e (h2 s)
        | bk s => exact absurd e (h3 s)
        | rt d s => exact q
        | ex a b s => exact c.elim
  · rintro ⟨s1, e1, o, e2, c, q⟩
    cases o with
    | nx s2 =>
      obtain ⟨o, e3, c3, q3⟩ := q
      exact ⟨o, by rw [dforL, e1]; dsimp only; rw [e2]; exact e3, c3, q3⟩
    | ct s2 =>
      obtain ⟨o, e3, c3, q3⟩ := q
      exact ⟨o, by rw [dforL, e1]; dsimp only; rw [e2]; exact e3, c3, q3⟩
    | bk s2 => exact ⟨.nx s2, by rw [dforL, e1]; dsimp only; rw [e2], True.intro, q⟩
    | rt d s2 => exact ⟨_, by rw [dforL, e1]; dsimp only; rw [e2], c, q⟩
    | ex a b s2 => exact c.elim
end
/-! dicts, zip, the module's tables -/
section
variable {k : D → Prop} {ds : List (D × D)} {d0 d1 : D}
def onLD (d : D) (k : List (D × D) → Prop) : Prop := ∃ b, d = .dict b ∧ k b
theorem onLD_d {b : List (D × D)} {k : List (D × D) → Prop} : onLD (.dict b) k ↔ k b := ⟨fun ⟨_, e, q⟩ => by cases e; exact q, fun q => ⟨_, rfl, q⟩⟩
theorem v_ixAd : onS (ixA (.dict ds) d0) k ↔ onS (dgetD ds d0) k := Iff.rfl
theorem v_inAd : onS (inA d0 (.dict ds)) k ↔ onS (dinB ds d0) fun b => k (.bool b) := onS_map
theorem v_notInAd : onS (notInA d0 (.dict ds)) k ↔ onS (dinB ds d0) fun b => k (.bool (!b)) := onS_map
theorem cellD_on {i : Nat} {s : DS} {k : List (D × D) → Prop} : (∃ ds, cellD i s = some ds ∧ k ds) ↔ onS (lk s i) fun p => onLD p k := by
  constructor
  · rintro ⟨ds, e, q⟩
    exact ⟨_, penOf_eq (cellD_some e), ds, rfl, q⟩
  · rintro ⟨p, e, ds, rfl, q⟩
    refine ⟨ds, ?_, q⟩
    unfold lk penOf at e
    unfold cellD
    split at e
    · rename_i d hd
      cases e
      rw [hd]
    · cases e
theorem S_upd {i : Nat} {fe : DM D} {st : DS} {Q : Out → Prop} : Sp2 (dupd i fe) st Q ↔ onS (lk st i) fun p => onLD p fun _ => Wp fe st fun d s => onS (lk s i) fun p => onLD p fun ds => onLD d fun es => ds.length + es.length ≤ sizeLine ∧ onSet s i (.dict (mergeD ds es)) fun s' => Q (.nx s') := by
  rw [← cellD_on]
  constructor
  · rintro ⟨o, e, c, q⟩
    unfold dupd at e
    split at e
    · cases e
    · rename_i ds0 e0
      refine ⟨ds0, e0, (S_exp.mp ⟨o, e, c, q⟩).mono fun d s ⟨o, e, _, q⟩ => cellD_on.mp ?_⟩
      dsimp only at e
      split at e
      · rename_i x y ds es e1
        obtain ⟨h1, rfl⟩ := opt_if e
        exact ⟨_, by assumption, _, rfl, h1, q⟩
      · cases e
  · rintro ⟨ds0, e0, h⟩
    unfold dupd Sp2
    dsimp only
    rw [e0]
    refine S_exp.mpr (h.mono fun d s h => ?_)
    obtain ⟨ds, e1, es, e2, e3, q⟩ := cellD_on.mpr h
    exact ⟨.nx (s.set i (some (.dict (mergeD ds es)))), by dsimp only; rw [e1, e2]; show (if _ then _ else _) = _; rw [if_pos e3], True.intro, q⟩
theorem v_zip {a b : D} {k : List D → Prop} : onS (zipD [a, b]) k ↔ onS (itemsD a) fun xs => onS (itemsD b) fun ys => k (zipP xs ys) := by
  unfold onS zipD
  constructor
  · rintro ⟨l, e, q⟩
    obtain ⟨xs, h1, e⟩ := Option.bind_eq_some_iff.mp e
    obtain ⟨ys, h2, rfl⟩ := Option.map_eq_some_iff.mp e
    exact ⟨xs, h1, ys, h2, q⟩
  · rintro ⟨xs, h1, ys, h2, q⟩
    exact ⟨_, by show (itemsD a).bind _ = _; rw [h1]; show (itemsD b).map _ = _; rw [h2]; rfl, q⟩
theorem Wp_flatA {fs : DM (List D)} {st : DS} {Q : List D → DS → Prop} : Wp (dflatA fs) st Q ↔ Wp fs st fun d s => flatA d = true ∧ Q d s := by
  unfold dflatA
  constructor
  · rintro ⟨b, s, e, q⟩
    dsimp only at e
    split at e
    · rename_i d s1 e1
      split at e
      · rename_i hfl
        cases e
        exact ⟨_, _, e1, hfl, q⟩
      · cases e
    · cases e
  · rintro ⟨d, s, e, hfl, q⟩
    exact ⟨d, s, by simp only [e, hfl, if_true], q⟩
theorem v_int {i : Int} : onS (intD [.int i]) k ↔ k (.int i) := onS_some
theorem v_intB {b : Bool} : onS (intD [.bool b]) k ↔ if b = true then k (.int 1) else k (.int 0) := by
  cases b
  · exact onS_some
  · exact onS_some
theorem flat2 {x : Str} {ps : List D} : flatA [.str x, .tuple ps] = flatA ps := by
  simp [flatA, flat]
theorem v_min {i j : Int} : onS (min2D [.int i, .int j]) k ↔ k (.int (if j < i then j else i)) := onS_some
theorem v_gin {tab : List (Str × D)} {x : Str} : onS (ginD tab (.str x)) k ↔ k (.bool (tab.lookup x).isSome) := onS_some
theorem v_gnin {tab : List (Str × D)} {x : Str} : onS (gnotInD tab (.str x)) k ↔ k (.bool (!(tab.lookup x).isSome)) := onS_some
theorem v_gix {tab : List (Str × D)} {x : Str} : onS (gixD tab (.str x)) k ↔ onS (tab.lookup x) k := Iff.rfl
end
def onTwo (ds : List D) (k : D → D → Prop) : Prop := ∃ d e, ds = [d, e] ∧ k d e
theorem onTwo_l {d e : D} {k : D → D → Prop} : onTwo [d, e] k ↔ k d e := ⟨fun ⟨_, _, h, q⟩ => by cases h; exact q, fun q => ⟨_, _, rfl, q⟩⟩
theorem S_par {i j : Nat} {fs : DM (List D)} {st : DS} {Q : Out → Prop} : Sp2 (dpar i j fs) st Q ↔ Wp fs st fun ds s => onTwo ds fun d e => onSet s i d fun s1 => onSet s1 j e fun s2 => Q (.nx s2) := by
  unfold dpar
  rw [S_exp]
  refine ⟨fun h => h.mono fun ds s ⟨o, e, c, q⟩ => ?_, fun h => h.mono fun ds s ⟨d, e, h, q⟩ => ?_⟩
  · dsimp only at e
    split at e
    · cases e
      exact ⟨_, _, rfl, q⟩
    · cases e
  · subst h
    exact ⟨_, rfl, True.intro, q⟩
end DR

set_option maxRecDepth 100000
set_option maxHeartbeats 1000000
namespace DR
open PySem PySem.Spec L2
open PyProof.Rows hiding St
def abc : Str := "abcdefghijklmnopqrstuvwxyz"
def small (c : Nat) : Bool := decide (c ∈ abc.cps.toList)
def isW : D → Bool
  | .str z => decide (1 ≤ z.length ∧ z.length ≤ 8) && z.cps.toList.all small
  | _ => false
def within (x y : Int) : D → Bool
  | .int i => decide (x ≤ i ∧ i ≤ y)
  | _ => false
theorem isW_str (z : Str) : isW (.str z) = (decide (1 ≤ z.length ∧ z.length ≤ 8) && z.cps.toList.all small) := rfl
theorem strOk_1 {c : Nat} (h : c < 128) : PyData.strOk ⟨#[c]⟩ = true := by
  unfold PyData.strOk
  rw [← Array.all_toList]
  simp only [List.all_cons, List.all_nil, Bool.and_true, decide_eq_true_eq]
  omega
theorem canLay_strs : ∀ (cs : List Nat), (∀ c ∈ cs, c < 128) → PyData.canLayAll0 (cs.map fun c => PyData.str ⟨#[c]⟩) = true
  | [], _ => rfl
  | c :: r, h => by
    simp only [List.map_cons, PyData.canLayAll0, PyData.canLay0, canLay_strs r fun c hc => h c (List.mem_cons_of_mem _ hc), strOk_1 (h c List.mem_cons_self), Bool.and_self]
theorem depth_strs : ∀ (cs : List Nat), PyData.depthAll (cs.map fun c => PyData.str ⟨#[c]⟩) = 0
  | [] => rfl
  | c :: r => by
    simp only [List.map_cons, PyData.depthAll, PyData.depth, depth_strs r, Nat.max_self]
theorem shaped_strs (cs : List Nat) (h : ∀ c ∈ cs, c < 128) : SeqAt.shaped (.list (cs.map fun c => PyData.str ⟨#[c]⟩)) = true := by
  unfold SeqAt.shaped
  rw [PyData.canLay0, canLay_strs cs h, PyData.depth, depth_strs]
  rfl
def Tx7 (z : Str) : Prop := z.length ≤ 1000 ∧ ∀ c ∈ z.cps.toList, c < 128
theorem filter_nil {l : List Nat} {f : Nat → Bool} : (l.filter (fun c => !f c) = []) ↔ l.all f = true := by
  rw [List.filter_eq_nil_iff, List.all_eq_true]
  simp
theorem sW : ∀ a b : Str, decide (a = b) = (a == b) := fun a b => Bool.eq_iff_iff.mpr (by simp)
section
variable {k : D → Prop} {a b c d e f g : D} {r : List D}
theorem at_0 : onS (L2.atI (a :: r) 0) k ↔ k a := by
  have h : L2.atI (a :: r) 0 = some a := by
    unfold L2.atI ixN
    rw [if_pos (by decide), if_pos (by simp only [List.length_cons]; omega)]
    rfl
  rw [h, onS_some]
theorem at_1 : onS (L2.atI (a :: b :: r) 1) k ↔ k b := by
  have h : L2.atI (a :: b :: r) 1 = some b := by
    unfold L2.atI ixN
    rw [if_pos (by decide), if_pos (by simp only [List.length_cons]; omega)]
    rfl
  rw [h, onS_some]
theorem at_2 : onS (L2.atI (a :: b :: c :: r) 2) k ↔ k c := by
  have h : L2.atI (a :: b :: c :: r) 2 = some c := by
    unfold L2.atI ixN
    rw [if_pos (by decide), if_pos (by simp only [List.length_cons]; omega)]
    rfl
  rw [h, onS_some]
theorem at_3 : onS (L2.atI (a :: b :: c :: d :: r) 3) k ↔ k d := by
  have h : L2.atI (a :: b :: c :: d :: r) 3 = some d := by
    unfold L2.atI ixN
    rw [if_pos (by decide), if_pos (by simp only [List.length_cons]; omega)]
    rfl
  rw [h, onS_some]
theorem at_4 : onS (L2.atI (a :: b :: c :: d :: e :: r) 4) k ↔ k e := by
  have h : L2.atI (a :: b :: c :: d :: e :: r) 4 = some e := by
    unfold L2.atI ixN
    rw [if_pos (by decide), if_pos (by simp only [List.length_cons]; omega)]
    rfl
  rw [h, onS_some]
theorem at_5 : onS (L2.atI (a :: b :: c :: d :: e :: f :: r) 5) k ↔ k f := by
  have h : L2.atI (a :: b :: c :: d :: e :: f :: r) 5 = some f := by
    unfold L2.atI ixN
    rw [if_pos (by decide), if_pos (by simp only [List.length_cons]; omega)]
    rfl
  rw [h, onS_some]
theorem at_6 : onS (L2.atI (a :: b :: c :: d :: e :: f :: g :: r) 6) k ↔ k g := by
  have h : L2.atI (a :: b :: c :: d :: e :: f :: g :: r) 6 = some g := by
    unfold L2.atI ixN
    rw [if_pos (by decide), if_pos (by simp only [List.length_cons]; omega)]
    rfl
  rw [h, onS_some]
end
theorem cut1 {a : D} {r : List D} : cutL (a :: r) (some 1) none = r := by
  unfold cutL HT.sIx
  simp
theorem ten9 : (10 : Int) ^ Int.toNat 9 = 1000000000 := by decide
theorem joinL_nil : ∀ cs : List Nat, TL.joinL [] (cs.map fun c => [c]) = cs
  | [] => rfl
  | [c] => rfl
  | c :: d :: r => by
    show [c] ++ ([] ++ TL.joinL [] ((d :: r).map fun c => [c])) = c :: d :: r
    rw [joinL_nil (d :: r)]
    rfl
theorem join_signs (cs : List Nat) : (Txt.join ("" : Str) (cs.map fun c => (⟨#[c]⟩ : Str))).cps.toList = cs := by
  rw [TL.join_eq]
  refine (TL.tl_join _ _).trans ?_
  rw [List.map_map]
  exact joinL_nil cs
theorem strsD_signs : ∀ cs : List Nat, strsD (cs.map fun c => PyData.str ⟨#[c]⟩) = some (cs.map fun c => (⟨#[c]⟩ : Str))
  | [] => rfl
  | c :: r => by
    rw [List.map_cons, strsD, strsD_signs r]
    rfl
theorem len_toList (z : Str) : z.cps.toList.length = z.length := Array.length_toList
theorem sum_ones : ∀ cs : List Nat, ((cs.map fun c => (⟨#[c]⟩ : Str)).map (·.length)).sum = cs.length
  | [] => rfl
  | c :: r => by
    rw [List.map_cons, List.map_cons, List.sum_cons, sum_ones r, List.length_cons]
    show 1 + r.length = _
    omega
theorem joinD_signs {cs : List Nat} (h : cs.length ≤ 1000) : joinD "" (.list (cs.map fun c => PyData.str ⟨#[c]⟩)) = some (.str (Txt.join "" (cs.map fun c => (⟨#[c]⟩ : Str)))) := by
  show (match strsD (cs.map fun c => PyData.str ⟨#[c]⟩) with | some ys => if (ys.map (fun y : Str => y.length)).sum + ys.length * ("" : Str).length ≤ 16777216 then some (PyData.str (Txt.join "" ys)) else none | none => none) = _
  rw [strsD_signs]
  refine if_pos ?_
  rw [sum_ones]
  have : ("" : Str).length = 0 := rfl
  rw [this]
  omega
theorem tx7_app {x y : Str} {n m : Nat} (hx : x.length ≤ n ∧ ∀ c ∈ x.cps.toList, c < 128) (hy : y.length ≤ m ∧ ∀ c ∈ y.cps.toList, c < 128) : (x ++ y).length ≤ n + m ∧ ∀ c ∈ (x ++ y).cps.toList, c < 128 := by
  refine ⟨by rw [app_len]; omega, fun c hc => ?_⟩
  have e : (x ++ y).cps.toList = x.cps.toList ++ y.cps.toList := Array.toList_append
  rw [e] at hc
  rcases List.mem_append.mp hc with h | h
  · exact hx.2 c h
  · exact hy.2 c h
theorem tx7_cut {x : Str} {n : Nat} (hx : x.length ≤ n ∧ ∀ c ∈ x.cps.toList, c < 128) (lo hi : Option Int) : (cutS x lo hi).length ≤ n ∧ ∀ c ∈ (cutS x lo hi).cps.toList, c < 128 := by
  refine ⟨Nat.le_trans (cutS_len x lo hi) hx.1, fun c hc => hx.2 c ?_⟩
  have e : (cutS x lo hi).cps.toList = (x.cps.toList.drop (HT.sIx x.length 0 lo)).take (HT.sIx x.length x.length hi - HT.sIx x.length 0 lo) := List.toList_toArray
  rw [e] at hc
  exact List.mem_of_mem_drop (List.mem_of_mem_take hc)
theorem strTimes_rep (z : Str) (n : Int) : (strTimes z n).cps.toList = (List.replicate n.toNat z.cps.toList).flatten := by
  have key : ∀ (k : Nat) (acc : Array Nat), ((List.replicate k z.cps).foldl (· ++ ·) acc).toList = acc.toList ++ (List.replicate k z.cps.toList).flatten := by
    intro k
    induction k with
    | zero => intro acc; simp
    | succ k ih =>
      intro acc
      rw [List.replicate_succ, List.foldl_cons, ih, List.replicate_succ, List.flatten_cons, Array.toList_append, List.append_assoc]
  exact key n.toNat #[]
theorem tx7_times {c : Nat} (hc : c < 128) (n : Int) {m : Nat} (h : n.toNat ≤ m) : (strTimes ⟨#[c]⟩ n).length ≤ m ∧ ∀ a ∈ (strTimes ⟨#[c]⟩ n).cps.toList, a < 128 := by
  have e := strTimes_rep ⟨#[c]⟩ n
  have e2 : ∀ k : Nat, (List.replicate k ([c] : List Nat)).flatten = List.replicate k c := by
    intro k
    induction k with
    | zero => rfl
    | succ k ih =>
      rw [List.replicate_succ, List.flatten_cons, ih, List.replicate_succ]
      rfl
  have e3 : (strTimes ⟨#[c]⟩ n).cps.toList = List.replicate n.toNat c := e.trans (e2 _)
  constructor
  · rw [← len_toList, e3, List.length_replicate]
    exact h
  · intro a ha
    rw [e3] at ha
    rw [List.eq_of_mem_replicate ha]
    exact hc
theorem abc_len : abc.length = 26 := by decide +kernel
theorem abc_128 : ∀ c ∈ abc.cps.toList, c < 128 := by decide +kernel
theorem at_strE {z : Str} {i : Int} (h0 : 0 ≤ i) (h1 : i < z.length) (h2 : z.length ≤ 10000) : ixD (.str z) (.int i) = some (.str ⟨#[z.cps.toList.getD i.toNat 0]⟩) ∧ z.cps.toList.getD i.toNat 0 ∈ z.cps.toList := by
  have h : i.toNat < z.cps.toList.length := by
    have : z.cps.toList.length = z.length := Array.length_toList
    omega
  have e : z.cps.toList.getD i.toNat 0 = z.cps.toList[i.toNat] := by
    rw [List.getD_eq_getElem?_getD, List.getElem?_eq_getElem h]
    rfl
  rw [e]
  refine ⟨?_, List.getElem_mem h⟩
  show (if z.length ≤ sizeLine then (L2.atI z.cps.toList i).map fun c => PyData.str ⟨#[c]⟩ else none) = _
  rw [if_pos (lineB h2)]
  unfold L2.atI ixN
  rw [if_pos h0, if_pos (by rw [Array.length_toList]; exact h1)]
  show (z.cps.toList[i.toNat]?).map _ = _
  rw [List.getElem?_eq_getElem h]
  rfl
theorem lineB_lt {n : Nat} (h : n ≤ 9999) : n < sizeLine := by
  rw [sizeLine_eq]
  omega
theorem rangeL_cons {lo : Int} {m : Nat} : rangeL lo (m + 1) = .int lo :: rangeL (lo + 1) m := by
  unfold rangeL
  rw [List.range_succ_eq_map, List.map_cons, List.map_map]
  simp only [Int.natCast_zero, Int.add_zero]
  congr 1
  refine List.map_congr_left fun k _ => ?_
  show PyData.int (lo + ((k + 1 : Nat) : Int)) = PyData.int (lo + 1 + (k : Int))
  congr 1
  omega
def lets (f l : Int) (i : Nat) : Nat := abc.cps.toList.getD ((f + l * i) % 26).toNat 0
theorem abc_inj : ∀ i < 26, ∀ j < 26, abc.cps.toList.getD i 0 = abc.cps.toList.getD j 0 → i = j := by decide +kernel
theorem lets_ne {f l : Int} (hf : 0 ≤ f) (hl : l = 1 ∨ l = 3 ∨ l = 5 ∨ l = 7 ∨ l = 9 ∨ l = 11) {i j : Nat} (hi : i < 20) (hj : j < 20) (h : lets f l i = lets f l j) : i = j := by
  have e := abc_inj _ (by omega) _ (by omega) h
  rcases hl with rfl | rfl | rfl | rfl | rfl | rfl <;> omega
def smallS (z : Str) : Prop := ∀ c ∈ z.cps.toList, small c = true
theorem small_128 {c : Nat} (h : small c = true) : c < 128 := abc_128 c (of_decide_eq_true h)
theorem smallS_app {x y : Str} (hx : smallS x) (hy : smallS y) : smallS (x ++ y) := fun c hc => by
  have e : (x ++ y).cps.toList = x.cps.toList ++ y.cps.toList := Array.toList_append
  rw [e] at hc
  rcases List.mem_append.mp hc with h | h
  · exact hx c h
  · exact hy c h
theorem smallS_cut {x : Str} (hx : smallS x) (lo hi : Option Int) : smallS (cutS x lo hi) := fun c hc => by
  have e : (cutS x lo hi).cps.toList = (x.cps.toList.drop (HT.sIx x.length 0 lo)).take (HT.sIx x.length x.length hi - HT.sIx x.length 0 lo) := List.toList_toArray
  rw [e] at hc
  exact hx c (List.mem_of_mem_drop (List.mem_of_mem_take hc))
theorem sIx_some {n d : Nat} {s : Int} (h0 : 0 ≤ s) : HT.sIx n d (some s) = min s.toNat n := by
  show (if s < 0 then _ else _) = _
  rw [if_neg (by omega)]
theorem cutS_lenE (z : Str) (lo hi : Option Int) : (cutS z lo hi).length = min (HT.sIx z.length z.length hi - HT.sIx z.length 0 lo) (z.length - HT.sIx z.length 0 lo) := by
  unfold cutS
  show (List.toArray _).size = _
  rw [List.size_toArray, List.length_take, List.length_drop, len_toList]
theorem cut_two (W : Str) {s : Int} (h0 : 0 ≤ s) (h1 : s ≤ W.length) : (cutS W none (some s)).length + (cutS W (some s) none).length ≤ W.length := by
  rw [cutS_lenE, cutS_lenE, sIx_some h0, sIx_some h0]
  show min (_ - 0) (_ - 0) + min (W.length - _) _ ≤ _
  omega
structure WordsD (ds : List D) (n : Nat) : Prop where
  len : ds.length = n
  word : ∀ d ∈ ds, ∃ z, d = .str z ∧ Tx7 z ∧ isW (.str z) = true
  ne : ∀ (i j : Nat) (d e : D), ds[i]? = some d → ds[j]? = some e → i ≠ j → d ≠ e
def Pl (p : D) : Prop := (∃ i, p = .int i) ∨ ∃ z, p = .str z ∧ Tx7 z
theorem Pl.str {p : D} (h : Pl p) : ∀ z, p = .str z → Tx7 z := fun z e => by
  rcases h with ⟨i, rfl⟩ | ⟨y, rfl, h⟩
  · cases e
  · cases e
    exact h
theorem Pl.len {p : D} (h : Pl p) : ∀ z, p = .str z → z.length ≤ 1000 := fun z e => (h.str z e).1
theorem Pl.flat {p : D} (h : Pl p) : flat p = true := by
  rcases h with ⟨i, rfl⟩ | ⟨y, rfl, _⟩ <;> rfl
theorem flatA_pl : ∀ {ps : List D}, (∀ p ∈ ps, Pl p) → flatA ps = true
  | [], _ => rfl
  | p :: r, h => by
    unfold flatA
    rw [(h p List.mem_cons_self).flat, flatA_pl fun q hq => h q (List.mem_cons_of_mem _ hq)]
    rfl
def shapes : List (Str × Nat) := [("comes", 5), ("trial", 6), ("back", 5), ("keep", 5), ("give", 7), ("goes", 4), ("double", 4), ("promise", 6), ("loose", 3), ("want", 5), ("owe", 5), ("pay", 5)]
theorem atI_get {ds : List D} {i : Int} {d : D} (h : L2.atI ds i = some d) (h0 : 0 ≤ i) : ds[i.toNat]? = some d := by
  unfold L2.atI ixN at h
  rw [if_pos h0] at h
  split at h
  · exact h
  · cases h
def WL (ds : List D) : Prop := 0 < ds.length ∧ ds.length ≤ 100 ∧ ∀ d ∈ ds, ∃ z, d = .str z ∧ Tx7 z ∧ isW (.str z) = true
theorem WL.at {ds : List D} (h : WL ds) {k : Int} (h0 : 0 ≤ k) (h1 : k < ds.length) : ∃ z, L2.atI ds k = some (.str z) ∧ Tx7 z ∧ isW (.str z) = true := by
  obtain ⟨d, e, m⟩ := at_in h0 h1
  obtain ⟨z, rfl, h2, h3⟩ := h.2.2 d m
  exact ⟨z, e, h2, h3⟩
theorem pick_int {l : List D} {k : Int} (h0 : 0 ≤ k) (h1 : k < l.length) (P : Int → Prop) (hl : ∀ d ∈ l, ∃ i, d = .int i ∧ P i) {Q : D → Prop} (q : ∀ i, P i → Q (.int i)) : onS (ixD (.list l) (.int k)) Q := by
  obtain ⟨d, e, m⟩ := at_in h0 h1
  obtain ⟨i, rfl, hi⟩ := hl d m
  exact ⟨_, e, q i hi⟩
theorem pick_word {ds : List D} (h : WL ds) {k : Int} (h0 : 0 ≤ k) (h1 : k < ds.length) {Q : D → Prop} (q : ∀ z, Tx7 z → isW (.str z) = true → Q (.str z)) : onS (ixD (.list ds) (.int k)) Q := by
  obtain ⟨z, e, h2, h3⟩ := h.at h0 h1
  exact ⟨_, e, q z h2 h3⟩
theorem WL.pos {ds : List D} (h : WL ds) : 0 < (ds.length : Int) := by
  have := h.1
  omega
theorem WL.low {ds : List D} (h : WL ds) : (ds.length : Int) < 18446744073709551616 := by
  have := h.2.1
  omega
theorem mul01 {i : Int} {b : Bool} {k : D → Prop} (hi : 0 ≤ i ∧ i ≤ 1000000000) (q : ∀ j, 0 ≤ j ∧ j ≤ 1000000000 → k (.int j)) : onS (intD [.bool b]) fun z => onS (mulD (.int i) z) k := by
  rw [v_intB]
  cases b
  · rw [if_neg (by decide), v_mul]
    exact ⟨by omega, q _ (by omega)⟩
  · rw [if_pos rfl, v_mul]
    exact ⟨by omega, q _ (by omega)⟩
section
variable {k : D → Prop} {a_comes a_trial a_back a_keep a_give a_goes a_double a_promise a_loose a_want a_owe a_pay : D}
theorem gd0 : onS (dispD [(PyData.str "comes", a_comes), (PyData.str "trial", a_trial), (PyData.str "back", a_back)]) k ↔ k (.dict [(PyData.str "comes", a_comes), (PyData.str "trial", a_trial), (PyData.str "back", a_back)]) := by rw [show dispD [(PyData.str "comes", a_comes), (PyData.str "trial", a_trial), (PyData.str "back", a_back)] = some (.dict [(PyData.str "comes", a_comes), (PyData.str "trial", a_trial), (PyData.str "back", a_back)]) from rfl, onS_some]
theorem gd1 : onS (dispD [(PyData.str "keep", a_keep), (PyData.str "give", a_give), (PyData.str "goes", a_goes)]) k ↔ k (.dict [(PyData.str "keep", a_keep), (PyData.str "give", a_give), (PyData.str "goes", a_goes)]) := by rw [show dispD [(PyData.str "keep", a_keep), (PyData.str "give", a_give), (PyData.str "goes", a_goes)] = some (.dict [(PyData.str "keep", a_keep), (PyData.str "give", a_give), (PyData.str "goes", a_goes)]) from rfl, onS_some]
theorem gd2 : onS (dispD [(PyData.str "double", a_double), (PyData.str "promise", a_promise)]) k ↔ k (.dict [(PyData.str "double", a_double), (PyData.str "promise", a_promise)]) := by rw [show dispD [(PyData.str "double", a_double), (PyData.str "promise", a_promise)] = some (.dict [(PyData.str "double", a_double), (PyData.str "promise", a_promise)]) from rfl, onS_some]
theorem gd3 : onS (dispD [(PyData.str "loose", a_loose), (PyData.str "want", a_want)]) k ↔ k (.dict [(PyData.str "loose", a_loose), (PyData.str "want", a_want)]) := by rw [show dispD [(PyData.str "loose", a_loose), (PyData.str "want", a_want)] = some (.dict [(PyData.str "loose", a_loose), (PyData.str "want", a_want)]) from rfl, onS_some]
theorem gd4 : onS (dispD [(PyData.str "owe", a_owe), (PyData.str "pay", a_pay)]) k ↔ k (.dict [(PyData.str "owe", a_owe), (PyData.str "pay", a_pay)]) := by rw [show dispD [(PyData.str "owe", a_owe), (PyData.str "pay", a_pay)] = some (.dict [(PyData.str "owe", a_owe), (PyData.str "pay", a_pay)]) from rfl, onS_some]
theorem gm0 : mergeD [(PyData.str "comes", a_comes), (PyData.str "trial", a_trial), (PyData.str "back", a_back)] [(PyData.str "keep", a_keep), (PyData.str "give", a_give), (PyData.str "goes", a_goes)] = [(PyData.str "comes", a_comes), (PyData.str "trial", a_trial), (PyData.str "back", a_back), (PyData.str "keep", a_keep), (PyData.str "give", a_give), (PyData.str "goes", a_goes)] := rfl
theorem gm1 : mergeD [(PyData.str "comes", a_comes), (PyData.str "trial", a_trial), (PyData.str "back", a_back), (PyData.str "keep", a_keep), (PyData.str "give", a_give), (PyData.str "goes", a_goes)] [(PyData.str "double", a_double), (PyData.str "promise", a_promise)] = [(PyData.str "comes", a_comes), (PyData.str "trial", a_trial), (PyData.str "back", a_back), (PyData.str "keep", a_keep), (PyData.str "give", a_give), (PyData.str "goes", a_goes), (PyData.str "double", a_double), (PyData.str "promise", a_promise)] := rfl
theorem gm2 : mergeD [(PyData.str "comes", a_comes), (PyData.str "trial", a_trial), (PyData.str "back", a_back), (PyData.str "keep", a_keep), (PyData.str "give", a_give), (PyData.str "goes", a_goes), (PyData.str "double", a_double), (PyData.str "promise", a_promise)] [(PyData.str "loose", a_loose), (PyData.str "want", a_want)] = [(PyData.str "comes", a_comes), (PyData.str "trial", a_trial), (PyData.str "back", a_back), (PyData.str "keep", a_keep), (PyData.str "give", a_give), (PyData.str "goes", a_goes), (PyData.str "double", a_double), (PyData.str "promise", a_promise), (PyData.str "loose", a_loose), (PyData.str "want", a_want)] := rfl
theorem gm3 : mergeD [(PyData.str "comes", a_comes), (PyData.str "trial", a_trial), (PyData.str "back", a_back), (PyData.str "keep", a_keep), (PyData.str "give", a_give), (PyData.str "goes", a_goes), (PyData.str "double", a_double), (PyData.str "promise", a_promise), (PyData.str "loose", a_loose), (PyData.str "want", a_want)] [(PyData.str "owe", a_owe), (PyData.str "pay", a_pay)] = [(PyData.str "comes", a_comes), (PyData.str "trial", a_trial), (PyData.str "back", a_back), (PyData.str "keep", a_keep), (PyData.str "give", a_give), (PyData.str "goes", a_goes), (PyData.str "double", a_double), (PyData.str "promise", a_promise), (PyData.str "loose", a_loose), (PyData.str "want", a_want), (PyData.str "owe", a_owe), (PyData.str "pay", a_pay)] := rfl
theorem gg_comes : dgetD [(PyData.str "comes", a_comes), (PyData.str "trial", a_trial), (PyData.str "back", a_back), (PyData.str "keep", a_keep), (PyData.str "give", a_give), (PyData.str "goes", a_goes), (PyData.str "double", a_double), (PyData.str "promise", a_promise), (PyData.str "loose", a_loose), (PyData.str "want", a_want), (PyData.str "owe", a_owe), (PyData.str "pay", a_pay)] (.str "comes") = some a_comes := rfl
theorem gg_trial : dgetD [(PyData.str "comes", a_comes), (PyData.str "trial", a_trial), (PyData.str "back", a_back), (PyData.str "keep", a_keep), (PyData.str "give", a_give), (PyData.str "goes", a_goes), (PyData.str "double", a_double), (PyData.str "promise", a_promise), (PyData.str "loose", a_loose), (PyData.str "want", a_want), (PyData.str "owe", a_owe), (PyData.str "pay", a_pay)] (.str "trial") = some a_trial := rfl
theorem gg_back : dgetD [(PyData.str "comes", a_comes), (PyData.str "trial", a_trial), (PyData.str "back", a_back), (PyData.str "keep", a_keep), (PyData.str "give", a_give), (PyData.str "goes", a_goes), (PyData.str "double", a_double), (PyData.str "promise", a_promise), (PyData.str "loose", a_loose), (PyData.str "want", a_want), (PyData.str "owe", a_owe), (PyData.str "pay", a_pay)] (.str "back") = some a_back := rfl
theorem gg_keep : dgetD [(PyData.str "comes", a_comes), (PyData.str "trial", a_trial), (PyData.str "back", a_back), (PyData.str "keep", a_keep), (PyData.str "give", a_give), (PyData.str "goes", a_goes), (PyData.str "double", a_double), (PyData.str "promise", a_promise), (PyData.str "loose", a_loose), (PyData.str "want", a_want), (PyData.str "owe", a_owe), (PyData.str "pay", a_pay)] (.str "keep") = some a_keep := rfl
theorem gg_give : dgetD [(PyData.str "comes", a_comes), (PyData.str "trial", a_trial), (PyData.str "back", a_back), (PyData.str "keep", a_keep), (PyData.str "give", a_give), (PyData.str "goes", a_goes), (PyData.str "double", a_double), (PyData.str "promise", a_promise), (PyData.str "loose", a_loose), (PyData.str "want", a_want), (PyData.str "owe", a_owe), (PyData.str "pay", a_pay)] (.str "give") = some a_give := rfl
theorem gg_goes : dgetD [(PyData.str "comes", a_comes), (PyData.str "trial", a_trial), (PyData.str "back", a_back), (PyData.str "keep", a_keep), (PyData.str "give", a_give), (PyData.str "goes", a_goes), (PyData.str "double", a_double), (PyData.str "promise", a_promise), (PyData.str "loose", a_loose), (PyData.str "want", a_want), (PyData.str "owe", a_owe), (PyData.str "pay", a_pay)] (.str "goes") = some a_goes := rfl
theorem gg_double : dgetD [(PyData.str "comes", a_comes), (PyData.str "trial", a_trial), (PyData.str "back", a_back), (PyData.str "keep", a_keep), (PyData.str "give", a_give), (PyData.str "goes", a_goes), (PyData.str "double", a_double), (PyData.str "promise", a_promise), (PyData.str "loose", a_loose), (PyData.str "want", a_want), (PyData.str "owe", a_owe), (PyData.str "pay", a_pay)] (.str "double") = some a_double := rfl
theorem gg_promise : dgetD [(PyData.str "comes", a_comes), (PyData.str "trial", a_trial), (PyData.str "back", a_back), (PyData.str "keep", a_keep), (PyData.str "give", a_give), (PyData.str "goes", a_goes), (PyData.str "double", a_double), (PyData.str "promise", a_promise), (PyData.str "loose", a_loose), (PyData.str "want", a_want), (PyData.str "owe", a_owe), (PyData.str "pay", a_pay)] (.str "promise") = some a_promise := rfl
theorem gg_loose : dgetD [(PyData.str "comes", a_comes), (PyData.str "trial", a_trial), (PyData.str "back", a_back), (PyData.str "keep", a_keep), (PyData.str "give", a_give), (PyData.str "goes", a_goes), (PyData.str "double", a_double), (PyData.str "promise", a_promise), (PyData.str "loose", a_loose), (PyData.str "want", a_want), (PyData.str "owe", a_owe), (PyData.str "pay", a_pay)] (.str "loose") = some a_loose := rfl
theorem gg_want : dgetD [(PyData.str "comes", a_comes), (PyData.str "trial", a_trial), (PyData.str "back", a_back), (PyData.str "keep", a_keep), (PyData.str "give", a_give), (PyData.str "goes", a_goes), (PyData.str "double", a_double), (PyData.str "promise", a_promise), (PyData.str "loose", a_loose), (PyData.str "want", a_want), (PyData.str "owe", a_owe), (PyData.str "pay", a_pay)] (.str "want") = some a_want := rfl
theorem gg_owe : dgetD [(PyData.str "comes", a_comes), (PyData.str "trial", a_trial), (PyData.str "back", a_back), (PyData.str "keep", a_keep), (PyData.str "give", a_give), (PyData.str "goes", a_goes), (PyData.str "double", a_double), (PyData.str "promise", a_promise), (PyData.str "loose", a_loose), (PyData.str "want", a_want), (PyData.str "owe", a_owe), (PyData.str "pay", a_pay)] (.str "owe") = some a_owe := rfl
theorem gg_pay : dgetD [(PyData.str "comes", a_comes), (PyData.str "trial", a_trial), (PyData.str "back", a_back), (PyData.str "keep", a_keep), (PyData.str "give", a_give), (PyData.str "goes", a_goes), (PyData.str "double", a_double), (PyData.str "promise", a_promise), (PyData.str "loose", a_loose), (PyData.str "want", a_want), (PyData.str "owe", a_owe), (PyData.str "pay", a_pay)] (.str "pay") = some a_pay := rfl
end
theorem sh_comes : (("comes" : Str), 5) ∈ shapes := by decide
theorem sh_trial : (("trial" : Str), 6) ∈ shapes := by decide
theorem sh_back : (("back" : Str), 5) ∈ shapes := by decide
theorem sh_keep : (("keep" : Str), 5) ∈ shapes := by decide
theorem sh_give : (("give" : Str), 7) ∈ shapes := by decide
theorem sh_goes : (("goes" : Str), 4) ∈ shapes := by decide
theorem sh_double : (("double" : Str), 4) ∈ shapes := by decide
theorem sh_promise : (("promise" : Str), 6) ∈ shapes := by decide
theorem sh_loose : (("loose" : Str), 3) ∈ shapes := by decide
theorem sh_want : (("want" : Str), 5) ∈ shapes := by decide
theorem sh_owe : (("owe" : Str), 5) ∈ shapes := by decide
theorem sh_pay : (("pay" : Str), 5) ∈ shapes := by decide
structure Sorts (d : D) : Prop where
  ex : ∃ hs ts ks ns, d = .tuple [.list hs, .list ts, .list ks, .list ns] ∧ WordsD hs 4 ∧ WL ts ∧ WL ks ∧ WL ns
def Days (ds : List D) : Prop := ds.length = 4 ∧ ∀ d ∈ ds, ∃ i : Int, d = .int i ∧ 0 ≤ i ∧ i ≤ 999
theorem cut_take {ds : List D} {n : Nat} : cutL ds none (some (n : Int)) = ds.take n := by
  unfold cutL
  rw [sIx_some (by omega)]
  show (ds.drop 0).take (_ - 0) = _
  rw [List.drop_zero, Nat.sub_zero]
  rw [show ((n : Int)).toNat = n by omega]
  by_cases h : n ≤ ds.length
  · rw [Nat.min_eq_left h]
  · rw [Nat.min_eq_right (by omega), List.take_length, List.take_of_length_le (by omega)]
theorem cut_drop {ds : List D} {n : Nat} : cutL ds (some (n : Int)) none = ds.drop n := by
  unfold cutL
  rw [sIx_some (by omega)]
  show (ds.drop (min ((n : Int)).toNat ds.length)).take (ds.length - _) = _
  rw [show ((n : Int)).toNat = n by omega]
  by_cases h : n ≤ ds.length
  · rw [Nat.min_eq_left h]
    exact List.take_of_length_le (by rw [List.length_drop]; omega)
  · rw [Nat.min_eq_right (by omega), List.drop_length, List.drop_of_length_le (by omega), List.take_nil]
theorem WordsD.wl {ds : List D} {n : Nat} (h : WordsD ds n) (h0 : 0 < n) (h1 : n ≤ 20) : WL ds := ⟨by rw [h.len]; exact h0, by rw [h.len]; omega, h.word⟩
theorem WordsD.take {ds : List D} {n : Nat} (h : WordsD ds n) {m : Nat} (hm : m ≤ n) : WordsD (ds.take m) m where
  len := by rw [List.length_take, h.len]; omega
  word := fun d hd => h.word d (List.mem_of_mem_take hd)
  ne := fun i j d e hi hj hij => by
    have g : ∀ (i : Nat) (d : D), (ds.take m)[i]? = some d → ds[i]? = some d := fun i d hi => by
      rw [List.getElem?_take] at hi
      split at hi
      · exact hi
      · cases hi
    exact h.ne i j d e (g i d hi) (g j e hj) hij
theorem atI_nat {ds : List D} {i : Int} (h0 : 0 ≤ i) (h1 : i < ds.length) : L2.atI ds i = ds[i.toNat]? := by
  unfold L2.atI ixN
  rw [if_pos h0, if_pos h1]
  rfl
theorem atI_last {ds : List D} (h : 0 < ds.length) : ∃ d, L2.atI ds (-1) = some d ∧ ds[ds.length - 1]? = some d := by
  have hl : ds.length - 1 < ds.length := by omega
  refine ⟨ds[ds.length - 1], ?_, List.getElem?_eq_getElem hl⟩
  unfold L2.atI ixN
  rw [if_neg (by decide), if_pos (by omega)]
  show ds[((-1 : Int) + ds.length).toNat]? = _
  rw [show ((-1 : Int) + ds.length).toNat = ds.length - 1 by omega]
  exact List.getElem?_eq_getElem hl
theorem isW_len {z : Str} (h : isW (.str z) = true) : z.length ≤ 8 := by
  rw [isW_str, Bool.and_eq_true] at h
  have := of_decide_eq_true h.1
  omega
theorem rep_flat_len (l : List Nat) : ∀ n : Nat, (List.replicate n l).flatten.length = n * l.length
  | 0 => by simp
  | n + 1 => by
    rw [List.replicate_succ, List.flatten_cons, List.length_append, rep_flat_len l n, Nat.succ_mul]
    omega
theorem tx7_rep {z : Str} (hz : Tx7 z) (h8 : z.length ≤ 8) : Tx7 (strTimes z 9) := by
  have e := strTimes_rep z 9
  refine ⟨?_, fun c hc => ?_⟩
  · rw [← len_toList, e, rep_flat_len, len_toList]
    show 9 * z.length ≤ 1000
    omega
  · rw [e] at hc
    obtain ⟨l, hl, hcl⟩ := List.mem_flatten.mp hc
    rw [List.eq_of_mem_replicate hl] at hcl
    exact hz.2 c hcl
theorem abcdefgh7 : (("abcdefgh" : Str)).length = 8 ∧ ∀ c ∈ (("abcdefgh" : Str)).cps.toList, c < 128 := by decide +kernel
end DR

set_option maxRecDepth 100000
set_option maxHeartbeats 1000000
namespace DR
open PySem PySem.Spec L2
open PyProof.Rows hiding St
/-- the pages: of houses H, things T, kinds K, names N; named z, on a day -/
inductive IsPg (H T K N : Str → Prop) (z : Str) (day : Int) : D → Prop
  | comes {t k o : Str} : T t → K k → H o → IsPg H T K N z day (.tuple [.str "comes", .str z, .int day, .str t, .str k, .str o])
  | trial {t o h : Str} {m : Int} : T t → H o → H h → o ≠ h → 0 ≤ m → m ≤ 9 → IsPg H T K N z day (.tuple [.str "trial", .str z, .int day, .str t, .str o, .str h, .int m])
  | back {t o : Str} {m : Int} : T t → H o → 0 ≤ m → m ≤ 9 → IsPg H T K N z day (.tuple [.str "back", .str z, .int day, .str t, .str o, .int m])
  | keep {t o : Str} {f : Int} : T t → H o → 0 ≤ f → f ≤ 1000000000 → IsPg H T K N z day (.tuple [.str "keep", .str z, .int day, .str t, .str o, .int f])
  | give {t o h : Str} {m f : Int} : T t → H o → H h → o ≠ h → 0 ≤ m → m ≤ 9 → 0 ≤ f → f ≤ 1000000000 → IsPg H T K N z day (.tuple [.str "give", .str z, .int day, .str t, .str o, .str h, .int m, .int f])
  | goes {t o : Str} : T t → H o → IsPg H T K N z day (.tuple [.str "goes", .str z, .int day, .str t, .str o])
  | double {t o : Str} : T t → H o → IsPg H T K N z day (.tuple [.str "double", .str z, .int day, .str t, .str o])
  | promise {t o h : Str} {due : Int} : T t → H o → H h → o ≠ h → day ≤ due → due ≤ 999 → IsPg H T K N z day (.tuple [.str "promise", .str z, .int day, .str t, .str o, .str h, .int due])
  | loose {n : Str} : N n → IsPg H T K N z day (.tuple [.str "loose", .str z, .int day, .str n])
  | want {o k : Str} {m : Int} : H o → K k → 0 ≤ m → m ≤ 9 → IsPg H T K N z day (.tuple [.str "want", .str z, .int day, .str o, .str k, .int m])
  | owe {o h : Str} {w : Int} : H o → H h → o ≠ h → 1 ≤ w → w ≤ 1000000000 → IsPg H T K N z day (.tuple [.str "owe", .str z, .int day, .str o, .str h, .int w])
  | pay {o h : Str} {w : Int} : H o → H h → o ≠ h → 1 ≤ w → w ≤ 1000000000 → IsPg H T K N z day (.tuple [.str "pay", .str z, .int day, .str o, .str h, .int w])
def ranks : List Str := ["comes", "trial", "back", "keep", "give", "goes", "double", "promise", "loose", "want", "owe", "pay"]
/-- a word among data -/
def Mem (ds : List D) (z : Str) : Prop := PyData.str z ∈ ds
theorem pickW {ds : List D} (h : WL ds) {k : Int} (h0 : 0 ≤ k) (h1 : k < ds.length) {Q : D → Prop} (q : ∀ z, Mem ds z → Tx7 z → isW (.str z) = true → Q (.str z)) : onS (ixD (.list ds) (.int k)) Q := by
  obtain ⟨d, e, m⟩ := at_in h0 h1
  obtain ⟨z, rfl, h2, h3⟩ := h.2.2 d m
  exact ⟨_, e, q z m h2 h3⟩
/-- days of a year -/
def DaysL (ds : List D) : Prop := 0 < ds.length ∧ ds.length ≤ 100 ∧ ∀ d ∈ ds, ∃ i : Int, d = .int i ∧ 0 ≤ i ∧ i ≤ 999
theorem IsPg.mono {H T K N H' T' K' N' : Str → Prop} {z : Str} {day : Int} {d : D} (h : IsPg H T K N z day d) (h1 : ∀ x, H x → H' x) (h2 : ∀ x, T x → T' x) (h3 : ∀ x, K x → K' x) (h4 : ∀ x, N x → N' x) : IsPg H' T' K' N' z day d := by
  cases h
  · exact .comes (h2 _ ‹_›) (h3 _ ‹_›) (h1 _ ‹_›)
  · exact .trial (h2 _ ‹_›) (h1 _ (by assumption)) (h1 _ (by assumption)) ‹_› ‹_› ‹_›
  · exact .back (h2 _ ‹_›) (h1 _ ‹_›) ‹_› ‹_›
  · exact .keep (h2 _ ‹_›) (h1 _ ‹_›) ‹_› ‹_›
  · exact .give (h2 _ ‹_›) (h1 _ (by assumption)) (h1 _ (by assumption)) ‹_› (by assumption) (by assumption) (by assumption) (by assumption)
  · exact .goes (h2 _ ‹_›) (h1 _ ‹_›)
  · exact .double (h2 _ ‹_›) (h1 _ ‹_›)
  · exact .promise (h2 _ ‹_›) (h1 _ (by assumption)) (h1 _ (by assumption)) ‹_› ‹_› ‹_›
  · exact .loose (h4 _ ‹_›)
  · exact .want (h1 _ ‹_›) (h3 _ ‹_›) ‹_› ‹_›
  · exact .owe (h1 _ (by assumption)) (h1 _ (by assumption)) ‹_› ‹_› ‹_›
  · exact .pay (h1 _ (by assumption)) (h1 _ (by assumption)) ‹_› ‹_› ‹_›
/-- a comprehension, by an invariant of what is found, what is left, the state -/
theorem Cp_acc {vs : List Nat} {g : DG} {tt : DM Bool} {te : DM D} (I : List D → List D → DS → Prop)
    (h : ∀ acc d r s, I acc (d :: r) s → ∃ s1, g d (wipeD s vs) = some s1 ∧ Wp tt s1 fun b s2 => if b = true then Wp te s2 fun y s3 => I (acc ++ [y]) r (backD s s3 vs) else I acc r (backD s s2 vs)) :
    ∀ {ds : List D} {st : DS} {acc : List D} {Q : List D → DS → Prop}, I acc ds st → acc.length + ds.length ≤ sizeLine → (∀ r s', I r [] s' → Q r s') → Cp vs g tt te ds st acc Q
  | [], st, acc, Q, hI, _, q => Cp_nil.mpr (q _ _ hI)
  | d :: ds, st, acc, Q, hI, hl, q => by
    rw [List.length_cons] at hl
    obtain ⟨s1, e1, b, s2, e2, h2⟩ := h acc d ds st hI
    unfold Cp
    rw [dcompL, e1]
    dsimp only
    rw [e2]
    cases b with
    | false =>
      rw [if_neg (by decide)] at h2
      exact Cp_acc I h h2 (by omega) q
    | true =>
      rw [if_pos rfl] at h2
      obtain ⟨y, s3, e3, h3⟩ := h2
      dsimp only
      rw [e3]
      dsimp only
      rw [if_pos (by omega)]
      exact Cp_acc I h h3 (by rw [List.length_append, List.length_singleton]; omega) q
/-- pages of these names, in their order -/
def PagesOf (H T K N : Str → Prop) (nm ds : List D) : Prop := ds.length = nm.length ∧ ∀ (i : Nat) (e : D), nm[i]? = some e → ∃ z d day, e = .str z ∧ ds[i]? = some d ∧ 0 ≤ day ∧ day ≤ 999 ∧ IsPg H T K N z day d
theorem WL.mem {ds : List D} (h : WL ds) {z : Str} (m : Mem ds z) : Tx7 z ∧ isW (.str z) = true := by
  obtain ⟨y, e, h1, h2⟩ := h.2.2 _ m
  cases e
  exact ⟨h1, h2⟩
theorem WL.drop {ds : List D} {n : Nat} (h : WL ds) (hn : n < ds.length) : WL (ds.drop n) := ⟨by rw [List.length_drop]; omega, by rw [List.length_drop]; have := h.2.1; omega, fun d hd => h.2.2 d (List.mem_of_mem_drop hd)⟩
theorem WL.app {ds es : List D} (h : WL ds) (k : WL es) (hl : ds.length + es.length ≤ 100) : WL (ds ++ es) := ⟨by rw [List.length_append]; have := h.1; omega, by rw [List.length_append]; exact hl, fun d hd => by
  rcases List.mem_append.mp hd with h1 | h1
  · exact h.2.2 d h1
  · exact k.2.2 d h1⟩
theorem cutL_take {ds : List D} {i : Int} (h0 : 0 ≤ i) : cutL ds none (some i) = ds.take i.toNat := by
  have := cut_take (ds := ds) (n := i.toNat)
  rwa [show ((i.toNat : Nat) : Int) = i by omega] at this
theorem cutL_drop {ds : List D} {i : Int} (h0 : 0 ≤ i) : cutL ds (some i) none = ds.drop i.toNat := by
  have := cut_drop (ds := ds) (n := i.toNat)
  rwa [show ((i.toNat : Nat) : Int) = i by omega] at this
theorem WordsD.wl' {ds : List D} {n : Nat} (h : WordsD ds n) (h0 : 0 < n) (h1 : n ≤ 40) : WL ds := ⟨by rw [h.len]; exact h0, by rw [h.len]; omega, h.word⟩
theorem perm_eraseIdx {α : Type} : ∀ (l : List α) (k : Nat) (h : k < l.length), ([l[k]] ++ l.eraseIdx k).Perm l
  | a :: l, 0, _ => .refl _
  | a :: l, k + 1, h => by
    have hl : k < l.length := by simpa using h
    have ih := perm_eraseIdx l k hl
    show (l[k] :: a :: l.eraseIdx k).Perm (a :: l)
    exact (List.Perm.swap ..).trans (List.Perm.cons a ih)
end DR

set_option maxRecDepth 100000
set_option maxHeartbeats 1000000
namespace DR
open PySem PySem.Spec L2
open PyProof.Rows hiding St
/-! ### the evaluator: the newer words -/
theorem Lvs_nil {st : DS} : Lvs [] st ↔ True := ⟨fun _ => True.intro, fun _ => rfl⟩
theorem Lvs_cons {i : Nat} {J : List Nat} {st : DS} : Lvs (i :: J) st ↔ onS (lk st i) fun _ => Lvs J st := by
  unfold Lvs onS lk
  rw [List.all_cons, Bool.and_eq_true, Option.isSome_iff_exists]
  exact ⟨fun ⟨⟨a, h⟩, q⟩ => ⟨a, h, q⟩, fun ⟨a, h, q⟩ => ⟨⟨a, h⟩, q⟩⟩
theorem penL_on {i : Nat} {s : DS} {k : List D → Prop} : (∃ ds, penOf i s = some (.list ds) ∧ k ds) ↔ onS (lk s i) fun p => onL p k :=
  ⟨fun ⟨ds, h, q⟩ => ⟨_, h, ds, rfl, q⟩, fun ⟨_, h, ds, e, q⟩ => by subst e; exact ⟨ds, h, q⟩⟩
theorem isL_on {i : Nat} {s : DS} {p : Prop} : (isL i s = true ∧ p) ↔ onS (lk s i) fun d => onL d fun _ => p := by
  rw [← penL_on]
  constructor
  · rintro ⟨h, q⟩
    obtain ⟨ds, e⟩ := isL_some h
    exact ⟨ds, e, q⟩
  · rintro ⟨ds, e, q⟩
    refine ⟨?_, q⟩
    unfold isL
    rw [e]
theorem Wp_onL {β : Type} {i : Nat} {f : DM β} {st : DS} {Q : β → DS → Prop} : Wp (donL i f) st Q ↔ onS (lk st i) fun d => onL d fun _ => Wp f st Q := by
  rw [← isL_on]
  unfold donL Wp
  constructor
  · rintro ⟨b, s, e, q⟩
    dsimp only at e
    split at e
    · rename_i h
      exact ⟨h, b, s, e, q⟩
    · cases e
  · rintro ⟨h, b, s, e, q⟩
    exact ⟨b, s, by dsimp only; rw [if_pos h]; exact e, q⟩
section
variable {i : Nat} {st : DS} {Q : D → DS → Prop} {fb fe : DM D} {fs : DM (List D)}
theorem Wp_popAtD {y : D} : Wp (popAtD i y) st Q ↔ onS (lk st i) fun p => onL p fun ds => onI y fun j => ds.length ≤ sizeLine ∧ onS (ixN ds.length j) fun k => onS ds[k]? fun d => onSet st i (.list (ds.eraseIdx k)) fun s' => Q d s' := by
  rw [← penL_on]
  unfold popAtD Wp
  constructor
  · rintro ⟨b, s, e, q⟩
    dsimp only at e
    split at e
    · rename_i ds j h
      split at e
      · rename_i hl
        obtain ⟨k, hk, e⟩ := Option.bind_eq_some_iff.mp e
        obtain ⟨d, hd, e⟩ := Option.map_eq_some_iff.mp e
        cases e
        exact ⟨ds, h, j, rfl, hl, k, hk, _, hd, q⟩
      · cases e
    · cases e
  · rintro ⟨ds, h, j, rfl, hl, k, hk, d, hd, q⟩
    refine ⟨d, _, ?_, q⟩
    dsimp only
    rw [h]
    dsimp only
    rw [if_pos hl, hk]
    show (ds[k]?).map _ = _
    rw [hd]
    rfl
theorem Wp_popAt : Wp (dpopAt i fb) st Q ↔ onS (lk st i) fun p => onL p fun _ => Wp fb st fun y s => onS (lk s i) fun p => onL p fun ds => onI y fun j => ds.length ≤ sizeLine ∧ onS (ixN ds.length j) fun k => onS ds[k]? fun d => onSet s i (.list (ds.eraseIdx k)) fun s' => Q d s' := by
  unfold dpopAt
  simp only [Wp_onL, Wp_bind, Wp_popAtD]
theorem Wp_popLast : Wp (dpopLast i) st Q ↔ onS (lk st i) fun p => onL p fun ds => onS ds[ds.length - 1]? fun d => onSet st i (.list ds.dropLast) fun s' => Q d s' := by
  rw [← penL_on]
  unfold dpopLast Wp
  constructor
  · rintro ⟨b, s, e, q⟩
    dsimp only at e
    split at e
    · rename_i ds h
      obtain ⟨d, hd, e⟩ := Option.map_eq_some_iff.mp e
      cases e
      exact ⟨ds, h, _, hd, q⟩
    · cases e
  · rintro ⟨ds, h, d, hd, q⟩
    refine ⟨d, _, ?_, q⟩
    dsimp only
    rw [h]
    dsimp only
    rw [hd]
    rfl
theorem Wp_plen : Wp (dplen i) st Q ↔ onS (lk st i) fun p => onL p fun ds => Q (.int ds.length) st := by
  rw [← penL_on]
  unfold dplen Wp
  constructor
  · rintro ⟨b, s, e, q⟩
    dsimp only at e
    split at e
    · rename_i ds h
      cases e
      exact ⟨ds, h, q⟩
    · cases e
  · rintro ⟨ds, h, q⟩
    refine ⟨_, _, ?_, q⟩
    dsimp only
    rw [h]
theorem Wp_lm {mx : Bool} {g : List D → List D → Option (D × List D)} : Wp (dlm mx i g fs) st Q ↔ onS (lk st i) fun p => onL p fun _ => Wp fs st fun as s => onS (lk s i) fun p => onL p fun ds => (mx = true → flatA as = true) ∧ onS (g as ds) fun r => onSet s i (.list r.2) fun s' => Q r.1 s' := by
  unfold dlm
  simp only [Wp_onL, Wp_bind]
  have key : ∀ as s, Wp (lmD mx i g as) s Q ↔ onS (lk s i) fun p => onL p fun ds => (mx = true → flatA as = true) ∧ onS (g as ds) fun r => onSet s i (.list r.2) fun s' => Q r.1 s' := fun as s => by
    rw [← penL_on]
    unfold lmD Wp
    constructor
    · rintro ⟨b, s', e, q⟩
      dsimp only at e
      split at e
      · rename_i ds h
        split at e
        · cases e
        · rename_i hn
          obtain ⟨r, hr, e⟩ := Option.map_eq_some_iff.mp e
          cases e
          refine ⟨ds, h, fun hm => ?_, r, hr, q⟩
          cases hf : flatA as with
          | true => rfl
          | false => exact absurd ⟨hm, hf⟩ hn
      · cases e
    · rintro ⟨ds, h, hm, r, hr, q⟩
      refine ⟨r.1, _, ?_, q⟩
      dsimp only
      rw [h]
      dsimp only
      rw [if_neg (fun z => by rw [hm z.1] at z; cases z.2), hr]
      rfl
  simp only [key]
theorem Wp_index : Wp (dindex fb fe) st Q ↔ Wp fb st fun d s => onL d fun ds => Wp fe s fun y s' => onS (idxD (.list ds) [y]) fun z => Q z s' := by
  unfold dindex
  simp only [Wp_bind]
  have key : ∀ d s, Wp (dOnL d (fe.bind fun y => DM.opt (idxD d [y]))) s Q ↔ onL d fun ds => Wp fe s fun y s' => onS (idxD (.list ds) [y]) fun z => Q z s' := fun d s => by
    unfold dOnL onL
    constructor
    · intro h
      split at h
      · simp only [Wp_bind, Wp_opt] at h
        exact ⟨_, rfl, h⟩
      · obtain ⟨_, _, e, _⟩ := h
        cases e
    · rintro ⟨ds, rfl, h⟩
      simp only [Wp_bind, Wp_opt]
      exact h
  simp only [key]
end
section
variable {i : Nat} {st : DS} {Q : Out → Prop} {fe fk : DM D} {fs : DM (List D)} {f : DT}
/-- behind a switched block -/
def onFg (i : Nat) (Q : Out → Prop) : Out → Prop
  | .nx s => onClr s i fun s => Q (.nx s)
  | .bk s => onClr s i fun s => Q (.bk s)
  | .ct s => onClr s i fun s => Q (.ct s)
  | o => Q o
theorem onFg_nx {s : DS} : onFg i Q (.nx s) ↔ onClr s i fun s => Q (.nx s) := Iff.rfl
theorem onFg_bk {s : DS} : onFg i Q (.bk s) ↔ onClr s i fun s => Q (.bk s) := Iff.rfl
theorem onFg_ct {s : DS} : onFg i Q (.ct s) ↔ onClr s i fun s => Q (.ct s) := Iff.rfl
theorem onFg_rt {d : D} {s : DS} : onFg i Q (.rt d s) ↔ Q (.rt d s) := Iff.rfl
theorem S_sw : Sp2 (dsw i f) st Q ↔ onClr st i fun s => Sp2 f s (onFg i Q) := by
  unfold dsw Sp2 onClr
  constructor
  · rintro ⟨o, e, c, q⟩
    obtain ⟨o', e', rfl⟩ := Option.map_eq_some_iff.mp e
    refine ⟨o', e', ?_, ?_⟩
    · cases o' <;> first | exact True.intro | exact c
    · cases o' <;> exact q
  · rintro ⟨o, e, c, q⟩
    refine ⟨forgetO i o, by dsimp only; rw [e]; rfl, ?_, ?_⟩
    · cases o <;> first | exact True.intro | exact c
    · cases o <;> exact q
theorem cellL_on {s : DS} {k : List D → Prop} : (∃ ds, cellOf i s = some ds ∧ k ds) ↔ onS (lk s i) fun p => onL p k := by
  rw [← penL_on]
  constructor
  · rintro ⟨ds, h, q⟩
    exact ⟨ds, penOf_eq (cellOf_some h), q⟩
  · rintro ⟨ds, h, q⟩
    refine ⟨ds, ?_, q⟩
    unfold cellOf
    rw [penOf_some h]
theorem S_slm {g : List D → List D → Option (D × List D)} : Sp2 (dslm i g fs) st Q ↔ onS (lk st i) fun p => onL p fun _ => Wp fs st fun as s => onS (lk s i) fun p => onL p fun ds => onS (g as ds) fun r => onSet s i (.list r.2) fun s' => Q (.nx s') := by
  rw [← cellL_on]
  unfold dslm
  constructor
  · rintro ⟨o, e, c, q⟩
    dsimp only at e
    split at e
    · cases e
    · rename_i ds h
      refine ⟨ds, h, (S_exp.mp ⟨o, e, c, q⟩).mono fun as s ⟨o, e, c, q⟩ => ?_⟩
      rw [← cellL_on]
      dsimp only at e
      split at e
      · cases e
      · rename_i ds h
        obtain ⟨r, hr, rfl⟩ := Option.map_eq_some_iff.mp e
        exact ⟨ds, h, r, hr, q⟩
  · rintro ⟨ds, h, w⟩
    obtain ⟨o, e, c, q⟩ := S_exp.mpr (w.mono fun as s h => show ∃ o, (match cellOf i s with
      | none => none
      | some ds => (g as ds).map fun r => Out.nx (s.set i (some (.list r.2)))) = some o ∧ o.calm ∧ Q o from by
        rw [← cellL_on] at h
        obtain ⟨ds, h, r, hr, q⟩ := h
        exact ⟨Out.nx (s.set i (some (.list r.2))), by rw [h]; dsimp only; rw [hr]; rfl, True.intro, q⟩)
    exact ⟨o, by dsimp only; rw [h]; exact e, c, q⟩
theorem S_kput : Sp2 (dkput i fe fk) st Q ↔ Wp fe st fun d s => onS (lk s i) fun p => onLD p fun _ => Wp fk s fun k s2 => onS (lk s2 i) fun p => onLD p fun ds => ((keyD k).isSome = true ∧ ds.length < sizeLine) ∧ onSet s2 i (.dict (putD ds k d)) fun s' => Q (.nx s') := by
  unfold dkput
  rw [S_exp]
  refine ⟨fun h => h.mono fun d s ⟨o, e, c, q⟩ => ?_, fun h => h.mono fun d s h => ?_⟩
  · dsimp only at e
    split at e
    · cases e
    · rename_i ds0 h0
      rw [← cellD_on]
      refine ⟨ds0, h0, (S_exp.mp ⟨o, e, c, q⟩).mono fun k s2 ⟨o, e, c, q⟩ => ?_⟩
      dsimp only at e
      split at e
      · cases e
      · rename_i ds h
        rw [← cellD_on]
        obtain ⟨hc, rfl⟩ := opt_if e
        exact ⟨ds, h, hc, q⟩
  · rw [← cellD_on] at h
    obtain ⟨ds0, h0, h⟩ := h
    have := S_exp.mpr (h.mono fun k s2 h => show ∃ o, (match cellD i s2 with
      | none => none
      | some ds => if (keyD k).isSome = true ∧ ds.length < sizeLine then some (Out.nx (s2.set i (some (.dict (putD ds k d))))) else none) = some o ∧ o.calm ∧ Q o from by
        rw [← cellD_on] at h
        obtain ⟨ds, h1, hc, q⟩ := h
        exact ⟨Out.nx (s2.set i (some (.dict (putD ds k d)))), by rw [h1]; dsimp only; rw [if_pos hc], True.intro, q⟩)
    obtain ⟨o, e, c, q⟩ := this
    exact ⟨o, by dsimp only; rw [h0]; exact e, c, q⟩
end
section
variable {k : D → Prop} {ds : List D} {ps : List (D × D)} {d : D}
theorem v_isN : onS (isNoD d .none) k ↔ k (.bool (isNo d)) := onS_some
theorem v_notN : onS (notNoD d .none) k ↔ k (.bool (!isNo d)) := onS_some
theorem v_list : onS (listD [.list ds]) k ↔ k (.list ds) := onS_some
theorem v_listT : onS (listD [.tuple ds]) k ↔ k (.list ds) := onS_some
theorem v_tupL : onS (tupleD [.list ds]) k ↔ k (.tuple ds) := onS_some
theorem v_tupT : onS (tupleD [.tuple ds]) k ↔ k (.tuple ds) := onS_some
theorem v_dictDD : onS (dictDD [.dict ps]) k ↔ k (.dict ps) := onS_some
theorem v_dictPD : onS (dictPD [.list ds]) k ↔ onS (pairsD ds) fun ps => k (.dict (mergeD [] ps)) := by
  unfold onS
  constructor
  · rintro ⟨a, h, q⟩
    obtain ⟨ps, h1, rfl⟩ := Option.map_eq_some_iff.mp (show (pairsD ds).map (fun ps => PyData.dict (mergeD [] ps)) = some a from h)
    exact ⟨ps, h1, q⟩
  · rintro ⟨ps, h1, q⟩
    exact ⟨_, show (pairsD ds).map (fun ps => PyData.dict (mergeD [] ps)) = _ from by rw [h1]; rfl, q⟩
theorem v_rev2 {k : D × List D → Prop} : onS (reverseL [] ds) k ↔ k (.none, ds.reverse) := onS_some
theorem v_ins {j : Int} {k : D × List D → Prop} : onS (insertL [.int j, d] ds) k ↔ (ds.length < sizeLine ∧ 0 ≤ j ∧ j < 2 ^ 63) ∧ k (.none, ds.take j.toNat ++ [d] ++ ds.drop j.toNat) := onS_if
end
end DR

set_option maxRecDepth 100000
set_option maxHeartbeats 1000000
namespace DR
open PySem PySem.Spec L2
open PyProof.Rows hiding St
/-! ### shapes of data -/
def Shd (n : Nat) (d : D) : Prop := d.canLay0 = true ∧ d.depth ≤ n
theorem Shd.shaped {n : Nat} {d : D} (h : Shd n d) (hn : n ≤ 64 := by decide) : SeqAt.shaped d = true := by
  unfold SeqAt.shaped
  rw [h.1, decide_eq_true (Nat.le_trans h.2 hn)]
  rfl
theorem Shd.mono {n m : Nat} {d : D} (h : Shd n d) (hm : n ≤ m) : Shd m d := ⟨h.1, Nat.le_trans h.2 hm⟩
theorem shd_int {i : Int} : Shd 0 (.int i) := ⟨by simp [PyData.canLay0], by simp [PyData.depth]⟩
theorem shd_bool {b : Bool} : Shd 0 (.bool b) := ⟨by simp [PyData.canLay0], by simp [PyData.depth]⟩
theorem shd_none : Shd 0 .none := ⟨by simp [PyData.canLay0], by simp [PyData.depth]⟩
theorem tx7_ok {z : Str} (h : Tx7 z) : PyData.strOk z = true := by
  unfold PyData.strOk
  rw [← Array.all_toList, List.all_eq_true]
  intro c hc
  have := h.2 c hc
  exact decide_eq_true (by omega)
theorem shd_str {z : Str} (h : Tx7 z) : Shd 0 (.str z) := ⟨by rw [PyData.canLay0]; exact tx7_ok h, by simp [PyData.depth]⟩
theorem shd_all {n : Nat} : ∀ {ds : List D}, (∀ d ∈ ds, Shd n d) → PyData.canLayAll0 ds = true ∧ PyData.depthAll ds ≤ n
  | [], _ => ⟨by rw [PyData.canLayAll0], by rw [PyData.depthAll]; omega⟩
  | d :: r, h => by
    obtain ⟨h1, h2⟩ := shd_all fun e he => h e (List.mem_cons_of_mem _ he)
    obtain ⟨h3, h4⟩ := h d List.mem_cons_self
    exact ⟨by rw [PyData.canLayAll0, h3, h1]; rfl, by rw [PyData.depthAll]; omega⟩
theorem shd_list {n : Nat} {ds : List D} (h : ∀ d ∈ ds, Shd n d) : Shd (n + 1) (.list ds) := ⟨by rw [PyData.canLay0]; exact (shd_all h).1, by rw [PyData.depth]; have := (shd_all h).2; omega⟩
theorem shd_tup {n : Nat} {ds : List D} (h : ∀ d ∈ ds, Shd n d) : Shd (n + 1) (.tuple ds) := ⟨by rw [PyData.canLay0]; exact (shd_all h).1, by rw [PyData.depth]; have := (shd_all h).2; omega⟩
theorem eqB_self {n : Nat} {d : D} (h : Shd n d) (hn : n ≤ 64 := by decide) : eqB d d = some true := by
  unfold eqB
  rw [if_pos (.inr ⟨h.shaped hn, h.shaped hn⟩), PySem.SeqAt.eqv_refl d h.1]
theorem eqB_sh {n m : Nat} {d e : D} (h : Shd n d) (k : Shd m e) (hn : n ≤ 64 := by decide) (hm : m ≤ 64 := by decide) : eqB d e = some (PyData.eqv d e) := by
  unfold eqB
  rw [if_pos (.inr ⟨h.shaped hn, k.shaped hm⟩)]
theorem shd_cons {n : Nat} {d : D} {ds : List D} (h : Shd n d) (k : ∀ e ∈ ds, Shd n e) : ∀ e ∈ d :: ds, Shd n e := fun e he => by
  rcases List.mem_cons.mp he with rfl | he
  · exact h
  · exact k e he
theorem shd_nil {n : Nat} : ∀ e ∈ ([] : List D), Shd n e := fun _ h => nomatch h
theorem IsPg.shd {H T K N : Str → Prop} {z : Str} {day : Int} {d : D} (h : IsPg H T K N z day d) (h1 : ∀ x, H x → Tx7 x) (h2 : ∀ x, T x → Tx7 x) (h3 : ∀ x, K x → Tx7 x) (h4 : ∀ x, N x → Tx7 x) (hz : Tx7 z) : Shd 1 d := by
  have w : ∀ {s : Str}, s ∈ ranks → Shd 0 (.str s) := fun {s} hs => shd_str (by
    have : ∀ s ∈ ranks, s.length ≤ 1000 ∧ ∀ c ∈ s.cps.toList, c < 128 := by decide +kernel
    exact this s hs)
  cases h <;> refine shd_tup ?_ <;> (repeat' first | exact shd_nil | refine shd_cons ?_ ?_) <;> first | exact w (by decide) | exact shd_int | exact shd_str hz | exact shd_str (h1 _ (by assumption)) | exact shd_str (h2 _ (by assumption)) | exact shd_str (h3 _ (by assumption)) | exact shd_str (h4 _ (by assumption))
/-! ### the keys of pages -/
def rankN (w : Str) : Nat := ranks.findIdx fun y => decide (y = w)
def pkeyOf : D → D
  | .tuple (.str w :: .str z :: .int day :: _) => .tuple [.int day, .int (rankN w), .str z]
  | _ => .none
def kk : D → List KI
  | .tuple (.str w :: .str z :: .int day :: _) => [.inl day, .inl (rankN w), .inr z.cps.toList]
  | _ => []
def pLt (d e : D) : Bool := kLt (kk d) (kk e)
def nameD : D → D
  | .tuple (_ :: n :: _) => n
  | _ => .none
/-- a page, as far as its key goes -/
def Keyed (d : D) : Prop := ∃ w z day r, d = .tuple (.str w :: .str z :: .int day :: r) ∧ w ∈ ranks
theorem IsPg.keyed {H T K N : Str → Prop} {z : Str} {day : Int} {d : D} (h : IsPg H T K N z day d) : Keyed d ∧ nameD d = .str z := by
  cases h <;> exact ⟨⟨_, _, _, _, rfl, by decide⟩, rfl⟩
theorem Keyed.key {d : D} (h : Keyed d) : keyK (pkeyOf d) = some (kk d) := by
  obtain ⟨w, z, day, r, rfl, _⟩ := h
  rfl
theorem keysK_map {ds : List D} (h : ∀ d ∈ ds, Keyed d) : keysK (ds.map pkeyOf) = some (ds.map kk) := by
  induction ds with
  | nil => rfl
  | cons d r ih =>
    rw [List.map_cons, keysK, (h d List.mem_cons_self).key, ih fun e he => h e (List.mem_cons_of_mem _ he)]
    rfl
theorem kk_side {d : D} (h : Keyed d) : sideK (kk d) = [false, false, true] ∧ kk d ≠ [] := by
  obtain ⟨w, z, day, r, rfl, _⟩ := h
  exact ⟨rfl, fun e => by cases e⟩
theorem unif_map {ds : List D} (h : ∀ d ∈ ds, Keyed d) : unif (ds.map kk) = true := by
  cases ds with
  | nil => rfl
  | cons d r =>
    rw [List.map_cons, unif, Bool.and_eq_true]
    refine ⟨?_, ?_⟩
    · have := (kk_side (h d List.mem_cons_self)).2
      cases e : kk d with
      | nil => exact absurd e this
      | cons a b => rfl
    · rw [List.all_eq_true]
      intro m hm
      obtain ⟨e, he, rfl⟩ := List.mem_map.mp hm
      rw [decide_eq_true_iff, (kk_side (h d List.mem_cons_self)).1, (kk_side (h e (List.mem_cons_of_mem _ he))).1]
theorem zip_kk (ds : List D) : (ds.map kk).zip ds = ds.map fun d => (kk d, d) := by
  induction ds with
  | nil => rfl
  | cons d r ih => rw [List.map_cons, List.zip_cons_cons, ih, List.map_cons]
theorem sortOn_map {ds : List D} (h : ∀ d ∈ ds, Keyed d) : sortOn (ds.map pkeyOf) ds = some (isort pLt ds) := by
  unfold sortOn
  rw [keysK_map h]
  dsimp only
  rw [if_pos (unif_map h), zip_kk, isort_map, List.map_map]
  show some ((isort _ ds).map id) = _
  rw [List.map_id]
  rfl
theorem keysM_map {m : List D → Option D} {ds : List D} (h : ∀ d ∈ ds, m [d] = some (pkeyOf d)) : keysM m ds = some (ds.map pkeyOf) := by
  induction ds with
  | nil => rfl
  | cons d r ih =>
    rw [List.map_cons, keysM, h d List.mem_cons_self, ih fun e he => h e (List.mem_cons_of_mem _ he)]
theorem sortKD_pages {m : List D → Option D} {ds : List D} (h : ∀ d ∈ ds, Keyed d) (hm : ∀ d ∈ ds, m [d] = some (pkeyOf d)) : sortKD m [.list ds] = some (.list (isort pLt ds)) := by
  show (keysM m ds).bind (fun ks => (sortOn ks ds).map PyData.list) = _
  rw [keysM_map hm]
  show (sortOn _ ds).map _ = _
  rw [sortOn_map h]
  rfl
theorem lt_keys {d e : D} (hd : Keyed d) (he : Keyed e) : PySem.W.alike (pkeyOf d) (pkeyOf e) = true ∧ PySem.W.dataLt (pkeyOf d) (pkeyOf e) = pLt d e := by
  obtain ⟨w, z, day, r, rfl, _⟩ := hd
  obtain ⟨w', z', day', r', rfl, _⟩ := he
  refine ⟨by simp [pkeyOf, PySem.W.alike, PySem.W.alikeAll], ?_⟩
  show PyProof.Rows.lexLt PyProof.Rows.itemOrd (PySem.W.keyToks (.tuple [.int day, .int (rankN w), .str z])) (PySem.W.keyToks (.tuple [.int day', .int (rankN w'), .str z'])) = PyProof.Rows.lexLt PyProof.Rows.itemOrd [.inl day, .inl (rankN w), .inr z.cps.toList] [.inl day', .inl (rankN w'), .inr z'.cps.toList]
  simp only [PySem.W.keyToks, PySem.W.keyToksAll, List.cons_append, List.nil_append]
  have L : ∀ (a b : KI) (r t : List KI), PyProof.Rows.lexLt PyProof.Rows.itemOrd (.inl 1 :: a :: r) (.inl 1 :: b :: t) = (PyProof.Rows.itemOrd.blt a b || (!PyProof.Rows.itemOrd.blt b a && PyProof.Rows.lexLt PyProof.Rows.itemOrd r t)) := fun a b r t => (PyProof.Rows.lex_self (O := PyProof.Rows.itemOrd) (.inl 1 : KI) (a :: r) (b :: t)).trans (PyProof.Rows.lex_cons (O := PyProof.Rows.itemOrd) a b r t)
  have M : ∀ (a b : KI) (r t : List KI), PyProof.Rows.lexLt PyProof.Rows.itemOrd (a :: r) (b :: t) = (PyProof.Rows.itemOrd.blt a b || (!PyProof.Rows.itemOrd.blt b a && PyProof.Rows.lexLt PyProof.Rows.itemOrd r t)) := fun a b r t => PyProof.Rows.lex_cons (O := PyProof.Rows.itemOrd) a b r t
  refine (L _ _ _ _).trans ?_
  rw [L, L]
  refine Eq.trans ?_ (M _ _ _ _).symm
  rw [M (.inl (rankN w : Int)), M (.inr z.cps.toList)]
  rfl
theorem pLt_total {d e : D} (hd : Keyed d) (he : Keyed e) (hn : nameD d ≠ nameD e) : pLt d e = true ∨ pLt e d = true := by
  obtain ⟨w, z, day, r, rfl, _⟩ := hd
  obtain ⟨w', z', day', r', rfl, _⟩ := he
  have hz : z ≠ z' := fun e => hn (by subst e; rfl)
  cases h1 : pLt (.tuple (.str w :: .str z :: .int day :: r)) (.tuple (.str w' :: .str z' :: .int day' :: r')) with
  | true => exact .inl rfl
  | false =>
    cases h2 : pLt (.tuple (.str w' :: .str z' :: .int day' :: r')) (.tuple (.str w :: .str z :: .int day :: r)) with
    | true => exact .inr rfl
    | false =>
      have := (PyProof.Rows.listOrd PyProof.Rows.itemOrd).total (kk (.tuple (.str w :: .str z :: .int day :: r))) (kk (.tuple (.str w' :: .str z' :: .int day' :: r'))) h1 h2
      have e3 : z.cps.toList = z'.cps.toList := by
        have : kk (.tuple (.str w :: .str z :: .int day :: r)) = kk (.tuple (.str w' :: .str z' :: .int day' :: r')) := this
        simp only [kk, List.cons.injEq, Sum.inr.injEq, and_true] at this
        exact this.2.2
      exact absurd (PySem.W.str_of_cps e3) hz
theorem swo_p : SrtO.Swo pLt := swo_on swo_k kk
/-- where a new one is put -/
theorem ins_at {lt : D → D → Bool} (O : SrtO.Swo lt) {x : D} : ∀ {l : List D}, SrtO.Srtd lt l → (∀ y ∈ l, lt x y = true ∨ lt y x = true) → l.take (l.filter fun y => lt y x).length ++ [x] ++ l.drop (l.filter fun y => lt y x).length = insB lt x l
  | [], _, _ => rfl
  | y :: l, hs, hx => by
    have hs' : SrtO.Srtd lt l := (List.pairwise_cons.mp hs).2
    have hy : ∀ z ∈ l, lt z y = false := (List.pairwise_cons.mp hs).1
    unfold insB
    by_cases h : lt x y = true
    · rw [if_pos h]
      have e : (y :: l).filter (fun y => lt y x) = [] := by
        rw [List.filter_eq_nil_iff]
        intro z hz hzx
        rcases List.mem_cons.mp hz with rfl | hz
        · rw [O.asym _ _ h] at hzx
          cases hzx
        · rw [O.tr _ _ _ (hy z hz) (O.asym _ _ hzx)] at h
          cases h
      rw [e]
      rfl
    · rw [if_neg h]
      have hyx : lt y x = true := (hx y List.mem_cons_self).resolve_left h
      have e : (y :: l).filter (fun y => lt y x) = y :: l.filter fun y => lt y x := List.filter_cons_of_pos hyx
      rw [e, List.length_cons, List.take_succ_cons, List.drop_succ_cons, ← ins_at O hs' fun z hz => hx z (List.mem_cons_of_mem _ hz)]
      rfl
end DR

set_option maxRecDepth 100000
set_option maxHeartbeats 1000000
namespace DR
open PySem PySem.Spec L2
open PyProof.Rows hiding St
open Evl (Ex ex_l ex_t ex_rd)
/-! ## the text -/
def k_RANKS : D := (.tuple [(.str "comes"), (.str "trial"), (.str "back"), (.str "keep"), (.str "give"), (.str "goes"), (.str "double"), (.str "promise"), (.str "loose"), (.str "want"), (.str "owe"), (.str "pay")])
def s_RANKS : List Str := ["comes", "trial", "back", "keep", "give", "goes", "double", "promise", "loose", "want", "owe", "pay"]
def top (i : Nat) : Stmt := PySem.Challenge.pw_doublerings_k04_which_page_goes_ahead.main.body.getD i (.Pass ⟨0, 0, 0, 0⟩)
/-! ### page_key -/
abbrev st_page_key : Stmt := top 2
abbrev N_page_key : List Str := ["page"]
def g_page_key : DT := (dret (dtup (dcons (dop ixD (dvar 0) (DM.pure (.int 2))) (dcons ((dop ixD (dvar 0) (DM.pure (.int 0))).bind fun y => DM.opt (idxS s_RANKS [y])) (dcons (dop ixD (dvar 0) (DM.pure (.int 1))) dnil)))))
def m_page_key : List D → Option D := mOf 1 1 g_page_key
/-! ### goes_ahead -/
abbrev st_goes_ahead : Stmt := top 3
abbrev N_goes_ahead : List Str := ["page", "other"]
def g_goes_ahead : DT := (dret (dop ltDt (dcall m_page_key (dcons (dvar 0) dnil)) (dcall m_page_key (dcons (dvar 1) dnil))))
def m_goes_ahead : List D → Option D := mOf 2 2 g_goes_ahead
/-! ### in_order -/
abbrev st_in_order : Stmt := top 4
abbrev N_in_order : List Str := ["pages"]
def g_in_order : DT := (dret ((dvar 0).bind fun d => DM.opt (sortKD m_page_key [d])))
def m_in_order : List D → Option D := mNN (mOf 1 1 g_in_order)
theorem mL_in_order : ∀ ds d, m_in_order ds = some d → ds.length = 1 := fun ds d h => mOf_len ds d (mNN_some h)
/-! ### _law_draw -/
abbrev st__law_draw : Stmt := top 6
abbrev N__law_draw : List Str := ["_law_pen", "_law_many", "_law_drawn", "_law_at", "_law_cell", "_law_number"]
def g__law_draw : DT := (dseq (dif (dtest (dop gtD (dpix 0 (DM.pure (.int 2))) (DM.pure (.int 0))))
  (dseq (dset 2 (dop modD (dpix 0 (DM.pure (.int 2))) (dvar 1)))
  (dseq (dput 0 (dop fdivD (dpix 0 (DM.pure (.int 2))) (dvar 1)) (DM.pure (.int 2)))
  (dret (dvar 2))))
  dnext)
  (dseq (dset 3 (dpix 0 (DM.pure (.int 1))))
  (dseq (dput 0 (dop addD (dvar 3) (DM.pure (.int 1))) (DM.pure (.int 1)))
  (dseq (dset 4 (DM.pure (.int 0)))
  (dseq (dif (dtest (dop gtD (dcb lenD (dcons (dpix 0 (DM.pure (.int 0))) dnil)) (DM.pure (.int 0))))
  (dset 4 (dop ixD (dpix 0 (DM.pure (.int 0))) (dop modD (dvar 3) (dcb lenD (dcons (dpix 0 (DM.pure (.int 0))) dnil)))))
  dnext)
  (dseq (dif (dand (dtest (dop ltD (dvar 3) (dcb lenD (dcons (dpix 0 (DM.pure (.int 0))) dnil)))) (dtest (dop geD (dcb absD (dcons (dvar 4) dnil)) (dop powD (DM.pure (.int 10)) (DM.pure (.int 18))))))
  (dseq (dput 0 (dop fdivD (dcb absD (dcons (dvar 4) dnil)) (dvar 1)) (DM.pure (.int 2)))
  (dret (dop modD (dcb absD (dcons (dvar 4) dnil)) (dvar 1))))
  dnext)
  (dseq (dset 5 (dop modD (dop addD (dop addD (dop modD (dvar 4) (DM.pure (.int 2147483579))) (dop mulD (DM.pure (.int 52361)) (dvar 3))) (DM.pure (.int 7))) (DM.pure (.int 2147483647))))
  (dseq (dset 5 (dop modD (dop addD (dop addD (dop mulD (dvar 5) (dvar 5)) (dop mulD (DM.pure (.int 69427)) (dvar 3))) (DM.pure (.int 5))) (DM.pure (.int 2147483587))))
  (dseq (dset 5 (dop modD (dop addD (dop addD (dop mulD (dvar 5) (dvar 5)) (dop mulD (DM.pure (.int 31)) (dvar 5))) (dvar 3)) (DM.pure (.int 2147483563))))
  (dret (dop modD (dop fdivD (dvar 5) (DM.pure (.int 32))) (dvar 1))))))))))))
def m__law_draw : D → List D → Option (D × D) := mOfP 6 1 g__law_draw
/-! ### _law_words -/
abbrev st__law_words : Stmt := top 7
abbrev N__law_words : List Str := ["_law_pen", "_law_many", "_law_letters", "_law_base", "_law_spot", "_law_first", "_law_leap", "_law_found", "_law_k", "_law_tail"]
def g__law_words : DT := (dseq (dset 2 (DM.pure (.str "abcdefghijklmnopqrstuvwxyz")))
  (dseq (dset 3 (dm1 joinD (DM.pure (.str "")) (dcomp [8] ((dcons (dcallP false 0 m__law_draw (dcons (DM.pure (.int 8)) dnil)) dnil).bind fun ds => DM.opt (range1D ds)) (gdName 8) (DM.pure true) (dop ixD (dvar 2) (dcallP false 0 m__law_draw (dcons (DM.pure (.int 26)) dnil))))))
  (dseq (dset 4 (dcallP false 0 m__law_draw (dcons (dop addD (dcb lenD (dcons (dvar 3) dnil)) (DM.pure (.int 1))) dnil)))
  (dseq (dset 5 (dcallP false 0 m__law_draw (dcons (DM.pure (.int 26)) dnil)))
  (dseq (dset 6 (dop ixD (dlst (dcons (DM.pure (.int 1)) (dcons (DM.pure (.int 3)) (dcons (DM.pure (.int 5)) (dcons (DM.pure (.int 7)) (dcons (DM.pure (.int 9)) (dcons (DM.pure (.int 11)) dnil))))))) (dcallP false 0 m__law_draw (dcons (DM.pure (.int 6)) dnil))))
  (dseq (dset 7 (dlst dnil))
  (dseq (dfor ((dcons (dvar 1) dnil).bind fun ds => DM.opt (range1D ds)) (gdName 8)
  (dseq (dset 9 (dslice (dslice (dvar 3) (dpart (dvar 4)) dnopart) dnopart (dpart (dcallP false 0 m__law_draw (dcons (dop addD (dop subD (dcb lenD (dcons (dvar 3) dnil)) (dvar 4)) (DM.pure (.int 1))) dnil)))))
  (dapp 7 (dop addD (dop addD (dslice (dvar 3) dnopart (dpart (dvar 4))) (dop ixD (dvar 2) (dop modD (dop addD (dvar 5) (dop mulD (dvar 6) (dvar 8))) (DM.pure (.int 26))))) (dvar 9)))))
  (dret (dvar 7)))))))))
def m__law_words : D → List D → Option (D × D) := mOfP 10 1 g__law_words
/-! ### _law_page -/
abbrev st__law_page : Stmt := top 8
abbrev N__law_page : List Str := ["_law_pen", "_law_name", "_law_sorts", "_law_days", "_law_houses", "_law_things", "_law_kinds", "_law_names", "_law_ranks", "_law_word", "_law_day", "_law_at", "_law_one", "_law_other", "_law_thing", "_law_kind", "_law_many", "_law_worth", "_law_free", "_law_due", "_law_some"]
def g__law_page : DT := (dseq (dasg (dvar 2) (gdTup 4 (gdCons (gdName 4) (gdCons (gdName 5) (gdCons (gdName 6) (gdCons (gdName 7) gdNil))))))
  (dseq (dset 8 (dlst (dcons (DM.pure (.str "comes")) (dcons (DM.pure (.str "trial")) (dcons (DM.pure (.str "back")) (dcons (DM.pure (.str "keep")) (dcons (DM.pure (.str "give")) (dcons (DM.pure (.str "goes")) (dcons (DM.pure (.str "double")) (dcons (DM.pure (.str "promise")) (dcons (DM.pure (.str "loose")) (dcons (DM.pure (.str "want")) (dcons (DM.pure (.str "owe")) (dcons (DM.pure (.str "pay")) dnil))))))))))))))
  (dseq (dset 9 (dop ixD (dvar 8) (dcallP false 0 m__law_draw (dcons (DM.pure (.int 12)) dnil))))
  (dseq (dset 10 (dop ixD (dvar 3) (dcallP false 0 m__law_draw (dcons (dcb lenD (dcons (dvar 3) dnil)) dnil))))
  (dseq (dset 11 (dcallP false 0 m__law_draw (dcons (dcb lenD (dcons (dvar 4) dnil)) dnil)))
  (dseq (dpar 12 13 (dcons (dop ixD (dvar 4) (dvar 11)) (dcons (dop ixD (dvar 4) (dop modD (dop addD (dop addD (dvar 11) (DM.pure (.int 1))) (dcallP false 0 m__law_draw (dcons (dop subD (dcb lenD (dcons (dvar 4) dnil)) (DM.pure (.int 1))) dnil))) (dcb lenD (dcons (dvar 4) dnil)))) dnil)))
  (dseq (dset 14 (dop ixD (dvar 5) (dcallP false 0 m__law_draw (dcons (dcb lenD (dcons (dvar 5) dnil)) dnil))))
  (dseq (dset 15 (dop ixD (dvar 6) (dcallP false 0 m__law_draw (dcons (dcb lenD (dcons (dvar 6) dnil)) dnil))))
  (dseq (dset 16 (dop ixD (dlst (dcons (DM.pure (.int 0)) (dcons (DM.pure (.int 1)) (dcons (DM.pure (.int 9)) (dcons (dcallP false 0 m__law_draw (dcons (DM.pure (.int 10)) dnil)) dnil))))) (dcallP false 0 m__law_draw (dcons (DM.pure (.int 4)) dnil))))
  (dseq (dset 17 (dop ixD (dlst (dcons (DM.pure (.int 1)) (dcons (dop powD (DM.pure (.int 10)) (DM.pure (.int 9))) (dcons (dop addD (DM.pure (.int 1)) (dcallP false 0 m__law_draw (dcons (DM.pure (.int 9)) dnil))) (dcons (dop addD (DM.pure (.int 1)) (dcallP false 0 m__law_draw (dcons (dop powD (DM.pure (.int 10)) (DM.pure (.int 9))) dnil))) dnil))))) (dcallP false 0 m__law_draw (dcons (DM.pure (.int 4)) dnil))))
  (dseq (dset 18 (dop mulD (dvar 17) (dcb intD (dcons (dop gtD (dcallP false 0 m__law_draw (dcons (DM.pure (.int 4)) dnil)) (DM.pure (.int 0))) dnil))))
  (dseq (dset 19 (dop ixD (dlst (dcons (dvar 10) (dcons (dcb min2D (dcons (DM.pure (.int 999)) (dcons (dop addD (dvar 10) (dcallP false 0 m__law_draw (dcons (DM.pure (.int 20)) dnil))) dnil))) (dcons (DM.pure (.int 999)) dnil)))) (dcallP false 0 m__law_draw (dcons (DM.pure (.int 3)) dnil))))
  (dseq (dset 20 (ddisp (dpcons (DM.pure (.str "comes")) (dtup (dcons (dvar 14) (dcons (dvar 15) (dcons (dvar 12) dnil)))) (dpcons (DM.pure (.str "trial")) (dtup (dcons (dvar 14) (dcons (dvar 12) (dcons (dvar 13) (dcons (dvar 16) dnil))))) (dpcons (DM.pure (.str "back")) (dtup (dcons (dvar 14) (dcons (dvar 12) (dcons (dvar 16) dnil)))) dpnil)))))
  (dseq (dupd 20 (ddisp (dpcons (DM.pure (.str "keep")) (dtup (dcons (dvar 14) (dcons (dvar 12) (dcons (dvar 18) dnil)))) (dpcons (DM.pure (.str "give")) (dtup (dcons (dvar 14) (dcons (dvar 12) (dcons (dvar 13) (dcons (dvar 16) (dcons (dvar 18) dnil)))))) (dpcons (DM.pure (.str "goes")) (dtup (dcons (dvar 14) (dcons (dvar 12) dnil))) dpnil)))))
  (dseq (dupd 20 (ddisp (dpcons (DM.pure (.str "double")) (dtup (dcons (dvar 14) (dcons (dvar 12) dnil))) (dpcons (DM.pure (.str "promise")) (dtup (dcons (dvar 14) (dcons (dvar 12) (dcons (dvar 13) (dcons (dvar 19) dnil))))) dpnil))))
  (dseq (dupd 20 (ddisp (dpcons (DM.pure (.str "loose")) (dtup (dcons (dop ixD (dvar 7) (dcallP false 0 m__law_draw (dcons (dcb lenD (dcons (dvar 7) dnil)) dnil))) dnil)) (dpcons (DM.pure (.str "want")) (dtup (dcons (dvar 12) (dcons (dvar 15) (dcons (dvar 16) dnil)))) dpnil))))
  (dseq (dupd 20 (ddisp (dpcons (DM.pure (.str "owe")) (dtup (dcons (dvar 12) (dcons (dvar 13) (dcons (dvar 17) dnil)))) (dpcons (DM.pure (.str "pay")) (dtup (dcons (dvar 12) (dcons (dvar 13) (dcons (dvar 17) dnil)))) dpnil))))
  (dret (dop addD (dtup (dcons (dvar 9) (dcons (dvar 1) (dcons (dvar 10) dnil)))) (dop ixA (dvar 20) (dvar 9)))))))))))))))))))))
def m__law_page : D → List D → Option (D × D) := mOfP 21 3 g__law_page
/-! ### _law_pages -/
abbrev st__law_pages : Stmt := top 9
abbrev N__law_pages : List Str := ["_law_pen", "_law_most", "_law_few", "_law_names", "_law_some", "_law_sorts", "_law_day", "_law_days", "_law_name"]
def g__law_pages : DT := (dseq (dset 3 (dcallP false 0 m__law_words (dcons (dop addD (DM.pure (.int 1)) (dcallP false 0 m__law_draw (dcons (dvar 1) dnil))) dnil)))
  (dseq (dset 4 (dcallP false 0 m__law_words (dcons (DM.pure (.int 8)) dnil)))
  (dseq (dset 5 (dtup (dcons (dslice (dvar 4) dnopart (dpart (dop addD (DM.pure (.int 2)) (dcallP false 0 m__law_draw (dcons (DM.pure (.int 5)) dnil))))) (dcons (dslice (dvar 4) (dpart (DM.pure (.int 2))) dnopart) (dcons (dslice (dvar 4) (dpart (DM.pure (.int 4))) dnopart) (dcons (dop addD (dvar 3) (dslice (dvar 4) dnopart (dpart (DM.pure (.int 1))))) dnil))))))
  (dseq (dif (dtest (dop eqD (dcallP false 0 m__law_draw (dcons (DM.pure (.int 2)) dnil)) (DM.pure (.int 0))))
  (dset 5 (dtup (dcons (dop ixD (dvar 5) (DM.pure (.int 0))) (dcons (dcallP false 0 m__law_words (dcons (DM.pure (.int 5)) dnil)) (dcons (dcallP false 0 m__law_words (dcons (DM.pure (.int 4)) dnil)) (dcons (dop ixD (dvar 5) (DM.pure (.int 3))) dnil))))))
  dnext)
  (dseq (dset 6 (dcallP false 0 m__law_draw (dcons (DM.pure (.int 990)) dnil)))
  (dseq (dset 7 (dslice (dlst (dcons (dvar 6) (dcons (dop addD (dvar 6) (DM.pure (.int 1))) (dcons (dop addD (dvar 6) (DM.pure (.int 9))) (dcons (dop ixD (dlst (dcons (DM.pure (.int 0)) (dcons (DM.pure (.int 999)) (dcons (dvar 6) dnil)))) (dcallP false 0 m__law_draw (dcons (DM.pure (.int 3)) dnil))) dnil))))) dnopart (dpart (dvar 2))))
  (dret (dlst (dcons (dcomp [8] ((dvar 3).bind fun d => DM.opt (itemsD d)) (gdName 8) (DM.pure true) (dcallP false 0 m__law_page (dcons (dvar 8) (dcons (dvar 5) (dcons (dvar 7) dnil))))) (dcons (dvar 5) dnil))))))))))
def m__law_pages : D → List D → Option (D × D) := mOfP 9 2 g__law_pages
/-! ### _law_turned -/
abbrev st__law_turned : Stmt := top 10
abbrev N__law_turned : List Str := ["_law_pen", "_law_some", "_law_left", "_law_one"]
def g__law_turned : DT := (dseq (dset 2 (dcb listD (dcons (dvar 1) dnil)))
  (dret (dlv [0, 2] (dcomp [3] ((dvar 1).bind fun d => DM.opt (itemsD d)) (gdName 3) (DM.pure true) (dpopAt 2 (dcallP false 0 m__law_draw (dcons (dplen 2) dnil)))))))
def m__law_turned : D → List D → Option (D × D) := mOfP 4 1 g__law_turned
/-! ### _law_key -/
abbrev st__law_key : Stmt := top 11
abbrev N__law_key : List Str := ["_law_page_here", "_law_ranks"]
def g__law_key : DT := (dseq (dset 1 (dlst (dcons (DM.pure (.str "comes")) (dcons (DM.pure (.str "trial")) (dcons (DM.pure (.str "back")) (dcons (DM.pure (.str "keep")) (dcons (DM.pure (.str "give")) (dcons (DM.pure (.str "goes")) (dcons (DM.pure (.str "double")) (dcons (DM.pure (.str "promise")) (dcons (DM.pure (.str "loose")) (dcons (DM.pure (.str "want")) (dcons (DM.pure (.str "owe")) (dcons (DM.pure (.str "pay")) dnil))))))))))))))
  (dret (dtup (dcons (dop ixD (dvar 0) (DM.pure (.int 2))) (dcons (dindex (dvar 1) (dop ixD (dvar 0) (DM.pure (.int 0)))) (dcons (dop ixD (dvar 0) (DM.pure (.int 1))) dnil))))))
def m__law_key : List D → Option D := mOf 2 1 g__law_key
/-! ### law -/
abbrev st_law : Stmt := top 12
abbrev N_law : List Str := ["_law_script", "_law_pen", "_law_pages_here", "_law_kept", "_law_one", "_law_other", "_law_found", "_law_due", "_law_page_here", "_law_turn"]
def g_law : DT := (dseq (dset 2 (dcallP false 1 m__law_turned (dcons (dop ixD (dcallP false 1 m__law_pages (dcons (DM.pure (.int 14)) (dcons (dop addD (DM.pure (.int 1)) (dcallP false 1 m__law_draw (dcons (DM.pure (.int 4)) dnil))) dnil))) (DM.pure (.int 0))) dnil)))
  (dseq (dset 3 (dcb listD (dcons (dvar 2) dnil)))
  (dseq (dfor ((dvar 2).bind fun d => DM.opt (itemsD d)) (gdName 4)
  (dfor ((dvar 2).bind fun d => DM.opt (itemsD d)) (gdName 5)
  (dseq (dset 6 (dcall m_goes_ahead (dcons (dvar 4) (dcons (dvar 5) dnil))))
  (dseq (dset 7 (dop ltDt (dcall m__law_key (dcons (dvar 4) dnil)) (dcall m__law_key (dcons (dvar 5) dnil))))
  (dif (dand (dtest (dop neD (dvar 4) (dvar 5))) (dor (dnot (dtest (disi "bool" (dvar 6)))) (dtest (dop neD (dvar 6) (dvar 7)))))
  (dret (DM.pure (.bool false)))
  dnext)))))
  (dsw 7 (dseq (dset 7 (dlst dnil))
  (dseq (dfor ((dvar 2).bind fun d => DM.opt (itemsD d)) (gdName 8)
  (dslm 7 insertL (dflatA (dcons (dcb lenD (dcons (dcomp [4] ((dvar 7).bind fun d => DM.opt (itemsD d)) (gdName 4) (dtest (dop ltDt (dcall m__law_key (dcons (dvar 4) dnil)) (dcall m__law_key (dcons (dvar 8) dnil)))) (dvar 4)) dnil)) (dcons (dvar 8) dnil)))))
  (dsw 6 (dseq (dfor ((dcons (DM.pure (.int 2)) dnil).bind fun ds => DM.opt (range1D ds)) (gdName 9)
  (dseq (dset 6 (dcall m_in_order (dcons (dvar 2) dnil)))
  (dseq (dif (dcalm (dor (dnot (dtest (disi "list" (dvar 6)))) (dor (dtest (dop neD (dvar 6) (dvar 7))) (dtest (dop neD (dvar 2) (dvar 3))))))
  (dret (DM.pure (.bool false)))
  dnext)
  (dseq (ddrop (dlv [6] (dlm false 6 reverseL dnil)))
  (dapp 6 (DM.pure .none))))))
  (dret (dandV (dop eqD (dcall m_in_order (dcons (dcb listD (dcons (dvar 7) dnil)) dnil)) (dvar 7)) (dop eqD (dcall m_in_order (dcons (dlst dnil) dnil)) (dlst dnil))))))))))))
/-! ## what the top has written -/
structure Tx (K : PySem.W.Frag) (w : World) (mg : Str → Option Value) : Prop where
  f_page_key : ∃ fd, FunD K "page_key" "page_key" (defArgs st_page_key) (defBody st_page_key) (defScope st_page_key) [] [] (He.ga K "page_key") fd
  m_page_key : mg "page_key" = some (.ref (He.ga K "page_key"))
  f_goes_ahead : ∃ fd, FunD K "goes_ahead" "goes_ahead" (defArgs st_goes_ahead) (defBody st_goes_ahead) (defScope st_goes_ahead) [] [] (He.ga K "goes_ahead") fd
  m_goes_ahead : mg "goes_ahead" = some (.ref (He.ga K "goes_ahead"))
  f_in_order : ∃ fd, FunD K "in_order" "in_order" (defArgs st_in_order) (defBody st_in_order) (defScope st_in_order) [] [] (He.ga K "in_order") fd
  m_in_order : mg "in_order" = some (.ref (He.ga K "in_order"))
  f__law_draw : ∃ fd, FunD K "_law_draw" "_law_draw" (defArgs st__law_draw) (defBody st__law_draw) (defScope st__law_draw) [] [] (He.ga K "_law_draw") fd
  m__law_draw : mg "_law_draw" = some (.ref (He.ga K "_law_draw"))
  f__law_words : ∃ fd, FunD K "_law_words" "_law_words" (defArgs st__law_words) (defBody st__law_words) (defScope st__law_words) [] [] (He.ga K "_law_words") fd
  m__law_words : mg "_law_words" = some (.ref (He.ga K "_law_words"))
  f__law_page : ∃ fd, FunD K "_law_page" "_law_page" (defArgs st__law_page) (defBody st__law_page) (defScope st__law_page) [] [] (He.ga K "_law_page") fd
  m__law_page : mg "_law_page" = some (.ref (He.ga K "_law_page"))
  f__law_pages : ∃ fd, FunD K "_law_pages" "_law_pages" (defArgs st__law_pages) (defBody st__law_pages) (defScope st__law_pages) [] [] (He.ga K "_law_pages") fd
  m__law_pages : mg "_law_pages" = some (.ref (He.ga K "_law_pages"))
  f__law_turned : ∃ fd, FunD K "_law_turned" "_law_turned" (defArgs st__law_turned) (defBody st__law_turned) (defScope st__law_turned) [] [] (He.ga K "_law_turned") fd
  m__law_turned : mg "_law_turned" = some (.ref (He.ga K "_law_turned"))
  f__law_key : ∃ fd, FunD K "_law_key" "_law_key" (defArgs st__law_key) (defBody st__law_key) (defScope st__law_key) [] [] (He.ga K "_law_key") fd
  m__law_key : mg "_law_key" = some (.ref (He.ga K "_law_key"))
  f_law : ∃ fd, FunD K "law" "law" (defArgs st_law) (defBody st_law) (defScope st_law) [] [] (He.ga K "law") fd
  m_law : mg "law" = some (.ref (He.ga K "law"))
  b_abs : mg "abs" = none
  b_bool : mg "bool" = none
  b_int : mg "int" = none
  b_isinstance : mg "isinstance" = none
  b_len : mg "len" = none
  b_list : mg "list" = none
  b_min : mg "min" = none
  b_range : mg "range" = none
  b_sorted : mg "sorted" = none
  c_RANKS : GloD K mg "RANKS" k_RANKS
  tp_RANKS : TupG K "RANKS"
set_option maxHeartbeats 4000000
theorem sc_page_key : FnScope N_page_key ["page"] (defScope st_page_key) := ⟨rfl, rfl, rfl, by decide +kernel, rfl, by decide +kernel, by decide +kernel⟩
theorem ok_page_key {P : Program} {w : World} {K : PySem.W.Frag} {mg : Str → Option Value} {base : Heap} (T : Tx K w mg) : CallOk P w K mg base "page_key" 1 ["page"] (spD K 1 m_page_key) := by

  have nd := sc_page_key.nd
  obtain ⟨fd, F⟩ := T.f_page_key
  refine ⟨_, fd, ?_, T.m_page_key, F.kp, F.bindsN fun _ _ _ _ _ _ us hl => match us, hl with | [_], _ => rfl⟩
  exact def_ok (N := N_page_key) (ow := []) (kd := []) (g := g_page_key) F sc_page_key rfl (by decide) fun cdv A outer s H E hr => ⟨_, (pdss_one (pds_ret [] [] (pd_tup (pda_cons (pd_ix (pd_var 0) pd_int) (pda_cons (pd_tindex (ss := s_RANKS) rfl T.c_RANKS T.tp_RANKS (pd_ix (pd_var 0) pd_int)) (pda_cons (pd_ix (pd_var 0) pd_int) pda_nil))))))⟩
theorem sc_goes_ahead : FnScope N_goes_ahead ["page", "other"] (defScope st_goes_ahead) := ⟨rfl, rfl, rfl, by decide +kernel, rfl, by decide +kernel, by decide +kernel⟩
theorem ok_goes_ahead {P : Program} {w : World} {K : PySem.W.Frag} {mg : Str → Option Value} {base : Heap} (T : Tx K w mg) : CallOk P w K mg base "goes_ahead" 2 ["page", "other"] (spD K 2 m_goes_ahead) := by
  have C_page_key := ok_page_key (P := P) (w := w) (base := base) T
  have nd := sc_goes_ahead.nd
  obtain ⟨fd, F⟩ := T.f_goes_ahead
  refine ⟨_, fd, ?_, T.m_goes_ahead, F.kp, F.bindsN fun _ _ _ _ _ _ us hl => match us, hl with | [_, _], _ => rfl⟩
  exact def_ok (N := N_goes_ahead) (ow := []) (kd := []) (g := g_goes_ahead) F sc_goes_ahead rfl (by decide) fun cdv A outer s H E hr => ⟨_, (pdss_one (pds_ret [] [] (pd_cmp (op_ltDt (hu65 hr)) rd2_ltDt (pd_fn C_page_key mOf_len hr (pda_cons (pd_var 0) pda_nil)) (pd_fn C_page_key mOf_len hr (pda_cons (pd_var 1) pda_nil)))))⟩
theorem sc_in_order : FnScope N_in_order ["pages"] (defScope st_in_order) := ⟨rfl, rfl, rfl, by decide +kernel, rfl, by decide +kernel, by decide +kernel⟩
theorem ok_in_order {P : Program} {w : World} {K : PySem.W.Frag} {mg : Str → Option Value} {base : Heap} (T : Tx K w mg) : CallOk P w K mg base "in_order" 4 ["pages"] (spN .flat K 1 m_in_order) := by
  have C_page_key := ok_page_key (P := P) (w := w) (base := base) T
  have nd := sc_in_order.nd
  obtain ⟨fd, F⟩ := T.f_in_order
  refine ⟨_, fd, ?_, T.m_in_order, F.kp, F.bindsN fun _ _ _ _ _ _ us hl => match us, hl with | [_], _ => rfl⟩
  exact fnNN (def_okN (sh := .flat) (N := N_in_order) (ow := []) (kd := []) (g := g_in_order) F sc_in_order rfl (by decide) fun cdv A outer s H E hr => ⟨_, (pdss_one (pds_retNew (PDN.m [] (pdn_sortK C_page_key hr (pd_var 0) T.b_sorted))))⟩)
theorem sc__law_draw : FnScope N__law_draw ["_law_pen", "_law_many"] (defScope st__law_draw) := ⟨rfl, rfl, rfl, by decide +kernel, rfl, by decide +kernel, by decide +kernel⟩
theorem ok__law_draw {P : Program} {w : World} {K : PySem.W.Frag} {mg : Str → Option Value} {base : Heap} (T : Tx K w mg) : CallOk P w K mg base "_law_draw" 1 ["_law_pen", "_law_many"] (spP .flat K 1 m__law_draw) := by

  have nd := sc__law_draw.nd
  obtain ⟨fd, F⟩ := T.f__law_draw
  refine ⟨_, fd, ?_, T.m__law_draw, F.kp, F.bindsN fun _ _ _ _ _ _ us hl => match us, hl with | [_, _], _ => rfl⟩
  exact def_okP (N := N__law_draw) (ow := [0]) (kd := []) (g := g__law_draw) F sc__law_draw rfl (by decide) (by decide) fun cdv A outer s H E hr => ⟨_, (pdss_cons (pds_if (PDT.m [0] (pdt_cmp op_gtA rd2_cmp (pd_pix 0 pd_int) pd_int))
  (pdss_cons (pds_set 2 (PD.m [0] (pd_bin op_mod rd2_mod (pd_pix 0 pd_int) (pd_var 1))) (hN := nd))
  (pdss_cons (pds_putP 0 (PD.m [0] (pd_bin op_fdivW rd2_fdiv (pd_pix 0 pd_int) (pd_var 1))) (PD.m [] pd_int))
  (pdss_one (pds_ret [] [] (pd_var 2)))))
  pdss_nil)
  (pdss_cons (pds_set 3 (PD.m [0] (pd_pix 0 pd_int)) (hN := nd))
  (pdss_cons (pds_putP 0 (PD.m [] (pd_bin op_addA rd2_add (pd_var 3) pd_int)) (PD.m [] pd_int))
  (pdss_cons (pds_set 4 (PD.m [] pd_int) (hN := nd))
  (pdss_cons (pds_if (PDT.m [0] (pdt_cmp op_gtA rd2_cmp (pd_callB call_len rdc_len rfl T.b_len (by decide +kernel) (pda_cons (pd_pix 0 pd_int) pda_nil)) pd_int))
  (pdss_one (pds_set 4 (PD.m [0] (pd_ix (pd_pix 0 pd_int) (pd_bin op_mod rd2_mod (pd_var 3) (pd_callB call_len rdc_len rfl T.b_len (by decide +kernel) (pda_cons (pd_pix 0 pd_int) pda_nil))))) (hN := nd)))
  pdss_nil)
  (pdss_cons (pds_if (PDT.m [0] (PDW.pdt (pdw_and (pdt_cmp op_ltA rd2_cmp (pd_var 3) (pd_callB call_len rdc_len rfl T.b_len (by decide +kernel) (pda_cons (pd_pix 0 pd_int) pda_nil))) (pdw_and1 (pdt_cmp op_geA rd2_cmp (pd_callB call_abs rdc_abs rfl T.b_abs (by decide +kernel) (pda_cons (pd_var 4) pda_nil)) (pd_bin op_pow rd2_pow pd_int pd_int))))))
  (pdss_cons (pds_putP 0 (PD.m [] (pd_bin op_fdivW rd2_fdiv (pd_callB call_abs rdc_abs rfl T.b_abs (by decide +kernel) (pda_cons (pd_var 4) pda_nil)) (pd_var 1))) (PD.m [] pd_int))
  (pdss_one (pds_ret [] [] (pd_bin op_mod rd2_mod (pd_callB call_abs rdc_abs rfl T.b_abs (by decide +kernel) (pda_cons (pd_var 4) pda_nil)) (pd_var 1)))))
  pdss_nil)
  (pdss_cons (pds_set 5 (PD.m [] (pd_bin op_mod rd2_mod (pd_bin op_addA rd2_add (pd_bin op_addA rd2_add (pd_bin op_mod rd2_mod (pd_var 4) pd_int) (pd_bin op_mulA rd2_mul pd_int (pd_var 3))) pd_int) pd_int)) (hN := nd))
  (pdss_cons (pds_set 5 (PD.m [] (pd_bin op_mod rd2_mod (pd_bin op_addA rd2_add (pd_bin op_addA rd2_add (pd_bin op_mulA rd2_mul (pd_var 5) (pd_var 5)) (pd_bin op_mulA rd2_mul pd_int (pd_var 3))) pd_int) pd_int)) (hN := nd))
  (pdss_cons (pds_set 5 (PD.m [] (pd_bin op_mod rd2_mod (pd_bin op_addA rd2_add (pd_bin op_addA rd2_add (pd_bin op_mulA rd2_mul (pd_var 5) (pd_var 5)) (pd_bin op_mulA rd2_mul pd_int (pd_var 5))) (pd_var 3)) pd_int)) (hN := nd))
  (pdss_one (pds_ret [] [] (pd_bin op_mod rd2_mod (pd_bin op_fdivW rd2_fdiv (pd_var 5) pd_int) (pd_var 1)))))))))))))⟩
theorem sc__law_words : FnScope N__law_words ["_law_pen", "_law_many"] (defScope st__law_words) := ⟨rfl, rfl, rfl, by decide +kernel, rfl, by decide +kernel, by decide +kernel⟩
theorem ok__law_words {P : Program} {w : World} {K : PySem.W.Frag} {mg : Str → Option Value} {base : Heap} (T : Tx K w mg) : CallOk P w K mg base "_law_words" 2 ["_law_pen", "_law_many"] (spP .flat K 1 m__law_words) := by
  have C__law_draw := ok__law_draw (P := P) (w := w) (base := base) T
  have nd := sc__law_words.nd
  obtain ⟨fd, F⟩ := T.f__law_words
  refine ⟨_, fd, ?_, T.m__law_words, F.kp, F.bindsN fun _ _ _ _ _ _ us hl => match us, hl with | [_, _], _ => rfl⟩
  exact def_okP (N := N__law_words) (ow := [0, 7]) (kd := []) (g := g__law_words) F sc__law_words rfl (by decide) (by decide) fun cdv A outer s H E hr => ⟨_, (pdss_cons (pds_set 2 (PD.m [] pd_str) (hN := nd))
  (pdss_cons (pds_set 3 (PD.m [0] (pd_join pd_str (PDN.pd (pdn_lcV (own := [("_law_k", 8)]) (hc := rfl) (hN := nd) (hi := (pdi_range1 rfl T.b_range (pda_cons (pd_fnP 0 C__law_draw mOfP_len hr (pda_cons pd_int pda_nil)) pda_nil))) (ok := blkOk_by (N := N__law_words) (sc := defScope st__law_words) (by decide +kernel)) (hv := by decide) (hg := fun _ _ _ _ _ => (pdg_name 8 (hN := nd))) (ht := fun _ _ _ _ _ => pdts_nil) (he := fun _ _ _ _ _ => (pd_ix (pd_var 2) (pd_fnP 0 C__law_draw mOfP_len hr (pda_cons pd_int pda_nil)))))))) (hN := nd))
  (pdss_cons (pds_set 4 (PD.m [0] (pd_fnP 0 C__law_draw mOfP_len hr (pda_cons (pd_bin op_addA rd2_add (pd_callB call_len rdc_len rfl T.b_len (by decide +kernel) (pda_cons (pd_var 3) pda_nil)) pd_int) pda_nil))) (hN := nd))
  (pdss_cons (pds_set 5 (PD.m [0] (pd_fnP 0 C__law_draw mOfP_len hr (pda_cons pd_int pda_nil))) (hN := nd))
  (pdss_cons (pds_set 6 (PD.m [0] (pd_ix (pd_lst (pda_cons pd_int (pda_cons pd_int (pda_cons pd_int (pda_cons pd_int (pda_cons pd_int (pda_cons pd_int pda_nil))))))) (pd_fnP 0 C__law_draw mOfP_len hr (pda_cons pd_int pda_nil)))) (hN := nd))
  (pdss_cons (pds_setC 7 (PDN.m [] (pdn_nil (s := .flat))) (hN := nd))
  (pdss_cons (pds_for (vs := [8]) PassesOwn.never rfl (PDI.m [] (pdi_range1 rfl T.b_range (pda_cons (pd_var 1) pda_nil))) (pdg_name 8 (hN := nd))
  (pdss_cons (pds_set 9 (PD.m [0] (pd_slice (pd_slice (pd_var 3) (pdo_some (pd_var 4)) pdo_none) pdo_none (pdo_some (pd_fnP 0 C__law_draw mOfP_len hr (pda_cons (pd_bin op_addA rd2_add (pd_bin op_sub rd2_sub (pd_callB call_len rdc_len rfl T.b_len (by decide +kernel) (pda_cons (pd_var 3) pda_nil)) (pd_var 4)) pd_int) pda_nil))))) (hN := nd))
  (pdss_one (pds_app 7 (PD.m [] (pd_bin op_addA rd2_add (pd_bin op_addA rd2_add (pd_slice (pd_var 3) pdo_none (pdo_some (pd_var 4))) (pd_ix (pd_var 2) (pd_bin op_mod rd2_mod (pd_bin op_addA rd2_add (pd_var 5) (pd_bin op_mulA rd2_mul (pd_var 6) (pd_var 8))) pd_int))) (pd_var 9)))))))
  (pdss_one (pds_ret [] [7] (pd_var 7))))))))))⟩
theorem sc__law_page : FnScope N__law_page ["_law_pen", "_law_name", "_law_sorts", "_law_days"] (defScope st__law_page) := ⟨rfl, rfl, rfl, by decide +kernel, rfl, by decide +kernel, by decide +kernel⟩
theorem ok__law_page {P : Program} {w : World} {K : PySem.W.Frag} {mg : Str → Option Value} {base : Heap} (T : Tx K w mg) : CallOk P w K mg base "_law_page" 2 ["_law_pen", "_law_name", "_law_sorts", "_law_days"] (spP .flat K 3 m__law_page) := by
  have C__law_draw := ok__law_draw (P := P) (w := w) (base := base) T
  have nd := sc__law_page.nd
  obtain ⟨fd, F⟩ := T.f__law_page
  refine ⟨_, fd, ?_, T.m__law_page, F.kp, F.bindsN fun _ _ _ _ _ _ us hl => match us, hl with | [_, _, _, _], _ => rfl⟩
  exact def_okP (N := N__law_page) (ow := [0, 20]) (kd := []) (g := g__law_page) F sc__law_page rfl (by decide) (by decide) fun cdv A outer s H E hr => ⟨_, (pdss_cons (pds_asg (vs := [4, 5, 6, 7]) (PD.m [] (pd_var 2)) (pdg_tup rfl (pdgs_cons (pdg_name 4 (hN := nd)) (pdgs_cons (pdg_name 5 (hN := nd)) (pdgs_cons (pdg_name 6 (hN := nd)) (pdgs_cons (pdg_name 7 (hN := nd)) pdgs_nil))))))
  (pdss_cons (pds_set 8 (PD.m [] (pd_lst (pda_cons pd_str (pda_cons pd_str (pda_cons pd_str (pda_cons pd_str (pda_cons pd_str (pda_cons pd_str (pda_cons pd_str (pda_cons pd_str (pda_cons pd_str (pda_cons pd_str (pda_cons pd_str (pda_cons pd_str pda_nil)))))))))))))) (hN := nd))
  (pdss_cons (pds_set 9 (PD.m [0] (pd_ix (pd_var 8) (pd_fnP 0 C__law_draw mOfP_len hr (pda_cons pd_int pda_nil)))) (hN := nd))
  (pdss_cons (pds_set 10 (PD.m [0] (pd_ix (pd_var 3) (pd_fnP 0 C__law_draw mOfP_len hr (pda_cons (pd_callB call_len rdc_len rfl T.b_len (by decide +kernel) (pda_cons (pd_var 3) pda_nil)) pda_nil)))) (hN := nd))
  (pdss_cons (pds_set 11 (PD.m [0] (pd_fnP 0 C__law_draw mOfP_len hr (pda_cons (pd_callB call_len rdc_len rfl T.b_len (by decide +kernel) (pda_cons (pd_var 4) pda_nil)) pda_nil))) (hN := nd))
  (pdss_cons (pds_par 12 13 (PDA.m [0] (pda_cons (pd_ix (pd_var 4) (pd_var 11)) (pda_cons (pd_ix (pd_var 4) (pd_bin op_mod rd2_mod (pd_bin op_addA rd2_add (pd_bin op_addA rd2_add (pd_var 11) pd_int) (pd_fnP 0 C__law_draw mOfP_len hr (pda_cons (pd_bin op_sub rd2_sub (pd_callB call_len rdc_len rfl T.b_len (by decide +kernel) (pda_cons (pd_var 4) pda_nil)) pd_int) pda_nil))) (pd_callB call_len rdc_len rfl T.b_len (by decide +kernel) (pda_cons (pd_var 4) pda_nil)))) pda_nil))) (hN := nd))
  (pdss_cons (pds_set 14 (PD.m [0] (pd_ix (pd_var 5) (pd_fnP 0 C__law_draw mOfP_len hr (pda_cons (pd_callB call_len rdc_len rfl T.b_len (by decide +kernel) (pda_cons (pd_var 5) pda_nil)) pda_nil)))) (hN := nd))
  (pdss_cons (pds_set 15 (PD.m [0] (pd_ix (pd_var 6) (pd_fnP 0 C__law_draw mOfP_len hr (pda_cons (pd_callB call_len rdc_len rfl T.b_len (by decide +kernel) (pda_cons (pd_var 6) pda_nil)) pda_nil)))) (hN := nd))
  (pdss_cons (pds_set 16 (PD.m [0] (pd_ix (pd_lst (pda_cons pd_int (pda_cons pd_int (pda_cons pd_int (pda_cons (pd_fnP 0 C__law_draw mOfP_len hr (pda_cons pd_int pda_nil)) pda_nil))))) (pd_fnP 0 C__law_draw mOfP_len hr (pda_cons pd_int pda_nil)))) (hN := nd))
  (pdss_cons (pds_set 17 (PD.m [0] (pd_ix (pd_lst (pda_cons pd_int (pda_cons (pd_bin op_pow rd2_pow pd_int pd_int) (pda_cons (pd_bin op_addA rd2_add pd_int (pd_fnP 0 C__law_draw mOfP_len hr (pda_cons pd_int pda_nil))) (pda_cons (pd_bin op_addA rd2_add pd_int (pd_fnP 0 C__law_draw mOfP_len hr (pda_cons (pd_bin op_pow rd2_pow pd_int pd_int) pda_nil))) pda_nil))))) (pd_fnP 0 C__law_draw mOfP_len hr (pda_cons pd_int pda_nil)))) (hN := nd))
  (pdss_cons (pds_set 18 (PD.m [0] (pd_bin op_mulA rd2_mul (pd_var 17) (pd_callTy call_int1 rdc_int rfl T.b_int (by decide +kernel) (pda_cons (pd_cmp op_gtA rd2_cmp (pd_fnP 0 C__law_draw mOfP_len hr (pda_cons pd_int pda_nil)) pd_int) pda_nil)))) (hN := nd))
  (pdss_cons (pds_set 19 (PD.m [0] (pd_ix (pd_lst (pda_cons (pd_var 10) (pda_cons (pd_callB (call_min2 rfl) rdc_min2 rfl T.b_min (by decide +kernel) (pda_cons pd_int (pda_cons (pd_bin op_addA rd2_add (pd_var 10) (pd_fnP 0 C__law_draw mOfP_len hr (pda_cons pd_int pda_nil))) pda_nil))) (pda_cons pd_int pda_nil)))) (pd_fnP 0 C__law_draw mOfP_len hr (pda_cons pd_int pda_nil)))) (hN := nd))
  (pdss_cons (pds_setC 20 (PDN.m [] (pdn_disp (pdp_cons pd_str (pd_tup (pda_cons (pd_var 14) (pda_cons (pd_var 15) (pda_cons (pd_var 12) pda_nil)))) (pdp_cons pd_str (pd_tup (pda_cons (pd_var 14) (pda_cons (pd_var 12) (pda_cons (pd_var 13) (pda_cons (pd_var 16) pda_nil))))) (pdp_cons pd_str (pd_tup (pda_cons (pd_var 14) (pda_cons (pd_var 12) (pda_cons (pd_var 16) pda_nil)))) pdp_nil))))) (hN := nd))
  (pdss_cons (pds_upd 20 (PD.m [] (PDN.pd (pdn_disp (pdp_cons pd_str (pd_tup (pda_cons (pd_var 14) (pda_cons (pd_var 12) (pda_cons (pd_var 18) pda_nil)))) (pdp_cons pd_str (pd_tup (pda_cons (pd_var 14) (pda_cons (pd_var 12) (pda_cons (pd_var 13) (pda_cons (pd_var 16) (pda_cons (pd_var 18) pda_nil)))))) (pdp_cons pd_str (pd_tup (pda_cons (pd_var 14) (pda_cons (pd_var 12) pda_nil))) pdp_nil)))))))
  (pdss_cons (pds_upd 20 (PD.m [] (PDN.pd (pdn_disp (pdp_cons pd_str (pd_tup (pda_cons (pd_var 14) (pda_cons (pd_var 12) pda_nil))) (pdp_cons pd_str (pd_tup (pda_cons (pd_var 14) (pda_cons (pd_var 12) (pda_cons (pd_var 13) (pda_cons (pd_var 19) pda_nil))))) pdp_nil))))))
  (pdss_cons (pds_upd 20 (PD.m [0] (PDN.pd (pdn_disp (pdp_cons pd_str (pd_tup (pda_cons (pd_ix (pd_var 7) (pd_fnP 0 C__law_draw mOfP_len hr (pda_cons (pd_callB call_len rdc_len rfl T.b_len (by decide +kernel) (pda_cons (pd_var 7) pda_nil)) pda_nil))) pda_nil)) (pdp_cons pd_str (pd_tup (pda_cons (pd_var 12) (pda_cons (pd_var 15) (pda_cons (pd_var 16) pda_nil)))) pdp_nil))))))
  (pdss_cons (pds_upd 20 (PD.m [] (PDN.pd (pdn_disp (pdp_cons pd_str (pd_tup (pda_cons (pd_var 12) (pda_cons (pd_var 13) (pda_cons (pd_var 17) pda_nil)))) (pdp_cons pd_str (pd_tup (pda_cons (pd_var 12) (pda_cons (pd_var 13) (pda_cons (pd_var 17) pda_nil)))) pdp_nil))))))
  (pdss_one (pds_ret [] [20] (pd_bin op_addA rd2_add (pd_tup (pda_cons (pd_var 9) (pda_cons (pd_var 1) (pda_cons (pd_var 10) pda_nil)))) (pd_ixA (hu65 hr) (pd_var 20) (pd_var 9))))))))))))))))))))))⟩
theorem sc__law_pages : FnScope N__law_pages ["_law_pen", "_law_most", "_law_few"] (defScope st__law_pages) := ⟨rfl, rfl, rfl, by decide +kernel, rfl, by decide +kernel, by decide +kernel⟩
theorem ok__law_pages {P : Program} {w : World} {K : PySem.W.Frag} {mg : Str → Option Value} {base : Heap} (T : Tx K w mg) : CallOk P w K mg base "_law_pages" 3 ["_law_pen", "_law_most", "_law_few"] (spP .flat K 2 m__law_pages) := by
  have C__law_draw := ok__law_draw (P := P) (w := w) (base := base) T
  have C__law_words := ok__law_words (P := P) (w := w) (base := base) T
  have C__law_page := ok__law_page (P := P) (w := w) (base := base) T
  have nd := sc__law_pages.nd
  obtain ⟨fd, F⟩ := T.f__law_pages
  refine ⟨_, fd, ?_, T.m__law_pages, F.kp, F.bindsN fun _ _ _ _ _ _ us hl => match us, hl with | [_, _, _], _ => rfl⟩
  exact def_okP (N := N__law_pages) (ow := [0]) (kd := []) (g := g__law_pages) F sc__law_pages rfl (by decide) (by decide) fun cdv A outer s H E hr => ⟨_, (pdss_cons (pds_set 3 (PD.m [0] (pd_fnP 0 C__law_words mOfP_len hr (pda_cons (pd_bin op_addA rd2_add pd_int (pd_fnP 0 C__law_draw mOfP_len hr (pda_cons (pd_var 1) pda_nil))) pda_nil))) (hN := nd))
  (pdss_cons (pds_set 4 (PD.m [0] (pd_fnP 0 C__law_words mOfP_len hr (pda_cons pd_int pda_nil))) (hN := nd))
  (pdss_cons (pds_set 5 (PD.m [0] (pd_tup (pda_cons (pd_slice (pd_var 4) pdo_none (pdo_some (pd_bin op_addA rd2_add pd_int (pd_fnP 0 C__law_draw mOfP_len hr (pda_cons pd_int pda_nil))))) (pda_cons (pd_slice (pd_var 4) (pdo_some pd_int) pdo_none) (pda_cons (pd_slice (pd_var 4) (pdo_some pd_int) pdo_none) (pda_cons (pd_bin op_addA rd2_add (pd_var 3) (pd_slice (pd_var 4) pdo_none (pdo_some pd_int))) pda_nil)))))) (hN := nd))
  (pdss_cons (pds_if (PDT.m [0] (pdt_cmp (op_eqA hr.units) rd2_eq (pd_fnP 0 C__law_draw mOfP_len hr (pda_cons pd_int pda_nil)) pd_int))
  (pdss_one (pds_set 5 (PD.m [0] (pd_tup (pda_cons (pd_ix (pd_var 5) pd_int) (pda_cons (pd_fnP 0 C__law_words mOfP_len hr (pda_cons pd_int pda_nil)) (pda_cons (pd_fnP 0 C__law_words mOfP_len hr (pda_cons pd_int pda_nil)) (pda_cons (pd_ix (pd_var 5) pd_int) pda_nil)))))) (hN := nd)))
  pdss_nil)
  (pdss_cons (pds_set 6 (PD.m [0] (pd_fnP 0 C__law_draw mOfP_len hr (pda_cons pd_int pda_nil))) (hN := nd))
  (pdss_cons (pds_set 7 (PD.m [0] (pd_slice (pd_lst (pda_cons (pd_var 6) (pda_cons (pd_bin op_addA rd2_add (pd_var 6) pd_int) (pda_cons (pd_bin op_addA rd2_add (pd_var 6) pd_int) (pda_cons (pd_ix (pd_lst (pda_cons pd_int (pda_cons pd_int (pda_cons (pd_var 6) pda_nil)))) (pd_fnP 0 C__law_draw mOfP_len hr (pda_cons pd_int pda_nil))) pda_nil))))) pdo_none (pdo_some (pd_var 2)))) (hN := nd))
  (pdss_one (pds_ret [0] [] (pd_lst (pda_cons (PDN.pd (pdn_lcV (own := [("_law_name", 8)]) (hc := rfl) (hN := nd) (hi := (pdi_any (pd_var 3))) (ok := blkOk_by (N := N__law_pages) (sc := defScope st__law_pages) (by decide +kernel)) (hv := by decide) (hg := fun _ _ _ _ _ => (pdg_name 8 (hN := nd))) (ht := fun _ _ _ _ _ => pdts_nil) (he := fun _ _ _ _ _ => (pd_fnP 0 C__law_page mOfP_len hr (pda_cons (pd_var 8) (pda_cons (pd_var 5) (pda_cons (pd_var 7) pda_nil))))))) (pda_cons (pd_var 5) pda_nil)))))))))))⟩
theorem sc__law_turned : FnScope N__law_turned ["_law_pen", "_law_some"] (defScope st__law_turned) := ⟨rfl, rfl, rfl, by decide +kernel, rfl, by decide +kernel, by decide +kernel⟩
theorem ok__law_turned {P : Program} {w : World} {K : PySem.W.Frag} {mg : Str → Option Value} {base : Heap} (T : Tx K w mg) : CallOk P w K mg base "_law_turned" 2 ["_law_pen", "_law_some"] (spP .flat K 1 m__law_turned) := by
  have C__law_draw := ok__law_draw (P := P) (w := w) (base := base) T
  have nd := sc__law_turned.nd
  obtain ⟨fd, F⟩ := T.f__law_turned
  refine ⟨_, fd, ?_, T.m__law_turned, F.kp, F.bindsN fun _ _ _ _ _ _ us hl => match us, hl with | [_, _], _ => rfl⟩
  exact def_okP (N := N__law_turned) (ow := [0, 2]) (kd := []) (g := g__law_turned) F sc__law_turned rfl (by decide) (by decide) fun cdv A outer s H E hr => ⟨_, (pdss_cons (pds_setC 2 (PDN.m [] (pdn_callTy call_list_of rn_list rfl T.b_list (by decide +kernel) (pda_cons (pd_var 1) pda_nil))) (hN := nd))
  (pdss_one (pds_retE (PD.g [0, 2] (PDN.pd (pdn_lcV (own := [("_law_one", 3)]) (hc := rfl) (hN := nd) (hi := (pdi_any (pd_var 1))) (ok := blkOk_by (N := N__law_turned) (sc := defScope st__law_turned) (by decide +kernel)) (hv := by decide) (hg := fun _ _ _ _ _ => (pdg_name 3 (hN := nd))) (ht := fun _ _ _ _ _ => pdts_nil) (he := fun _ _ _ _ _ => (pd_popAt 2 (pd_fnP 0 C__law_draw mOfP_len hr (pda_cons (pd_plen 2 (hm := T.b_len)) pda_nil))))))))))⟩
theorem sc__law_key : FnScope N__law_key ["_law_page_here"] (defScope st__law_key) := ⟨rfl, rfl, rfl, by decide +kernel, rfl, by decide +kernel, by decide +kernel⟩
theorem ok__law_key {P : Program} {w : World} {K : PySem.W.Frag} {mg : Str → Option Value} {base : Heap} (T : Tx K w mg) : CallOk P w K mg base "_law_key" 1 ["_law_page_here"] (spD K 1 m__law_key) := by

  have nd := sc__law_key.nd
  obtain ⟨fd, F⟩ := T.f__law_key
  refine ⟨_, fd, ?_, T.m__law_key, F.kp, F.bindsN fun _ _ _ _ _ _ us hl => match us, hl with | [_], _ => rfl⟩
  exact def_ok (N := N__law_key) (ow := []) (kd := []) (g := g__law_key) F sc__law_key rfl (by decide) fun cdv A outer s H E hr => ⟨_, (pdss_cons (pds_set 1 (PD.m [] (pd_lst (pda_cons pd_str (pda_cons pd_str (pda_cons pd_str (pda_cons pd_str (pda_cons pd_str (pda_cons pd_str (pda_cons pd_str (pda_cons pd_str (pda_cons pd_str (pda_cons pd_str (pda_cons pd_str (pda_cons pd_str pda_nil)))))))))))))) (hN := nd))
  (pdss_one (pds_ret [] [] (pd_tup (pda_cons (pd_ix (pd_var 0) pd_int) (pda_cons (pd_index (hu65 hr) (pd_var 1) (pd_ix (pd_var 0) pd_int)) (pda_cons (pd_ix (pd_var 0) pd_int) pda_nil)))))))⟩
theorem sc_law : FnScope N_law ["_law_script"] (defScope st_law) := ⟨rfl, rfl, rfl, by decide +kernel, rfl, by decide +kernel, by decide +kernel⟩
theorem ok_law {P : Program} {w : World} {K : PySem.W.Frag} {mg : Str → Option Value} {base : Heap} (T : Tx K w mg) {fd : FuncData} (F : FunD K "law" "law" (defArgs st_law) (defBody st_law) (defScope st_law) [] [] (He.ga K "law") fd) (math : ∀ ns : List Int, ns.length ≤ 63 → ∃ st', g_law (startL 10 ns) = some (.rt (.bool true) st')) :
    FnOk P w K mg base CX0 5 (He.ga K "law") fd ["_law_script"] (spLaw K) := by
  have C_goes_ahead := ok_goes_ahead (P := P) (w := w) (base := base) T
  have C_in_order := ok_in_order (P := P) (w := w) (base := base) T
  have C__law_draw := ok__law_draw (P := P) (w := w) (base := base) T
  have C__law_pages := ok__law_pages (P := P) (w := w) (base := base) T
  have C__law_turned := ok__law_turned (P := P) (w := w) (base := base) T
  have C__law_key := ok__law_key (P := P) (w := w) (base := base) T
  have nd := sc_law.nd
  exact law_ok (N := N_law) (ow := [1]) (kd := []) (g := g_law) (st0 := (defBody st_law).headD (.Pass ⟨0, 0, 0, 0⟩)) (body := (defBody st_law).tail) F sc_law (by decide) (by decide) (by decide) rfl (fun cdv A outer s H E hr => ⟨ps_set (i := 1) nd rfl (by first | exact Or.inl rfl | exact Or.inr rfl) (pe_lst (pa_cons (pv 0) (pa_cons pe_int (pa_cons pe_int pa_nil)))), _, (pdss_cons (pds_set 2 (PD.m [1] (pd_fnP 1 C__law_turned mOfP_len hr (pda_cons (pd_ix (pd_fnP 1 C__law_pages mOfP_len hr (pda_cons pd_int (pda_cons (pd_bin op_addA rd2_add pd_int (pd_fnP 1 C__law_draw mOfP_len hr (pda_cons pd_int pda_nil))) pda_nil))) pd_int) pda_nil))) (hN := nd))
  (pdss_cons (pds_set 3 (PD.m [] (pd_callTy call_list_of rdc_list rfl T.b_list (by decide +kernel) (pda_cons (pd_var 2) pda_nil))) (hN := nd))
  (pdss_cons (pds_for (vs := [4]) PassesOwn.never rfl (PDI.m [] (pdi_any (pd_var 2))) (pdg_name 4 (hN := nd))
  (pdss_one (pds_for (vs := [5]) PassesOwn.never rfl (PDI.m [] (pdi_any (pd_var 2))) (pdg_name 5 (hN := nd))
  (pdss_cons (pds_set 6 (PD.m [] (pd_fn C_goes_ahead mOf_len hr (pda_cons (pd_var 4) (pda_cons (pd_var 5) pda_nil)))) (hN := nd))
  (pdss_cons (pds_set 7 (PD.m [] (pd_cmp (op_ltDt (hu65 hr)) rd2_ltDt (pd_fn C__law_key mOf_len hr (pda_cons (pd_var 4) pda_nil)) (pd_fn C__law_key mOf_len hr (pda_cons (pd_var 5) pda_nil)))) (hN := nd))
  (pdss_one (pds_if (PDT.m [] (PDW.pdt (pdw_and (pdt_cmp (op_neA hr.units) rd2_ne (pd_var 4) (pd_var 5)) (pdw_and1 (PDW.pdt (pdw_or (pdt_not (pdt_val (pd_isi rfl T.b_isinstance rfl T.b_bool (by decide +kernel) (by decide +kernel) (pd_var 6)))) (pdw_or1 (pdt_cmp (op_neA hr.units) rd2_ne (pd_var 6) (pd_var 7)))))))))
  (pdss_one (pds_ret [] [] pd_bl))
  pdss_nil)))))))
  (pdss_sw 7 (ow2 := [1, 7])
  (pdss_cons (pds_setC 7 (PDN.m [] (pdn_nil (s := .flat))) (hN := nd))
  (pdss_cons (pds_for (vs := [8]) PassesOwn.never rfl (PDI.m [] (pdi_any (pd_var 2))) (pdg_name 8 (hN := nd))
  (pdss_one (pds_lm 7 PySem.F.slot_list_insert PySem.F.type_list_insert mt_insert rlm_insert (PDA.a [] [7] (pda_cons (pd_callB call_len rdc_len rfl T.b_len (by decide +kernel) (pda_cons (PDN.pd (pdn_lcV (own := [("_law_one", 4)]) (hc := rfl) (hN := nd) (hi := (pdi_any (pd_var 7))) (ok := blkOk_by (N := N_law) (sc := defScope st_law) (by decide +kernel)) (hv := by decide) (hg := fun _ _ _ _ _ => (pdg_name 4 (hN := nd))) (ht := fun _ _ _ _ _ => (pdts_one (pdt_cmp (op_ltDt (hu65 hr)) rd2_ltDt (pd_fn C__law_key mOf_len hr (pda_cons (pd_var 4) pda_nil)) (pd_fn C__law_key mOf_len hr (pda_cons (pd_var 8) pda_nil))))) (he := fun _ _ _ _ _ => (pd_var 4)))) pda_nil)) (pda_cons (pd_var 8) pda_nil))))))
  (pdss_sw 6 (ow2 := [1, 6, 7])
  (pdss_cons (pds_for (vs := [9]) PassesOwn.never rfl (PDI.m [] (pdi_range1 rfl T.b_range (pda_cons pd_int pda_nil))) (pdg_name 9 (hN := nd))
  (pdss_cons (pds_setC 6 (PDN.m [] (pdn_fn C_in_order mL_in_order (fun _ _ h => mNN_ne h) hr (pda_cons (pd_var 2) pda_nil))) (hN := nd))
  (pdss_cons (pds_if (PDT.a [] [6, 7] (PDW.pdt (pdw_or (pdt_not (pdt_val (pd_isi rfl T.b_isinstance rfl T.b_list (by decide +kernel) (by decide +kernel) (pd_var 6)))) (pdw_or (pdt_cmp (op_neA hr.units) rd2_ne (pd_var 6) (pd_var 7)) (pdw_or1 (pdt_cmp (op_neA hr.units) rd2_ne (pd_var 2) (pd_var 3)))))))
  (pdss_one (pds_ret [] [] pd_bl))
  pdss_nil)
  (pdss_cons (pds_expr (PD.g [6] (pd_lm0 6 PySem.F.slot_list_reverse PySem.F.type_list_reverse mt_reverse rlm_reverse)))
  (pdss_one (pds_app 6 (PD.m [] pd_non)))))))
  (pdss_one (pds_ret [] [7] (pd_and (pd_cmp (op_eqA hr.units) rd2_eq (PDN.pd (pdn_fn C_in_order mL_in_order (fun _ _ h => mNN_ne h) hr (pda_cons (pd_callTy call_list_of rdc_list rfl T.b_list (by decide +kernel) (pda_cons (pd_var 7) pda_nil)) pda_nil))) (pd_var 7)) (pd_one (pd_cmp (op_eqA hr.units) rd2_eq (PDN.pd (pdn_fn C_in_order mL_in_order (fun _ _ h => mNN_ne h) hr (pda_cons (pd_lst pda_nil) pda_nil))) (pd_lst pda_nil))))))))))))))⟩) math
end DR

set_option maxRecDepth 100000
set_option maxHeartbeats 1000000
namespace DR
open PySem PySem.Spec L2
open PyProof.Rows hiding St
open Evl (Ex ex_l ex_t ex_rd)
/-! ## the head -/
def fns : List He.DefD := [⟨("page_key", none), "page_key", "page_key", defArgs st_page_key, defBody st_page_key, defScope st_page_key, [], []⟩, ⟨("goes_ahead", none), "goes_ahead", "goes_ahead", defArgs st_goes_ahead, defBody st_goes_ahead, defScope st_goes_ahead, [], []⟩, ⟨("in_order", none), "in_order", "in_order", defArgs st_in_order, defBody st_in_order, defScope st_in_order, [], []⟩, ⟨("_law_draw", none), "_law_draw", "_law_draw", defArgs st__law_draw, defBody st__law_draw, defScope st__law_draw, [], []⟩, ⟨("_law_words", none), "_law_words", "_law_words", defArgs st__law_words, defBody st__law_words, defScope st__law_words, [], []⟩, ⟨("_law_page", none), "_law_page", "_law_page", defArgs st__law_page, defBody st__law_page, defScope st__law_page, [], []⟩, ⟨("_law_pages", none), "_law_pages", "_law_pages", defArgs st__law_pages, defBody st__law_pages, defScope st__law_pages, [], []⟩, ⟨("_law_turned", none), "_law_turned", "_law_turned", defArgs st__law_turned, defBody st__law_turned, defScope st__law_turned, [], []⟩, ⟨("_law_key", none), "_law_key", "_law_key", defArgs st__law_key, defBody st__law_key, defScope st__law_key, [], []⟩, ⟨("law", none), "law", "law", defArgs st_law, defBody st_law, defScope st_law, [], []⟩]
def facts : List He.Fa := [.glo "page_key", .glo "goes_ahead", .glo "in_order", .glo "_law_draw", .glo "_law_words", .glo "_law_page", .glo "_law_pages", .glo "_law_turned", .glo "_law_key", .glo "law", .free "abs", .free "bool", .free "int", .free "isinstance", .free "len", .free "list", .free "min", .free "range", .free "sorted"]
def exB (K : PySem.W.Frag) : Bool := [noLists K, gloB K "RANKS" k_RANKS, tupB K "RANKS"].all id
def tabs : List He.Tab := []
theorem tx_of {K : PySem.W.Frag} {h : Heap} {mg : Str → Option Value} {w : World} (X : K.In h) (G : h.Ns mainGlobals mg) (c : He.SaysX facts fns tabs [] exB w h K) : Tx K w mg where
  f_page_key := c.t.d.def_ 0
  m_page_key := He.glo_ok X G (c.t.d.fact 0 (f := .glo "page_key") rfl)
  f_goes_ahead := c.t.d.def_ 1
  m_goes_ahead := He.glo_ok X G (c.t.d.fact 1 (f := .glo "goes_ahead") rfl)
  f_in_order := c.t.d.def_ 2
  m_in_order := He.glo_ok X G (c.t.d.fact 2 (f := .glo "in_order") rfl)
  f__law_draw := c.t.d.def_ 3
  m__law_draw := He.glo_ok X G (c.t.d.fact 3 (f := .glo "_law_draw") rfl)
  f__law_words := c.t.d.def_ 4
  m__law_words := He.glo_ok X G (c.t.d.fact 4 (f := .glo "_law_words") rfl)
  f__law_page := c.t.d.def_ 5
  m__law_page := He.glo_ok X G (c.t.d.fact 5 (f := .glo "_law_page") rfl)
  f__law_pages := c.t.d.def_ 6
  m__law_pages := He.glo_ok X G (c.t.d.fact 6 (f := .glo "_law_pages") rfl)
  f__law_turned := c.t.d.def_ 7
  m__law_turned := He.glo_ok X G (c.t.d.fact 7 (f := .glo "_law_turned") rfl)
  f__law_key := c.t.d.def_ 8
  m__law_key := He.glo_ok X G (c.t.d.fact 8 (f := .glo "_law_key") rfl)
  f_law := c.t.d.def_ 9
  m_law := He.glo_ok X G (c.t.d.fact 9 (f := .glo "law") rfl)
  b_abs := He.free_ok X G (c.t.d.fact 10 (f := .free "abs") rfl)
  b_bool := He.free_ok X G (c.t.d.fact 11 (f := .free "bool") rfl)
  b_int := He.free_ok X G (c.t.d.fact 12 (f := .free "int") rfl)
  b_isinstance := He.free_ok X G (c.t.d.fact 13 (f := .free "isinstance") rfl)
  b_len := He.free_ok X G (c.t.d.fact 14 (f := .free "len") rfl)
  b_list := He.free_ok X G (c.t.d.fact 15 (f := .free "list") rfl)
  b_min := He.free_ok X G (c.t.d.fact 16 (f := .free "min") rfl)
  b_range := He.free_ok X G (c.t.d.fact 17 (f := .free "range") rfl)
  b_sorted := He.free_ok X G (c.t.d.fact 18 (f := .free "sorted") rfl)
  c_RANKS := gloB_ok X G (all_at c.more (i := 1) rfl)
  tp_RANKS := tupB_ok (all_at c.more (i := 2) rfl)
abbrev R : PySem.W.OpenRow := PySem.W.OpenLaw.row PySem.Challenge.rw_doublerings_k04_which_page_goes_ahead
abbrev hk : PySem.W.Hook := He.hookX 4 facts fns tabs [] exB
def ob (s : PySem.W.SharedT) : He.AlX := He.obsX 4 facts fns tabs [] exB (HandSHeadRun.getT s)
theorem ob_eq (s : PySem.W.SharedT) : ob s = hk.obs s.abs := He.obsX_eq (HandSHeadRun.getT_eq s)
def loose : List Str := (["RANKS", "page_key", "goes_ahead", "in_order", "_law_draw", "_law_words", "_law_page", "_law_pages", "_law_turned", "_law_key"] : List Str)
open PySem.W in
theorem run (w : World) : HandSHeadRun.RunEq R (PySem.W.view R.prog [12]) hk ob 3000 loose w := byRow2 "special-get-raises" (P := fun w => HandSHeadRun.RunEq R (PySem.W.view R.prog [12]) hk ob 3000 loose w) (fun w => by
  intro os
  kernel_rfl) (fun w => by
  intro os
  kernel_rfl) w
theorem facts_ok {P : Program} {w : World} {K : PySem.W.Frag} {h : Heap} {mg : Str → Option Value} {f : Addr} (math : ∀ ns : List Int, ns.length ≤ 63 → ∃ st', g_law (startL 10 ns) = some (.rt (.bool true) st')) (X : K.In h) (G : h.Ns mainGlobals mg) (hfa : mg ("law" : Str) = some (.ref f)) (c : He.SaysX facts fns tabs [] exB w h K) :
    ∃ fd : FuncData, (∀ (s : Shared) (v : Value), BindsTo s fd ⟨[v], []⟩ [("_law_script", v)]) ∧ ∀ base : Heap, K.In base → base.Ns mainGlobals mg → FnOk P w K mg base CX0 5 f fd ["_law_script"] (spLaw K) := by
  have T := tx_of X G c
  have e := hfa.symm.trans T.m_law
  cases e
  obtain ⟨fd, F⟩ := T.f_law
  have b := FunD.bindsA (ps := ["_law_script"]) F fun _ _ _ _ _ _ us hl => match us, hl with | [_], _ => rfl
  refine ⟨fd, fun s v => b s [v] rfl, fun base _ _ => ?_⟩
  exact ok_law T F math

end DR

set_option maxRecDepth 100000
set_option maxHeartbeats 1000000
namespace DR
open PySem PySem.Spec L2
open PyProof.Rows hiding St
theorem draw_ok {p : D} (hp : Pen p) {many : Int} (h0 : 0 < many) (h1 : many < 18446744073709551616) {Q : D → D → Prop} (q : ∀ k p', Pen p' → 0 ≤ k → k < many → Q (.int k) p') : MP m__law_draw p [.int many] Q := by
  obtain ⟨ns, a, gr, rfl, hl, ha, hg⟩ := hp
  refine MP_of rfl ?_
  show Sp2 g__law_draw [some _, some _, none, none, none, none] _
  unfold g__law_draw
  simp only [↓S_next, ↓S_bk, ↓S_ct, ↓S_rtd, ↓S_seq, ↓S_set, ↓S_drop, ↓S_ret, ↓S_if, ↓S_asg, ↓S_put, ↓S_app, ↓S_ext, ↓S_for, ↓Wp_pure, ↓Wp_opt, ↓Wp_bind, ↓Wp_ite, ↓Wp_var, ↓Wp_op, ↓Wp_un, ↓Wp_test, ↓Wp_dand, ↓Wp_dor, ↓Wp_dnot, ↓Wp_dandV, ↓Wp_dorV, ↓Wp_dnotV, ↓Wp_chain, ↓Wp_cb, ↓Wp_cons, ↓Wp_nil, ↓Wp_tup, ↓Wp_lst, ↓Wp_part, ↓Wp_nopart, ↓Wp_slice, ↓Wp_isi, ↓Wp_isi2, ↓Wp_m1, ↓Wp_call, ↓Wp_pix, ↓Wp_callP0, ↓Wp_callP1, ↓Wp_comp, ↓Wp_disp, ↓Wp_dpnil, ↓Wp_dpcons, ↓Wp_flat, ↓onNx_nx, ↓onNx_bk, ↓onNx_ct, ↓onNx_rt, ↓onRt_rt, ↓onRt_nx, ↓onS_some, ↓onB_b, ↓onI_i, ↓onStr_s, ↓onL_l, ↓lk_0, ↓lk_S, ↓onSet_0, ↓onSet_S, ↓onPut_0, ↓onPut_S, ↓ite_dec, ↓ite_ndec, ↓ite_tt, ↓ite_ff, ↓ite_nt, ↓ite_nf, ↓v_gt, ↓v_lt, ↓v_le, ↓v_ge, ↓v_ltS, ↓v_add, ↓v_addS, ↓v_addL, ↓v_addT, ↓v_addN, ↓v_sub, ↓v_mul, ↓v_mulS, ↓v_mod, ↓v_fdiv, ↓v_pow, ↓v_neg, ↓v_lenL, ↓v_lenT, ↓v_lenS, ↓v_abs, ↓v_rev, ↓v_all, ↓v_any, ↓v_sum, ↓v_eq, ↓v_ne, ↓v_in, ↓v_notIn, ↓q_ii, ↓q_ss, ↓items_l, ↓items_t, ↓items_s, ↓items_r1, ↓items_r2, ↓sl_l, ↓sl_t, ↓sl_s, ↓put_1, ↓put_2, ↓pen_0, ↓pen_1, ↓pen_2, ↓v_ixL, ↓v_ixT, ↓ins_NoneType_none, ↓ins_NoneType_bool, ↓ins_NoneType_int, ↓ins_NoneType_str, ↓ins_NoneType_list, ↓ins_NoneType_tuple, ↓ins_NoneType_dict, ↓ins_bool_none, ↓ins_bool_bool, ↓ins_bool_int, ↓ins_bool_str, ↓ins_bool_list, ↓ins_bool_tuple, ↓ins_bool_dict, ↓ins_int_none, ↓ins_int_bool, ↓ins_int_int, ↓ins_int_str, ↓ins_int_list, ↓ins_int_tuple, ↓ins_int_dict, ↓ins_str_none, ↓ins_str_bool, ↓ins_str_int, ↓ins_str_str, ↓ins_str_list, ↓ins_str_tuple, ↓ins_str_dict, ↓ins_list_none, ↓ins_list_bool, ↓ins_list_int, ↓ins_list_str, ↓ins_list_list, ↓ins_list_tuple, ↓ins_list_dict, ↓ins_tuple_none, ↓ins_tuple_bool, ↓ins_tuple_int, ↓ins_tuple_str, ↓ins_tuple_list, ↓ins_tuple_tuple, ↓ins_tuple_dict, ↓ins_dict_none, ↓ins_dict_bool, ↓ins_dict_int, ↓ins_dict_str, ↓ins_dict_list, ↓ins_dict_tuple, ↓ins_dict_dict, ↓in_sign, ↓onClr_0, ↓onClr_S, ↓onW_nil, ↓onW_cons, ↓onRe_0, ↓onRe_S, ↓onBk_nil, ↓onBk_cons, ↓onTwo_l, ↓S_par, ↓a_tup, ↓onG_name, ↓onG_tup, ↓onGs_nil, ↓onGs_cons, ↓onTurn_nx, ↓onTurn_ct, ↓onTurn_bk, ↓onTurn_rt, ↓onLD_d, ↓v_ixAd, ↓v_inAd, ↓v_notInAd, ↓S_upd, ↓v_zip, ↓Wp_flatA, ↓v_int, ↓v_intB, ↓v_min, ↓v_gin, ↓v_gnin, ↓v_gix, ↓reduceIte]
  have q' : ∀ (x b g : Int), 0 ≤ b → 0 ≤ g → Q (.int (x % many)) (.list [.list (ns.map PyData.int), .int b, .int g]) := fun x b g hb hg => q _ _ (Pen.mk hl hb hg) (Int.emod_nonneg _ (by omega)) (Int.emod_lt_of_pos _ h0)
  have dv : ∀ x : Int, 0 ≤ x → 0 ≤ x / many := fun x hx => Int.ediv_nonneg hx (by omega)
  have sq : ∀ x : Int, 0 ≤ (if x < 0 then -x else x) := fun x => by split <;> omega
  refine ite_i (fun _ => ⟨h0, ⟨h0, h1⟩, q' _ _ _ ha (dv _ hg)⟩) fun _ => ite_i (fun hn => ?_) fun _ => ite_i (fun _ => ⟨by decide, ite_i (fun _ => ⟨⟨h0, h1⟩, h0, q' _ _ _ (by omega) (dv _ (sq _))⟩) fun _ => ?_⟩) fun _ => ?_
  · obtain ⟨x, hx⟩ := at_ints (ns := ns) (i := a % (ns.map PyData.int).length) (Int.emod_nonneg _ (by omega)) (Int.emod_lt_of_pos _ hn)
    rw [hx]
    simp only [↓S_next, ↓S_bk, ↓S_ct, ↓S_rtd, ↓S_seq, ↓S_set, ↓S_drop, ↓S_ret, ↓S_if, ↓S_asg, ↓S_put, ↓S_app, ↓S_ext, ↓S_for, ↓Wp_pure, ↓Wp_opt, ↓Wp_bind, ↓Wp_ite, ↓Wp_var, ↓Wp_op, ↓Wp_un, ↓Wp_test, ↓Wp_dand, ↓Wp_dor, ↓Wp_dnot, ↓Wp_dandV, ↓Wp_dorV, ↓Wp_dnotV, ↓Wp_chain, ↓Wp_cb, ↓Wp_cons, ↓Wp_nil, ↓Wp_tup, ↓Wp_lst, ↓Wp_part, ↓Wp_nopart, ↓Wp_slice, ↓Wp_isi, ↓Wp_isi2, ↓Wp_m1, ↓Wp_call, ↓Wp_pix, ↓Wp_callP0, ↓Wp_callP1, ↓Wp_comp, ↓Wp_disp, ↓Wp_dpnil, ↓Wp_dpcons, ↓Wp_flat, ↓onNx_nx, ↓onNx_bk, ↓onNx_ct, ↓onNx_rt, ↓onRt_rt, ↓onRt_nx, ↓onS_some, ↓onB_b, ↓onI_i, ↓onStr_s, ↓onL_l, ↓lk_0, ↓lk_S, ↓onSet_0, ↓onSet_S, ↓onPut_0, ↓onPut_S, ↓ite_dec, ↓ite_ndec, ↓ite_tt, ↓ite_ff, ↓ite_nt, ↓ite_nf, ↓v_gt, ↓v_lt, ↓v_le, ↓v_ge, ↓v_ltS, ↓v_add, ↓v_addS, ↓v_addL, ↓v_addT, ↓v_addN, ↓v_sub, ↓v_mul, ↓v_mulS, ↓v_mod, ↓v_fdiv, ↓v_pow, ↓v_neg, ↓v_lenL, ↓v_lenT, ↓v_lenS, ↓v_abs, ↓v_rev, ↓v_all, ↓v_any, ↓v_sum, ↓v_eq, ↓v_ne, ↓v_in, ↓v_notIn, ↓q_ii, ↓q_ss, ↓items_l, ↓items_t, ↓items_s, ↓items_r1, ↓items_r2, ↓sl_l, ↓sl_t, ↓sl_s, ↓put_1, ↓put_2, ↓pen_0, ↓pen_1, ↓pen_2, ↓v_ixL, ↓v_ixT, ↓ins_NoneType_none, ↓ins_NoneType_bool, ↓ins_NoneType_int, ↓ins_NoneType_str, ↓ins_NoneType_list, ↓ins_NoneType_tuple, ↓ins_NoneType_dict, ↓ins_bool_none, ↓ins_bool_bool, ↓ins_bool_int, ↓ins_bool_str, ↓ins_bool_list, ↓ins_bool_tuple, ↓ins_bool_dict, ↓ins_int_none, ↓ins_int_bool, ↓ins_int_int, ↓ins_int_str, ↓ins_int_list, ↓ins_int_tuple, ↓ins_int_dict, ↓ins_str_none, ↓ins_str_bool, ↓ins_str_int, ↓ins_str_str, ↓ins_str_list, ↓ins_str_tuple, ↓ins_str_dict, ↓ins_list_none, ↓ins_list_bool, ↓ins_list_int, ↓ins_list_str, ↓ins_list_list, ↓ins_list_tuple, ↓ins_list_dict, ↓ins_tuple_none, ↓ins_tuple_bool, ↓ins_tuple_int, ↓ins_tuple_str, ↓ins_tuple_list, ↓ins_tuple_tuple, ↓ins_tuple_dict, ↓ins_dict_none, ↓ins_dict_bool, ↓ins_dict_int, ↓ins_dict_str, ↓ins_dict_list, ↓ins_dict_tuple, ↓ins_dict_dict, ↓in_sign, ↓onClr_0, ↓onClr_S, ↓onW_nil, ↓onW_cons, ↓onRe_0, ↓onRe_S, ↓onBk_nil, ↓onBk_cons, ↓onTwo_l, ↓S_par, ↓a_tup, ↓onG_name, ↓onG_tup, ↓onGs_nil, ↓onGs_cons, ↓onTurn_nx, ↓onTurn_ct, ↓onTurn_bk, ↓onTurn_rt, ↓onLD_d, ↓v_ixAd, ↓v_inAd, ↓v_notInAd, ↓S_upd, ↓v_zip, ↓Wp_flatA, ↓v_int, ↓v_intB, ↓v_min, ↓v_gin, ↓v_gnin, ↓v_gix, ↓reduceIte]
    refine ⟨hn, ite_i (fun _ => ⟨by decide, ite_i (fun _ => ⟨⟨h0, h1⟩, h0, q' _ _ _ (by omega) (dv _ (sq _))⟩) fun _ => ?_⟩) fun _ => ?_⟩
    · refine ⟨by decide, .inl (by decide), by decide, ?_, .inl (by decide), by decide, ?_, .inl (by decide), by decide, by decide, h0, q' _ _ _ (by omega) hg⟩ <;> omega
    · refine ⟨by decide, .inl (by decide), by decide, ?_, .inl (by decide), by decide, ?_, .inl (by decide), by decide, by decide, h0, q' _ _ _ (by omega) hg⟩ <;> omega
  · refine ⟨by decide, .inl (by decide), by decide, ?_, .inl (by decide), by decide, ?_, .inl (by decide), by decide, by decide, h0, q' _ _ _ (by omega) hg⟩ <;> omega
  · refine ⟨by decide, .inl (by decide), by decide, ?_, .inl (by decide), by decide, ?_, .inl (by decide), by decide, by decide, h0, q' _ _ _ (by omega) hg⟩ <;> omega
end DR

set_option maxRecDepth 100000
set_option maxHeartbeats 1000000
namespace DR
open PySem PySem.Spec L2
open PyProof.Rows hiding St
theorem words_ok {p : D} (hp : Pen p) {n : Nat} (h1 : n ≤ 20) {Q : D → D → Prop} (q : ∀ ds p', Pen p' → WordsD ds n → Q (.list ds) p') : MP m__law_words p [.int n] Q := by
  refine MP_of rfl ?_
  show Sp2 g__law_words [some _, some _, none, none, none, none, none, none, none, none] _
  unfold g__law_words
  simp only [↓S_next, ↓S_bk, ↓S_ct, ↓S_rtd, ↓S_seq, ↓S_set, ↓S_drop, ↓S_ret, ↓S_if, ↓S_asg, ↓S_put, ↓S_app, ↓S_ext, ↓S_for, ↓Wp_pure, ↓Wp_opt, ↓Wp_bind, ↓Wp_ite, ↓Wp_var, ↓Wp_op, ↓Wp_un, ↓Wp_test, ↓Wp_dand, ↓Wp_dor, ↓Wp_dnot, ↓Wp_dandV, ↓Wp_dorV, ↓Wp_dnotV, ↓Wp_chain, ↓Wp_cb, ↓Wp_cons, ↓Wp_nil, ↓Wp_tup, ↓Wp_lst, ↓Wp_part, ↓Wp_nopart, ↓Wp_slice, ↓Wp_isi, ↓Wp_isi2, ↓Wp_m1, ↓Wp_call, ↓Wp_pix, ↓Wp_callP0, ↓Wp_callP1, ↓Wp_comp, ↓Wp_disp, ↓Wp_dpnil, ↓Wp_dpcons, ↓Wp_flat, ↓onNx_nx, ↓onNx_bk, ↓onNx_ct, ↓onNx_rt, ↓onRt_rt, ↓onRt_nx, ↓onS_some, ↓onB_b, ↓onI_i, ↓onStr_s, ↓onL_l, ↓lk_0, ↓lk_S, ↓onSet_0, ↓onSet_S, ↓onPut_0, ↓onPut_S, ↓ite_dec, ↓ite_ndec, ↓ite_tt, ↓ite_ff, ↓ite_nt, ↓ite_nf, ↓v_gt, ↓v_lt, ↓v_le, ↓v_ge, ↓v_ltS, ↓v_add, ↓v_addS, ↓v_addL, ↓v_addT, ↓v_addN, ↓v_sub, ↓v_mul, ↓v_mulS, ↓v_mod, ↓v_fdiv, ↓v_pow, ↓v_neg, ↓v_lenL, ↓v_lenT, ↓v_lenS, ↓v_abs, ↓v_rev, ↓v_all, ↓v_any, ↓v_sum, ↓v_eq, ↓v_ne, ↓v_in, ↓v_notIn, ↓q_ii, ↓q_ss, ↓items_l, ↓items_t, ↓items_s, ↓items_r1, ↓items_r2, ↓sl_l, ↓sl_t, ↓sl_s, ↓put_1, ↓put_2, ↓pen_0, ↓pen_1, ↓pen_2, ↓v_ixL, ↓v_ixT, ↓ins_NoneType_none, ↓ins_NoneType_bool, ↓ins_NoneType_int, ↓ins_NoneType_str, ↓ins_NoneType_list, ↓ins_NoneType_tuple, ↓ins_NoneType_dict, ↓ins_bool_none, ↓ins_bool_bool, ↓ins_bool_int, ↓ins_bool_str, ↓ins_bool_list, ↓ins_bool_tuple, ↓ins_bool_dict, ↓ins_int_none, ↓ins_int_bool, ↓ins_int_int, ↓ins_int_str, ↓ins_int_list, ↓ins_int_tuple, ↓ins_int_dict, ↓ins_str_none, ↓ins_str_bool, ↓ins_str_int, ↓ins_str_str, ↓ins_str_list, ↓ins_str_tuple, ↓ins_str_dict, ↓ins_list_none, ↓ins_list_bool, ↓ins_list_int, ↓ins_list_str, ↓ins_list_list, ↓ins_list_tuple, ↓ins_list_dict, ↓ins_tuple_none, ↓ins_tuple_bool, ↓ins_tuple_int, ↓ins_tuple_str, ↓ins_tuple_list, ↓ins_tuple_tuple, ↓ins_tuple_dict, ↓ins_dict_none, ↓ins_dict_bool, ↓ins_dict_int, ↓ins_dict_str, ↓ins_dict_list, ↓ins_dict_tuple, ↓ins_dict_dict, ↓in_sign, ↓onClr_0, ↓onClr_S, ↓onW_nil, ↓onW_cons, ↓onRe_0, ↓onRe_S, ↓onBk_nil, ↓onBk_cons, ↓onTwo_l, ↓S_par, ↓a_tup, ↓onG_name, ↓onG_tup, ↓onGs_nil, ↓onGs_cons, ↓onTurn_nx, ↓onTurn_ct, ↓onTurn_bk, ↓onTurn_rt, ↓onLD_d, ↓v_ixAd, ↓v_inAd, ↓v_notInAd, ↓S_upd, ↓v_zip, ↓Wp_flatA, ↓v_int, ↓v_intB, ↓v_min, ↓v_gin, ↓v_gnin, ↓v_gix, ↓reduceIte]
  refine draw_ok hp (by decide) (by decide) fun k1 p1 hp1 h10 h11 => ?_
  simp only [↓S_next, ↓S_bk, ↓S_ct, ↓S_rtd, ↓S_seq, ↓S_set, ↓S_drop, ↓S_ret, ↓S_if, ↓S_asg, ↓S_put, ↓S_app, ↓S_ext, ↓S_for, ↓Wp_pure, ↓Wp_opt, ↓Wp_bind, ↓Wp_ite, ↓Wp_var, ↓Wp_op, ↓Wp_un, ↓Wp_test, ↓Wp_dand, ↓Wp_dor, ↓Wp_dnot, ↓Wp_dandV, ↓Wp_dorV, ↓Wp_dnotV, ↓Wp_chain, ↓Wp_cb, ↓Wp_cons, ↓Wp_nil, ↓Wp_tup, ↓Wp_lst, ↓Wp_part, ↓Wp_nopart, ↓Wp_slice, ↓Wp_isi, ↓Wp_isi2, ↓Wp_m1, ↓Wp_call, ↓Wp_pix, ↓Wp_callP0, ↓Wp_callP1, ↓Wp_comp, ↓Wp_disp, ↓Wp_dpnil, ↓Wp_dpcons, ↓Wp_flat, ↓onNx_nx, ↓onNx_bk, ↓onNx_ct, ↓onNx_rt, ↓onRt_rt, ↓onRt_nx, ↓onS_some, ↓onB_b, ↓onI_i, ↓onStr_s, ↓onL_l, ↓lk_0, ↓lk_S, ↓onSet_0, ↓onSet_S, ↓onPut_0, ↓onPut_S, ↓ite_dec, ↓ite_ndec, ↓ite_tt, ↓ite_ff, ↓ite_nt, ↓ite_nf, ↓v_gt, ↓v_lt, ↓v_le, ↓v_ge, ↓v_ltS, ↓v_add, ↓v_addS, ↓v_addL, ↓v_addT, ↓v_addN, ↓v_sub, ↓v_mul, ↓v_mulS, ↓v_mod, ↓v_fdiv, ↓v_pow, ↓v_neg, ↓v_lenL, ↓v_lenT, ↓v_lenS, ↓v_abs, ↓v_rev, ↓v_all, ↓v_any, ↓v_sum, ↓v_eq, ↓v_ne, ↓v_in, ↓v_notIn, ↓q_ii, ↓q_ss, ↓items_l, ↓items_t, ↓items_s, ↓items_r1, ↓items_r2, ↓sl_l, ↓sl_t, ↓sl_s, ↓put_1, ↓put_2, ↓pen_0, ↓pen_1, ↓pen_2, ↓v_ixL, ↓v_ixT, ↓ins_NoneType_none, ↓ins_NoneType_bool, ↓ins_NoneType_int, ↓ins_NoneType_str, ↓ins_NoneType_list, ↓ins_NoneType_tuple, ↓ins_NoneType_dict, ↓ins_bool_none, ↓ins_bool_bool, ↓ins_bool_int, ↓ins_bool_str, ↓ins_bool_list, ↓ins_bool_tuple, ↓ins_bool_dict, ↓ins_int_none, ↓ins_int_bool, ↓ins_int_int, ↓ins_int_str, ↓ins_int_list, ↓ins_int_tuple, ↓ins_int_dict, ↓ins_str_none, ↓ins_str_bool, ↓ins_str_int, ↓ins_str_str, ↓ins_str_list, ↓ins_str_tuple, ↓ins_str_dict, ↓ins_list_none, ↓ins_list_bool, ↓ins_list_int, ↓ins_list_str, ↓ins_list_list, ↓ins_list_tuple, ↓ins_list_dict, ↓ins_tuple_none, ↓ins_tuple_bool, ↓ins_tuple_int, ↓ins_tuple_str, ↓ins_tuple_list, ↓ins_tuple_tuple, ↓ins_tuple_dict, ↓ins_dict_none, ↓ins_dict_bool, ↓ins_dict_int, ↓ins_dict_str, ↓ins_dict_list, ↓ins_dict_tuple, ↓ins_dict_dict, ↓in_sign, ↓onClr_0, ↓onClr_S, ↓onW_nil, ↓onW_cons, ↓onRe_0, ↓onRe_S, ↓onBk_nil, ↓onBk_cons, ↓onTwo_l, ↓S_par, ↓a_tup, ↓onG_name, ↓onG_tup, ↓onGs_nil, ↓onGs_cons, ↓onTurn_nx, ↓onTurn_ct, ↓onTurn_bk, ↓onTurn_rt, ↓onLD_d, ↓v_ixAd, ↓v_inAd, ↓v_notInAd, ↓S_upd, ↓v_zip, ↓Wp_flatA, ↓v_int, ↓v_intB, ↓v_min, ↓v_gin, ↓v_gnin, ↓v_gix, ↓reduceIte]
  refine ⟨by omega, ?_⟩
  refine Cp_inv (fun s => ∃ p, Pen p ∧ s = [some p, some (.int n), some (.str abc), none, none, none, none, none, none, none]) (fun d => ∃ c, d = .str ⟨#[c]⟩ ∧ small c = true) ⟨p1, hp1, rfl⟩ (fun _ h => nomatch h) (by rw [rangeL_len]; exact lineB (by simp; omega)) (fun d hd s ⟨p, hp, e⟩ => ?_) fun r s' ⟨p2, hp2, e⟩ hr hl => ?_
  · subst e
    refine ⟨[some p, some (.int n), some (.str abc), none, none, none, none, none, some d, none], rfl, ?_⟩
    simp only [↓S_next, ↓S_bk, ↓S_ct, ↓S_rtd, ↓S_seq, ↓S_set, ↓S_drop, ↓S_ret, ↓S_if, ↓S_asg, ↓S_put, ↓S_app, ↓S_ext, ↓S_for, ↓Wp_pure, ↓Wp_opt, ↓Wp_bind, ↓Wp_ite, ↓Wp_var, ↓Wp_op, ↓Wp_un, ↓Wp_test, ↓Wp_dand, ↓Wp_dor, ↓Wp_dnot, ↓Wp_dandV, ↓Wp_dorV, ↓Wp_dnotV, ↓Wp_chain, ↓Wp_cb, ↓Wp_cons, ↓Wp_nil, ↓Wp_tup, ↓Wp_lst, ↓Wp_part, ↓Wp_nopart, ↓Wp_slice, ↓Wp_isi, ↓Wp_isi2, ↓Wp_m1, ↓Wp_call, ↓Wp_pix, ↓Wp_callP0, ↓Wp_callP1, ↓Wp_comp, ↓Wp_disp, ↓Wp_dpnil, ↓Wp_dpcons, ↓Wp_flat, ↓onNx_nx, ↓onNx_bk, ↓onNx_ct, ↓onNx_rt, ↓onRt_rt, ↓onRt_nx, ↓onS_some, ↓onB_b, ↓onI_i, ↓onStr_s, ↓onL_l, ↓lk_0, ↓lk_S, ↓onSet_0, ↓onSet_S, ↓onPut_0, ↓onPut_S, ↓ite_dec, ↓ite_ndec, ↓ite_tt, ↓ite_ff, ↓ite_nt, ↓ite_nf, ↓v_gt, ↓v_lt, ↓v_le, ↓v_ge, ↓v_ltS, ↓v_add, ↓v_addS, ↓v_addL, ↓v_addT, ↓v_addN, ↓v_sub, ↓v_mul, ↓v_mulS, ↓v_mod, ↓v_fdiv, ↓v_pow, ↓v_neg, ↓v_lenL, ↓v_lenT, ↓v_lenS, ↓v_abs, ↓v_rev, ↓v_all, ↓v_any, ↓v_sum, ↓v_eq, ↓v_ne, ↓v_in, ↓v_notIn, ↓q_ii, ↓q_ss, ↓items_l, ↓items_t, ↓items_s, ↓items_r1, ↓items_r2, ↓sl_l, ↓sl_t, ↓sl_s, ↓put_1, ↓put_2, ↓pen_0, ↓pen_1, ↓pen_2, ↓v_ixL, ↓v_ixT, ↓ins_NoneType_none, ↓ins_NoneType_bool, ↓ins_NoneType_int, ↓ins_NoneType_str, ↓ins_NoneType_list, ↓ins_NoneType_tuple, ↓ins_NoneType_dict, ↓ins_bool_none, ↓ins_bool_bool, ↓ins_bool_int, ↓ins_bool_str, ↓ins_bool_list, ↓ins_bool_tuple, ↓ins_bool_dict, ↓ins_int_none, ↓ins_int_bool, ↓ins_int_int, ↓ins_int_str, ↓ins_int_list, ↓ins_int_tuple, ↓ins_int_dict, ↓ins_str_none, ↓ins_str_bool, ↓ins_str_int, ↓ins_str_str, ↓ins_str_list, ↓ins_str_tuple, ↓ins_str_dict, ↓ins_list_none, ↓ins_list_bool, ↓ins_list_int, ↓ins_list_str, ↓ins_list_list, ↓ins_list_tuple, ↓ins_list_dict, ↓ins_tuple_none, ↓ins_tuple_bool, ↓ins_tuple_int, ↓ins_tuple_str, ↓ins_tuple_list, ↓ins_tuple_tuple, ↓ins_tuple_dict, ↓ins_dict_none, ↓ins_dict_bool, ↓ins_dict_int, ↓ins_dict_str, ↓ins_dict_list, ↓ins_dict_tuple, ↓ins_dict_dict, ↓in_sign, ↓onClr_0, ↓onClr_S, ↓onW_nil, ↓onW_cons, ↓onRe_0, ↓onRe_S, ↓onBk_nil, ↓onBk_cons, ↓onTwo_l, ↓S_par, ↓a_tup, ↓onG_name, ↓onG_tup, ↓onGs_nil, ↓onGs_cons, ↓onTurn_nx, ↓onTurn_ct, ↓onTurn_bk, ↓onTurn_rt, ↓onLD_d, ↓v_ixAd, ↓v_inAd, ↓v_notInAd, ↓S_upd, ↓v_zip, ↓Wp_flatA, ↓v_int, ↓v_intB, ↓v_min, ↓v_gin, ↓v_gnin, ↓v_gix, ↓reduceIte]
    refine ⟨trivial, draw_ok hp (by decide) (by decide) fun k p' hp' h0 h1 => ?_⟩
    obtain ⟨e, hc⟩ := at_strE (z := abc) h0 (by rw [abc_len]; exact h1) (by rw [abc_len]; decide)
    exact ⟨_, e, ⟨_, rfl, decide_eq_true hc⟩, p', hp', rfl⟩
  · subst e
    obtain ⟨cs, rfl, hcs⟩ := strs_of hr
    rw [rangeL_len, List.length_map, List.length_nil] at hl
    rw [joinD_signs (by omega)]
    simp only [↓S_next, ↓S_bk, ↓S_ct, ↓S_rtd, ↓S_seq, ↓S_set, ↓S_drop, ↓S_ret, ↓S_if, ↓S_asg, ↓S_put, ↓S_app, ↓S_ext, ↓S_for, ↓Wp_pure, ↓Wp_opt, ↓Wp_bind, ↓Wp_ite, ↓Wp_var, ↓Wp_op, ↓Wp_un, ↓Wp_test, ↓Wp_dand, ↓Wp_dor, ↓Wp_dnot, ↓Wp_dandV, ↓Wp_dorV, ↓Wp_dnotV, ↓Wp_chain, ↓Wp_cb, ↓Wp_cons, ↓Wp_nil, ↓Wp_tup, ↓Wp_lst, ↓Wp_part, ↓Wp_nopart, ↓Wp_slice, ↓Wp_isi, ↓Wp_isi2, ↓Wp_m1, ↓Wp_call, ↓Wp_pix, ↓Wp_callP0, ↓Wp_callP1, ↓Wp_comp, ↓Wp_disp, ↓Wp_dpnil, ↓Wp_dpcons, ↓Wp_flat, ↓onNx_nx, ↓onNx_bk, ↓onNx_ct, ↓onNx_rt, ↓onRt_rt, ↓onRt_nx, ↓onS_some, ↓onB_b, ↓onI_i, ↓onStr_s, ↓onL_l, ↓lk_0, ↓lk_S, ↓onSet_0, ↓onSet_S, ↓onPut_0, ↓onPut_S, ↓ite_dec, ↓ite_ndec, ↓ite_tt, ↓ite_ff, ↓ite_nt, ↓ite_nf, ↓v_gt, ↓v_lt, ↓v_le, ↓v_ge, ↓v_ltS, ↓v_add, ↓v_addS, ↓v_addL, ↓v_addT, ↓v_addN, ↓v_sub, ↓v_mul, ↓v_mulS, ↓v_mod, ↓v_fdiv, ↓v_pow, ↓v_neg, ↓v_lenL, ↓v_lenT, ↓v_lenS, ↓v_abs, ↓v_rev, ↓v_all, ↓v_any, ↓v_sum, ↓v_eq, ↓v_ne, ↓v_in, ↓v_notIn, ↓q_ii, ↓q_ss, ↓items_l, ↓items_t, ↓items_s, ↓items_r1, ↓items_r2, ↓sl_l, ↓sl_t, ↓sl_s, ↓put_1, ↓put_2, ↓pen_0, ↓pen_1, ↓pen_2, ↓v_ixL, ↓v_ixT, ↓ins_NoneType_none, ↓ins_NoneType_bool, ↓ins_NoneType_int, ↓ins_NoneType_str, ↓ins_NoneType_list, ↓ins_NoneType_tuple, ↓ins_NoneType_dict, ↓ins_bool_none, ↓ins_bool_bool, ↓ins_bool_int, ↓ins_bool_str, ↓ins_bool_list, ↓ins_bool_tuple, ↓ins_bool_dict, ↓ins_int_none, ↓ins_int_bool, ↓ins_int_int, ↓ins_int_str, ↓ins_int_list, ↓ins_int_tuple, ↓ins_int_dict, ↓ins_str_none, ↓ins_str_bool, ↓ins_str_int, ↓ins_str_str, ↓ins_str_list, ↓ins_str_tuple, ↓ins_str_dict, ↓ins_list_none, ↓ins_list_bool, ↓ins_list_int, ↓ins_list_str, ↓ins_list_list, ↓ins_list_tuple, ↓ins_list_dict, ↓ins_tuple_none, ↓ins_tuple_bool, ↓ins_tuple_int, ↓ins_tuple_str, ↓ins_tuple_list, ↓ins_tuple_tuple, ↓ins_tuple_dict, ↓ins_dict_none, ↓ins_dict_bool, ↓ins_dict_int, ↓ins_dict_str, ↓ins_dict_list, ↓ins_dict_tuple, ↓ins_dict_dict, ↓in_sign, ↓onClr_0, ↓onClr_S, ↓onW_nil, ↓onW_cons, ↓onRe_0, ↓onRe_S, ↓onBk_nil, ↓onBk_cons, ↓onTwo_l, ↓S_par, ↓a_tup, ↓onG_name, ↓onG_tup, ↓onGs_nil, ↓onGs_cons, ↓onTurn_nx, ↓onTurn_ct, ↓onTurn_bk, ↓onTurn_rt, ↓onLD_d, ↓v_ixAd, ↓v_inAd, ↓v_notInAd, ↓S_upd, ↓v_zip, ↓Wp_flatA, ↓v_int, ↓v_intB, ↓v_min, ↓v_gin, ↓v_gnin, ↓v_gix, ↓reduceIte]
    have hw := join_signs cs
    generalize hW : Txt.join ("" : Str) (cs.map fun c => (⟨#[c]⟩ : Str)) = W at hw ⊢
    have hWl : W.length = cs.length := by rw [← len_toList, hw]
    have hWs : smallS W := fun c hc => hcs c (by rw [← hw]; exact hc)
    have lW : W.length ≤ sizeLine := lineB (by omega)
    clear hW
    refine ⟨lW, draw_ok hp2 (by omega) (by omega) fun spot p3 hp3 h30 h31 => ?_⟩
    try simp only [↓S_next, ↓S_bk, ↓S_ct, ↓S_rtd, ↓S_seq, ↓S_set, ↓S_drop, ↓S_ret, ↓S_if, ↓S_asg, ↓S_put, ↓S_app, ↓S_ext, ↓S_for, ↓Wp_pure, ↓Wp_opt, ↓Wp_bind, ↓Wp_ite, ↓Wp_var, ↓Wp_op, ↓Wp_un, ↓Wp_test, ↓Wp_dand, ↓Wp_dor, ↓Wp_dnot, ↓Wp_dandV, ↓Wp_dorV, ↓Wp_dnotV, ↓Wp_chain, ↓Wp_cb, ↓Wp_cons, ↓Wp_nil, ↓Wp_tup, ↓Wp_lst, ↓Wp_part, ↓Wp_nopart, ↓Wp_slice, ↓Wp_isi, ↓Wp_isi2, ↓Wp_m1, ↓Wp_call, ↓Wp_pix, ↓Wp_callP0, ↓Wp_callP1, ↓Wp_comp, ↓Wp_disp, ↓Wp_dpnil, ↓Wp_dpcons, ↓Wp_flat, ↓onNx_nx, ↓onNx_bk, ↓onNx_ct, ↓onNx_rt, ↓onRt_rt, ↓onRt_nx, ↓onS_some, ↓onB_b, ↓onI_i, ↓onStr_s, ↓onL_l, ↓lk_0, ↓lk_S, ↓onSet_0, ↓onSet_S, ↓onPut_0, ↓onPut_S, ↓ite_dec, ↓ite_ndec, ↓ite_tt, ↓ite_ff, ↓ite_nt, ↓ite_nf, ↓v_gt, ↓v_lt, ↓v_le, ↓v_ge, ↓v_ltS, ↓v_add, ↓v_addS, ↓v_addL, ↓v_addT, ↓v_addN, ↓v_sub, ↓v_mul, ↓v_mulS, ↓v_mod, ↓v_fdiv, ↓v_pow, ↓v_neg, ↓v_lenL, ↓v_lenT, ↓v_lenS, ↓v_abs, ↓v_rev, ↓v_all, ↓v_any, ↓v_sum, ↓v_eq, ↓v_ne, ↓v_in, ↓v_notIn, ↓q_ii, ↓q_ss, ↓items_l, ↓items_t, ↓items_s, ↓items_r1, ↓items_r2, ↓sl_l, ↓sl_t, ↓sl_s, ↓put_1, ↓put_2, ↓pen_0, ↓pen_1, ↓pen_2, ↓v_ixL, ↓v_ixT, ↓ins_NoneType_none, ↓ins_NoneType_bool, ↓ins_NoneType_int, ↓ins_NoneType_str, ↓ins_NoneType_list, ↓ins_NoneType_tuple, ↓ins_NoneType_dict, ↓ins_bool_none, ↓ins_bool_bool, ↓ins_bool_int, ↓ins_bool_str, ↓ins_bool_list, ↓ins_bool_tuple, ↓ins_bool_dict, ↓ins_int_none, ↓ins_int_bool, ↓ins_int_int, ↓ins_int_str, ↓ins_int_list, ↓ins_int_tuple, ↓ins_int_dict, ↓ins_str_none, ↓ins_str_bool, ↓ins_str_int, ↓ins_str_str, ↓ins_str_list, ↓ins_str_tuple, ↓ins_str_dict, ↓ins_list_none, ↓ins_list_bool, ↓ins_list_int, ↓ins_list_str, ↓ins_list_list, ↓ins_list_tuple, ↓ins_list_dict, ↓ins_tuple_none, ↓ins_tuple_bool, ↓ins_tuple_int, ↓ins_tuple_str, ↓ins_tuple_list, ↓ins_tuple_tuple, ↓ins_tuple_dict, ↓ins_dict_none, ↓ins_dict_bool, ↓ins_dict_int, ↓ins_dict_str, ↓ins_dict_list, ↓ins_dict_tuple, ↓ins_dict_dict, ↓in_sign, ↓onClr_0, ↓onClr_S, ↓onW_nil, ↓onW_cons, ↓onRe_0, ↓onRe_S, ↓onBk_nil, ↓onBk_cons, ↓onTwo_l, ↓S_par, ↓a_tup, ↓onG_name, ↓onG_tup, ↓onGs_nil, ↓onGs_cons, ↓onTurn_nx, ↓onTurn_ct, ↓onTurn_bk, ↓onTurn_rt, ↓onLD_d, ↓v_ixAd, ↓v_inAd, ↓v_notInAd, ↓S_upd, ↓v_zip, ↓Wp_flatA, ↓v_int, ↓v_intB, ↓v_min, ↓v_gin, ↓v_gnin, ↓v_gix, ↓reduceIte]
    refine draw_ok hp3 (by decide) (by decide) fun f p4 hp4 h40 h41 => ?_
    try simp only [↓S_next, ↓S_bk, ↓S_ct, ↓S_rtd, ↓S_seq, ↓S_set, ↓S_drop, ↓S_ret, ↓S_if, ↓S_asg, ↓S_put, ↓S_app, ↓S_ext, ↓S_for, ↓Wp_pure, ↓Wp_opt, ↓Wp_bind, ↓Wp_ite, ↓Wp_var, ↓Wp_op, ↓Wp_un, ↓Wp_test, ↓Wp_dand, ↓Wp_dor, ↓Wp_dnot, ↓Wp_dandV, ↓Wp_dorV, ↓Wp_dnotV, ↓Wp_chain, ↓Wp_cb, ↓Wp_cons, ↓Wp_nil, ↓Wp_tup, ↓Wp_lst, ↓Wp_part, ↓Wp_nopart, ↓Wp_slice, ↓Wp_isi, ↓Wp_isi2, ↓Wp_m1, ↓Wp_call, ↓Wp_pix, ↓Wp_callP0, ↓Wp_callP1, ↓Wp_comp, ↓Wp_disp, ↓Wp_dpnil, ↓Wp_dpcons, ↓Wp_flat, ↓onNx_nx, ↓onNx_bk, ↓onNx_ct, ↓onNx_rt, ↓onRt_rt, ↓onRt_nx, ↓onS_some, ↓onB_b, ↓onI_i, ↓onStr_s, ↓onL_l, ↓lk_0, ↓lk_S, ↓onSet_0, ↓onSet_S, ↓onPut_0, ↓onPut_S, ↓ite_dec, ↓ite_ndec, ↓ite_tt, ↓ite_ff, ↓ite_nt, ↓ite_nf, ↓v_gt, ↓v_lt, ↓v_le, ↓v_ge, ↓v_ltS, ↓v_add, ↓v_addS, ↓v_addL, ↓v_addT, ↓v_addN, ↓v_sub, ↓v_mul, ↓v_mulS, ↓v_mod, ↓v_fdiv, ↓v_pow, ↓v_neg, ↓v_lenL, ↓v_lenT, ↓v_lenS, ↓v_abs, ↓v_rev, ↓v_all, ↓v_any, ↓v_sum, ↓v_eq, ↓v_ne, ↓v_in, ↓v_notIn, ↓q_ii, ↓q_ss, ↓items_l, ↓items_t, ↓items_s, ↓items_r1, ↓items_r2, ↓sl_l, ↓sl_t, ↓sl_s, ↓put_1, ↓put_2, ↓pen_0, ↓pen_1, ↓pen_2, ↓v_ixL, ↓v_ixT, ↓ins_NoneType_none, ↓ins_NoneType_bool, ↓ins_NoneType_int, ↓ins_NoneType_str, ↓ins_NoneType_list, ↓ins_NoneType_tuple, ↓ins_NoneType_dict, ↓ins_bool_none, ↓ins_bool_bool, ↓ins_bool_int, ↓ins_bool_str, ↓ins_bool_list, ↓ins_bool_tuple, ↓ins_bool_dict, ↓ins_int_none, ↓ins_int_bool, ↓ins_int_int, ↓ins_int_str, ↓ins_int_list, ↓ins_int_tuple, ↓ins_int_dict, ↓ins_str_none, ↓ins_str_bool, ↓ins_str_int, ↓ins_str_str, ↓ins_str_list, ↓ins_str_tuple, ↓ins_str_dict, ↓ins_list_none, ↓ins_list_bool, ↓ins_list_int, ↓ins_list_str, ↓ins_list_list, ↓ins_list_tuple, ↓ins_list_dict, ↓ins_tuple_none, ↓ins_tuple_bool, ↓ins_tuple_int, ↓ins_tuple_str, ↓ins_tuple_list, ↓ins_tuple_tuple, ↓ins_tuple_dict, ↓ins_dict_none, ↓ins_dict_bool, ↓ins_dict_int, ↓ins_dict_str, ↓ins_dict_list, ↓ins_dict_tuple, ↓ins_dict_dict, ↓in_sign, ↓onClr_0, ↓onClr_S, ↓onW_nil, ↓onW_cons, ↓onRe_0, ↓onRe_S, ↓onBk_nil, ↓onBk_cons, ↓onTwo_l, ↓S_par, ↓a_tup, ↓onG_name, ↓onG_tup, ↓onGs_nil, ↓onGs_cons, ↓onTurn_nx, ↓onTurn_ct, ↓onTurn_bk, ↓onTurn_rt, ↓onLD_d, ↓v_ixAd, ↓v_inAd, ↓v_notInAd, ↓S_upd, ↓v_zip, ↓Wp_flatA, ↓v_int, ↓v_intB, ↓v_min, ↓v_gin, ↓v_gnin, ↓v_gix, ↓reduceIte]
    refine ⟨lineB (by simp), draw_ok hp4 (by decide) (by decide) fun k5 p5 hp5 h50 h51 => ?_⟩
    try simp only [↓S_next, ↓S_bk, ↓S_ct, ↓S_rtd, ↓S_seq, ↓S_set, ↓S_drop, ↓S_ret, ↓S_if, ↓S_asg, ↓S_put, ↓S_app, ↓S_ext, ↓S_for, ↓Wp_pure, ↓Wp_opt, ↓Wp_bind, ↓Wp_ite, ↓Wp_var, ↓Wp_op, ↓Wp_un, ↓Wp_test, ↓Wp_dand, ↓Wp_dor, ↓Wp_dnot, ↓Wp_dandV, ↓Wp_dorV, ↓Wp_dnotV, ↓Wp_chain, ↓Wp_cb, ↓Wp_cons, ↓Wp_nil, ↓Wp_tup, ↓Wp_lst, ↓Wp_part, ↓Wp_nopart, ↓Wp_slice, ↓Wp_isi, ↓Wp_isi2, ↓Wp_m1, ↓Wp_call, ↓Wp_pix, ↓Wp_callP0, ↓Wp_callP1, ↓Wp_comp, ↓Wp_disp, ↓Wp_dpnil, ↓Wp_dpcons, ↓Wp_flat, ↓onNx_nx, ↓onNx_bk, ↓onNx_ct, ↓onNx_rt, ↓onRt_rt, ↓onRt_nx, ↓onS_some, ↓onB_b, ↓onI_i, ↓onStr_s, ↓onL_l, ↓lk_0, ↓lk_S, ↓onSet_0, ↓onSet_S, ↓onPut_0, ↓onPut_S, ↓ite_dec, ↓ite_ndec, ↓ite_tt, ↓ite_ff, ↓ite_nt, ↓ite_nf, ↓v_gt, ↓v_lt, ↓v_le, ↓v_ge, ↓v_ltS, ↓v_add, ↓v_addS, ↓v_addL, ↓v_addT, ↓v_addN, ↓v_sub, ↓v_mul, ↓v_mulS, ↓v_mod, ↓v_fdiv, ↓v_pow, ↓v_neg, ↓v_lenL, ↓v_lenT, ↓v_lenS, ↓v_abs, ↓v_rev, ↓v_all, ↓v_any, ↓v_sum, ↓v_eq, ↓v_ne, ↓v_in, ↓v_notIn, ↓q_ii, ↓q_ss, ↓items_l, ↓items_t, ↓items_s, ↓items_r1, ↓items_r2, ↓sl_l, ↓sl_t, ↓sl_s, ↓put_1, ↓put_2, ↓pen_0, ↓pen_1, ↓pen_2, ↓v_ixL, ↓v_ixT, ↓ins_NoneType_none, ↓ins_NoneType_bool, ↓ins_NoneType_int, ↓ins_NoneType_str, ↓ins_NoneType_list, ↓ins_NoneType_tuple, ↓ins_NoneType_dict, ↓ins_bool_none, ↓ins_bool_bool, ↓ins_bool_int, ↓ins_bool_str, ↓ins_bool_list, ↓ins_bool_tuple, ↓ins_bool_dict, ↓ins_int_none, ↓ins_int_bool, ↓ins_int_int, ↓ins_int_str, ↓ins_int_list, ↓ins_int_tuple, ↓ins_int_dict, ↓ins_str_none, ↓ins_str_bool, ↓ins_str_int, ↓ins_str_str, ↓ins_str_list, ↓ins_str_tuple, ↓ins_str_dict, ↓ins_list_none, ↓ins_list_bool, ↓ins_list_int, ↓ins_list_str, ↓ins_list_list, ↓ins_list_tuple, ↓ins_list_dict, ↓ins_tuple_none, ↓ins_tuple_bool, ↓ins_tuple_int, ↓ins_tuple_str, ↓ins_tuple_list, ↓ins_tuple_tuple, ↓ins_tuple_dict, ↓ins_dict_none, ↓ins_dict_bool, ↓ins_dict_int, ↓ins_dict_str, ↓ins_dict_list, ↓ins_dict_tuple, ↓ins_dict_dict, ↓in_sign, ↓onClr_0, ↓onClr_S, ↓onW_nil, ↓onW_cons, ↓onRe_0, ↓onRe_S, ↓onBk_nil, ↓onBk_cons, ↓onTwo_l, ↓S_par, ↓a_tup, ↓onG_name, ↓onG_tup, ↓onGs_nil, ↓onGs_cons, ↓onTurn_nx, ↓onTurn_ct, ↓onTurn_bk, ↓onTurn_rt, ↓onLD_d, ↓v_ixAd, ↓v_inAd, ↓v_notInAd, ↓S_upd, ↓v_zip, ↓Wp_flatA, ↓v_int, ↓v_intB, ↓v_min, ↓v_gin, ↓v_gnin, ↓v_gix, ↓reduceIte]
    obtain ⟨dl, el, ml⟩ := at_in (ds := [PyData.int 1, .int 3, .int 5, .int 7, .int 9, .int 11]) h50 (by simpa using h51)
    obtain ⟨l, hl6, rfl⟩ : ∃ l : Int, (l = 1 ∨ l = 3 ∨ l = 5 ∨ l = 7 ∨ l = 9 ∨ l = 11) ∧ dl = .int l := by
      simp only [List.mem_cons, List.not_mem_nil, or_false] at ml
      rcases ml with h | h | h | h | h | h
      · exact ⟨1, by decide, h⟩
      · exact ⟨3, by decide, h⟩
      · exact ⟨5, by decide, h⟩
      · exact ⟨7, by decide, h⟩
      · exact ⟨9, by decide, h⟩
      · exact ⟨11, by decide, h⟩
    refine ⟨_, el, ?_⟩
    refine ⟨lineB (by simp), by omega, ?_⟩
    have hWk : ∀ i j : Option Int, smallS (cutS W i j) := smallS_cut hWs
    refine Fl_inv (I := fun rest s => ∃ (k : Nat) (p : D) (zs : List Str) (x8 x9 : Option D), rest = rangeL k (n - k) ∧ k ≤ n ∧ Pen p ∧ zs.length = k ∧
      (∀ (i : Nat) (z : Str), zs[i]? = some z → smallS z ∧ 1 ≤ z.length ∧ z.length ≤ 8 ∧ ∃ tl, z.cps.toList = (cutS W none (some spot)).cps.toList ++ lets f l i :: tl) ∧
      s = [some p, some (.int n), some (.str abc), some (.str W), some (.int spot), some (.int f), some (.int l), some (.list (zs.map PyData.str)), x8, x9])
      ⟨0, p5, [], none, none, by simp, Nat.zero_le _, hp5, rfl, fun i z h => by simp at h, rfl⟩ ?_ ?_
    · rintro d r s ⟨k, p, zs, x8, x9, hr, hk, hp, hlz, hz, rfl⟩
      obtain ⟨m, hm⟩ : ∃ m, n - k = m + 1 := by
        cases e : n - k with
        | zero =>
          rw [e] at hr
          cases hr
        | succ m => exact ⟨m, rfl⟩
      rw [hm, rangeL_cons] at hr
      obtain ⟨rfl, rfl⟩ := List.cons.inj hr
      refine ⟨[some p, some (.int n), some (.str abc), some (.str W), some (.int spot), some (.int f), some (.int l), some (.list (zs.map PyData.str)), some (.int k), x9], rfl, ?_⟩
      simp only [↓S_next, ↓S_bk, ↓S_ct, ↓S_rtd, ↓S_seq, ↓S_set, ↓S_drop, ↓S_ret, ↓S_if, ↓S_asg, ↓S_put, ↓S_app, ↓S_ext, ↓S_for, ↓Wp_pure, ↓Wp_opt, ↓Wp_bind, ↓Wp_ite, ↓Wp_var, ↓Wp_op, ↓Wp_un, ↓Wp_test, ↓Wp_dand, ↓Wp_dor, ↓Wp_dnot, ↓Wp_dandV, ↓Wp_dorV, ↓Wp_dnotV, ↓Wp_chain, ↓Wp_cb, ↓Wp_cons, ↓Wp_nil, ↓Wp_tup, ↓Wp_lst, ↓Wp_part, ↓Wp_nopart, ↓Wp_slice, ↓Wp_isi, ↓Wp_isi2, ↓Wp_m1, ↓Wp_call, ↓Wp_pix, ↓Wp_callP0, ↓Wp_callP1, ↓Wp_comp, ↓Wp_disp, ↓Wp_dpnil, ↓Wp_dpcons, ↓Wp_flat, ↓onNx_nx, ↓onNx_bk, ↓onNx_ct, ↓onNx_rt, ↓onRt_rt, ↓onRt_nx, ↓onS_some, ↓onB_b, ↓onI_i, ↓onStr_s, ↓onL_l, ↓lk_0, ↓lk_S, ↓onSet_0, ↓onSet_S, ↓onPut_0, ↓onPut_S, ↓ite_dec, ↓ite_ndec, ↓ite_tt, ↓ite_ff, ↓ite_nt, ↓ite_nf, ↓v_gt, ↓v_lt, ↓v_le, ↓v_ge, ↓v_ltS, ↓v_add, ↓v_addS, ↓v_addL, ↓v_addT, ↓v_addN, ↓v_sub, ↓v_mul, ↓v_mulS, ↓v_mod, ↓v_fdiv, ↓v_pow, ↓v_neg, ↓v_lenL, ↓v_lenT, ↓v_lenS, ↓v_abs, ↓v_rev, ↓v_all, ↓v_any, ↓v_sum, ↓v_eq, ↓v_ne, ↓v_in, ↓v_notIn, ↓q_ii, ↓q_ss, ↓items_l, ↓items_t, ↓items_s, ↓items_r1, ↓items_r2, ↓sl_l, ↓sl_t, ↓sl_s, ↓put_1, ↓put_2, ↓pen_0, ↓pen_1, ↓pen_2, ↓v_ixL, ↓v_ixT, ↓ins_NoneType_none, ↓ins_NoneType_bool, ↓ins_NoneType_int, ↓ins_NoneType_str, ↓ins_NoneType_list, ↓ins_NoneType_tuple, ↓ins_NoneType_dict, ↓ins_bool_none, ↓ins_bool_bool, ↓ins_bool_int, ↓ins_bool_str, ↓ins_bool_list, ↓ins_bool_tuple, ↓ins_bool_dict, ↓ins_int_none, ↓ins_int_bool, ↓ins_int_int, ↓ins_int_str, ↓ins_int_list, ↓ins_int_tuple, ↓ins_int_dict, ↓ins_str_none, ↓ins_str_bool, ↓ins_str_int, ↓ins_str_str, ↓ins_str_list, ↓ins_str_tuple, ↓ins_str_dict, ↓ins_list_none, ↓ins_list_bool, ↓ins_list_int, ↓ins_list_str, ↓ins_list_list, ↓ins_list_tuple, ↓ins_list_dict, ↓ins_tuple_none, ↓ins_tuple_bool, ↓ins_tuple_int, ↓ins_tuple_str, ↓ins_tuple_list, ↓ins_tuple_tuple, ↓ins_tuple_dict, ↓ins_dict_none, ↓ins_dict_bool, ↓ins_dict_int, ↓ins_dict_str, ↓ins_dict_list, ↓ins_dict_tuple, ↓ins_dict_dict, ↓in_sign, ↓onClr_0, ↓onClr_S, ↓onW_nil, ↓onW_cons, ↓onRe_0, ↓onRe_S, ↓onBk_nil, ↓onBk_cons, ↓onTwo_l, ↓S_par, ↓a_tup, ↓onG_name, ↓onG_tup, ↓onGs_nil, ↓onGs_cons, ↓onTurn_nx, ↓onTurn_ct, ↓onTurn_bk, ↓onTurn_rt, ↓onLD_d, ↓v_ixAd, ↓v_inAd, ↓v_notInAd, ↓S_upd, ↓v_zip, ↓Wp_flatA, ↓v_int, ↓v_intB, ↓v_min, ↓v_gin, ↓v_gnin, ↓v_gix, ↓reduceIte]
      have lc1 := cutS_len W (some spot) none
      refine ⟨lW, lW, draw_ok hp (by omega) (by omega) fun t p' hp' ht0 ht1 => ?_⟩
      simp only [↓S_next, ↓S_bk, ↓S_ct, ↓S_rtd, ↓S_seq, ↓S_set, ↓S_drop, ↓S_ret, ↓S_if, ↓S_asg, ↓S_put, ↓S_app, ↓S_ext, ↓S_for, ↓Wp_pure, ↓Wp_opt, ↓Wp_bind, ↓Wp_ite, ↓Wp_var, ↓Wp_op, ↓Wp_un, ↓Wp_test, ↓Wp_dand, ↓Wp_dor, ↓Wp_dnot, ↓Wp_dandV, ↓Wp_dorV, ↓Wp_dnotV, ↓Wp_chain, ↓Wp_cb, ↓Wp_cons, ↓Wp_nil, ↓Wp_tup, ↓Wp_lst, ↓Wp_part, ↓Wp_nopart, ↓Wp_slice, ↓Wp_isi, ↓Wp_isi2, ↓Wp_m1, ↓Wp_call, ↓Wp_pix, ↓Wp_callP0, ↓Wp_callP1, ↓Wp_comp, ↓Wp_disp, ↓Wp_dpnil, ↓Wp_dpcons, ↓Wp_flat, ↓onNx_nx, ↓onNx_bk, ↓onNx_ct, ↓onNx_rt, ↓onRt_rt, ↓onRt_nx, ↓onS_some, ↓onB_b, ↓onI_i, ↓onStr_s, ↓onL_l, ↓lk_0, ↓lk_S, ↓onSet_0, ↓onSet_S, ↓onPut_0, ↓onPut_S, ↓ite_dec, ↓ite_ndec, ↓ite_tt, ↓ite_ff, ↓ite_nt, ↓ite_nf, ↓v_gt, ↓v_lt, ↓v_le, ↓v_ge, ↓v_ltS, ↓v_add, ↓v_addS, ↓v_addL, ↓v_addT, ↓v_addN, ↓v_sub, ↓v_mul, ↓v_mulS, ↓v_mod, ↓v_fdiv, ↓v_pow, ↓v_neg, ↓v_lenL, ↓v_lenT, ↓v_lenS, ↓v_abs, ↓v_rev, ↓v_all, ↓v_any, ↓v_sum, ↓v_eq, ↓v_ne, ↓v_in, ↓v_notIn, ↓q_ii, ↓q_ss, ↓items_l, ↓items_t, ↓items_s, ↓items_r1, ↓items_r2, ↓sl_l, ↓sl_t, ↓sl_s, ↓put_1, ↓put_2, ↓pen_0, ↓pen_1, ↓pen_2, ↓v_ixL, ↓v_ixT, ↓ins_NoneType_none, ↓ins_NoneType_bool, ↓ins_NoneType_int, ↓ins_NoneType_str, ↓ins_NoneType_list, ↓ins_NoneType_tuple, ↓ins_NoneType_dict, ↓ins_bool_none, ↓ins_bool_bool, ↓ins_bool_int, ↓ins_bool_str, ↓ins_bool_list, ↓ins_bool_tuple, ↓ins_bool_dict, ↓ins_int_none, ↓ins_int_bool, ↓ins_int_int, ↓ins_int_str, ↓ins_int_list, ↓ins_int_tuple, ↓ins_int_dict, ↓ins_str_none, ↓ins_str_bool, ↓ins_str_int, ↓ins_str_str, ↓ins_str_list, ↓ins_str_tuple, ↓ins_str_dict, ↓ins_list_none, ↓ins_list_bool, ↓ins_list_int, ↓ins_list_str, ↓ins_list_list, ↓ins_list_tuple, ↓ins_list_dict, ↓ins_tuple_none, ↓ins_tuple_bool, ↓ins_tuple_int, ↓ins_tuple_str, ↓ins_tuple_list, ↓ins_tuple_tuple, ↓ins_tuple_dict, ↓ins_dict_none, ↓ins_dict_bool, ↓ins_dict_int, ↓ins_dict_str, ↓ins_dict_list, ↓ins_dict_tuple, ↓ins_dict_dict, ↓in_sign, ↓onClr_0, ↓onClr_S, ↓onW_nil, ↓onW_cons, ↓onRe_0, ↓onRe_S, ↓onBk_nil, ↓onBk_cons, ↓onTwo_l, ↓S_par, ↓a_tup, ↓onG_name, ↓onG_tup, ↓onGs_nil, ↓onGs_cons, ↓onTurn_nx, ↓onTurn_ct, ↓onTurn_bk, ↓onTurn_rt, ↓onLD_d, ↓v_ixAd, ↓v_inAd, ↓v_notInAd, ↓S_upd, ↓v_zip, ↓Wp_flatA, ↓v_int, ↓v_intB, ↓v_min, ↓v_gin, ↓v_gnin, ↓v_gix, ↓reduceIte]
      have lc2 := cutS_len (cutS W (some spot) none) none (some t)
      obtain ⟨ec, hc⟩ := at_strE (z := abc) (i := (f + l * (k : Int)) % 26) (Int.emod_nonneg _ (by decide)) (by rw [abc_len]; exact Int.emod_lt_of_pos _ (by decide)) (by rw [abc_len]; decide)
      rw [ec]
      simp only [↓S_next, ↓S_bk, ↓S_ct, ↓S_rtd, ↓S_seq, ↓S_set, ↓S_drop, ↓S_ret, ↓S_if, ↓S_asg, ↓S_put, ↓S_app, ↓S_ext, ↓S_for, ↓Wp_pure, ↓Wp_opt, ↓Wp_bind, ↓Wp_ite, ↓Wp_var, ↓Wp_op, ↓Wp_un, ↓Wp_test, ↓Wp_dand, ↓Wp_dor, ↓Wp_dnot, ↓Wp_dandV, ↓Wp_dorV, ↓Wp_dnotV, ↓Wp_chain, ↓Wp_cb, ↓Wp_cons, ↓Wp_nil, ↓Wp_tup, ↓Wp_lst, ↓Wp_part, ↓Wp_nopart, ↓Wp_slice, ↓Wp_isi, ↓Wp_isi2, ↓Wp_m1, ↓Wp_call, ↓Wp_pix, ↓Wp_callP0, ↓Wp_callP1, ↓Wp_comp, ↓Wp_disp, ↓Wp_dpnil, ↓Wp_dpcons, ↓Wp_flat, ↓onNx_nx, ↓onNx_bk, ↓onNx_ct, ↓onNx_rt, ↓onRt_rt, ↓onRt_nx, ↓onS_some, ↓onB_b, ↓onI_i, ↓onStr_s, ↓onL_l, ↓lk_0, ↓lk_S, ↓onSet_0, ↓onSet_S, ↓onPut_0, ↓onPut_S, ↓ite_dec, ↓ite_ndec, ↓ite_tt, ↓ite_ff, ↓ite_nt, ↓ite_nf, ↓v_gt, ↓v_lt, ↓v_le, ↓v_ge, ↓v_ltS, ↓v_add, ↓v_addS, ↓v_addL, ↓v_addT, ↓v_addN, ↓v_sub, ↓v_mul, ↓v_mulS, ↓v_mod, ↓v_fdiv, ↓v_pow, ↓v_neg, ↓v_lenL, ↓v_lenT, ↓v_lenS, ↓v_abs, ↓v_rev, ↓v_all, ↓v_any, ↓v_sum, ↓v_eq, ↓v_ne, ↓v_in, ↓v_notIn, ↓q_ii, ↓q_ss, ↓items_l, ↓items_t, ↓items_s, ↓items_r1, ↓items_r2, ↓sl_l, ↓sl_t, ↓sl_s, ↓put_1, ↓put_2, ↓pen_0, ↓pen_1, ↓pen_2, ↓v_ixL, ↓v_ixT, ↓ins_NoneType_none, ↓ins_NoneType_bool, ↓ins_NoneType_int, ↓ins_NoneType_str, ↓ins_NoneType_list, ↓ins_NoneType_tuple, ↓ins_NoneType_dict, ↓ins_bool_none, ↓ins_bool_bool, ↓ins_bool_int, ↓ins_bool_str, ↓ins_bool_list, ↓ins_bool_tuple, ↓ins_bool_dict, ↓ins_int_none, ↓ins_int_bool, ↓ins_int_int, ↓ins_int_str, ↓ins_int_list, ↓ins_int_tuple, ↓ins_int_dict, ↓ins_str_none, ↓ins_str_bool, ↓ins_str_int, ↓ins_str_str, ↓ins_str_list, ↓ins_str_tuple, ↓ins_str_dict, ↓ins_list_none, ↓ins_list_bool, ↓ins_list_int, ↓ins_list_str, ↓ins_list_list, ↓ins_list_tuple, ↓ins_list_dict, ↓ins_tuple_none, ↓ins_tuple_bool, ↓ins_tuple_int, ↓ins_tuple_str, ↓ins_tuple_list, ↓ins_tuple_tuple, ↓ins_tuple_dict, ↓ins_dict_none, ↓ins_dict_bool, ↓ins_dict_int, ↓ins_dict_str, ↓ins_dict_list, ↓ins_dict_tuple, ↓ins_dict_dict, ↓in_sign, ↓onClr_0, ↓onClr_S, ↓onW_nil, ↓onW_cons, ↓onRe_0, ↓onRe_S, ↓onBk_nil, ↓onBk_cons, ↓onTwo_l, ↓S_par, ↓a_tup, ↓onG_name, ↓onG_tup, ↓onGs_nil, ↓onGs_cons, ↓onTurn_nx, ↓onTurn_ct, ↓onTurn_bk, ↓onTurn_rt, ↓onLD_d, ↓v_ixAd, ↓v_inAd, ↓v_notInAd, ↓S_upd, ↓v_zip, ↓Wp_flatA, ↓v_int, ↓v_intB, ↓v_min, ↓v_gin, ↓v_gnin, ↓v_gix, ↓reduceIte]
      have lt := cut_two W h30 (by omega)
      have ls1 : (⟨#[abc.cps.toList.getD ((f + l * (k : Int)) % 26).toNat 0]⟩ : Str).length = 1 := rfl
      have hlz' : (zs.map PyData.str).length = k := by rw [List.length_map]; exact hlz
      refine ⟨lineB (by omega), lW, Or.inl (by omega), by decide, lineB (by omega), lineB (by rw [app_len]; omega), lineB_lt (by omega), ?_⟩
      refine ⟨k + 1, p', zs ++ [cutS W none (some spot) ++ ⟨#[abc.cps.toList.getD ((f + l * (k : Int)) % 26).toNat 0]⟩ ++ cutS (cutS W (some spot) none) none (some t)], some (.int k), some (.str (cutS (cutS W (some spot) none) none (some t))), ?_, by omega, hp', by rw [List.length_append, hlz]; rfl, fun i z hi => ?_, ?_⟩
      · rw [show n - (k + 1) = m by omega]
        rfl
      · by_cases hik : i < k
        · rw [List.getElem?_append_left (by omega)] at hi
          exact hz i z hi
        · rw [List.getElem?_append_right (by omega)] at hi
          have h0 : i - zs.length = 0 := by
            cases e : i - zs.length with
            | zero => rfl
            | succ j =>
              rw [e] at hi
              simp at hi
          rw [h0] at hi
          have hi' := Option.some.inj hi
          subst hi'
          have hi2 : i = k := by omega
          subst hi2
          have hs1 : smallS ⟨#[abc.cps.toList.getD ((f + l * (i : Int)) % 26).toNat 0]⟩ := fun c hcc => by
            have : c = abc.cps.toList.getD ((f + l * (i : Int)) % 26).toNat 0 := by simpa using hcc
            rw [this]
            exact decide_eq_true hc
          refine ⟨smallS_app (smallS_app (hWk _ _) hs1) (smallS_cut (hWk _ _) _ _), by rw [app_len, app_len]; omega, by rw [app_len, app_len]; omega, (cutS (cutS W (some spot) none) none (some t)).cps.toList, ?_⟩
          show ((cutS W none (some spot) ++ _).cps ++ _).toList = _
          rw [Array.toList_append]
          show ((cutS W none (some spot)).cps ++ _).toList ++ _ = _
          rw [Array.toList_append, List.append_assoc]
          rfl
      · rw [List.map_append]
        rfl
    · rintro s ⟨k, p, zs, x8, x9, hr, hk, hp, hlz, hz, rfl⟩
      have hkn : k = n := by
        have := congrArg List.length hr
        rw [rangeL_len] at this
        have h0 : ([] : List D).length = 0 := rfl
        omega
      subst hkn
      simp only [↓S_next, ↓S_bk, ↓S_ct, ↓S_rtd, ↓S_seq, ↓S_set, ↓S_drop, ↓S_ret, ↓S_if, ↓S_asg, ↓S_put, ↓S_app, ↓S_ext, ↓S_for, ↓Wp_pure, ↓Wp_opt, ↓Wp_bind, ↓Wp_ite, ↓Wp_var, ↓Wp_op, ↓Wp_un, ↓Wp_test, ↓Wp_dand, ↓Wp_dor, ↓Wp_dnot, ↓Wp_dandV, ↓Wp_dorV, ↓Wp_dnotV, ↓Wp_chain, ↓Wp_cb, ↓Wp_cons, ↓Wp_nil, ↓Wp_tup, ↓Wp_lst, ↓Wp_part, ↓Wp_nopart, ↓Wp_slice, ↓Wp_isi, ↓Wp_isi2, ↓Wp_m1, ↓Wp_call, ↓Wp_pix, ↓Wp_callP0, ↓Wp_callP1, ↓Wp_comp, ↓Wp_disp, ↓Wp_dpnil, ↓Wp_dpcons, ↓Wp_flat, ↓onNx_nx, ↓onNx_bk, ↓onNx_ct, ↓onNx_rt, ↓onRt_rt, ↓onRt_nx, ↓onS_some, ↓onB_b, ↓onI_i, ↓onStr_s, ↓onL_l, ↓lk_0, ↓lk_S, ↓onSet_0, ↓onSet_S, ↓onPut_0, ↓onPut_S, ↓ite_dec, ↓ite_ndec, ↓ite_tt, ↓ite_ff, ↓ite_nt, ↓ite_nf, ↓v_gt, ↓v_lt, ↓v_le, ↓v_ge, ↓v_ltS, ↓v_add, ↓v_addS, ↓v_addL, ↓v_addT, ↓v_addN, ↓v_sub, ↓v_mul, ↓v_mulS, ↓v_mod, ↓v_fdiv, ↓v_pow, ↓v_neg, ↓v_lenL, ↓v_lenT, ↓v_lenS, ↓v_abs, ↓v_rev, ↓v_all, ↓v_any, ↓v_sum, ↓v_eq, ↓v_ne, ↓v_in, ↓v_notIn, ↓q_ii, ↓q_ss, ↓items_l, ↓items_t, ↓items_s, ↓items_r1, ↓items_r2, ↓sl_l, ↓sl_t, ↓sl_s, ↓put_1, ↓put_2, ↓pen_0, ↓pen_1, ↓pen_2, ↓v_ixL, ↓v_ixT, ↓ins_NoneType_none, ↓ins_NoneType_bool, ↓ins_NoneType_int, ↓ins_NoneType_str, ↓ins_NoneType_list, ↓ins_NoneType_tuple, ↓ins_NoneType_dict, ↓ins_bool_none, ↓ins_bool_bool, ↓ins_bool_int, ↓ins_bool_str, ↓ins_bool_list, ↓ins_bool_tuple, ↓ins_bool_dict, ↓ins_int_none, ↓ins_int_bool, ↓ins_int_int, ↓ins_int_str, ↓ins_int_list, ↓ins_int_tuple, ↓ins_int_dict, ↓ins_str_none, ↓ins_str_bool, ↓ins_str_int, ↓ins_str_str, ↓ins_str_list, ↓ins_str_tuple, ↓ins_str_dict, ↓ins_list_none, ↓ins_list_bool, ↓ins_list_int, ↓ins_list_str, ↓ins_list_list, ↓ins_list_tuple, ↓ins_list_dict, ↓ins_tuple_none, ↓ins_tuple_bool, ↓ins_tuple_int, ↓ins_tuple_str, ↓ins_tuple_list, ↓ins_tuple_tuple, ↓ins_tuple_dict, ↓ins_dict_none, ↓ins_dict_bool, ↓ins_dict_int, ↓ins_dict_str, ↓ins_dict_list, ↓ins_dict_tuple, ↓ins_dict_dict, ↓in_sign, ↓onClr_0, ↓onClr_S, ↓onW_nil, ↓onW_cons, ↓onRe_0, ↓onRe_S, ↓onBk_nil, ↓onBk_cons, ↓onTwo_l, ↓S_par, ↓a_tup, ↓onG_name, ↓onG_tup, ↓onGs_nil, ↓onGs_cons, ↓onTurn_nx, ↓onTurn_ct, ↓onTurn_bk, ↓onTurn_rt, ↓onLD_d, ↓v_ixAd, ↓v_inAd, ↓v_notInAd, ↓S_upd, ↓v_zip, ↓Wp_flatA, ↓v_int, ↓v_intB, ↓v_min, ↓v_gin, ↓v_gnin, ↓v_gix, ↓reduceIte]
      refine q _ _ hp ⟨by rw [List.length_map]; exact hlz, fun d hd => ?_, fun i j d e hi hj hij hde => ?_⟩
      · obtain ⟨z, hzm, rfl⟩ := List.mem_map.mp hd
        obtain ⟨i, hi⟩ := List.getElem?_of_mem hzm
        obtain ⟨g1, g2, g3, _⟩ := hz i z hi
        refine ⟨z, rfl, ⟨by omega, fun c hc => small_128 (g1 c hc)⟩, ?_⟩
        rw [isW_str, decide_eq_true (show 1 ≤ z.length ∧ z.length ≤ 8 from ⟨g2, g3⟩), Bool.true_and, List.all_eq_true]
        exact g1
      · subst hde
        rw [List.getElem?_map] at hi hj
        obtain ⟨z, hzi, rfl⟩ := Option.map_eq_some_iff.mp hi
        obtain ⟨y, hyj, ey⟩ := Option.map_eq_some_iff.mp hj
        cases ey
        obtain ⟨_, _, _, t1, e1⟩ := hz i z hzi
        obtain ⟨_, _, _, t2, e2⟩ := hz j z hyj
        rw [e1] at e2
        have e3 := List.append_cancel_left e2
        injection e3 with e4 _
        have hin : i < k := by
          have := (List.getElem?_eq_some_iff.mp hzi).1
          omega
        have hjn : j < k := by
          have := (List.getElem?_eq_some_iff.mp hyj).1
          omega
        exact hij (lets_ne h40 hl6 (by omega) (by omega) e4)
end DR

set_option maxRecDepth 100000
set_option maxHeartbeats 1000000
namespace DR
open PySem PySem.Spec L2
open PyProof.Rows hiding St
theorem page_ok {p : D} (hp : Pen p) {z : Str} {hs ts ks ns days : List D} {n : Nat} (h1 : WordsD hs n) (hn2 : 2 ≤ n) (hn20 : n ≤ 20) (h2 : WL ts) (h3 : WL ks) (h4 : WL ns) (hd : DaysL days) {Q : D → D → Prop} (q : ∀ d p' day, Pen p' → PyData.int day ∈ days → 0 ≤ day → day ≤ 999 → IsPg (Mem hs) (Mem ts) (Mem ks) (Mem ns) z day d → Q d p') : MP m__law_page p [.str z, .tuple [.list hs, .list ts, .list ks, .list ns], .list days] Q := by
  refine MP_of rfl ?_
  show Sp2 g__law_page [some _, some _, some _, some _, none, none, none, none, none, none, none, none, none, none, none, none, none, none, none, none, none] _
  unfold g__law_page
  have hl0 : 0 < (hs.length : Int) := by rw [h1.len]; omega
  have hl1 : (hs.length : Int) < 18446744073709551616 := by rw [h1.len]; omega
  simp only [↓S_next, ↓S_bk, ↓S_ct, ↓S_rtd, ↓S_seq, ↓S_set, ↓S_drop, ↓S_ret, ↓S_if, ↓S_asg, ↓S_put, ↓S_app, ↓S_ext, ↓S_for, ↓Wp_pure, ↓Wp_opt, ↓Wp_bind, ↓Wp_ite, ↓Wp_var, ↓Wp_op, ↓Wp_un, ↓Wp_test, ↓Wp_dand, ↓Wp_dor, ↓Wp_dnot, ↓Wp_dandV, ↓Wp_dorV, ↓Wp_dnotV, ↓Wp_chain, ↓Wp_cb, ↓Wp_cons, ↓Wp_nil, ↓Wp_tup, ↓Wp_lst, ↓Wp_part, ↓Wp_nopart, ↓Wp_slice, ↓Wp_isi, ↓Wp_isi2, ↓Wp_m1, ↓Wp_call, ↓Wp_pix, ↓Wp_callP0, ↓Wp_callP1, ↓Wp_comp, ↓Wp_disp, ↓Wp_dpnil, ↓Wp_dpcons, ↓Wp_flat, ↓onNx_nx, ↓onNx_bk, ↓onNx_ct, ↓onNx_rt, ↓onRt_rt, ↓onRt_nx, ↓onS_some, ↓onB_b, ↓onI_i, ↓onStr_s, ↓onL_l, ↓lk_0, ↓lk_S, ↓onSet_0, ↓onSet_S, ↓onPut_0, ↓onPut_S, ↓ite_dec, ↓ite_ndec, ↓ite_tt, ↓ite_ff, ↓ite_nt, ↓ite_nf, ↓v_gt, ↓v_lt, ↓v_le, ↓v_ge, ↓v_ltS, ↓v_add, ↓v_addS, ↓v_addL, ↓v_addT, ↓v_addN, ↓v_sub, ↓v_mul, ↓v_mulS, ↓v_mod, ↓v_fdiv, ↓v_pow, ↓v_neg, ↓v_lenL, ↓v_lenT, ↓v_lenS, ↓v_abs, ↓v_rev, ↓v_all, ↓v_any, ↓v_sum, ↓v_eq, ↓v_ne, ↓v_in, ↓v_notIn, ↓q_ii, ↓q_ss, ↓items_l, ↓items_t, ↓items_s, ↓items_r1, ↓items_r2, ↓sl_l, ↓sl_t, ↓sl_s, ↓put_1, ↓put_2, ↓pen_0, ↓pen_1, ↓pen_2, ↓v_ixL, ↓v_ixT, ↓ins_NoneType_none, ↓ins_NoneType_bool, ↓ins_NoneType_int, ↓ins_NoneType_str, ↓ins_NoneType_list, ↓ins_NoneType_tuple, ↓ins_NoneType_dict, ↓ins_bool_none, ↓ins_bool_bool, ↓ins_bool_int, ↓ins_bool_str, ↓ins_bool_list, ↓ins_bool_tuple, ↓ins_bool_dict, ↓ins_int_none, ↓ins_int_bool, ↓ins_int_int, ↓ins_int_str, ↓ins_int_list, ↓ins_int_tuple, ↓ins_int_dict, ↓ins_str_none, ↓ins_str_bool, ↓ins_str_int, ↓ins_str_str, ↓ins_str_list, ↓ins_str_tuple, ↓ins_str_dict, ↓ins_list_none, ↓ins_list_bool, ↓ins_list_int, ↓ins_list_str, ↓ins_list_list, ↓ins_list_tuple, ↓ins_list_dict, ↓ins_tuple_none, ↓ins_tuple_bool, ↓ins_tuple_int, ↓ins_tuple_str, ↓ins_tuple_list, ↓ins_tuple_tuple, ↓ins_tuple_dict, ↓ins_dict_none, ↓ins_dict_bool, ↓ins_dict_int, ↓ins_dict_str, ↓ins_dict_list, ↓ins_dict_tuple, ↓ins_dict_dict, ↓in_sign, ↓onClr_0, ↓onClr_S, ↓onW_nil, ↓onW_cons, ↓onRe_0, ↓onRe_S, ↓onBk_nil, ↓onBk_cons, ↓onTwo_l, ↓S_par, ↓a_tup, ↓onG_name, ↓onG_tup, ↓onGs_nil, ↓onGs_cons, ↓onTurn_nx, ↓onTurn_ct, ↓onTurn_bk, ↓onTurn_rt, ↓onLD_d, ↓v_ixAd, ↓v_inAd, ↓v_notInAd, ↓S_upd, ↓v_zip, ↓Wp_flatA, ↓v_int, ↓v_intB, ↓v_min, ↓v_gin, ↓v_gnin, ↓v_gix, ↓reduceIte]
  refine ⟨rfl, lineB (by simp), draw_ok hp (by decide) (by decide) fun k1 p1 hp1 a1 b1 => ?_⟩
  obtain ⟨dw, ew, mw⟩ := at_in (ds := [PyData.str "comes", .str "trial", .str "back", .str "keep", .str "give", .str "goes", .str "double", .str "promise", .str "loose", .str "want", .str "owe", .str "pay"]) a1 (by simpa using b1)
  refine ⟨dw, ew, draw_ok hp1 (by have := hd.1; omega) (by have := hd.2.1; omega) fun k2 p2 hp2 a2 b2 => ?_⟩
  obtain ⟨dd, ed, md⟩ := at_in (ds := days) a2 b2
  obtain ⟨day, rfl, hday0, hday1⟩ := hd.2.2 dd md
  refine ⟨_, ed, draw_ok hp2 hl0 hl1 fun k3 p3 hp3 a3 b3 => ?_⟩
  simp only [↓S_next, ↓S_bk, ↓S_ct, ↓S_rtd, ↓S_seq, ↓S_set, ↓S_drop, ↓S_ret, ↓S_if, ↓S_asg, ↓S_put, ↓S_app, ↓S_ext, ↓S_for, ↓Wp_pure, ↓Wp_opt, ↓Wp_bind, ↓Wp_ite, ↓Wp_var, ↓Wp_op, ↓Wp_un, ↓Wp_test, ↓Wp_dand, ↓Wp_dor, ↓Wp_dnot, ↓Wp_dandV, ↓Wp_dorV, ↓Wp_dnotV, ↓Wp_chain, ↓Wp_cb, ↓Wp_cons, ↓Wp_nil, ↓Wp_tup, ↓Wp_lst, ↓Wp_part, ↓Wp_nopart, ↓Wp_slice, ↓Wp_isi, ↓Wp_isi2, ↓Wp_m1, ↓Wp_call, ↓Wp_pix, ↓Wp_callP0, ↓Wp_callP1, ↓Wp_comp, ↓Wp_disp, ↓Wp_dpnil, ↓Wp_dpcons, ↓Wp_flat, ↓onNx_nx, ↓onNx_bk, ↓onNx_ct, ↓onNx_rt, ↓onRt_rt, ↓onRt_nx, ↓onS_some, ↓onB_b, ↓onI_i, ↓onStr_s, ↓onL_l, ↓lk_0, ↓lk_S, ↓onSet_0, ↓onSet_S, ↓onPut_0, ↓onPut_S, ↓ite_dec, ↓ite_ndec, ↓ite_tt, ↓ite_ff, ↓ite_nt, ↓ite_nf, ↓v_gt, ↓v_lt, ↓v_le, ↓v_ge, ↓v_ltS, ↓v_add, ↓v_addS, ↓v_addL, ↓v_addT, ↓v_addN, ↓v_sub, ↓v_mul, ↓v_mulS, ↓v_mod, ↓v_fdiv, ↓v_pow, ↓v_neg, ↓v_lenL, ↓v_lenT, ↓v_lenS, ↓v_abs, ↓v_rev, ↓v_all, ↓v_any, ↓v_sum, ↓v_eq, ↓v_ne, ↓v_in, ↓v_notIn, ↓q_ii, ↓q_ss, ↓items_l, ↓items_t, ↓items_s, ↓items_r1, ↓items_r2, ↓sl_l, ↓sl_t, ↓sl_s, ↓put_1, ↓put_2, ↓pen_0, ↓pen_1, ↓pen_2, ↓v_ixL, ↓v_ixT, ↓ins_NoneType_none, ↓ins_NoneType_bool, ↓ins_NoneType_int, ↓ins_NoneType_str, ↓ins_NoneType_list, ↓ins_NoneType_tuple, ↓ins_NoneType_dict, ↓ins_bool_none, ↓ins_bool_bool, ↓ins_bool_int, ↓ins_bool_str, ↓ins_bool_list, ↓ins_bool_tuple, ↓ins_bool_dict, ↓ins_int_none, ↓ins_int_bool, ↓ins_int_int, ↓ins_int_str, ↓ins_int_list, ↓ins_int_tuple, ↓ins_int_dict, ↓ins_str_none, ↓ins_str_bool, ↓ins_str_int, ↓ins_str_str, ↓ins_str_list, ↓ins_str_tuple, ↓ins_str_dict, ↓ins_list_none, ↓ins_list_bool, ↓ins_list_int, ↓ins_list_str, ↓ins_list_list, ↓ins_list_tuple, ↓ins_list_dict, ↓ins_tuple_none, ↓ins_tuple_bool, ↓ins_tuple_int, ↓ins_tuple_str, ↓ins_tuple_list, ↓ins_tuple_tuple, ↓ins_tuple_dict, ↓ins_dict_none, ↓ins_dict_bool, ↓ins_dict_int, ↓ins_dict_str, ↓ins_dict_list, ↓ins_dict_tuple, ↓ins_dict_dict, ↓in_sign, ↓onClr_0, ↓onClr_S, ↓onW_nil, ↓onW_cons, ↓onRe_0, ↓onRe_S, ↓onBk_nil, ↓onBk_cons, ↓onTwo_l, ↓S_par, ↓a_tup, ↓onG_name, ↓onG_tup, ↓onGs_nil, ↓onGs_cons, ↓onTurn_nx, ↓onTurn_ct, ↓onTurn_bk, ↓onTurn_rt, ↓onLD_d, ↓v_ixAd, ↓v_inAd, ↓v_notInAd, ↓S_upd, ↓v_zip, ↓Wp_flatA, ↓v_int, ↓v_intB, ↓v_min, ↓v_gin, ↓v_gnin, ↓v_gix, ↓reduceIte]
  obtain ⟨do_, eo, mo⟩ := at_in (ds := hs) a3 b3
  obtain ⟨zo, rfl, hzo, hzow⟩ := h1.word do_ mo
  refine ⟨_, eo, draw_ok hp3 (by rw [h1.len]; omega) (by omega) fun k4 p4 hp4 a4 b4 => ?_⟩
  rw [h1.len] at b3 b4
  have hm4 : (k3 + 1 + k4) % (n : Int) < n := Int.emod_lt_of_pos _ (by omega)
  have hm0 : 0 ≤ (k3 + 1 + k4) % (n : Int) := Int.emod_nonneg _ (by omega)
  obtain ⟨dh, eh, mh⟩ := at_in (ds := hs) (i := (k3 + 1 + k4) % (n : Int)) hm0 (by rw [h1.len]; exact hm4)
  obtain ⟨zh, rfl, hzh, hzhw⟩ := h1.word dh mh
  have hne : zo ≠ zh := fun e => by
    subst e
    have g1 := atI_get eo a3
    have g2 := atI_get eh hm0
    refine h1.ne _ _ _ _ g1 g2 (fun e => ?_) rfl
    have e' : k3 = (k3 + 1 + k4) % (n : Int) := by omega
    by_cases hw : k3 + 1 + k4 < n
    · rw [Int.emod_eq_of_lt (by omega) hw] at e'
      omega
    · have : (k3 + 1 + k4) % (n : Int) = (k3 + 1 + k4 - n) % (n : Int) := by
        rw [Int.sub_emod, Int.emod_self, Int.sub_zero, Int.emod_emod]
      rw [this, Int.emod_eq_of_lt (by omega) (by omega)] at e'
      omega
  simp only [↓S_next, ↓S_bk, ↓S_ct, ↓S_rtd, ↓S_seq, ↓S_set, ↓S_drop, ↓S_ret, ↓S_if, ↓S_asg, ↓S_put, ↓S_app, ↓S_ext, ↓S_for, ↓Wp_pure, ↓Wp_opt, ↓Wp_bind, ↓Wp_ite, ↓Wp_var, ↓Wp_op, ↓Wp_un, ↓Wp_test, ↓Wp_dand, ↓Wp_dor, ↓Wp_dnot, ↓Wp_dandV, ↓Wp_dorV, ↓Wp_dnotV, ↓Wp_chain, ↓Wp_cb, ↓Wp_cons, ↓Wp_nil, ↓Wp_tup, ↓Wp_lst, ↓Wp_part, ↓Wp_nopart, ↓Wp_slice, ↓Wp_isi, ↓Wp_isi2, ↓Wp_m1, ↓Wp_call, ↓Wp_pix, ↓Wp_callP0, ↓Wp_callP1, ↓Wp_comp, ↓Wp_disp, ↓Wp_dpnil, ↓Wp_dpcons, ↓Wp_flat, ↓onNx_nx, ↓onNx_bk, ↓onNx_ct, ↓onNx_rt, ↓onRt_rt, ↓onRt_nx, ↓onS_some, ↓onB_b, ↓onI_i, ↓onStr_s, ↓onL_l, ↓lk_0, ↓lk_S, ↓onSet_0, ↓onSet_S, ↓onPut_0, ↓onPut_S, ↓ite_dec, ↓ite_ndec, ↓ite_tt, ↓ite_ff, ↓ite_nt, ↓ite_nf, ↓v_gt, ↓v_lt, ↓v_le, ↓v_ge, ↓v_ltS, ↓v_add, ↓v_addS, ↓v_addL, ↓v_addT, ↓v_addN, ↓v_sub, ↓v_mul, ↓v_mulS, ↓v_mod, ↓v_fdiv, ↓v_pow, ↓v_neg, ↓v_lenL, ↓v_lenT, ↓v_lenS, ↓v_abs, ↓v_rev, ↓v_all, ↓v_any, ↓v_sum, ↓v_eq, ↓v_ne, ↓v_in, ↓v_notIn, ↓q_ii, ↓q_ss, ↓items_l, ↓items_t, ↓items_s, ↓items_r1, ↓items_r2, ↓sl_l, ↓sl_t, ↓sl_s, ↓put_1, ↓put_2, ↓pen_0, ↓pen_1, ↓pen_2, ↓v_ixL, ↓v_ixT, ↓ins_NoneType_none, ↓ins_NoneType_bool, ↓ins_NoneType_int, ↓ins_NoneType_str, ↓ins_NoneType_list, ↓ins_NoneType_tuple, ↓ins_NoneType_dict, ↓ins_bool_none, ↓ins_bool_bool, ↓ins_bool_int, ↓ins_bool_str, ↓ins_bool_list, ↓ins_bool_tuple, ↓ins_bool_dict, ↓ins_int_none, ↓ins_int_bool, ↓ins_int_int, ↓ins_int_str, ↓ins_int_list, ↓ins_int_tuple, ↓ins_int_dict, ↓ins_str_none, ↓ins_str_bool, ↓ins_str_int, ↓ins_str_str, ↓ins_str_list, ↓ins_str_tuple, ↓ins_str_dict, ↓ins_list_none, ↓ins_list_bool, ↓ins_list_int, ↓ins_list_str, ↓ins_list_list, ↓ins_list_tuple, ↓ins_list_dict, ↓ins_tuple_none, ↓ins_tuple_bool, ↓ins_tuple_int, ↓ins_tuple_str, ↓ins_tuple_list, ↓ins_tuple_tuple, ↓ins_tuple_dict, ↓ins_dict_none, ↓ins_dict_bool, ↓ins_dict_int, ↓ins_dict_str, ↓ins_dict_list, ↓ins_dict_tuple, ↓ins_dict_dict, ↓in_sign, ↓onClr_0, ↓onClr_S, ↓onW_nil, ↓onW_cons, ↓onRe_0, ↓onRe_S, ↓onBk_nil, ↓onBk_cons, ↓onTwo_l, ↓S_par, ↓a_tup, ↓onG_name, ↓onG_tup, ↓onGs_nil, ↓onGs_cons, ↓onTurn_nx, ↓onTurn_ct, ↓onTurn_bk, ↓onTurn_rt, ↓onLD_d, ↓v_ixAd, ↓v_inAd, ↓v_notInAd, ↓S_upd, ↓v_zip, ↓Wp_flatA, ↓v_int, ↓v_intB, ↓v_min, ↓v_gin, ↓v_gnin, ↓v_gix, ↓reduceIte, h1.len]
  refine ⟨by omega, _, eh, ?_⟩
  simp only [ten9]
  refine draw_ok hp4 h2.pos h2.low fun k5 p5 hp5 a5 b5 => pickW h2 a5 b5 fun zt mzt hzt hztw => draw_ok hp5 h3.pos h3.low fun k6 p6 hp6 a6 b6 => pickW h3 a6 b6 fun zk mzk hzk hzkw => draw_ok hp6 (by decide) (by decide) fun k7 p7 hp7 a7 b7 => ⟨lineB (by simp), draw_ok hp7 (by decide) (by decide) fun k8 p8 hp8 a8 b8 =>
    pick_int a8 (by simpa using b8) (fun i => 0 ≤ i ∧ i ≤ 9) (fun d m => ?_) fun many hmany => ⟨by decide, draw_ok hp8 (by decide) (by decide) fun k9 p9 hp9 a9 b9 => v_add.mpr ⟨by decide, draw_ok hp9 (by decide) (by decide) fun k10 p10 hp10 a10 b10 => v_add.mpr ⟨lineB (by simp), ?_⟩⟩⟩⟩
  · simp only [List.mem_cons, List.not_mem_nil, or_false] at m
    rcases m with h | h | h | h
    · exact ⟨_, h, by decide⟩
    · exact ⟨_, h, by decide⟩
    · exact ⟨_, h, by decide⟩
    · exact ⟨_, h, a7, by omega⟩
  refine draw_ok hp10 (by decide) (by decide) fun k11 p11 hp11 a11 b11 => pick_int a11 (by simpa using b11) (fun i => 1 ≤ i ∧ i ≤ 1000000000) (fun d m => ?_) fun worth hworth => draw_ok hp11 (by decide) (by decide) fun k12 p12 hp12 a12 b12 => v_gt.mpr (mul01 (by omega) fun free hfree => ?_)
  · simp only [List.mem_cons, List.not_mem_nil, or_false] at m
    rcases m with h | h | h | h
    · exact ⟨_, h, by decide⟩
    · exact ⟨_, h, by decide⟩
    · exact ⟨_, h, by omega⟩
    · exact ⟨_, h, by omega⟩
  refine draw_ok hp12 (by decide) (by decide) fun k13 p13 hp13 a13 b13 => v_add.mpr (v_min.mpr ⟨lineB (by simp), draw_ok hp13 (by decide) (by decide) fun k14 p14 hp14 a14 b14 => pick_int a14 (by simpa using b14) (fun i => day ≤ i ∧ i ≤ 999) (fun d m => ?_) fun due hdue => ?_⟩)
  · simp only [List.mem_cons, List.not_mem_nil, or_false] at m
    rcases m with h | h | h
    · exact ⟨_, h, by omega⟩
    · exact ⟨_, h, by split <;> omega⟩
    · exact ⟨_, h, by omega⟩
  simp only [↓S_next, ↓S_bk, ↓S_ct, ↓S_rtd, ↓S_seq, ↓S_set, ↓S_drop, ↓S_ret, ↓S_if, ↓S_asg, ↓S_put, ↓S_app, ↓S_ext, ↓S_for, ↓Wp_pure, ↓Wp_opt, ↓Wp_bind, ↓Wp_ite, ↓Wp_var, ↓Wp_op, ↓Wp_un, ↓Wp_test, ↓Wp_dand, ↓Wp_dor, ↓Wp_dnot, ↓Wp_dandV, ↓Wp_dorV, ↓Wp_dnotV, ↓Wp_chain, ↓Wp_cb, ↓Wp_cons, ↓Wp_nil, ↓Wp_tup, ↓Wp_lst, ↓Wp_part, ↓Wp_nopart, ↓Wp_slice, ↓Wp_isi, ↓Wp_isi2, ↓Wp_m1, ↓Wp_call, ↓Wp_pix, ↓Wp_callP0, ↓Wp_callP1, ↓Wp_comp, ↓Wp_disp, ↓Wp_dpnil, ↓Wp_dpcons, ↓Wp_flat, ↓onNx_nx, ↓onNx_bk, ↓onNx_ct, ↓onNx_rt, ↓onRt_rt, ↓onRt_nx, ↓onS_some, ↓onB_b, ↓onI_i, ↓onStr_s, ↓onL_l, ↓lk_0, ↓lk_S, ↓onSet_0, ↓onSet_S, ↓onPut_0, ↓onPut_S, ↓ite_dec, ↓ite_ndec, ↓ite_tt, ↓ite_ff, ↓ite_nt, ↓ite_nf, ↓v_gt, ↓v_lt, ↓v_le, ↓v_ge, ↓v_ltS, ↓v_add, ↓v_addS, ↓v_addL, ↓v_addT, ↓v_addN, ↓v_sub, ↓v_mul, ↓v_mulS, ↓v_mod, ↓v_fdiv, ↓v_pow, ↓v_neg, ↓v_lenL, ↓v_lenT, ↓v_lenS, ↓v_abs, ↓v_rev, ↓v_all, ↓v_any, ↓v_sum, ↓v_eq, ↓v_ne, ↓v_in, ↓v_notIn, ↓q_ii, ↓q_ss, ↓items_l, ↓items_t, ↓items_s, ↓items_r1, ↓items_r2, ↓sl_l, ↓sl_t, ↓sl_s, ↓put_1, ↓put_2, ↓pen_0, ↓pen_1, ↓pen_2, ↓v_ixL, ↓v_ixT, ↓ins_NoneType_none, ↓ins_NoneType_bool, ↓ins_NoneType_int, ↓ins_NoneType_str, ↓ins_NoneType_list, ↓ins_NoneType_tuple, ↓ins_NoneType_dict, ↓ins_bool_none, ↓ins_bool_bool, ↓ins_bool_int, ↓ins_bool_str, ↓ins_bool_list, ↓ins_bool_tuple, ↓ins_bool_dict, ↓ins_int_none, ↓ins_int_bool, ↓ins_int_int, ↓ins_int_str, ↓ins_int_list, ↓ins_int_tuple, ↓ins_int_dict, ↓ins_str_none, ↓ins_str_bool, ↓ins_str_int, ↓ins_str_str, ↓ins_str_list, ↓ins_str_tuple, ↓ins_str_dict, ↓ins_list_none, ↓ins_list_bool, ↓ins_list_int, ↓ins_list_str, ↓ins_list_list, ↓ins_list_tuple, ↓ins_list_dict, ↓ins_tuple_none, ↓ins_tuple_bool, ↓ins_tuple_int, ↓ins_tuple_str, ↓ins_tuple_list, ↓ins_tuple_tuple, ↓ins_tuple_dict, ↓ins_dict_none, ↓ins_dict_bool, ↓ins_dict_int, ↓ins_dict_str, ↓ins_dict_list, ↓ins_dict_tuple, ↓ins_dict_dict, ↓in_sign, ↓onClr_0, ↓onClr_S, ↓onW_nil, ↓onW_cons, ↓onRe_0, ↓onRe_S, ↓onBk_nil, ↓onBk_cons, ↓onTwo_l, ↓S_par, ↓a_tup, ↓onG_name, ↓onG_tup, ↓onGs_nil, ↓onGs_cons, ↓onTurn_nx, ↓onTurn_ct, ↓onTurn_bk, ↓onTurn_rt, ↓onLD_d, ↓v_ixAd, ↓v_inAd, ↓v_notInAd, ↓S_upd, ↓v_zip, ↓Wp_flatA, ↓v_int, ↓v_intB, ↓v_min, ↓v_gin, ↓v_gnin, ↓v_gix, ↓reduceIte, ↓gd0, ↓gd1, ↓gd2, ↓gd3, ↓gd4]
  refine ⟨lineB (by simp), lineB (by simp), lineB (by simp), lineB (by simp), lineB (by simp), lineB (by simp), lineB (by simp), lineB (by simp), lineB (by simp), lineB (by rw [gm0]; simp), draw_ok hp14 h4.pos h4.low fun k15 p15 hp15 a15 b15 => pickW h4 a15 b15 fun zn mzn hzn hznw => ?_⟩
  rw [gm0, gm1, gm2, gm3]
  refine ⟨lineB (by simp), lineB (by simp), lineB (by simp), lineB (by simp), lineB (by simp), lineB (by simp), lineB (by simp), ?_⟩
  simp only [List.mem_cons, List.not_mem_nil, or_false] at mw
  rcases mw with rfl | rfl | rfl | rfl | rfl | rfl | rfl | rfl | rfl | rfl | rfl | rfl
  · rw [gg_comes, onS_some, v_addT]
    exact ⟨lineB (by simp), q _ _ _ hp15 md hday0 hday1 (.comes mzt mzk mo)⟩
  · rw [gg_trial, onS_some, v_addT]
    exact ⟨lineB (by simp), q _ _ _ hp15 md hday0 hday1 (.trial mzt mo mh hne hmany.1 hmany.2)⟩
  · rw [gg_back, onS_some, v_addT]
    exact ⟨lineB (by simp), q _ _ _ hp15 md hday0 hday1 (.back mzt mo hmany.1 hmany.2)⟩
  · rw [gg_keep, onS_some, v_addT]
    exact ⟨lineB (by simp), q _ _ _ hp15 md hday0 hday1 (.keep mzt mo hfree.1 hfree.2)⟩
  · rw [gg_give, onS_some, v_addT]
    exact ⟨lineB (by simp), q _ _ _ hp15 md hday0 hday1 (.give mzt mo mh hne hmany.1 hmany.2 hfree.1 hfree.2)⟩
  · rw [gg_goes, onS_some, v_addT]
    exact ⟨lineB (by simp), q _ _ _ hp15 md hday0 hday1 (.goes mzt mo)⟩
  · rw [gg_double, onS_some, v_addT]
    exact ⟨lineB (by simp), q _ _ _ hp15 md hday0 hday1 (.double mzt mo)⟩
  · rw [gg_promise, onS_some, v_addT]
    exact ⟨lineB (by simp), q _ _ _ hp15 md hday0 hday1 (.promise mzt mo mh hne hdue.1 hdue.2)⟩
  · rw [gg_loose, onS_some, v_addT]
    exact ⟨lineB (by simp), q _ _ _ hp15 md hday0 hday1 (.loose mzn)⟩
  · rw [gg_want, onS_some, v_addT]
    exact ⟨lineB (by simp), q _ _ _ hp15 md hday0 hday1 (.want mo mzk hmany.1 hmany.2)⟩
  · rw [gg_owe, onS_some, v_addT]
    exact ⟨lineB (by simp), q _ _ _ hp15 md hday0 hday1 (.owe mo mh hne hworth.1 hworth.2)⟩
  · rw [gg_pay, onS_some, v_addT]
    exact ⟨lineB (by simp), q _ _ _ hp15 md hday0 hday1 (.pay mo mh hne hworth.1 hworth.2)⟩
end DR

set_option maxRecDepth 100000
set_option maxHeartbeats 1000000
namespace DR
open PySem PySem.Spec L2
open PyProof.Rows hiding St
theorem pages_ok {p : D} (hp : Pen p) {most few : Nat} (hm0 : 0 < most) (hm1 : most ≤ 19) (hf0 : 0 < few) (hf1 : few ≤ 4) {Q : D → D → Prop} (q : ∀ ds hs ts ks ns nm n m p', Pen p' → WordsD hs m → 2 ≤ m → m ≤ 6 → WL ts → WL ks → WL ns → WordsD nm n → 1 ≤ n → n ≤ most → PagesOf (Mem hs) (Mem ts) (Mem ks) (Mem ns) nm ds → Q (.list [.list ds, .tuple [.list hs, .list ts, .list ks, .list ns]]) p') : MP m__law_pages p [.int most, .int few] Q := by
  refine MP_of rfl ?_
  show Sp2 g__law_pages [some _, some _, some _, none, none, none, none, none, none] _
  unfold g__law_pages
  simp only [↓S_next, ↓S_bk, ↓S_ct, ↓S_rtd, ↓S_seq, ↓S_set, ↓S_drop, ↓S_ret, ↓S_if, ↓S_asg, ↓S_put, ↓S_app, ↓S_ext, ↓S_for, ↓Wp_pure, ↓Wp_opt, ↓Wp_bind, ↓Wp_ite, ↓Wp_var, ↓Wp_op, ↓Wp_un, ↓Wp_test, ↓Wp_dand, ↓Wp_dor, ↓Wp_dnot, ↓Wp_dandV, ↓Wp_dorV, ↓Wp_dnotV, ↓Wp_chain, ↓Wp_cb, ↓Wp_cons, ↓Wp_nil, ↓Wp_tup, ↓Wp_lst, ↓Wp_part, ↓Wp_nopart, ↓Wp_slice, ↓Wp_isi, ↓Wp_isi2, ↓Wp_m1, ↓Wp_call, ↓Wp_pix, ↓Wp_callP0, ↓Wp_callP1, ↓Wp_comp, ↓Wp_disp, ↓Wp_dpnil, ↓Wp_dpcons, ↓Wp_flat, ↓onNx_nx, ↓onNx_bk, ↓onNx_ct, ↓onNx_rt, ↓onRt_rt, ↓onRt_nx, ↓onS_some, ↓onB_b, ↓onI_i, ↓onStr_s, ↓onL_l, ↓lk_0, ↓lk_S, ↓onSet_0, ↓onSet_S, ↓onPut_0, ↓onPut_S, ↓ite_dec, ↓ite_ndec, ↓ite_tt, ↓ite_ff, ↓ite_nt, ↓ite_nf, ↓v_gt, ↓v_lt, ↓v_le, ↓v_ge, ↓v_ltS, ↓v_add, ↓v_addS, ↓v_addL, ↓v_addT, ↓v_addN, ↓v_sub, ↓v_mul, ↓v_mulS, ↓v_mod, ↓v_fdiv, ↓v_pow, ↓v_neg, ↓v_lenL, ↓v_lenT, ↓v_lenS, ↓v_abs, ↓v_rev, ↓v_all, ↓v_any, ↓v_sum, ↓v_eq, ↓v_ne, ↓v_in, ↓v_notIn, ↓q_ii, ↓q_ss, ↓items_l, ↓items_t, ↓items_s, ↓items_r1, ↓items_r2, ↓sl_l, ↓sl_t, ↓sl_s, ↓put_1, ↓put_2, ↓pen_0, ↓pen_1, ↓pen_2, ↓v_ixL, ↓v_ixT, ↓ins_NoneType_none, ↓ins_NoneType_bool, ↓ins_NoneType_int, ↓ins_NoneType_str, ↓ins_NoneType_list, ↓ins_NoneType_tuple, ↓ins_NoneType_dict, ↓ins_bool_none, ↓ins_bool_bool, ↓ins_bool_int, ↓ins_bool_str, ↓ins_bool_list, ↓ins_bool_tuple, ↓ins_bool_dict, ↓ins_int_none, ↓ins_int_bool, ↓ins_int_int, ↓ins_int_str, ↓ins_int_list, ↓ins_int_tuple, ↓ins_int_dict, ↓ins_str_none, ↓ins_str_bool, ↓ins_str_int, ↓ins_str_str, ↓ins_str_list, ↓ins_str_tuple, ↓ins_str_dict, ↓ins_list_none, ↓ins_list_bool, ↓ins_list_int, ↓ins_list_str, ↓ins_list_list, ↓ins_list_tuple, ↓ins_list_dict, ↓ins_tuple_none, ↓ins_tuple_bool, ↓ins_tuple_int, ↓ins_tuple_str, ↓ins_tuple_list, ↓ins_tuple_tuple, ↓ins_tuple_dict, ↓ins_dict_none, ↓ins_dict_bool, ↓ins_dict_int, ↓ins_dict_str, ↓ins_dict_list, ↓ins_dict_tuple, ↓ins_dict_dict, ↓in_sign, ↓onClr_0, ↓onClr_S, ↓onW_nil, ↓onW_cons, ↓onRe_0, ↓onRe_S, ↓onBk_nil, ↓onBk_cons, ↓onTwo_l, ↓S_par, ↓a_tup, ↓onG_name, ↓onG_tup, ↓onGs_nil, ↓onGs_cons, ↓onTurn_nx, ↓onTurn_ct, ↓onTurn_bk, ↓onTurn_rt, ↓onLD_d, ↓v_ixAd, ↓v_inAd, ↓v_notInAd, ↓S_upd, ↓v_zip, ↓Wp_flatA, ↓v_int, ↓v_intB, ↓v_min, ↓v_gin, ↓v_gnin, ↓v_gix, ↓reduceIte]
  refine draw_ok hp (by omega) (by omega) fun k1 p1 hp1 a1 b1 => ?_
  obtain ⟨n, rfl⟩ : ∃ n : Nat, k1 = n := ⟨k1.toNat, by omega⟩
  simp only [↓S_next, ↓S_bk, ↓S_ct, ↓S_rtd, ↓S_seq, ↓S_set, ↓S_drop, ↓S_ret, ↓S_if, ↓S_asg, ↓S_put, ↓S_app, ↓S_ext, ↓S_for, ↓Wp_pure, ↓Wp_opt, ↓Wp_bind, ↓Wp_ite, ↓Wp_var, ↓Wp_op, ↓Wp_un, ↓Wp_test, ↓Wp_dand, ↓Wp_dor, ↓Wp_dnot, ↓Wp_dandV, ↓Wp_dorV, ↓Wp_dnotV, ↓Wp_chain, ↓Wp_cb, ↓Wp_cons, ↓Wp_nil, ↓Wp_tup, ↓Wp_lst, ↓Wp_part, ↓Wp_nopart, ↓Wp_slice, ↓Wp_isi, ↓Wp_isi2, ↓Wp_m1, ↓Wp_call, ↓Wp_pix, ↓Wp_callP0, ↓Wp_callP1, ↓Wp_comp, ↓Wp_disp, ↓Wp_dpnil, ↓Wp_dpcons, ↓Wp_flat, ↓onNx_nx, ↓onNx_bk, ↓onNx_ct, ↓onNx_rt, ↓onRt_rt, ↓onRt_nx, ↓onS_some, ↓onB_b, ↓onI_i, ↓onStr_s, ↓onL_l, ↓lk_0, ↓lk_S, ↓onSet_0, ↓onSet_S, ↓onPut_0, ↓onPut_S, ↓ite_dec, ↓ite_ndec, ↓ite_tt, ↓ite_ff, ↓ite_nt, ↓ite_nf, ↓v_gt, ↓v_lt, ↓v_le, ↓v_ge, ↓v_ltS, ↓v_add, ↓v_addS, ↓v_addL, ↓v_addT, ↓v_addN, ↓v_sub, ↓v_mul, ↓v_mulS, ↓v_mod, ↓v_fdiv, ↓v_pow, ↓v_neg, ↓v_lenL, ↓v_lenT, ↓v_lenS, ↓v_abs, ↓v_rev, ↓v_all, ↓v_any, ↓v_sum, ↓v_eq, ↓v_ne, ↓v_in, ↓v_notIn, ↓q_ii, ↓q_ss, ↓items_l, ↓items_t, ↓items_s, ↓items_r1, ↓items_r2, ↓sl_l, ↓sl_t, ↓sl_s, ↓put_1, ↓put_2, ↓pen_0, ↓pen_1, ↓pen_2, ↓v_ixL, ↓v_ixT, ↓ins_NoneType_none, ↓ins_NoneType_bool, ↓ins_NoneType_int, ↓ins_NoneType_str, ↓ins_NoneType_list, ↓ins_NoneType_tuple, ↓ins_NoneType_dict, ↓ins_bool_none, ↓ins_bool_bool, ↓ins_bool_int, ↓ins_bool_str, ↓ins_bool_list, ↓ins_bool_tuple, ↓ins_bool_dict, ↓ins_int_none, ↓ins_int_bool, ↓ins_int_int, ↓ins_int_str, ↓ins_int_list, ↓ins_int_tuple, ↓ins_int_dict, ↓ins_str_none, ↓ins_str_bool, ↓ins_str_int, ↓ins_str_str, ↓ins_str_list, ↓ins_str_tuple, ↓ins_str_dict, ↓ins_list_none, ↓ins_list_bool, ↓ins_list_int, ↓ins_list_str, ↓ins_list_list, ↓ins_list_tuple, ↓ins_list_dict, ↓ins_tuple_none, ↓ins_tuple_bool, ↓ins_tuple_int, ↓ins_tuple_str, ↓ins_tuple_list, ↓ins_tuple_tuple, ↓ins_tuple_dict, ↓ins_dict_none, ↓ins_dict_bool, ↓ins_dict_int, ↓ins_dict_str, ↓ins_dict_list, ↓ins_dict_tuple, ↓ins_dict_dict, ↓in_sign, ↓onClr_0, ↓onClr_S, ↓onW_nil, ↓onW_cons, ↓onRe_0, ↓onRe_S, ↓onBk_nil, ↓onBk_cons, ↓onTwo_l, ↓S_par, ↓a_tup, ↓onG_name, ↓onG_tup, ↓onGs_nil, ↓onGs_cons, ↓onTurn_nx, ↓onTurn_ct, ↓onTurn_bk, ↓onTurn_rt, ↓onLD_d, ↓v_ixAd, ↓v_inAd, ↓v_notInAd, ↓S_upd, ↓v_zip, ↓Wp_flatA, ↓v_int, ↓v_intB, ↓v_min, ↓v_gin, ↓v_gnin, ↓v_gix, ↓reduceIte]
  rw [show (1 : Int) + (n : Int) = ((n + 1 : Nat) : Int) by omega]
  refine words_ok hp1 (n := n + 1) (by omega) fun nm p2 hp2 hnm => ?_
  refine words_ok hp2 (n := 8) (by decide) fun so p3 hp3 hso => ?_
  refine draw_ok hp3 (by decide) (by decide) fun k2 p4 hp4 a2 b2 => ?_
  simp only [↓S_next, ↓S_bk, ↓S_ct, ↓S_rtd, ↓S_seq, ↓S_set, ↓S_drop, ↓S_ret, ↓S_if, ↓S_asg, ↓S_put, ↓S_app, ↓S_ext, ↓S_for, ↓Wp_pure, ↓Wp_opt, ↓Wp_bind, ↓Wp_ite, ↓Wp_var, ↓Wp_op, ↓Wp_un, ↓Wp_test, ↓Wp_dand, ↓Wp_dor, ↓Wp_dnot, ↓Wp_dandV, ↓Wp_dorV, ↓Wp_dnotV, ↓Wp_chain, ↓Wp_cb, ↓Wp_cons, ↓Wp_nil, ↓Wp_tup, ↓Wp_lst, ↓Wp_part, ↓Wp_nopart, ↓Wp_slice, ↓Wp_isi, ↓Wp_isi2, ↓Wp_m1, ↓Wp_call, ↓Wp_pix, ↓Wp_callP0, ↓Wp_callP1, ↓Wp_comp, ↓Wp_disp, ↓Wp_dpnil, ↓Wp_dpcons, ↓Wp_flat, ↓onNx_nx, ↓onNx_bk, ↓onNx_ct, ↓onNx_rt, ↓onRt_rt, ↓onRt_nx, ↓onS_some, ↓onB_b, ↓onI_i, ↓onStr_s, ↓onL_l, ↓lk_0, ↓lk_S, ↓onSet_0, ↓onSet_S, ↓onPut_0, ↓onPut_S, ↓ite_dec, ↓ite_ndec, ↓ite_tt, ↓ite_ff, ↓ite_nt, ↓ite_nf, ↓v_gt, ↓v_lt, ↓v_le, ↓v_ge, ↓v_ltS, ↓v_add, ↓v_addS, ↓v_addL, ↓v_addT, ↓v_addN, ↓v_sub, ↓v_mul, ↓v_mulS, ↓v_mod, ↓v_fdiv, ↓v_pow, ↓v_neg, ↓v_lenL, ↓v_lenT, ↓v_lenS, ↓v_abs, ↓v_rev, ↓v_all, ↓v_any, ↓v_sum, ↓v_eq, ↓v_ne, ↓v_in, ↓v_notIn, ↓q_ii, ↓q_ss, ↓items_l, ↓items_t, ↓items_s, ↓items_r1, ↓items_r2, ↓sl_l, ↓sl_t, ↓sl_s, ↓put_1, ↓put_2, ↓pen_0, ↓pen_1, ↓pen_2, ↓v_ixL, ↓v_ixT, ↓ins_NoneType_none, ↓ins_NoneType_bool, ↓ins_NoneType_int, ↓ins_NoneType_str, ↓ins_NoneType_list, ↓ins_NoneType_tuple, ↓ins_NoneType_dict, ↓ins_bool_none, ↓ins_bool_bool, ↓ins_bool_int, ↓ins_bool_str, ↓ins_bool_list, ↓ins_bool_tuple, ↓ins_bool_dict, ↓ins_int_none, ↓ins_int_bool, ↓ins_int_int, ↓ins_int_str, ↓ins_int_list, ↓ins_int_tuple, ↓ins_int_dict, ↓ins_str_none, ↓ins_str_bool, ↓ins_str_int, ↓ins_str_str, ↓ins_str_list, ↓ins_str_tuple, ↓ins_str_dict, ↓ins_list_none, ↓ins_list_bool, ↓ins_list_int, ↓ins_list_str, ↓ins_list_list, ↓ins_list_tuple, ↓ins_list_dict, ↓ins_tuple_none, ↓ins_tuple_bool, ↓ins_tuple_int, ↓ins_tuple_str, ↓ins_tuple_list, ↓ins_tuple_tuple, ↓ins_tuple_dict, ↓ins_dict_none, ↓ins_dict_bool, ↓ins_dict_int, ↓ins_dict_str, ↓ins_dict_list, ↓ins_dict_tuple, ↓ins_dict_dict, ↓in_sign, ↓onClr_0, ↓onClr_S, ↓onW_nil, ↓onW_cons, ↓onRe_0, ↓onRe_S, ↓onBk_nil, ↓onBk_cons, ↓onTwo_l, ↓S_par, ↓a_tup, ↓onG_name, ↓onG_tup, ↓onGs_nil, ↓onGs_cons, ↓onTurn_nx, ↓onTurn_ct, ↓onTurn_bk, ↓onTurn_rt, ↓onLD_d, ↓v_ixAd, ↓v_inAd, ↓v_notInAd, ↓S_upd, ↓v_zip, ↓Wp_flatA, ↓v_int, ↓v_intB, ↓v_min, ↓v_gin, ↓v_gnin, ↓v_gix, ↓reduceIte]
  rw [cutL_take (by omega), cutL_drop (by omega), cutL_drop (by omega), cutL_take (by omega)]
  have hso1 := hso.wl' (by decide) (by decide)
  have hts : WL (so.drop (2 : Int).toNat) := hso1.drop (by rw [hso.len]; decide)
  have hks : WL (so.drop (4 : Int).toNat) := hso1.drop (by rw [hso.len]; decide)
  have hhs : WordsD (so.take (2 + k2).toNat) (2 + k2).toNat := hso.take (by omega)
  have hns : WL (nm ++ so.take (1 : Int).toNat) := (hnm.wl' (by omega) (by omega)).app ((hso.take (m := (1 : Int).toNat) (by decide)).wl' (by decide) (by decide)) (by rw [hnm.len, List.length_take, hso.len]; simp; omega)
  have tail : ∀ (ts ks : List D) (pe : D), Pen pe → WL ts → WL ks → MP m__law_draw pe [PyData.int 990] fun d p' =>
    onS (addD d (PyData.int 1)) fun z =>
      onS (addD d (PyData.int 9)) fun z_1 =>
        [PyData.int 0, PyData.int 999, d].length ≤ sizeLine ∧
          MP m__law_draw p' [PyData.int 3] fun d_1 p' =>
            onS (ixD (PyData.list [PyData.int 0, PyData.int 999, d]) d_1) fun z_2 =>
              [d, z, z_1, z_2].length ≤ sizeLine ∧
                Cp [8] (gdName 8) (DM.pure true)
                  (dcallP false 0 m__law_page (dcons (dvar 8) (dcons (dvar 5) (dcons (dvar 7) dnil)))) nm
                  [some p', some (PyData.int ↑most), some (PyData.int ↑few), some (PyData.list nm),
                    some (PyData.list so),
                    some
                      (PyData.tuple
                        [PyData.list (List.take (2 + k2).toNat so), PyData.list ts,
                          PyData.list ks, PyData.list (nm ++ List.take (Int.toNat 1) so)]),
                    some d, some (PyData.list (cutL [d, z, z_1, z_2] none (some ↑few))), none]
                  [] fun r s' =>
                  onS (lk s' 5) fun d =>
                    [PyData.list r, d].length ≤ sizeLine ∧ onS (lk s' 0) fun p' => Q (PyData.list [PyData.list r, d]) p' := by
    intro ts ks pe hpe hT hK
    refine draw_ok hpe (by decide) (by decide) fun day p5 hp5 a5 b5 => v_add.mpr (v_add.mpr ⟨lineB (by simp), draw_ok hp5 (by decide) (by decide) fun k6 p6 hp6 a6 b6 => pick_int a6 (by simpa using b6) (fun i => 0 ≤ i ∧ i ≤ 999) (fun d m => ?_) fun x hx => ⟨lineB (by simp), ?_⟩⟩)
    · simp only [List.mem_cons, List.not_mem_nil, or_false] at m
      rcases m with h | h | h
      · exact ⟨_, h, by decide⟩
      · exact ⟨_, h, by decide⟩
      · exact ⟨_, h, by omega⟩
    rw [cut_take]
    have hD : DaysL (List.take few [PyData.int day, PyData.int (day + 1), PyData.int (day + 9), PyData.int x]) := ⟨by rw [List.length_take]; simp; omega, by rw [List.length_take]; omega, fun d hd => by
      have := List.mem_of_mem_take hd
      simp only [List.mem_cons, List.not_mem_nil, or_false] at this
      rcases this with h | h | h | h
      · exact ⟨_, h, by omega⟩
      · exact ⟨_, h, by omega⟩
      · exact ⟨_, h, by omega⟩
      · exact ⟨_, h, by omega⟩⟩
    refine Cp_acc (fun acc rest s => ∃ p x8, Pen p ∧ rest = nm.drop acc.length ∧ acc.length ≤ nm.length ∧
        (∀ (i : Nat) (e : D), i < acc.length → nm[i]? = some e → ∃ z d day, e = .str z ∧ acc[i]? = some d ∧ 0 ≤ day ∧ day ≤ 999 ∧ IsPg (Mem (List.take (2 + k2).toNat so)) (Mem ts) (Mem ks) (Mem (nm ++ List.take (Int.toNat 1) so)) z day d) ∧
        s = [some p, some (PyData.int ↑most), some (PyData.int ↑few), some (PyData.list nm), some (PyData.list so),
          some (PyData.tuple [PyData.list (List.take (2 + k2).toNat so), PyData.list ts, PyData.list ks, PyData.list (nm ++ List.take (Int.toNat 1) so)]),
          some (.int day), some (PyData.list (List.take few [PyData.int day, PyData.int (day + 1), PyData.int (day + 9), PyData.int x])), x8]) ?_ ⟨p6, none, hp6, rfl, Nat.zero_le _, fun i e h => by simp at h, rfl⟩ (by rw [hnm.len]; exact lineB (by simp; omega)) ?_
    · rintro acc d r s ⟨p, x8, hp, hr, hl, ha, rfl⟩
      have hlt : acc.length < nm.length := by
        have := congrArg List.length hr
        rw [List.length_cons, List.length_drop] at this
        omega
      have hg : nm[acc.length]? = some d := by
        have : (nm.drop acc.length)[0]? = some d := by rw [← hr]; rfl
        rwa [List.getElem?_drop] at this
      obtain ⟨z, rfl, hz, hzw⟩ := hnm.word d (List.mem_of_getElem? hg)
      refine ⟨[some p, some (PyData.int ↑most), some (PyData.int ↑few), some (PyData.list nm), some (PyData.list so),
          some (PyData.tuple [PyData.list (List.take (2 + k2).toNat so), PyData.list ts, PyData.list ks, PyData.list (nm ++ List.take (Int.toNat 1) so)]),
          some (.int day), some (PyData.list (List.take few [PyData.int day, PyData.int (day + 1), PyData.int (day + 9), PyData.int x])), some (.str z)], rfl, ?_⟩
      simp only [↓S_next, ↓S_bk, ↓S_ct, ↓S_rtd, ↓S_seq, ↓S_set, ↓S_drop, ↓S_ret, ↓S_if, ↓S_asg, ↓S_put, ↓S_app, ↓S_ext, ↓S_for, ↓Wp_pure, ↓Wp_opt, ↓Wp_bind, ↓Wp_ite, ↓Wp_var, ↓Wp_op, ↓Wp_un, ↓Wp_test, ↓Wp_dand, ↓Wp_dor, ↓Wp_dnot, ↓Wp_dandV, ↓Wp_dorV, ↓Wp_dnotV, ↓Wp_chain, ↓Wp_cb, ↓Wp_cons, ↓Wp_nil, ↓Wp_tup, ↓Wp_lst, ↓Wp_part, ↓Wp_nopart, ↓Wp_slice, ↓Wp_isi, ↓Wp_isi2, ↓Wp_m1, ↓Wp_call, ↓Wp_pix, ↓Wp_callP0, ↓Wp_callP1, ↓Wp_comp, ↓Wp_disp, ↓Wp_dpnil, ↓Wp_dpcons, ↓Wp_flat, ↓onNx_nx, ↓onNx_bk, ↓onNx_ct, ↓onNx_rt, ↓onRt_rt, ↓onRt_nx, ↓onS_some, ↓onB_b, ↓onI_i, ↓onStr_s, ↓onL_l, ↓lk_0, ↓lk_S, ↓onSet_0, ↓onSet_S, ↓onPut_0, ↓onPut_S, ↓ite_dec, ↓ite_ndec, ↓ite_tt, ↓ite_ff, ↓ite_nt, ↓ite_nf, ↓v_gt, ↓v_lt, ↓v_le, ↓v_ge, ↓v_ltS, ↓v_add, ↓v_addS, ↓v_addL, ↓v_addT, ↓v_addN, ↓v_sub, ↓v_mul, ↓v_mulS, ↓v_mod, ↓v_fdiv, ↓v_pow, ↓v_neg, ↓v_lenL, ↓v_lenT, ↓v_lenS, ↓v_abs, ↓v_rev, ↓v_all, ↓v_any, ↓v_sum, ↓v_eq, ↓v_ne, ↓v_in, ↓v_notIn, ↓q_ii, ↓q_ss, ↓items_l, ↓items_t, ↓items_s, ↓items_r1, ↓items_r2, ↓sl_l, ↓sl_t, ↓sl_s, ↓put_1, ↓put_2, ↓pen_0, ↓pen_1, ↓pen_2, ↓v_ixL, ↓v_ixT, ↓ins_NoneType_none, ↓ins_NoneType_bool, ↓ins_NoneType_int, ↓ins_NoneType_str, ↓ins_NoneType_list, ↓ins_NoneType_tuple, ↓ins_NoneType_dict, ↓ins_bool_none, ↓ins_bool_bool, ↓ins_bool_int, ↓ins_bool_str, ↓ins_bool_list, ↓ins_bool_tuple, ↓ins_bool_dict, ↓ins_int_none, ↓ins_int_bool, ↓ins_int_int, ↓ins_int_str, ↓ins_int_list, ↓ins_int_tuple, ↓ins_int_dict, ↓ins_str_none, ↓ins_str_bool, ↓ins_str_int, ↓ins_str_str, ↓ins_str_list, ↓ins_str_tuple, ↓ins_str_dict, ↓ins_list_none, ↓ins_list_bool, ↓ins_list_int, ↓ins_list_str, ↓ins_list_list, ↓ins_list_tuple, ↓ins_list_dict, ↓ins_tuple_none, ↓ins_tuple_bool, ↓ins_tuple_int, ↓ins_tuple_str, ↓ins_tuple_list, ↓ins_tuple_tuple, ↓ins_tuple_dict, ↓ins_dict_none, ↓ins_dict_bool, ↓ins_dict_int, ↓ins_dict_str, ↓ins_dict_list, ↓ins_dict_tuple, ↓ins_dict_dict, ↓in_sign, ↓onClr_0, ↓onClr_S, ↓onW_nil, ↓onW_cons, ↓onRe_0, ↓onRe_S, ↓onBk_nil, ↓onBk_cons, ↓onTwo_l, ↓S_par, ↓a_tup, ↓onG_name, ↓onG_tup, ↓onGs_nil, ↓onGs_cons, ↓onTurn_nx, ↓onTurn_ct, ↓onTurn_bk, ↓onTurn_rt, ↓onLD_d, ↓v_ixAd, ↓v_inAd, ↓v_notInAd, ↓S_upd, ↓v_zip, ↓Wp_flatA, ↓v_int, ↓v_intB, ↓v_min, ↓v_gin, ↓v_gnin, ↓v_gix, ↓reduceIte]
      refine page_ok hp hhs (by omega) (by omega) hT hK hns hD fun pg p' dy hp' _ hd0 hd1 hpg => ?_
      refine ⟨p', x8, hp', ?_, by rw [List.length_append, List.length_singleton]; omega, fun i e hi he => ?_, rfl⟩
      · rw [List.length_append, List.length_singleton, ← List.drop_drop, ← hr]
        rfl
      · rw [List.length_append, List.length_singleton] at hi
        by_cases hik : i < acc.length
        · rw [List.getElem?_append_left hik]
          exact ha i e hik he
        · have : i = acc.length := by omega
          subst this
          rw [hg] at he
          cases he
          exact ⟨z, pg, dy, rfl, by simp, hd0, hd1, hpg⟩
    · rintro r s ⟨p, x8, hp, hr, hl, ha, rfl⟩
      have hlen : r.length = nm.length := by
        have := congrArg List.length hr
        rw [List.length_nil, List.length_drop] at this
        omega
      simp only [↓S_next, ↓S_bk, ↓S_ct, ↓S_rtd, ↓S_seq, ↓S_set, ↓S_drop, ↓S_ret, ↓S_if, ↓S_asg, ↓S_put, ↓S_app, ↓S_ext, ↓S_for, ↓Wp_pure, ↓Wp_opt, ↓Wp_bind, ↓Wp_ite, ↓Wp_var, ↓Wp_op, ↓Wp_un, ↓Wp_test, ↓Wp_dand, ↓Wp_dor, ↓Wp_dnot, ↓Wp_dandV, ↓Wp_dorV, ↓Wp_dnotV, ↓Wp_chain, ↓Wp_cb, ↓Wp_cons, ↓Wp_nil, ↓Wp_tup, ↓Wp_lst, ↓Wp_part, ↓Wp_nopart, ↓Wp_slice, ↓Wp_isi, ↓Wp_isi2, ↓Wp_m1, ↓Wp_call, ↓Wp_pix, ↓Wp_callP0, ↓Wp_callP1, ↓Wp_comp, ↓Wp_disp, ↓Wp_dpnil, ↓Wp_dpcons, ↓Wp_flat, ↓onNx_nx, ↓onNx_bk, ↓onNx_ct, ↓onNx_rt, ↓onRt_rt, ↓onRt_nx, ↓onS_some, ↓onB_b, ↓onI_i, ↓onStr_s, ↓onL_l, ↓lk_0, ↓lk_S, ↓onSet_0, ↓onSet_S, ↓onPut_0, ↓onPut_S, ↓ite_dec, ↓ite_ndec, ↓ite_tt, ↓ite_ff, ↓ite_nt, ↓ite_nf, ↓v_gt, ↓v_lt, ↓v_le, ↓v_ge, ↓v_ltS, ↓v_add, ↓v_addS, ↓v_addL, ↓v_addT, ↓v_addN, ↓v_sub, ↓v_mul, ↓v_mulS, ↓v_mod, ↓v_fdiv, ↓v_pow, ↓v_neg, ↓v_lenL, ↓v_lenT, ↓v_lenS, ↓v_abs, ↓v_rev, ↓v_all, ↓v_any, ↓v_sum, ↓v_eq, ↓v_ne, ↓v_in, ↓v_notIn, ↓q_ii, ↓q_ss, ↓items_l, ↓items_t, ↓items_s, ↓items_r1, ↓items_r2, ↓sl_l, ↓sl_t, ↓sl_s, ↓put_1, ↓put_2, ↓pen_0, ↓pen_1, ↓pen_2, ↓v_ixL, ↓v_ixT, ↓ins_NoneType_none, ↓ins_NoneType_bool, ↓ins_NoneType_int, ↓ins_NoneType_str, ↓ins_NoneType_list, ↓ins_NoneType_tuple, ↓ins_NoneType_dict, ↓ins_bool_none, ↓ins_bool_bool, ↓ins_bool_int, ↓ins_bool_str, ↓ins_bool_list, ↓ins_bool_tuple, ↓ins_bool_dict, ↓ins_int_none, ↓ins_int_bool, ↓ins_int_int, ↓ins_int_str, ↓ins_int_list, ↓ins_int_tuple, ↓ins_int_dict, ↓ins_str_none, ↓ins_str_bool, ↓ins_str_int, ↓ins_str_str, ↓ins_str_list, ↓ins_str_tuple, ↓ins_str_dict, ↓ins_list_none, ↓ins_list_bool, ↓ins_list_int, ↓ins_list_str, ↓ins_list_list, ↓ins_list_tuple, ↓ins_list_dict, ↓ins_tuple_none, ↓ins_tuple_bool, ↓ins_tuple_int, ↓ins_tuple_str, ↓ins_tuple_list, ↓ins_tuple_tuple, ↓ins_tuple_dict, ↓ins_dict_none, ↓ins_dict_bool, ↓ins_dict_int, ↓ins_dict_str, ↓ins_dict_list, ↓ins_dict_tuple, ↓ins_dict_dict, ↓in_sign, ↓onClr_0, ↓onClr_S, ↓onW_nil, ↓onW_cons, ↓onRe_0, ↓onRe_S, ↓onBk_nil, ↓onBk_cons, ↓onTwo_l, ↓S_par, ↓a_tup, ↓onG_name, ↓onG_tup, ↓onGs_nil, ↓onGs_cons, ↓onTurn_nx, ↓onTurn_ct, ↓onTurn_bk, ↓onTurn_rt, ↓onLD_d, ↓v_ixAd, ↓v_inAd, ↓v_notInAd, ↓S_upd, ↓v_zip, ↓Wp_flatA, ↓v_int, ↓v_intB, ↓v_min, ↓v_gin, ↓v_gnin, ↓v_gix, ↓reduceIte]
      exact ⟨lineB (by simp), q _ _ _ _ _ _ _ _ _ hp hhs (by omega) (by omega) hT hK hns hnm (by omega) (by omega) ⟨hlen, fun i e he => ha i e (by rw [hlen]; exact (List.getElem?_eq_some_iff.mp he).1) he⟩⟩
  refine ⟨lineB (by rw [hnm.len, List.length_take]; omega), lineB (by simp), draw_ok hp4 (by decide) (by decide) fun k3 pe hpe a3 b3 => ?_⟩
  simp only [↓S_next, ↓S_bk, ↓S_ct, ↓S_rtd, ↓S_seq, ↓S_set, ↓S_drop, ↓S_ret, ↓S_if, ↓S_asg, ↓S_put, ↓S_app, ↓S_ext, ↓S_for, ↓Wp_pure, ↓Wp_opt, ↓Wp_bind, ↓Wp_ite, ↓Wp_var, ↓Wp_op, ↓Wp_un, ↓Wp_test, ↓Wp_dand, ↓Wp_dor, ↓Wp_dnot, ↓Wp_dandV, ↓Wp_dorV, ↓Wp_dnotV, ↓Wp_chain, ↓Wp_cb, ↓Wp_cons, ↓Wp_nil, ↓Wp_tup, ↓Wp_lst, ↓Wp_part, ↓Wp_nopart, ↓Wp_slice, ↓Wp_isi, ↓Wp_isi2, ↓Wp_m1, ↓Wp_call, ↓Wp_pix, ↓Wp_callP0, ↓Wp_callP1, ↓Wp_comp, ↓Wp_disp, ↓Wp_dpnil, ↓Wp_dpcons, ↓Wp_flat, ↓onNx_nx, ↓onNx_bk, ↓onNx_ct, ↓onNx_rt, ↓onRt_rt, ↓onRt_nx, ↓onS_some, ↓onB_b, ↓onI_i, ↓onStr_s, ↓onL_l, ↓lk_0, ↓lk_S, ↓onSet_0, ↓onSet_S, ↓onPut_0, ↓onPut_S, ↓ite_dec, ↓ite_ndec, ↓ite_tt, ↓ite_ff, ↓ite_nt, ↓ite_nf, ↓v_gt, ↓v_lt, ↓v_le, ↓v_ge, ↓v_ltS, ↓v_add, ↓v_addS, ↓v_addL, ↓v_addT, ↓v_addN, ↓v_sub, ↓v_mul, ↓v_mulS, ↓v_mod, ↓v_fdiv, ↓v_pow, ↓v_neg, ↓v_lenL, ↓v_lenT, ↓v_lenS, ↓v_abs, ↓v_rev, ↓v_all, ↓v_any, ↓v_sum, ↓v_eq, ↓v_ne, ↓v_in, ↓v_notIn, ↓q_ii, ↓q_ss, ↓items_l, ↓items_t, ↓items_s, ↓items_r1, ↓items_r2, ↓sl_l, ↓sl_t, ↓sl_s, ↓put_1, ↓put_2, ↓pen_0, ↓pen_1, ↓pen_2, ↓v_ixL, ↓v_ixT, ↓ins_NoneType_none, ↓ins_NoneType_bool, ↓ins_NoneType_int, ↓ins_NoneType_str, ↓ins_NoneType_list, ↓ins_NoneType_tuple, ↓ins_NoneType_dict, ↓ins_bool_none, ↓ins_bool_bool, ↓ins_bool_int, ↓ins_bool_str, ↓ins_bool_list, ↓ins_bool_tuple, ↓ins_bool_dict, ↓ins_int_none, ↓ins_int_bool, ↓ins_int_int, ↓ins_int_str, ↓ins_int_list, ↓ins_int_tuple, ↓ins_int_dict, ↓ins_str_none, ↓ins_str_bool, ↓ins_str_int, ↓ins_str_str, ↓ins_str_list, ↓ins_str_tuple, ↓ins_str_dict, ↓ins_list_none, ↓ins_list_bool, ↓ins_list_int, ↓ins_list_str, ↓ins_list_list, ↓ins_list_tuple, ↓ins_list_dict, ↓ins_tuple_none, ↓ins_tuple_bool, ↓ins_tuple_int, ↓ins_tuple_str, ↓ins_tuple_list, ↓ins_tuple_tuple, ↓ins_tuple_dict, ↓ins_dict_none, ↓ins_dict_bool, ↓ins_dict_int, ↓ins_dict_str, ↓ins_dict_list, ↓ins_dict_tuple, ↓ins_dict_dict, ↓in_sign, ↓onClr_0, ↓onClr_S, ↓onW_nil, ↓onW_cons, ↓onRe_0, ↓onRe_S, ↓onBk_nil, ↓onBk_cons, ↓onTwo_l, ↓S_par, ↓a_tup, ↓onG_name, ↓onG_tup, ↓onGs_nil, ↓onGs_cons, ↓onTurn_nx, ↓onTurn_ct, ↓onTurn_bk, ↓onTurn_rt, ↓onLD_d, ↓v_ixAd, ↓v_inAd, ↓v_notInAd, ↓S_upd, ↓v_zip, ↓Wp_flatA, ↓v_int, ↓v_intB, ↓v_min, ↓v_gin, ↓v_gnin, ↓v_gix, ↓reduceIte]
  refine ite_i (fun _ => ?_) fun _ => ?_
  · simp only [↓S_next, ↓S_bk, ↓S_ct, ↓S_rtd, ↓S_seq, ↓S_set, ↓S_drop, ↓S_ret, ↓S_if, ↓S_asg, ↓S_put, ↓S_app, ↓S_ext, ↓S_for, ↓Wp_pure, ↓Wp_opt, ↓Wp_bind, ↓Wp_ite, ↓Wp_var, ↓Wp_op, ↓Wp_un, ↓Wp_test, ↓Wp_dand, ↓Wp_dor, ↓Wp_dnot, ↓Wp_dandV, ↓Wp_dorV, ↓Wp_dnotV, ↓Wp_chain, ↓Wp_cb, ↓Wp_cons, ↓Wp_nil, ↓Wp_tup, ↓Wp_lst, ↓Wp_part, ↓Wp_nopart, ↓Wp_slice, ↓Wp_isi, ↓Wp_isi2, ↓Wp_m1, ↓Wp_call, ↓Wp_pix, ↓Wp_callP0, ↓Wp_callP1, ↓Wp_comp, ↓Wp_disp, ↓Wp_dpnil, ↓Wp_dpcons, ↓Wp_flat, ↓onNx_nx, ↓onNx_bk, ↓onNx_ct, ↓onNx_rt, ↓onRt_rt, ↓onRt_nx, ↓onS_some, ↓onB_b, ↓onI_i, ↓onStr_s, ↓onL_l, ↓lk_0, ↓lk_S, ↓onSet_0, ↓onSet_S, ↓onPut_0, ↓onPut_S, ↓ite_dec, ↓ite_ndec, ↓ite_tt, ↓ite_ff, ↓ite_nt, ↓ite_nf, ↓v_gt, ↓v_lt, ↓v_le, ↓v_ge, ↓v_ltS, ↓v_add, ↓v_addS, ↓v_addL, ↓v_addT, ↓v_addN, ↓v_sub, ↓v_mul, ↓v_mulS, ↓v_mod, ↓v_fdiv, ↓v_pow, ↓v_neg, ↓v_lenL, ↓v_lenT, ↓v_lenS, ↓v_abs, ↓v_rev, ↓v_all, ↓v_any, ↓v_sum, ↓v_eq, ↓v_ne, ↓v_in, ↓v_notIn, ↓q_ii, ↓q_ss, ↓items_l, ↓items_t, ↓items_s, ↓items_r1, ↓items_r2, ↓sl_l, ↓sl_t, ↓sl_s, ↓put_1, ↓put_2, ↓pen_0, ↓pen_1, ↓pen_2, ↓v_ixL, ↓v_ixT, ↓ins_NoneType_none, ↓ins_NoneType_bool, ↓ins_NoneType_int, ↓ins_NoneType_str, ↓ins_NoneType_list, ↓ins_NoneType_tuple, ↓ins_NoneType_dict, ↓ins_bool_none, ↓ins_bool_bool, ↓ins_bool_int, ↓ins_bool_str, ↓ins_bool_list, ↓ins_bool_tuple, ↓ins_bool_dict, ↓ins_int_none, ↓ins_int_bool, ↓ins_int_int, ↓ins_int_str, ↓ins_int_list, ↓ins_int_tuple, ↓ins_int_dict, ↓ins_str_none, ↓ins_str_bool, ↓ins_str_int, ↓ins_str_str, ↓ins_str_list, ↓ins_str_tuple, ↓ins_str_dict, ↓ins_list_none, ↓ins_list_bool, ↓ins_list_int, ↓ins_list_str, ↓ins_list_list, ↓ins_list_tuple, ↓ins_list_dict, ↓ins_tuple_none, ↓ins_tuple_bool, ↓ins_tuple_int, ↓ins_tuple_str, ↓ins_tuple_list, ↓ins_tuple_tuple, ↓ins_tuple_dict, ↓ins_dict_none, ↓ins_dict_bool, ↓ins_dict_int, ↓ins_dict_str, ↓ins_dict_list, ↓ins_dict_tuple, ↓ins_dict_dict, ↓in_sign, ↓onClr_0, ↓onClr_S, ↓onW_nil, ↓onW_cons, ↓onRe_0, ↓onRe_S, ↓onBk_nil, ↓onBk_cons, ↓onTwo_l, ↓S_par, ↓a_tup, ↓onG_name, ↓onG_tup, ↓onGs_nil, ↓onGs_cons, ↓onTurn_nx, ↓onTurn_ct, ↓onTurn_bk, ↓onTurn_rt, ↓onLD_d, ↓v_ixAd, ↓v_inAd, ↓v_notInAd, ↓S_upd, ↓v_zip, ↓Wp_flatA, ↓v_int, ↓v_intB, ↓v_min, ↓v_gin, ↓v_gnin, ↓v_gix, ↓reduceIte, ↓at_0, ↓at_3]
    refine words_ok hpe (n := 5) (by decide) fun d5 p5 hp5 h5 => words_ok hp5 (n := 4) (by decide) fun d4 pe hpe h4 => ?_
    exact ⟨lineB (by simp), tail _ _ _ hpe (h5.wl' (by decide) (by decide)) (h4.wl' (by decide) (by decide))⟩
  · exact tail _ _ _ hpe hts hks
end DR

set_option maxRecDepth 100000
set_option maxHeartbeats 1000000
namespace DR
open PySem PySem.Spec L2
open PyProof.Rows hiding St
theorem turned_ok {p : D} (hp : Pen p) {xs : List D} (hx : xs.length ≤ 1000) {Q : D → D → Prop} (q : ∀ ds p', Pen p' → ds.Perm xs → Q (.list ds) p') : MP m__law_turned p [.list xs] Q := by
  refine MP_of rfl ?_
  show Sp2 g__law_turned [some _, some _, none, none] _
  unfold g__law_turned
  simp only [↓S_next, ↓S_bk, ↓S_ct, ↓S_rtd, ↓S_seq, ↓S_set, ↓S_drop, ↓S_ret, ↓S_if, ↓S_asg, ↓S_put, ↓S_app, ↓S_ext, ↓S_for, ↓Wp_pure, ↓Wp_opt, ↓Wp_bind, ↓Wp_ite, ↓Wp_var, ↓Wp_op, ↓Wp_un, ↓Wp_test, ↓Wp_dand, ↓Wp_dor, ↓Wp_dnot, ↓Wp_dandV, ↓Wp_dorV, ↓Wp_dnotV, ↓Wp_chain, ↓Wp_cb, ↓Wp_cons, ↓Wp_nil, ↓Wp_tup, ↓Wp_lst, ↓Wp_part, ↓Wp_nopart, ↓Wp_slice, ↓Wp_isi, ↓Wp_isi2, ↓Wp_m1, ↓Wp_call, ↓Wp_pix, ↓Wp_callP0, ↓Wp_callP1, ↓Wp_comp, ↓Wp_disp, ↓Wp_dpnil, ↓Wp_dpcons, ↓Wp_flat, ↓onNx_nx, ↓onNx_bk, ↓onNx_ct, ↓onNx_rt, ↓onRt_rt, ↓onRt_nx, ↓onS_some, ↓onB_b, ↓onI_i, ↓onStr_s, ↓onL_l, ↓lk_0, ↓lk_S, ↓onSet_0, ↓onSet_S, ↓onPut_0, ↓onPut_S, ↓ite_dec, ↓ite_ndec, ↓ite_tt, ↓ite_ff, ↓ite_nt, ↓ite_nf, ↓v_gt, ↓v_lt, ↓v_le, ↓v_ge, ↓v_ltS, ↓v_add, ↓v_addS, ↓v_addL, ↓v_addT, ↓v_addN, ↓v_sub, ↓v_mul, ↓v_mulS, ↓v_mod, ↓v_fdiv, ↓v_pow, ↓v_neg, ↓v_lenL, ↓v_lenT, ↓v_lenS, ↓v_abs, ↓v_rev, ↓v_all, ↓v_any, ↓v_sum, ↓v_eq, ↓v_ne, ↓v_in, ↓v_notIn, ↓q_ii, ↓q_ss, ↓items_l, ↓items_t, ↓items_s, ↓items_r1, ↓items_r2, ↓sl_l, ↓sl_t, ↓sl_s, ↓put_1, ↓put_2, ↓pen_0, ↓pen_1, ↓pen_2, ↓v_ixL, ↓v_ixT, ↓ins_NoneType_none, ↓ins_NoneType_bool, ↓ins_NoneType_int, ↓ins_NoneType_str, ↓ins_NoneType_list, ↓ins_NoneType_tuple, ↓ins_NoneType_dict, ↓ins_bool_none, ↓ins_bool_bool, ↓ins_bool_int, ↓ins_bool_str, ↓ins_bool_list, ↓ins_bool_tuple, ↓ins_bool_dict, ↓ins_int_none, ↓ins_int_bool, ↓ins_int_int, ↓ins_int_str, ↓ins_int_list, ↓ins_int_tuple, ↓ins_int_dict, ↓ins_str_none, ↓ins_str_bool, ↓ins_str_int, ↓ins_str_str, ↓ins_str_list, ↓ins_str_tuple, ↓ins_str_dict, ↓ins_list_none, ↓ins_list_bool, ↓ins_list_int, ↓ins_list_str, ↓ins_list_list, ↓ins_list_tuple, ↓ins_list_dict, ↓ins_tuple_none, ↓ins_tuple_bool, ↓ins_tuple_int, ↓ins_tuple_str, ↓ins_tuple_list, ↓ins_tuple_tuple, ↓ins_tuple_dict, ↓ins_dict_none, ↓ins_dict_bool, ↓ins_dict_int, ↓ins_dict_str, ↓ins_dict_list, ↓ins_dict_tuple, ↓ins_dict_dict, ↓in_sign, ↓onClr_0, ↓onClr_S, ↓onW_nil, ↓onW_cons, ↓onRe_0, ↓onRe_S, ↓onBk_nil, ↓onBk_cons, ↓onTwo_l, ↓S_par, ↓a_tup, ↓onG_name, ↓onG_tup, ↓onGs_nil, ↓onGs_cons, ↓onTurn_nx, ↓onTurn_ct, ↓onTurn_bk, ↓onTurn_rt, ↓onLD_d, ↓v_ixAd, ↓v_inAd, ↓v_notInAd, ↓S_upd, ↓v_zip, ↓Wp_flatA, ↓v_int, ↓v_intB, ↓v_min, ↓v_gin, ↓v_gnin, ↓v_gix, ↓Lvs_nil, ↓Lvs_cons, ↓Wp_lv, ↓Wp_calm, ↓Wp_popAt, ↓Wp_popLast, ↓Wp_plen, ↓Wp_lm, ↓Wp_index, ↓onFg_nx, ↓onFg_bk, ↓onFg_ct, ↓onFg_rt, ↓S_sw, ↓S_slm, ↓S_kput, ↓v_isN, ↓v_notN, ↓v_list, ↓v_listT, ↓v_tupL, ↓v_tupT, ↓v_dictDD, ↓v_dictPD, ↓v_rev2, ↓v_ins, ↓reduceIte]
  refine ⟨True.intro, ?_⟩
  refine Cp_acc (fun acc rest s => ∃ p left x3, Pen p ∧ left.length = rest.length ∧ left.length ≤ 1000 ∧ (acc ++ left).Perm xs ∧ s = [some p, some (PyData.list xs), some (PyData.list left), x3]) ?_ ⟨p, xs, none, hp, rfl, hx, .refl _, rfl⟩ (lineB (by simp; omega)) ?_
  · rintro acc d r s ⟨p, left, x3, hp, hl, hl2, hpm, rfl⟩
    rw [List.length_cons] at hl
    refine ⟨[some p, some (PyData.list xs), some (PyData.list left), some d], rfl, ?_⟩
    simp only [↓S_next, ↓S_bk, ↓S_ct, ↓S_rtd, ↓S_seq, ↓S_set, ↓S_drop, ↓S_ret, ↓S_if, ↓S_asg, ↓S_put, ↓S_app, ↓S_ext, ↓S_for, ↓Wp_pure, ↓Wp_opt, ↓Wp_bind, ↓Wp_ite, ↓Wp_var, ↓Wp_op, ↓Wp_un, ↓Wp_test, ↓Wp_dand, ↓Wp_dor, ↓Wp_dnot, ↓Wp_dandV, ↓Wp_dorV, ↓Wp_dnotV, ↓Wp_chain, ↓Wp_cb, ↓Wp_cons, ↓Wp_nil, ↓Wp_tup, ↓Wp_lst, ↓Wp_part, ↓Wp_nopart, ↓Wp_slice, ↓Wp_isi, ↓Wp_isi2, ↓Wp_m1, ↓Wp_call, ↓Wp_pix, ↓Wp_callP0, ↓Wp_callP1, ↓Wp_comp, ↓Wp_disp, ↓Wp_dpnil, ↓Wp_dpcons, ↓Wp_flat, ↓onNx_nx, ↓onNx_bk, ↓onNx_ct, ↓onNx_rt, ↓onRt_rt, ↓onRt_nx, ↓onS_some, ↓onB_b, ↓onI_i, ↓onStr_s, ↓onL_l, ↓lk_0, ↓lk_S, ↓onSet_0, ↓onSet_S, ↓onPut_0, ↓onPut_S, ↓ite_dec, ↓ite_ndec, ↓ite_tt, ↓ite_ff, ↓ite_nt, ↓ite_nf, ↓v_gt, ↓v_lt, ↓v_le, ↓v_ge, ↓v_ltS, ↓v_add, ↓v_addS, ↓v_addL, ↓v_addT, ↓v_addN, ↓v_sub, ↓v_mul, ↓v_mulS, ↓v_mod, ↓v_fdiv, ↓v_pow, ↓v_neg, ↓v_lenL, ↓v_lenT, ↓v_lenS, ↓v_abs, ↓v_rev, ↓v_all, ↓v_any, ↓v_sum, ↓v_eq, ↓v_ne, ↓v_in, ↓v_notIn, ↓q_ii, ↓q_ss, ↓items_l, ↓items_t, ↓items_s, ↓items_r1, ↓items_r2, ↓sl_l, ↓sl_t, ↓sl_s, ↓put_1, ↓put_2, ↓pen_0, ↓pen_1, ↓pen_2, ↓v_ixL, ↓v_ixT, ↓ins_NoneType_none, ↓ins_NoneType_bool, ↓ins_NoneType_int, ↓ins_NoneType_str, ↓ins_NoneType_list, ↓ins_NoneType_tuple, ↓ins_NoneType_dict, ↓ins_bool_none, ↓ins_bool_bool, ↓ins_bool_int, ↓ins_bool_str, ↓ins_bool_list, ↓ins_bool_tuple, ↓ins_bool_dict, ↓ins_int_none, ↓ins_int_bool, ↓ins_int_int, ↓ins_int_str, ↓ins_int_list, ↓ins_int_tuple, ↓ins_int_dict, ↓ins_str_none, ↓ins_str_bool, ↓ins_str_int, ↓ins_str_str, ↓ins_str_list, ↓ins_str_tuple, ↓ins_str_dict, ↓ins_list_none, ↓ins_list_bool, ↓ins_list_int, ↓ins_list_str, ↓ins_list_list, ↓ins_list_tuple, ↓ins_list_dict, ↓ins_tuple_none, ↓ins_tuple_bool, ↓ins_tuple_int, ↓ins_tuple_str, ↓ins_tuple_list, ↓ins_tuple_tuple, ↓ins_tuple_dict, ↓ins_dict_none, ↓ins_dict_bool, ↓ins_dict_int, ↓ins_dict_str, ↓ins_dict_list, ↓ins_dict_tuple, ↓ins_dict_dict, ↓in_sign, ↓onClr_0, ↓onClr_S, ↓onW_nil, ↓onW_cons, ↓onRe_0, ↓onRe_S, ↓onBk_nil, ↓onBk_cons, ↓onTwo_l, ↓S_par, ↓a_tup, ↓onG_name, ↓onG_tup, ↓onGs_nil, ↓onGs_cons, ↓onTurn_nx, ↓onTurn_ct, ↓onTurn_bk, ↓onTurn_rt, ↓onLD_d, ↓v_ixAd, ↓v_inAd, ↓v_notInAd, ↓S_upd, ↓v_zip, ↓Wp_flatA, ↓v_int, ↓v_intB, ↓v_min, ↓v_gin, ↓v_gnin, ↓v_gix, ↓Lvs_nil, ↓Lvs_cons, ↓Wp_lv, ↓Wp_calm, ↓Wp_popAt, ↓Wp_popLast, ↓Wp_plen, ↓Wp_lm, ↓Wp_index, ↓onFg_nx, ↓onFg_bk, ↓onFg_ct, ↓onFg_rt, ↓S_sw, ↓S_slm, ↓S_kput, ↓v_isN, ↓v_notN, ↓v_list, ↓v_listT, ↓v_tupL, ↓v_tupT, ↓v_dictDD, ↓v_dictPD, ↓v_rev2, ↓v_ins, ↓reduceIte]
    refine draw_ok hp (by omega) (by omega) fun k p' hp' a b => ?_
    simp only [↓S_next, ↓S_bk, ↓S_ct, ↓S_rtd, ↓S_seq, ↓S_set, ↓S_drop, ↓S_ret, ↓S_if, ↓S_asg, ↓S_put, ↓S_app, ↓S_ext, ↓S_for, ↓Wp_pure, ↓Wp_opt, ↓Wp_bind, ↓Wp_ite, ↓Wp_var, ↓Wp_op, ↓Wp_un, ↓Wp_test, ↓Wp_dand, ↓Wp_dor, ↓Wp_dnot, ↓Wp_dandV, ↓Wp_dorV, ↓Wp_dnotV, ↓Wp_chain, ↓Wp_cb, ↓Wp_cons, ↓Wp_nil, ↓Wp_tup, ↓Wp_lst, ↓Wp_part, ↓Wp_nopart, ↓Wp_slice, ↓Wp_isi, ↓Wp_isi2, ↓Wp_m1, ↓Wp_call, ↓Wp_pix, ↓Wp_callP0, ↓Wp_callP1, ↓Wp_comp, ↓Wp_disp, ↓Wp_dpnil, ↓Wp_dpcons, ↓Wp_flat, ↓onNx_nx, ↓onNx_bk, ↓onNx_ct, ↓onNx_rt, ↓onRt_rt, ↓onRt_nx, ↓onS_some, ↓onB_b, ↓onI_i, ↓onStr_s, ↓onL_l, ↓lk_0, ↓lk_S, ↓onSet_0, ↓onSet_S, ↓onPut_0, ↓onPut_S, ↓ite_dec, ↓ite_ndec, ↓ite_tt, ↓ite_ff, ↓ite_nt, ↓ite_nf, ↓v_gt, ↓v_lt, ↓v_le, ↓v_ge, ↓v_ltS, ↓v_add, ↓v_addS, ↓v_addL, ↓v_addT, ↓v_addN, ↓v_sub, ↓v_mul, ↓v_mulS, ↓v_mod, ↓v_fdiv, ↓v_pow, ↓v_neg, ↓v_lenL, ↓v_lenT, ↓v_lenS, ↓v_abs, ↓v_rev, ↓v_all, ↓v_any, ↓v_sum, ↓v_eq, ↓v_ne, ↓v_in, ↓v_notIn, ↓q_ii, ↓q_ss, ↓items_l, ↓items_t, ↓items_s, ↓items_r1, ↓items_r2, ↓sl_l, ↓sl_t, ↓sl_s, ↓put_1, ↓put_2, ↓pen_0, ↓pen_1, ↓pen_2, ↓v_ixL, ↓v_ixT, ↓ins_NoneType_none, ↓ins_NoneType_bool, ↓ins_NoneType_int, ↓ins_NoneType_str, ↓ins_NoneType_list, ↓ins_NoneType_tuple, ↓ins_NoneType_dict, ↓ins_bool_none, ↓ins_bool_bool, ↓ins_bool_int, ↓ins_bool_str, ↓ins_bool_list, ↓ins_bool_tuple, ↓ins_bool_dict, ↓ins_int_none, ↓ins_int_bool, ↓ins_int_int, ↓ins_int_str, ↓ins_int_list, ↓ins_int_tuple, ↓ins_int_dict, ↓ins_str_none, ↓ins_str_bool, ↓ins_str_int, ↓ins_str_str, ↓ins_str_list, ↓ins_str_tuple, ↓ins_str_dict, ↓ins_list_none, ↓ins_list_bool, ↓ins_list_int, ↓ins_list_str, ↓ins_list_list, ↓ins_list_tuple, ↓ins_list_dict, ↓ins_tuple_none, ↓ins_tuple_bool, ↓ins_tuple_int, ↓ins_tuple_str, ↓ins_tuple_list, ↓ins_tuple_tuple, ↓ins_tuple_dict, ↓ins_dict_none, ↓ins_dict_bool, ↓ins_dict_int, ↓ins_dict_str, ↓ins_dict_list, ↓ins_dict_tuple, ↓ins_dict_dict, ↓in_sign, ↓onClr_0, ↓onClr_S, ↓onW_nil, ↓onW_cons, ↓onRe_0, ↓onRe_S, ↓onBk_nil, ↓onBk_cons, ↓onTwo_l, ↓S_par, ↓a_tup, ↓onG_name, ↓onG_tup, ↓onGs_nil, ↓onGs_cons, ↓onTurn_nx, ↓onTurn_ct, ↓onTurn_bk, ↓onTurn_rt, ↓onLD_d, ↓v_ixAd, ↓v_inAd, ↓v_notInAd, ↓S_upd, ↓v_zip, ↓Wp_flatA, ↓v_int, ↓v_intB, ↓v_min, ↓v_gin, ↓v_gnin, ↓v_gix, ↓Lvs_nil, ↓Lvs_cons, ↓Wp_lv, ↓Wp_calm, ↓Wp_popAt, ↓Wp_popLast, ↓Wp_plen, ↓Wp_lm, ↓Wp_index, ↓onFg_nx, ↓onFg_bk, ↓onFg_ct, ↓onFg_rt, ↓S_sw, ↓S_slm, ↓S_kput, ↓v_isN, ↓v_notN, ↓v_list, ↓v_listT, ↓v_tupL, ↓v_tupT, ↓v_dictDD, ↓v_dictPD, ↓v_rev2, ↓v_ins, ↓reduceIte]
    have hk : k.toNat < left.length := by omega
    have hix : ixN left.length k = some k.toNat := by
      unfold ixN
      rw [if_pos a, if_pos b]
    refine ⟨lineB (by omega), _, hix, _, List.getElem?_eq_getElem hk, p', _, x3, hp', ?_, ?_, ?_, rfl⟩
    · rw [List.length_eraseIdx, if_pos hk]
      omega
    · rw [List.length_eraseIdx, if_pos hk]
      omega
    · rw [List.append_assoc]
      refine List.Perm.trans (List.Perm.append_left acc ?_) hpm
      exact perm_eraseIdx left _ hk
  · rintro r s ⟨p, left, x3, hp, hl, hl2, hpm, rfl⟩
    simp only [↓S_next, ↓S_bk, ↓S_ct, ↓S_rtd, ↓S_seq, ↓S_set, ↓S_drop, ↓S_ret, ↓S_if, ↓S_asg, ↓S_put, ↓S_app, ↓S_ext, ↓S_for, ↓Wp_pure, ↓Wp_opt, ↓Wp_bind, ↓Wp_ite, ↓Wp_var, ↓Wp_op, ↓Wp_un, ↓Wp_test, ↓Wp_dand, ↓Wp_dor, ↓Wp_dnot, ↓Wp_dandV, ↓Wp_dorV, ↓Wp_dnotV, ↓Wp_chain, ↓Wp_cb, ↓Wp_cons, ↓Wp_nil, ↓Wp_tup, ↓Wp_lst, ↓Wp_part, ↓Wp_nopart, ↓Wp_slice, ↓Wp_isi, ↓Wp_isi2, ↓Wp_m1, ↓Wp_call, ↓Wp_pix, ↓Wp_callP0, ↓Wp_callP1, ↓Wp_comp, ↓Wp_disp, ↓Wp_dpnil, ↓Wp_dpcons, ↓Wp_flat, ↓onNx_nx, ↓onNx_bk, ↓onNx_ct, ↓onNx_rt, ↓onRt_rt, ↓onRt_nx, ↓onS_some, ↓onB_b, ↓onI_i, ↓onStr_s, ↓onL_l, ↓lk_0, ↓lk_S, ↓onSet_0, ↓onSet_S, ↓onPut_0, ↓onPut_S, ↓ite_dec, ↓ite_ndec, ↓ite_tt, ↓ite_ff, ↓ite_nt, ↓ite_nf, ↓v_gt, ↓v_lt, ↓v_le, ↓v_ge, ↓v_ltS, ↓v_add, ↓v_addS, ↓v_addL, ↓v_addT, ↓v_addN, ↓v_sub, ↓v_mul, ↓v_mulS, ↓v_mod, ↓v_fdiv, ↓v_pow, ↓v_neg, ↓v_lenL, ↓v_lenT, ↓v_lenS, ↓v_abs, ↓v_rev, ↓v_all, ↓v_any, ↓v_sum, ↓v_eq, ↓v_ne, ↓v_in, ↓v_notIn, ↓q_ii, ↓q_ss, ↓items_l, ↓items_t, ↓items_s, ↓items_r1, ↓items_r2, ↓sl_l, ↓sl_t, ↓sl_s, ↓put_1, ↓put_2, ↓pen_0, ↓pen_1, ↓pen_2, ↓v_ixL, ↓v_ixT, ↓ins_NoneType_none, ↓ins_NoneType_bool, ↓ins_NoneType_int, ↓ins_NoneType_str, ↓ins_NoneType_list, ↓ins_NoneType_tuple, ↓ins_NoneType_dict, ↓ins_bool_none, ↓ins_bool_bool, ↓ins_bool_int, ↓ins_bool_str, ↓ins_bool_list, ↓ins_bool_tuple, ↓ins_bool_dict, ↓ins_int_none, ↓ins_int_bool, ↓ins_int_int, ↓ins_int_str, ↓ins_int_list, ↓ins_int_tuple, ↓ins_int_dict, ↓ins_str_none, ↓ins_str_bool, ↓ins_str_int, ↓ins_str_str, ↓ins_str_list, ↓ins_str_tuple, ↓ins_str_dict, ↓ins_list_none, ↓ins_list_bool, ↓ins_list_int, ↓ins_list_str, ↓ins_list_list, ↓ins_list_tuple, ↓ins_list_dict, ↓ins_tuple_none, ↓ins_tuple_bool, ↓ins_tuple_int, ↓ins_tuple_str, ↓ins_tuple_list, ↓ins_tuple_tuple, ↓ins_tuple_dict, ↓ins_dict_none, ↓ins_dict_bool, ↓ins_dict_int, ↓ins_dict_str, ↓ins_dict_list, ↓ins_dict_tuple, ↓ins_dict_dict, ↓in_sign, ↓onClr_0, ↓onClr_S, ↓onW_nil, ↓onW_cons, ↓onRe_0, ↓onRe_S, ↓onBk_nil, ↓onBk_cons, ↓onTwo_l, ↓S_par, ↓a_tup, ↓onG_name, ↓onG_tup, ↓onGs_nil, ↓onGs_cons, ↓onTurn_nx, ↓onTurn_ct, ↓onTurn_bk, ↓onTurn_rt, ↓onLD_d, ↓v_ixAd, ↓v_inAd, ↓v_notInAd, ↓S_upd, ↓v_zip, ↓Wp_flatA, ↓v_int, ↓v_intB, ↓v_min, ↓v_gin, ↓v_gnin, ↓v_gix, ↓Lvs_nil, ↓Lvs_cons, ↓Wp_lv, ↓Wp_calm, ↓Wp_popAt, ↓Wp_popLast, ↓Wp_plen, ↓Wp_lm, ↓Wp_index, ↓onFg_nx, ↓onFg_bk, ↓onFg_ct, ↓onFg_rt, ↓S_sw, ↓S_slm, ↓S_kput, ↓v_isN, ↓v_notN, ↓v_list, ↓v_listT, ↓v_tupL, ↓v_tupT, ↓v_dictDD, ↓v_dictPD, ↓v_rev2, ↓v_ins, ↓reduceIte]
    have : left = [] := by cases left with
      | nil => rfl
      | cons a b => simp at hl
    subst this
    exact q _ _ hp (by simpa using hpm)
end DR

set_option maxRecDepth 100000
set_option maxHeartbeats 1000000
namespace DR
open PySem PySem.Spec L2
open PyProof.Rows hiding St
theorem idxS_rank {w : Str} (h : w ∈ ranks) : idxS ranks [.str w] = some (.int (rankN w)) := by
  unfold ranks at h
  simp only [List.mem_cons, List.not_mem_nil, or_false] at h
  rcases h with rfl | rfl | rfl | rfl | rfl | rfl | rfl | rfl | rfl | rfl | rfl | rfl <;> rfl
theorem idx_strs {ss : List Str} {z : Str} (h1 : SeqAt.shaped (.list (ss.map .str)) = true) (h2 : SeqAt.shaped (.str z) = true) : idxD (.list (ss.map .str)) [.str z] = idxS ss [.str z] := by
  show (if SeqAt.shaped (.list (ss.map .str)) = true ∧ SeqAt.shaped (.str z) = true then _ else none) = _
  rw [if_pos ⟨h1, h2⟩]
  show Option.map _ (List.findIdx? _ _) = Option.map _ (List.findIdx? _ _)
  congr 1
  clear h1
  induction ss with
  | nil => rfl
  | cons a r ih =>
    rw [List.map_cons, List.findIdx?_cons, List.findIdx?_cons, ih]
    have : PyData.eqv (.str a) (.str z) = decide (a = z) := by rw [PyData.eqv, Bool.eq_iff_iff]; simp
    rw [this]
theorem ranks_tx : ∀ s ∈ ranks, s.length ≤ 1000 ∧ ∀ c ∈ s.cps.toList, c < 128 := by decide +kernel
theorem shd_ranks : Shd 1 (.list (ranks.map .str)) := shd_list fun d hd => by
  obtain ⟨s, hs, rfl⟩ := List.mem_map.mp hd
  exact shd_str (ranks_tx s hs)
theorem page_key_eq {d : D} (h : Keyed d) : m_page_key [d] = some (pkeyOf d) := by
  obtain ⟨w, z, day, r, rfl, hw⟩ := h
  suffices q : MD m_page_key [.tuple (.str w :: .str z :: .int day :: r)] (fun d => d = pkeyOf (.tuple (.str w :: .str z :: .int day :: r))) by
    obtain ⟨d, e, rfl⟩ := q
    exact e
  refine MD_of rfl ?_
  show Sp2 g_page_key [some _] _
  unfold g_page_key
  have hr : idxS s_RANKS [.str w] = some (.int (rankN w)) := idxS_rank hw
  simp only [↓S_next, ↓S_bk, ↓S_ct, ↓S_rtd, ↓S_seq, ↓S_set, ↓S_drop, ↓S_ret, ↓S_if, ↓S_asg, ↓S_put, ↓S_app, ↓S_ext, ↓S_for, ↓Wp_pure, ↓Wp_opt, ↓Wp_bind, ↓Wp_ite, ↓Wp_var, ↓Wp_op, ↓Wp_un, ↓Wp_test, ↓Wp_dand, ↓Wp_dor, ↓Wp_dnot, ↓Wp_dandV, ↓Wp_dorV, ↓Wp_dnotV, ↓Wp_chain, ↓Wp_cb, ↓Wp_cons, ↓Wp_nil, ↓Wp_tup, ↓Wp_lst, ↓Wp_part, ↓Wp_nopart, ↓Wp_slice, ↓Wp_isi, ↓Wp_isi2, ↓Wp_m1, ↓Wp_call, ↓Wp_pix, ↓Wp_callP0, ↓Wp_callP1, ↓Wp_comp, ↓Wp_disp, ↓Wp_dpnil, ↓Wp_dpcons, ↓Wp_flat, ↓onNx_nx, ↓onNx_bk, ↓onNx_ct, ↓onNx_rt, ↓onRt_rt, ↓onRt_nx, ↓onS_some, ↓onB_b, ↓onI_i, ↓onStr_s, ↓onL_l, ↓lk_0, ↓lk_S, ↓onSet_0, ↓onSet_S, ↓onPut_0, ↓onPut_S, ↓ite_dec, ↓ite_ndec, ↓ite_tt, ↓ite_ff, ↓ite_nt, ↓ite_nf, ↓v_gt, ↓v_lt, ↓v_le, ↓v_ge, ↓v_ltS, ↓v_add, ↓v_addS, ↓v_addL, ↓v_addT, ↓v_addN, ↓v_sub, ↓v_mul, ↓v_mulS, ↓v_mod, ↓v_fdiv, ↓v_pow, ↓v_neg, ↓v_lenL, ↓v_lenT, ↓v_lenS, ↓v_abs, ↓v_rev, ↓v_all, ↓v_any, ↓v_sum, ↓v_eq, ↓v_ne, ↓v_in, ↓v_notIn, ↓q_ii, ↓q_ss, ↓items_l, ↓items_t, ↓items_s, ↓items_r1, ↓items_r2, ↓sl_l, ↓sl_t, ↓sl_s, ↓put_1, ↓put_2, ↓pen_0, ↓pen_1, ↓pen_2, ↓v_ixL, ↓v_ixT, ↓ins_NoneType_none, ↓ins_NoneType_bool, ↓ins_NoneType_int, ↓ins_NoneType_str, ↓ins_NoneType_list, ↓ins_NoneType_tuple, ↓ins_NoneType_dict, ↓ins_bool_none, ↓ins_bool_bool, ↓ins_bool_int, ↓ins_bool_str, ↓ins_bool_list, ↓ins_bool_tuple, ↓ins_bool_dict, ↓ins_int_none, ↓ins_int_bool, ↓ins_int_int, ↓ins_int_str, ↓ins_int_list, ↓ins_int_tuple, ↓ins_int_dict, ↓ins_str_none, ↓ins_str_bool, ↓ins_str_int, ↓ins_str_str, ↓ins_str_list, ↓ins_str_tuple, ↓ins_str_dict, ↓ins_list_none, ↓ins_list_bool, ↓ins_list_int, ↓ins_list_str, ↓ins_list_list, ↓ins_list_tuple, ↓ins_list_dict, ↓ins_tuple_none, ↓ins_tuple_bool, ↓ins_tuple_int, ↓ins_tuple_str, ↓ins_tuple_list, ↓ins_tuple_tuple, ↓ins_tuple_dict, ↓ins_dict_none, ↓ins_dict_bool, ↓ins_dict_int, ↓ins_dict_str, ↓ins_dict_list, ↓ins_dict_tuple, ↓ins_dict_dict, ↓in_sign, ↓onClr_0, ↓onClr_S, ↓onW_nil, ↓onW_cons, ↓onRe_0, ↓onRe_S, ↓onBk_nil, ↓onBk_cons, ↓onTwo_l, ↓S_par, ↓a_tup, ↓onG_name, ↓onG_tup, ↓onGs_nil, ↓onGs_cons, ↓onTurn_nx, ↓onTurn_ct, ↓onTurn_bk, ↓onTurn_rt, ↓onLD_d, ↓v_ixAd, ↓v_inAd, ↓v_notInAd, ↓S_upd, ↓v_zip, ↓Wp_flatA, ↓v_int, ↓v_intB, ↓v_min, ↓v_gin, ↓v_gnin, ↓v_gix, ↓Lvs_nil, ↓Lvs_cons, ↓Wp_lv, ↓Wp_calm, ↓Wp_popAt, ↓Wp_popLast, ↓Wp_plen, ↓Wp_lm, ↓Wp_index, ↓onFg_nx, ↓onFg_bk, ↓onFg_ct, ↓onFg_rt, ↓S_sw, ↓S_slm, ↓S_kput, ↓v_isN, ↓v_notN, ↓v_list, ↓v_listT, ↓v_tupL, ↓v_tupT, ↓v_dictDD, ↓v_dictPD, ↓v_rev2, ↓v_ins, ↓reduceIte, ↓at_0, ↓at_1, ↓at_2, hr]
  exact ⟨lineB (by simp), rfl⟩
theorem law_key_eq {d : D} (h : Keyed d) : m__law_key [d] = some (pkeyOf d) := by
  obtain ⟨w, z, day, r, rfl, hw⟩ := h
  suffices q : MD m__law_key [.tuple (.str w :: .str z :: .int day :: r)] (fun d => d = pkeyOf (.tuple (.str w :: .str z :: .int day :: r))) by
    obtain ⟨d, e, rfl⟩ := q
    exact e
  refine MD_of rfl ?_
  show Sp2 g__law_key [some _, none] _
  unfold g__law_key
  have hr : idxD (.list [PyData.str "comes", .str "trial", .str "back", .str "keep", .str "give", .str "goes", .str "double", .str "promise", .str "loose", .str "want", .str "owe", .str "pay"]) [.str w] = some (.int (rankN w)) := (idx_strs (ss := ranks) shd_ranks.shaped (shd_str (ranks_tx w hw)).shaped).trans (idxS_rank hw)
  simp only [↓S_next, ↓S_bk, ↓S_ct, ↓S_rtd, ↓S_seq, ↓S_set, ↓S_drop, ↓S_ret, ↓S_if, ↓S_asg, ↓S_put, ↓S_app, ↓S_ext, ↓S_for, ↓Wp_pure, ↓Wp_opt, ↓Wp_bind, ↓Wp_ite, ↓Wp_var, ↓Wp_op, ↓Wp_un, ↓Wp_test, ↓Wp_dand, ↓Wp_dor, ↓Wp_dnot, ↓Wp_dandV, ↓Wp_dorV, ↓Wp_dnotV, ↓Wp_chain, ↓Wp_cb, ↓Wp_cons, ↓Wp_nil, ↓Wp_tup, ↓Wp_lst, ↓Wp_part, ↓Wp_nopart, ↓Wp_slice, ↓Wp_isi, ↓Wp_isi2, ↓Wp_m1, ↓Wp_call, ↓Wp_pix, ↓Wp_callP0, ↓Wp_callP1, ↓Wp_comp, ↓Wp_disp, ↓Wp_dpnil, ↓Wp_dpcons, ↓Wp_flat, ↓onNx_nx, ↓onNx_bk, ↓onNx_ct, ↓onNx_rt, ↓onRt_rt, ↓onRt_nx, ↓onS_some, ↓onB_b, ↓onI_i, ↓onStr_s, ↓onL_l, ↓lk_0, ↓lk_S, ↓onSet_0, ↓onSet_S, ↓onPut_0, ↓onPut_S, ↓ite_dec, ↓ite_ndec, ↓ite_tt, ↓ite_ff, ↓ite_nt, ↓ite_nf, ↓v_gt, ↓v_lt, ↓v_le, ↓v_ge, ↓v_ltS, ↓v_add, ↓v_addS, ↓v_addL, ↓v_addT, ↓v_addN, ↓v_sub, ↓v_mul, ↓v_mulS, ↓v_mod, ↓v_fdiv, ↓v_pow, ↓v_neg, ↓v_lenL, ↓v_lenT, ↓v_lenS, ↓v_abs, ↓v_rev, ↓v_all, ↓v_any, ↓v_sum, ↓v_eq, ↓v_ne, ↓v_in, ↓v_notIn, ↓q_ii, ↓q_ss, ↓items_l, ↓items_t, ↓items_s, ↓items_r1, ↓items_r2, ↓sl_l, ↓sl_t, ↓sl_s, ↓put_1, ↓put_2, ↓pen_0, ↓pen_1, ↓pen_2, ↓v_ixL, ↓v_ixT, ↓ins_NoneType_none, ↓ins_NoneType_bool, ↓ins_NoneType_int, ↓ins_NoneType_str, ↓ins_NoneType_list, ↓ins_NoneType_tuple, ↓ins_NoneType_dict, ↓ins_bool_none, ↓ins_bool_bool, ↓ins_bool_int, ↓ins_bool_str, ↓ins_bool_list, ↓ins_bool_tuple, ↓ins_bool_dict, ↓ins_int_none, ↓ins_int_bool, ↓ins_int_int, ↓ins_int_str, ↓ins_int_list, ↓ins_int_tuple, ↓ins_int_dict, ↓ins_str_none, ↓ins_str_bool, ↓ins_str_int, ↓ins_str_str, ↓ins_str_list, ↓ins_str_tuple, ↓ins_str_dict, ↓ins_list_none, ↓ins_list_bool, ↓ins_list_int, ↓ins_list_str, ↓ins_list_list, ↓ins_list_tuple, ↓ins_list_dict, ↓ins_tuple_none, ↓ins_tuple_bool, ↓ins_tuple_int, ↓ins_tuple_str, ↓ins_tuple_list, ↓ins_tuple_tuple, ↓ins_tuple_dict, ↓ins_dict_none, ↓ins_dict_bool, ↓ins_dict_int, ↓ins_dict_str, ↓ins_dict_list, ↓ins_dict_tuple, ↓ins_dict_dict, ↓in_sign, ↓onClr_0, ↓onClr_S, ↓onW_nil, ↓onW_cons, ↓onRe_0, ↓onRe_S, ↓onBk_nil, ↓onBk_cons, ↓onTwo_l, ↓S_par, ↓a_tup, ↓onG_name, ↓onG_tup, ↓onGs_nil, ↓onGs_cons, ↓onTurn_nx, ↓onTurn_ct, ↓onTurn_bk, ↓onTurn_rt, ↓onLD_d, ↓v_ixAd, ↓v_inAd, ↓v_notInAd, ↓S_upd, ↓v_zip, ↓Wp_flatA, ↓v_int, ↓v_intB, ↓v_min, ↓v_gin, ↓v_gnin, ↓v_gix, ↓Lvs_nil, ↓Lvs_cons, ↓Wp_lv, ↓Wp_calm, ↓Wp_popAt, ↓Wp_popLast, ↓Wp_plen, ↓Wp_lm, ↓Wp_index, ↓onFg_nx, ↓onFg_bk, ↓onFg_ct, ↓onFg_rt, ↓S_sw, ↓S_slm, ↓S_kput, ↓v_isN, ↓v_notN, ↓v_list, ↓v_listT, ↓v_tupL, ↓v_tupT, ↓v_dictDD, ↓v_dictPD, ↓v_rev2, ↓v_ins, ↓reduceIte, ↓at_0, ↓at_1, ↓at_2, hr]
  exact ⟨lineB (by simp), lineB (by simp), rfl⟩
end DR

set_option maxRecDepth 100000
set_option maxHeartbeats 1000000
namespace DR
open PySem PySem.Spec L2
open PyProof.Rows hiding St
structure Good (d : D) : Prop where
  keyed : Keyed d
  sh : Shd 1 d
  ky : Shd 1 (pkeyOf d)
  fl : flat d = true
theorem IsPg.flat {H T K N : Str → Prop} {z : Str} {day : Int} {d : D} (h : IsPg H T K N z day d) : flat d = true := by
  cases h <;> simp [DR.flat, flatA]
theorem pkey_no {d : D} (h : Keyed d) : isNo (pkeyOf d) = false := by
  obtain ⟨w, z, day, r, rfl, hw⟩ := h
  rfl
theorem ltDt_keys {d e : D} (hd : Good d) (he : Good e) : ltDt (pkeyOf d) (pkeyOf e) = some (.bool (pLt d e)) := by
  obtain ⟨h1, h2⟩ := lt_keys hd.keyed he.keyed
  unfold ltDt
  rw [if_pos ⟨hd.ky.shaped, he.ky.shaped, h1, pkey_no hd.keyed, Nat.le_trans (Nat.min_le_left _ _) (Nat.le_trans hd.ky.2 (by decide))⟩, h2]
theorem goes_eq {d e : D} (hd : Good d) (he : Good e) : m_goes_ahead [d, e] = some (.bool (pLt d e)) := by
  suffices q : MD m_goes_ahead [d, e] (fun x => x = .bool (pLt d e)) by
    obtain ⟨d, e, rfl⟩ := q
    exact e
  refine MD_of rfl ?_
  show Sp2 g_goes_ahead [some _, some _] _
  unfold g_goes_ahead
  simp only [↓S_next, ↓S_bk, ↓S_ct, ↓S_rtd, ↓S_seq, ↓S_set, ↓S_drop, ↓S_ret, ↓S_if, ↓S_asg, ↓S_put, ↓S_app, ↓S_ext, ↓S_for, ↓Wp_pure, ↓Wp_opt, ↓Wp_bind, ↓Wp_ite, ↓Wp_var, ↓Wp_op, ↓Wp_un, ↓Wp_test, ↓Wp_dand, ↓Wp_dor, ↓Wp_dnot, ↓Wp_dandV, ↓Wp_dorV, ↓Wp_dnotV, ↓Wp_chain, ↓Wp_cb, ↓Wp_cons, ↓Wp_nil, ↓Wp_tup, ↓Wp_lst, ↓Wp_part, ↓Wp_nopart, ↓Wp_slice, ↓Wp_isi, ↓Wp_isi2, ↓Wp_m1, ↓Wp_call, ↓Wp_pix, ↓Wp_callP0, ↓Wp_callP1, ↓Wp_comp, ↓Wp_disp, ↓Wp_dpnil, ↓Wp_dpcons, ↓Wp_flat, ↓onNx_nx, ↓onNx_bk, ↓onNx_ct, ↓onNx_rt, ↓onRt_rt, ↓onRt_nx, ↓onS_some, ↓onB_b, ↓onI_i, ↓onStr_s, ↓onL_l, ↓lk_0, ↓lk_S, ↓onSet_0, ↓onSet_S, ↓onPut_0, ↓onPut_S, ↓ite_dec, ↓ite_ndec, ↓ite_tt, ↓ite_ff, ↓ite_nt, ↓ite_nf, ↓v_gt, ↓v_lt, ↓v_le, ↓v_ge, ↓v_ltS, ↓v_add, ↓v_addS, ↓v_addL, ↓v_addT, ↓v_addN, ↓v_sub, ↓v_mul, ↓v_mulS, ↓v_mod, ↓v_fdiv, ↓v_pow, ↓v_neg, ↓v_lenL, ↓v_lenT, ↓v_lenS, ↓v_abs, ↓v_rev, ↓v_all, ↓v_any, ↓v_sum, ↓v_eq, ↓v_ne, ↓v_in, ↓v_notIn, ↓q_ii, ↓q_ss, ↓items_l, ↓items_t, ↓items_s, ↓items_r1, ↓items_r2, ↓sl_l, ↓sl_t, ↓sl_s, ↓put_1, ↓put_2, ↓pen_0, ↓pen_1, ↓pen_2, ↓v_ixL, ↓v_ixT, ↓ins_NoneType_none, ↓ins_NoneType_bool, ↓ins_NoneType_int, ↓ins_NoneType_str, ↓ins_NoneType_list, ↓ins_NoneType_tuple, ↓ins_NoneType_dict, ↓ins_bool_none, ↓ins_bool_bool, ↓ins_bool_int, ↓ins_bool_str, ↓ins_bool_list, ↓ins_bool_tuple, ↓ins_bool_dict, ↓ins_int_none, ↓ins_int_bool, ↓ins_int_int, ↓ins_int_str, ↓ins_int_list, ↓ins_int_tuple, ↓ins_int_dict, ↓ins_str_none, ↓ins_str_bool, ↓ins_str_int, ↓ins_str_str, ↓ins_str_list, ↓ins_str_tuple, ↓ins_str_dict, ↓ins_list_none, ↓ins_list_bool, ↓ins_list_int, ↓ins_list_str, ↓ins_list_list, ↓ins_list_tuple, ↓ins_list_dict, ↓ins_tuple_none, ↓ins_tuple_bool, ↓ins_tuple_int, ↓ins_tuple_str, ↓ins_tuple_list, ↓ins_tuple_tuple, ↓ins_tuple_dict, ↓ins_dict_none, ↓ins_dict_bool, ↓ins_dict_int, ↓ins_dict_str, ↓ins_dict_list, ↓ins_dict_tuple, ↓ins_dict_dict, ↓in_sign, ↓onClr_0, ↓onClr_S, ↓onW_nil, ↓onW_cons, ↓onRe_0, ↓onRe_S, ↓onBk_nil, ↓onBk_cons, ↓onTwo_l, ↓S_par, ↓a_tup, ↓onG_name, ↓onG_tup, ↓onGs_nil, ↓onGs_cons, ↓onTurn_nx, ↓onTurn_ct, ↓onTurn_bk, ↓onTurn_rt, ↓onLD_d, ↓v_ixAd, ↓v_inAd, ↓v_notInAd, ↓S_upd, ↓v_zip, ↓Wp_flatA, ↓v_int, ↓v_intB, ↓v_min, ↓v_gin, ↓v_gnin, ↓v_gix, ↓Lvs_nil, ↓Lvs_cons, ↓Wp_lv, ↓Wp_calm, ↓Wp_popAt, ↓Wp_popLast, ↓Wp_plen, ↓Wp_lm, ↓Wp_index, ↓onFg_nx, ↓onFg_bk, ↓onFg_ct, ↓onFg_rt, ↓S_sw, ↓S_slm, ↓S_kput, ↓v_isN, ↓v_notN, ↓v_list, ↓v_listT, ↓v_tupL, ↓v_tupT, ↓v_dictDD, ↓v_dictPD, ↓v_rev2, ↓v_ins, ↓reduceIte, MD.eq (page_key_eq hd.keyed), MD.eq (page_key_eq he.keyed), ltDt_keys hd he]
theorem in_order_eq {ds : List D} (h : ∀ d ∈ ds, Good d) : m_in_order [.list ds] = some (.list (isort pLt ds)) := by
  suffices q : MD (mOf 1 1 g_in_order) [.list ds] (fun x => x = .list (isort pLt ds)) by
    obtain ⟨d, e, rfl⟩ := q
    show mNN (mOf 1 1 g_in_order) _ = _
    unfold mNN
    rw [e]
  refine MD_of rfl ?_
  show Sp2 g_in_order [some _] _
  unfold g_in_order
  simp only [↓S_next, ↓S_bk, ↓S_ct, ↓S_rtd, ↓S_seq, ↓S_set, ↓S_drop, ↓S_ret, ↓S_if, ↓S_asg, ↓S_put, ↓S_app, ↓S_ext, ↓S_for, ↓Wp_pure, ↓Wp_opt, ↓Wp_bind, ↓Wp_ite, ↓Wp_var, ↓Wp_op, ↓Wp_un, ↓Wp_test, ↓Wp_dand, ↓Wp_dor, ↓Wp_dnot, ↓Wp_dandV, ↓Wp_dorV, ↓Wp_dnotV, ↓Wp_chain, ↓Wp_cb, ↓Wp_cons, ↓Wp_nil, ↓Wp_tup, ↓Wp_lst, ↓Wp_part, ↓Wp_nopart, ↓Wp_slice, ↓Wp_isi, ↓Wp_isi2, ↓Wp_m1, ↓Wp_call, ↓Wp_pix, ↓Wp_callP0, ↓Wp_callP1, ↓Wp_comp, ↓Wp_disp, ↓Wp_dpnil, ↓Wp_dpcons, ↓Wp_flat, ↓onNx_nx, ↓onNx_bk, ↓onNx_ct, ↓onNx_rt, ↓onRt_rt, ↓onRt_nx, ↓onS_some, ↓onB_b, ↓onI_i, ↓onStr_s, ↓onL_l, ↓lk_0, ↓lk_S, ↓onSet_0, ↓onSet_S, ↓onPut_0, ↓onPut_S, ↓ite_dec, ↓ite_ndec, ↓ite_tt, ↓ite_ff, ↓ite_nt, ↓ite_nf, ↓v_gt, ↓v_lt, ↓v_le, ↓v_ge, ↓v_ltS, ↓v_add, ↓v_addS, ↓v_addL, ↓v_addT, ↓v_addN, ↓v_sub, ↓v_mul, ↓v_mulS, ↓v_mod, ↓v_fdiv, ↓v_pow, ↓v_neg, ↓v_lenL, ↓v_lenT, ↓v_lenS, ↓v_abs, ↓v_rev, ↓v_all, ↓v_any, ↓v_sum, ↓v_eq, ↓v_ne, ↓v_in, ↓v_notIn, ↓q_ii, ↓q_ss, ↓items_l, ↓items_t, ↓items_s, ↓items_r1, ↓items_r2, ↓sl_l, ↓sl_t, ↓sl_s, ↓put_1, ↓put_2, ↓pen_0, ↓pen_1, ↓pen_2, ↓v_ixL, ↓v_ixT, ↓ins_NoneType_none, ↓ins_NoneType_bool, ↓ins_NoneType_int, ↓ins_NoneType_str, ↓ins_NoneType_list, ↓ins_NoneType_tuple, ↓ins_NoneType_dict, ↓ins_bool_none, ↓ins_bool_bool, ↓ins_bool_int, ↓ins_bool_str, ↓ins_bool_list, ↓ins_bool_tuple, ↓ins_bool_dict, ↓ins_int_none, ↓ins_int_bool, ↓ins_int_int, ↓ins_int_str, ↓ins_int_list, ↓ins_int_tuple, ↓ins_int_dict, ↓ins_str_none, ↓ins_str_bool, ↓ins_str_int, ↓ins_str_str, ↓ins_str_list, ↓ins_str_tuple, ↓ins_str_dict, ↓ins_list_none, ↓ins_list_bool, ↓ins_list_int, ↓ins_list_str, ↓ins_list_list, ↓ins_list_tuple, ↓ins_list_dict, ↓ins_tuple_none, ↓ins_tuple_bool, ↓ins_tuple_int, ↓ins_tuple_str, ↓ins_tuple_list, ↓ins_tuple_tuple, ↓ins_tuple_dict, ↓ins_dict_none, ↓ins_dict_bool, ↓ins_dict_int, ↓ins_dict_str, ↓ins_dict_list, ↓ins_dict_tuple, ↓ins_dict_dict, ↓in_sign, ↓onClr_0, ↓onClr_S, ↓onW_nil, ↓onW_cons, ↓onRe_0, ↓onRe_S, ↓onBk_nil, ↓onBk_cons, ↓onTwo_l, ↓S_par, ↓a_tup, ↓onG_name, ↓onG_tup, ↓onGs_nil, ↓onGs_cons, ↓onTurn_nx, ↓onTurn_ct, ↓onTurn_bk, ↓onTurn_rt, ↓onLD_d, ↓v_ixAd, ↓v_inAd, ↓v_notInAd, ↓S_upd, ↓v_zip, ↓Wp_flatA, ↓v_int, ↓v_intB, ↓v_min, ↓v_gin, ↓v_gnin, ↓v_gix, ↓Lvs_nil, ↓Lvs_cons, ↓Wp_lv, ↓Wp_calm, ↓Wp_popAt, ↓Wp_popLast, ↓Wp_plen, ↓Wp_lm, ↓Wp_index, ↓onFg_nx, ↓onFg_bk, ↓onFg_ct, ↓onFg_rt, ↓S_sw, ↓S_slm, ↓S_kput, ↓v_isN, ↓v_notN, ↓v_list, ↓v_listT, ↓v_tupL, ↓v_tupT, ↓v_dictDD, ↓v_dictPD, ↓v_rev2, ↓v_ins, ↓reduceIte, sortKD_pages (fun d hd => (h d hd).keyed) fun d hd => page_key_eq (h d hd).keyed]
theorem filter_fm {f : D → Bool} {ds : List D} : (ds.filter f).length = (ds.filterMap fun d => if f d = true then some d else none).length := by
  induction ds with
  | nil => rfl
  | cons d r ih =>
    by_cases h : f d = true
    · rw [List.filter_cons_of_pos h, List.filterMap_cons, if_pos h, List.length_cons, List.length_cons, ih]
    · rw [List.filter_cons_of_neg h, List.filterMap_cons, if_neg h, ih]
theorem isort_mem {α : Type} {lt : α → α → Bool} {l : List α} {x : α} : x ∈ isort lt l ↔ x ∈ l := (isort_perm lt l).mem_iff
theorem isort_len {α : Type} {lt : α → α → Bool} {l : List α} : (isort lt l).length = l.length := (isort_perm lt l).length_eq
theorem isort_snoc {α : Type} {lt : α → α → Bool} {l : List α} {x : α} : isort lt (l ++ [x]) = insB lt x (isort lt l) := by
  unfold isort
  rw [List.foldl_append]
  rfl
theorem math : ∀ ns : List Int, ns.length ≤ 63 → ∃ st', g_law (startL 10 ns) = some (.rt (.bool true) st') := by
  intro ns hl
  have hp0 := Pen.start hl
  suffices h : Sp2 g_law (startL 10 ns) (fun o => ∃ st', o = .rt (.bool true) st') by
    obtain ⟨o, e, _, st', rfl⟩ := h
    exact ⟨st', e⟩
  show Sp2 g_law [some _, some (penL ns), none, none, none, none, none, none, none, none] _
  generalize penL ns = p0 at hp0
  unfold g_law
  simp only [↓S_next, ↓S_bk, ↓S_ct, ↓S_rtd, ↓S_seq, ↓S_set, ↓S_drop, ↓S_ret, ↓S_if, ↓S_asg, ↓S_put, ↓S_app, ↓S_ext, ↓S_for, ↓Wp_pure, ↓Wp_opt, ↓Wp_bind, ↓Wp_ite, ↓Wp_var, ↓Wp_op, ↓Wp_un, ↓Wp_test, ↓Wp_dand, ↓Wp_dor, ↓Wp_dnot, ↓Wp_dandV, ↓Wp_dorV, ↓Wp_dnotV, ↓Wp_chain, ↓Wp_cb, ↓Wp_cons, ↓Wp_nil, ↓Wp_tup, ↓Wp_lst, ↓Wp_part, ↓Wp_nopart, ↓Wp_slice, ↓Wp_isi, ↓Wp_isi2, ↓Wp_m1, ↓Wp_call, ↓Wp_pix, ↓Wp_callP0, ↓Wp_callP1, ↓Wp_comp, ↓Wp_disp, ↓Wp_dpnil, ↓Wp_dpcons, ↓Wp_flat, ↓onNx_nx, ↓onNx_bk, ↓onNx_ct, ↓onNx_rt, ↓onRt_rt, ↓onRt_nx, ↓onS_some, ↓onB_b, ↓onI_i, ↓onStr_s, ↓onL_l, ↓lk_0, ↓lk_S, ↓onSet_0, ↓onSet_S, ↓onPut_0, ↓onPut_S, ↓ite_dec, ↓ite_ndec, ↓ite_tt, ↓ite_ff, ↓ite_nt, ↓ite_nf, ↓v_gt, ↓v_lt, ↓v_le, ↓v_ge, ↓v_ltS, ↓v_add, ↓v_addS, ↓v_addL, ↓v_addT, ↓v_addN, ↓v_sub, ↓v_mul, ↓v_mulS, ↓v_mod, ↓v_fdiv, ↓v_pow, ↓v_neg, ↓v_lenL, ↓v_lenT, ↓v_lenS, ↓v_abs, ↓v_rev, ↓v_all, ↓v_any, ↓v_sum, ↓v_eq, ↓v_ne, ↓v_in, ↓v_notIn, ↓q_ii, ↓q_ss, ↓items_l, ↓items_t, ↓items_s, ↓items_r1, ↓items_r2, ↓sl_l, ↓sl_t, ↓sl_s, ↓put_1, ↓put_2, ↓pen_0, ↓pen_1, ↓pen_2, ↓v_ixL, ↓v_ixT, ↓ins_NoneType_none, ↓ins_NoneType_bool, ↓ins_NoneType_int, ↓ins_NoneType_str, ↓ins_NoneType_list, ↓ins_NoneType_tuple, ↓ins_NoneType_dict, ↓ins_bool_none, ↓ins_bool_bool, ↓ins_bool_int, ↓ins_bool_str, ↓ins_bool_list, ↓ins_bool_tuple, ↓ins_bool_dict, ↓ins_int_none, ↓ins_int_bool, ↓ins_int_int, ↓ins_int_str, ↓ins_int_list, ↓ins_int_tuple, ↓ins_int_dict, ↓ins_str_none, ↓ins_str_bool, ↓ins_str_int, ↓ins_str_str, ↓ins_str_list, ↓ins_str_tuple, ↓ins_str_dict, ↓ins_list_none, ↓ins_list_bool, ↓ins_list_int, ↓ins_list_str, ↓ins_list_list, ↓ins_list_tuple, ↓ins_list_dict, ↓ins_tuple_none, ↓ins_tuple_bool, ↓ins_tuple_int, ↓ins_tuple_str, ↓ins_tuple_list, ↓ins_tuple_tuple, ↓ins_tuple_dict, ↓ins_dict_none, ↓ins_dict_bool, ↓ins_dict_int, ↓ins_dict_str, ↓ins_dict_list, ↓ins_dict_tuple, ↓ins_dict_dict, ↓in_sign, ↓onClr_0, ↓onClr_S, ↓onW_nil, ↓onW_cons, ↓onRe_0, ↓onRe_S, ↓onBk_nil, ↓onBk_cons, ↓onTwo_l, ↓S_par, ↓a_tup, ↓onG_name, ↓onG_tup, ↓onGs_nil, ↓onGs_cons, ↓onTurn_nx, ↓onTurn_ct, ↓onTurn_bk, ↓onTurn_rt, ↓onLD_d, ↓v_ixAd, ↓v_inAd, ↓v_notInAd, ↓S_upd, ↓v_zip, ↓Wp_flatA, ↓v_int, ↓v_intB, ↓v_min, ↓v_gin, ↓v_gnin, ↓v_gix, ↓Lvs_nil, ↓Lvs_cons, ↓Wp_lv, ↓Wp_calm, ↓Wp_popAt, ↓Wp_popLast, ↓Wp_plen, ↓Wp_lm, ↓Wp_index, ↓onFg_nx, ↓onFg_bk, ↓onFg_ct, ↓onFg_rt, ↓S_sw, ↓S_slm, ↓S_kput, ↓v_isN, ↓v_notN, ↓v_list, ↓v_listT, ↓v_tupL, ↓v_tupT, ↓v_dictDD, ↓v_dictPD, ↓v_rev2, ↓v_ins, ↓reduceIte]
  refine draw_ok hp0 (by decide) (by decide) fun k1 p1 hp1 a1 b1 => ?_
  obtain ⟨few, rfl⟩ : ∃ n : Nat, k1 = n := ⟨k1.toNat, by omega⟩
  simp only [↓S_next, ↓S_bk, ↓S_ct, ↓S_rtd, ↓S_seq, ↓S_set, ↓S_drop, ↓S_ret, ↓S_if, ↓S_asg, ↓S_put, ↓S_app, ↓S_ext, ↓S_for, ↓Wp_pure, ↓Wp_opt, ↓Wp_bind, ↓Wp_ite, ↓Wp_var, ↓Wp_op, ↓Wp_un, ↓Wp_test, ↓Wp_dand, ↓Wp_dor, ↓Wp_dnot, ↓Wp_dandV, ↓Wp_dorV, ↓Wp_dnotV, ↓Wp_chain, ↓Wp_cb, ↓Wp_cons, ↓Wp_nil, ↓Wp_tup, ↓Wp_lst, ↓Wp_part, ↓Wp_nopart, ↓Wp_slice, ↓Wp_isi, ↓Wp_isi2, ↓Wp_m1, ↓Wp_call, ↓Wp_pix, ↓Wp_callP0, ↓Wp_callP1, ↓Wp_comp, ↓Wp_disp, ↓Wp_dpnil, ↓Wp_dpcons, ↓Wp_flat, ↓onNx_nx, ↓onNx_bk, ↓onNx_ct, ↓onNx_rt, ↓onRt_rt, ↓onRt_nx, ↓onS_some, ↓onB_b, ↓onI_i, ↓onStr_s, ↓onL_l, ↓lk_0, ↓lk_S, ↓onSet_0, ↓onSet_S, ↓onPut_0, ↓onPut_S, ↓ite_dec, ↓ite_ndec, ↓ite_tt, ↓ite_ff, ↓ite_nt, ↓ite_nf, ↓v_gt, ↓v_lt, ↓v_le, ↓v_ge, ↓v_ltS, ↓v_add, ↓v_addS, ↓v_addL, ↓v_addT, ↓v_addN, ↓v_sub, ↓v_mul, ↓v_mulS, ↓v_mod, ↓v_fdiv, ↓v_pow, ↓v_neg, ↓v_lenL, ↓v_lenT, ↓v_lenS, ↓v_abs, ↓v_rev, ↓v_all, ↓v_any, ↓v_sum, ↓v_eq, ↓v_ne, ↓v_in, ↓v_notIn, ↓q_ii, ↓q_ss, ↓items_l, ↓items_t, ↓items_s, ↓items_r1, ↓items_r2, ↓sl_l, ↓sl_t, ↓sl_s, ↓put_1, ↓put_2, ↓pen_0, ↓pen_1, ↓pen_2, ↓v_ixL, ↓v_ixT, ↓ins_NoneType_none, ↓ins_NoneType_bool, ↓ins_NoneType_int, ↓ins_NoneType_str, ↓ins_NoneType_list, ↓ins_NoneType_tuple, ↓ins_NoneType_dict, ↓ins_bool_none, ↓ins_bool_bool, ↓ins_bool_int, ↓ins_bool_str, ↓ins_bool_list, ↓ins_bool_tuple, ↓ins_bool_dict, ↓ins_int_none, ↓ins_int_bool, ↓ins_int_int, ↓ins_int_str, ↓ins_int_list, ↓ins_int_tuple, ↓ins_int_dict, ↓ins_str_none, ↓ins_str_bool, ↓ins_str_int, ↓ins_str_str, ↓ins_str_list, ↓ins_str_tuple, ↓ins_str_dict, ↓ins_list_none, ↓ins_list_bool, ↓ins_list_int, ↓ins_list_str, ↓ins_list_list, ↓ins_list_tuple, ↓ins_list_dict, ↓ins_tuple_none, ↓ins_tuple_bool, ↓ins_tuple_int, ↓ins_tuple_str, ↓ins_tuple_list, ↓ins_tuple_tuple, ↓ins_tuple_dict, ↓ins_dict_none, ↓ins_dict_bool, ↓ins_dict_int, ↓ins_dict_str, ↓ins_dict_list, ↓ins_dict_tuple, ↓ins_dict_dict, ↓in_sign, ↓onClr_0, ↓onClr_S, ↓onW_nil, ↓onW_cons, ↓onRe_0, ↓onRe_S, ↓onBk_nil, ↓onBk_cons, ↓onTwo_l, ↓S_par, ↓a_tup, ↓onG_name, ↓onG_tup, ↓onGs_nil, ↓onGs_cons, ↓onTurn_nx, ↓onTurn_ct, ↓onTurn_bk, ↓onTurn_rt, ↓onLD_d, ↓v_ixAd, ↓v_inAd, ↓v_notInAd, ↓S_upd, ↓v_zip, ↓Wp_flatA, ↓v_int, ↓v_intB, ↓v_min, ↓v_gin, ↓v_gnin, ↓v_gix, ↓Lvs_nil, ↓Lvs_cons, ↓Wp_lv, ↓Wp_calm, ↓Wp_popAt, ↓Wp_popLast, ↓Wp_plen, ↓Wp_lm, ↓Wp_index, ↓onFg_nx, ↓onFg_bk, ↓onFg_ct, ↓onFg_rt, ↓S_sw, ↓S_slm, ↓S_kput, ↓v_isN, ↓v_notN, ↓v_list, ↓v_listT, ↓v_tupL, ↓v_tupT, ↓v_dictDD, ↓v_dictPD, ↓v_rev2, ↓v_ins, ↓reduceIte]
  rw [show (1 : Int) + (few : Int) = ((few + 1 : Nat) : Int) by omega]
  refine pages_ok (most := 14) hp1 (by decide) (by decide) (by omega) (by omega) fun ps hs ts ks nms nm n m p2 hp2 hhs hm2 hm6 hts hks hns hnm hn1 hn14 hps => ?_
  simp only [↓S_next, ↓S_bk, ↓S_ct, ↓S_rtd, ↓S_seq, ↓S_set, ↓S_drop, ↓S_ret, ↓S_if, ↓S_asg, ↓S_put, ↓S_app, ↓S_ext, ↓S_for, ↓Wp_pure, ↓Wp_opt, ↓Wp_bind, ↓Wp_ite, ↓Wp_var, ↓Wp_op, ↓Wp_un, ↓Wp_test, ↓Wp_dand, ↓Wp_dor, ↓Wp_dnot, ↓Wp_dandV, ↓Wp_dorV, ↓Wp_dnotV, ↓Wp_chain, ↓Wp_cb, ↓Wp_cons, ↓Wp_nil, ↓Wp_tup, ↓Wp_lst, ↓Wp_part, ↓Wp_nopart, ↓Wp_slice, ↓Wp_isi, ↓Wp_isi2, ↓Wp_m1, ↓Wp_call, ↓Wp_pix, ↓Wp_callP0, ↓Wp_callP1, ↓Wp_comp, ↓Wp_disp, ↓Wp_dpnil, ↓Wp_dpcons, ↓Wp_flat, ↓onNx_nx, ↓onNx_bk, ↓onNx_ct, ↓onNx_rt, ↓onRt_rt, ↓onRt_nx, ↓onS_some, ↓onB_b, ↓onI_i, ↓onStr_s, ↓onL_l, ↓lk_0, ↓lk_S, ↓onSet_0, ↓onSet_S, ↓onPut_0, ↓onPut_S, ↓ite_dec, ↓ite_ndec, ↓ite_tt, ↓ite_ff, ↓ite_nt, ↓ite_nf, ↓v_gt, ↓v_lt, ↓v_le, ↓v_ge, ↓v_ltS, ↓v_add, ↓v_addS, ↓v_addL, ↓v_addT, ↓v_addN, ↓v_sub, ↓v_mul, ↓v_mulS, ↓v_mod, ↓v_fdiv, ↓v_pow, ↓v_neg, ↓v_lenL, ↓v_lenT, ↓v_lenS, ↓v_abs, ↓v_rev, ↓v_all, ↓v_any, ↓v_sum, ↓v_eq, ↓v_ne, ↓v_in, ↓v_notIn, ↓q_ii, ↓q_ss, ↓items_l, ↓items_t, ↓items_s, ↓items_r1, ↓items_r2, ↓sl_l, ↓sl_t, ↓sl_s, ↓put_1, ↓put_2, ↓pen_0, ↓pen_1, ↓pen_2, ↓v_ixL, ↓v_ixT, ↓ins_NoneType_none, ↓ins_NoneType_bool, ↓ins_NoneType_int, ↓ins_NoneType_str, ↓ins_NoneType_list, ↓ins_NoneType_tuple, ↓ins_NoneType_dict, ↓ins_bool_none, ↓ins_bool_bool, ↓ins_bool_int, ↓ins_bool_str, ↓ins_bool_list, ↓ins_bool_tuple, ↓ins_bool_dict, ↓ins_int_none, ↓ins_int_bool, ↓ins_int_int, ↓ins_int_str, ↓ins_int_list, ↓ins_int_tuple, ↓ins_int_dict, ↓ins_str_none, ↓ins_str_bool, ↓ins_str_int, ↓ins_str_str, ↓ins_str_list, ↓ins_str_tuple, ↓ins_str_dict, ↓ins_list_none, ↓ins_list_bool, ↓ins_list_int, ↓ins_list_str, ↓ins_list_list, ↓ins_list_tuple, ↓ins_list_dict, ↓ins_tuple_none, ↓ins_tuple_bool, ↓ins_tuple_int, ↓ins_tuple_str, ↓ins_tuple_list, ↓ins_tuple_tuple, ↓ins_tuple_dict, ↓ins_dict_none, ↓ins_dict_bool, ↓ins_dict_int, ↓ins_dict_str, ↓ins_dict_list, ↓ins_dict_tuple, ↓ins_dict_dict, ↓in_sign, ↓onClr_0, ↓onClr_S, ↓onW_nil, ↓onW_cons, ↓onRe_0, ↓onRe_S, ↓onBk_nil, ↓onBk_cons, ↓onTwo_l, ↓S_par, ↓a_tup, ↓onG_name, ↓onG_tup, ↓onGs_nil, ↓onGs_cons, ↓onTurn_nx, ↓onTurn_ct, ↓onTurn_bk, ↓onTurn_rt, ↓onLD_d, ↓v_ixAd, ↓v_inAd, ↓v_notInAd, ↓S_upd, ↓v_zip, ↓Wp_flatA, ↓v_int, ↓v_intB, ↓v_min, ↓v_gin, ↓v_gnin, ↓v_gix, ↓Lvs_nil, ↓Lvs_cons, ↓Wp_lv, ↓Wp_calm, ↓Wp_popAt, ↓Wp_popLast, ↓Wp_plen, ↓Wp_lm, ↓Wp_index, ↓onFg_nx, ↓onFg_bk, ↓onFg_ct, ↓onFg_rt, ↓S_sw, ↓S_slm, ↓S_kput, ↓v_isN, ↓v_notN, ↓v_list, ↓v_listT, ↓v_tupL, ↓v_tupT, ↓v_dictDD, ↓v_dictPD, ↓v_rev2, ↓v_ins, ↓reduceIte, ↓at_0]
  have hlen : ps.length = n := hps.1.trans hnm.len
  refine turned_ok hp2 (by omega) fun ds p3 hp3 hpm => ?_
  have hdl : ds.length = n := hpm.length_eq.trans hlen
  have hH : ∀ x, Mem hs x → Tx7 x := fun x hx => ((hhs.wl' (by omega) (by omega)).mem hx).1
  have hT : ∀ x, Mem ts x → Tx7 x := fun x hx => (hts.mem hx).1
  have hK : ∀ x, Mem ks x → Tx7 x := fun x hx => (hks.mem hx).1
  have hN : ∀ x, Mem nms x → Tx7 x := fun x hx => (hns.mem hx).1
  have hat : ∀ (i : Nat) (d : D), ps[i]? = some d → ∃ z day, nm[i]? = some (.str z) ∧ IsPg (Mem hs) (Mem ts) (Mem ks) (Mem nms) z day d := fun i d hi => by
    have hin : i < nm.length := by
      have := (List.getElem?_eq_some_iff.mp hi).1
      rw [hps.1] at this
      exact this
    obtain ⟨z, d', day, h1, h2, _, _, h3⟩ := hps.2 i nm[i] (List.getElem?_eq_getElem hin)
    rw [hi] at h2
    cases h2
    exact ⟨z, day, by rw [List.getElem?_eq_getElem hin, h1], h3⟩
  have gps : ∀ d ∈ ps, Good d := fun d hd => by
    obtain ⟨i, hi⟩ := List.getElem?_of_mem hd
    obtain ⟨z, day, h1, h2⟩ := hat i d hi
    obtain ⟨z', e, h3, _⟩ := hnm.word _ (List.mem_of_getElem? h1)
    cases e
    have hk := h2.keyed
    refine ⟨hk.1, h2.shd hH hT hK hN h3, ?_, h2.flat⟩
    obtain ⟨⟨w, z', day', r, rfl, hw⟩, hnn⟩ := hk
    have e : z' = z := by
      have : PyData.str z' = .str z := hnn
      cases this
      rfl
    subst e
    exact shd_tup (shd_cons shd_int (shd_cons shd_int (shd_cons (shd_str h3) shd_nil)))
  have gds : ∀ d ∈ ds, Good d := fun d hd => gps d (hpm.mem_iff.mp hd)
  have dps : ps.Pairwise fun d e => nameD d ≠ nameD e := by
    rw [List.pairwise_iff_getElem]
    intro i j hi hj hij
    obtain ⟨z, day, h1, h2⟩ := hat i _ (List.getElem?_eq_getElem hi)
    obtain ⟨z', day', h3, h4⟩ := hat j _ (List.getElem?_eq_getElem hj)
    rw [h2.keyed.2, h4.keyed.2]
    exact hnm.ne i j _ _ h1 h3 (by omega)
  have dds : ds.Pairwise fun d e => nameD d ≠ nameD e := hpm.symm.pairwise dps fun h => Ne.symm h
  have sds : Shd 2 (.list ds) := shd_list fun d hd => (gds d hd).sh
  simp only [↓S_next, ↓S_bk, ↓S_ct, ↓S_rtd, ↓S_seq, ↓S_set, ↓S_drop, ↓S_ret, ↓S_if, ↓S_asg, ↓S_put, ↓S_app, ↓S_ext, ↓S_for, ↓Wp_pure, ↓Wp_opt, ↓Wp_bind, ↓Wp_ite, ↓Wp_var, ↓Wp_op, ↓Wp_un, ↓Wp_test, ↓Wp_dand, ↓Wp_dor, ↓Wp_dnot, ↓Wp_dandV, ↓Wp_dorV, ↓Wp_dnotV, ↓Wp_chain, ↓Wp_cb, ↓Wp_cons, ↓Wp_nil, ↓Wp_tup, ↓Wp_lst, ↓Wp_part, ↓Wp_nopart, ↓Wp_slice, ↓Wp_isi, ↓Wp_isi2, ↓Wp_m1, ↓Wp_call, ↓Wp_pix, ↓Wp_callP0, ↓Wp_callP1, ↓Wp_comp, ↓Wp_disp, ↓Wp_dpnil, ↓Wp_dpcons, ↓Wp_flat, ↓onNx_nx, ↓onNx_bk, ↓onNx_ct, ↓onNx_rt, ↓onRt_rt, ↓onRt_nx, ↓onS_some, ↓onB_b, ↓onI_i, ↓onStr_s, ↓onL_l, ↓lk_0, ↓lk_S, ↓onSet_0, ↓onSet_S, ↓onPut_0, ↓onPut_S, ↓ite_dec, ↓ite_ndec, ↓ite_tt, ↓ite_ff, ↓ite_nt, ↓ite_nf, ↓v_gt, ↓v_lt, ↓v_le, ↓v_ge, ↓v_ltS, ↓v_add, ↓v_addS, ↓v_addL, ↓v_addT, ↓v_addN, ↓v_sub, ↓v_mul, ↓v_mulS, ↓v_mod, ↓v_fdiv, ↓v_pow, ↓v_neg, ↓v_lenL, ↓v_lenT, ↓v_lenS, ↓v_abs, ↓v_rev, ↓v_all, ↓v_any, ↓v_sum, ↓v_eq, ↓v_ne, ↓v_in, ↓v_notIn, ↓q_ii, ↓q_ss, ↓items_l, ↓items_t, ↓items_s, ↓items_r1, ↓items_r2, ↓sl_l, ↓sl_t, ↓sl_s, ↓put_1, ↓put_2, ↓pen_0, ↓pen_1, ↓pen_2, ↓v_ixL, ↓v_ixT, ↓ins_NoneType_none, ↓ins_NoneType_bool, ↓ins_NoneType_int, ↓ins_NoneType_str, ↓ins_NoneType_list, ↓ins_NoneType_tuple, ↓ins_NoneType_dict, ↓ins_bool_none, ↓ins_bool_bool, ↓ins_bool_int, ↓ins_bool_str, ↓ins_bool_list, ↓ins_bool_tuple, ↓ins_bool_dict, ↓ins_int_none, ↓ins_int_bool, ↓ins_int_int, ↓ins_int_str, ↓ins_int_list, ↓ins_int_tuple, ↓ins_int_dict, ↓ins_str_none, ↓ins_str_bool, ↓ins_str_int, ↓ins_str_str, ↓ins_str_list, ↓ins_str_tuple, ↓ins_str_dict, ↓ins_list_none, ↓ins_list_bool, ↓ins_list_int, ↓ins_list_str, ↓ins_list_list, ↓ins_list_tuple, ↓ins_list_dict, ↓ins_tuple_none, ↓ins_tuple_bool, ↓ins_tuple_int, ↓ins_tuple_str, ↓ins_tuple_list, ↓ins_tuple_tuple, ↓ins_tuple_dict, ↓ins_dict_none, ↓ins_dict_bool, ↓ins_dict_int, ↓ins_dict_str, ↓ins_dict_list, ↓ins_dict_tuple, ↓ins_dict_dict, ↓in_sign, ↓onClr_0, ↓onClr_S, ↓onW_nil, ↓onW_cons, ↓onRe_0, ↓onRe_S, ↓onBk_nil, ↓onBk_cons, ↓onTwo_l, ↓S_par, ↓a_tup, ↓onG_name, ↓onG_tup, ↓onGs_nil, ↓onGs_cons, ↓onTurn_nx, ↓onTurn_ct, ↓onTurn_bk, ↓onTurn_rt, ↓onLD_d, ↓v_ixAd, ↓v_inAd, ↓v_notInAd, ↓S_upd, ↓v_zip, ↓Wp_flatA, ↓v_int, ↓v_intB, ↓v_min, ↓v_gin, ↓v_gnin, ↓v_gix, ↓Lvs_nil, ↓Lvs_cons, ↓Wp_lv, ↓Wp_calm, ↓Wp_popAt, ↓Wp_popLast, ↓Wp_plen, ↓Wp_lm, ↓Wp_index, ↓onFg_nx, ↓onFg_bk, ↓onFg_ct, ↓onFg_rt, ↓S_sw, ↓S_slm, ↓S_kput, ↓v_isN, ↓v_notN, ↓v_list, ↓v_listT, ↓v_tupL, ↓v_tupT, ↓v_dictDD, ↓v_dictPD, ↓v_rev2, ↓v_ins, ↓reduceIte]
  refine Fl_inv (I := fun rest s => (∀ d ∈ rest, d ∈ ds) ∧ ∃ x4 x5 x6 x7, s = [some (.list (ns.map PyData.int)), some p3, some (.list ds), some (.list ds), x4, x5, x6, x7, none, none]) ⟨fun _ h => h, _, _, _, _, rfl⟩ ?_ ?_
  · rintro d r s ⟨hr, x4, x5, x6, x7, rfl⟩
    have hd := gds d (hr d List.mem_cons_self)
    refine ⟨[some (.list (ns.map PyData.int)), some p3, some (.list ds), some (.list ds), some d, x5, x6, x7, none, none], rfl, ?_⟩
    simp only [↓S_next, ↓S_bk, ↓S_ct, ↓S_rtd, ↓S_seq, ↓S_set, ↓S_drop, ↓S_ret, ↓S_if, ↓S_asg, ↓S_put, ↓S_app, ↓S_ext, ↓S_for, ↓Wp_pure, ↓Wp_opt, ↓Wp_bind, ↓Wp_ite, ↓Wp_var, ↓Wp_op, ↓Wp_un, ↓Wp_test, ↓Wp_dand, ↓Wp_dor, ↓Wp_dnot, ↓Wp_dandV, ↓Wp_dorV, ↓Wp_dnotV, ↓Wp_chain, ↓Wp_cb, ↓Wp_cons, ↓Wp_nil, ↓Wp_tup, ↓Wp_lst, ↓Wp_part, ↓Wp_nopart, ↓Wp_slice, ↓Wp_isi, ↓Wp_isi2, ↓Wp_m1, ↓Wp_call, ↓Wp_pix, ↓Wp_callP0, ↓Wp_callP1, ↓Wp_comp, ↓Wp_disp, ↓Wp_dpnil, ↓Wp_dpcons, ↓Wp_flat, ↓onNx_nx, ↓onNx_bk, ↓onNx_ct, ↓onNx_rt, ↓onRt_rt, ↓onRt_nx, ↓onS_some, ↓onB_b, ↓onI_i, ↓onStr_s, ↓onL_l, ↓lk_0, ↓lk_S, ↓onSet_0, ↓onSet_S, ↓onPut_0, ↓onPut_S, ↓ite_dec, ↓ite_ndec, ↓ite_tt, ↓ite_ff, ↓ite_nt, ↓ite_nf, ↓v_gt, ↓v_lt, ↓v_le, ↓v_ge, ↓v_ltS, ↓v_add, ↓v_addS, ↓v_addL, ↓v_addT, ↓v_addN, ↓v_sub, ↓v_mul, ↓v_mulS, ↓v_mod, ↓v_fdiv, ↓v_pow, ↓v_neg, ↓v_lenL, ↓v_lenT, ↓v_lenS, ↓v_abs, ↓v_rev, ↓v_all, ↓v_any, ↓v_sum, ↓v_eq, ↓v_ne, ↓v_in, ↓v_notIn, ↓q_ii, ↓q_ss, ↓items_l, ↓items_t, ↓items_s, ↓items_r1, ↓items_r2, ↓sl_l, ↓sl_t, ↓sl_s, ↓put_1, ↓put_2, ↓pen_0, ↓pen_1, ↓pen_2, ↓v_ixL, ↓v_ixT, ↓ins_NoneType_none, ↓ins_NoneType_bool, ↓ins_NoneType_int, ↓ins_NoneType_str, ↓ins_NoneType_list, ↓ins_NoneType_tuple, ↓ins_NoneType_dict, ↓ins_bool_none, ↓ins_bool_bool, ↓ins_bool_int, ↓ins_bool_str, ↓ins_bool_list, ↓ins_bool_tuple, ↓ins_bool_dict, ↓ins_int_none, ↓ins_int_bool, ↓ins_int_int, ↓ins_int_str, ↓ins_int_list, ↓ins_int_tuple, ↓ins_int_dict, ↓ins_str_none, ↓ins_str_bool, ↓ins_str_int, ↓ins_str_str, ↓ins_str_list, ↓ins_str_tuple, ↓ins_str_dict, ↓ins_list_none, ↓ins_list_bool, ↓ins_list_int, ↓ins_list_str, ↓ins_list_list, ↓ins_list_tuple, ↓ins_list_dict, ↓ins_tuple_none, ↓ins_tuple_bool, ↓ins_tuple_int, ↓ins_tuple_str, ↓ins_tuple_list, ↓ins_tuple_tuple, ↓ins_tuple_dict, ↓ins_dict_none, ↓ins_dict_bool, ↓ins_dict_int, ↓ins_dict_str, ↓ins_dict_list, ↓ins_dict_tuple, ↓ins_dict_dict, ↓in_sign, ↓onClr_0, ↓onClr_S, ↓onW_nil, ↓onW_cons, ↓onRe_0, ↓onRe_S, ↓onBk_nil, ↓onBk_cons, ↓onTwo_l, ↓S_par, ↓a_tup, ↓onG_name, ↓onG_tup, ↓onGs_nil, ↓onGs_cons, ↓onTurn_nx, ↓onTurn_ct, ↓onTurn_bk, ↓onTurn_rt, ↓onLD_d, ↓v_ixAd, ↓v_inAd, ↓v_notInAd, ↓S_upd, ↓v_zip, ↓Wp_flatA, ↓v_int, ↓v_intB, ↓v_min, ↓v_gin, ↓v_gnin, ↓v_gix, ↓Lvs_nil, ↓Lvs_cons, ↓Wp_lv, ↓Wp_calm, ↓Wp_popAt, ↓Wp_popLast, ↓Wp_plen, ↓Wp_lm, ↓Wp_index, ↓onFg_nx, ↓onFg_bk, ↓onFg_ct, ↓onFg_rt, ↓S_sw, ↓S_slm, ↓S_kput, ↓v_isN, ↓v_notN, ↓v_list, ↓v_listT, ↓v_tupL, ↓v_tupT, ↓v_dictDD, ↓v_dictPD, ↓v_rev2, ↓v_ins, ↓reduceIte]
    refine Fl_inv (I := fun rest s => (∀ d ∈ rest, d ∈ ds) ∧ ∃ x5 x6 x7, s = [some (.list (ns.map PyData.int)), some p3, some (.list ds), some (.list ds), some d, x5, x6, x7, none, none]) ⟨fun _ h => h, _, _, _, rfl⟩ ?_ ?_
    · rintro e r' s ⟨hr', x5, x6, x7, rfl⟩
      have he := gds e (hr' e List.mem_cons_self)
      refine ⟨[some (.list (ns.map PyData.int)), some p3, some (.list ds), some (.list ds), some d, some e, x6, x7, none, none], rfl, ?_⟩
      simp only [↓S_next, ↓S_bk, ↓S_ct, ↓S_rtd, ↓S_seq, ↓S_set, ↓S_drop, ↓S_ret, ↓S_if, ↓S_asg, ↓S_put, ↓S_app, ↓S_ext, ↓S_for, ↓Wp_pure, ↓Wp_opt, ↓Wp_bind, ↓Wp_ite, ↓Wp_var, ↓Wp_op, ↓Wp_un, ↓Wp_test, ↓Wp_dand, ↓Wp_dor, ↓Wp_dnot, ↓Wp_dandV, ↓Wp_dorV, ↓Wp_dnotV, ↓Wp_chain, ↓Wp_cb, ↓Wp_cons, ↓Wp_nil, ↓Wp_tup, ↓Wp_lst, ↓Wp_part, ↓Wp_nopart, ↓Wp_slice, ↓Wp_isi, ↓Wp_isi2, ↓Wp_m1, ↓Wp_call, ↓Wp_pix, ↓Wp_callP0, ↓Wp_callP1, ↓Wp_comp, ↓Wp_disp, ↓Wp_dpnil, ↓Wp_dpcons, ↓Wp_flat, ↓onNx_nx, ↓onNx_bk, ↓onNx_ct, ↓onNx_rt, ↓onRt_rt, ↓onRt_nx, ↓onS_some, ↓onB_b, ↓onI_i, ↓onStr_s, ↓onL_l, ↓lk_0, ↓lk_S, ↓onSet_0, ↓onSet_S, ↓onPut_0, ↓onPut_S, ↓ite_dec, ↓ite_ndec, ↓ite_tt, ↓ite_ff, ↓ite_nt, ↓ite_nf, ↓v_gt, ↓v_lt, ↓v_le, ↓v_ge, ↓v_ltS, ↓v_add, ↓v_addS, ↓v_addL, ↓v_addT, ↓v_addN, ↓v_sub, ↓v_mul, ↓v_mulS, ↓v_mod, ↓v_fdiv, ↓v_pow, ↓v_neg, ↓v_lenL, ↓v_lenT, ↓v_lenS, ↓v_abs, ↓v_rev, ↓v_all, ↓v_any, ↓v_sum, ↓v_eq, ↓v_ne, ↓v_in, ↓v_notIn, ↓q_ii, ↓q_ss, ↓items_l, ↓items_t, ↓items_s, ↓items_r1, ↓items_r2, ↓sl_l, ↓sl_t, ↓sl_s, ↓put_1, ↓put_2, ↓pen_0, ↓pen_1, ↓pen_2, ↓v_ixL, ↓v_ixT, ↓ins_NoneType_none, ↓ins_NoneType_bool, ↓ins_NoneType_int, ↓ins_NoneType_str, ↓ins_NoneType_list, ↓ins_NoneType_tuple, ↓ins_NoneType_dict, ↓ins_bool_none, ↓ins_bool_bool, ↓ins_bool_int, ↓ins_bool_str, ↓ins_bool_list, ↓ins_bool_tuple, ↓ins_bool_dict, ↓ins_int_none, ↓ins_int_bool, ↓ins_int_int, ↓ins_int_str, ↓ins_int_list, ↓ins_int_tuple, ↓ins_int_dict, ↓ins_str_none, ↓ins_str_bool, ↓ins_str_int, ↓ins_str_str, ↓ins_str_list, ↓ins_str_tuple, ↓ins_str_dict, ↓ins_list_none, ↓ins_list_bool, ↓ins_list_int, ↓ins_list_str, ↓ins_list_list, ↓ins_list_tuple, ↓ins_list_dict, ↓ins_tuple_none, ↓ins_tuple_bool, ↓ins_tuple_int, ↓ins_tuple_str, ↓ins_tuple_list, ↓ins_tuple_tuple, ↓ins_tuple_dict, ↓ins_dict_none, ↓ins_dict_bool, ↓ins_dict_int, ↓ins_dict_str, ↓ins_dict_list, ↓ins_dict_tuple, ↓ins_dict_dict, ↓in_sign, ↓onClr_0, ↓onClr_S, ↓onW_nil, ↓onW_cons, ↓onRe_0, ↓onRe_S, ↓onBk_nil, ↓onBk_cons, ↓onTwo_l, ↓S_par, ↓a_tup, ↓onG_name, ↓onG_tup, ↓onGs_nil, ↓onGs_cons, ↓onTurn_nx, ↓onTurn_ct, ↓onTurn_bk, ↓onTurn_rt, ↓onLD_d, ↓v_ixAd, ↓v_inAd, ↓v_notInAd, ↓S_upd, ↓v_zip, ↓Wp_flatA, ↓v_int, ↓v_intB, ↓v_min, ↓v_gin, ↓v_gnin, ↓v_gix, ↓Lvs_nil, ↓Lvs_cons, ↓Wp_lv, ↓Wp_calm, ↓Wp_popAt, ↓Wp_popLast, ↓Wp_plen, ↓Wp_lm, ↓Wp_index, ↓onFg_nx, ↓onFg_bk, ↓onFg_ct, ↓onFg_rt, ↓S_sw, ↓S_slm, ↓S_kput, ↓v_isN, ↓v_notN, ↓v_list, ↓v_listT, ↓v_tupL, ↓v_tupT, ↓v_dictDD, ↓v_dictPD, ↓v_rev2, ↓v_ins, ↓reduceIte, MD.eq (goes_eq hd he), MD.eq (law_key_eq hd.keyed), MD.eq (law_key_eq he.keyed), ltDt_keys hd he]
      rw [eqB_sh hd.sh he.sh, onS_some, eqB_self (shd_bool (b := pLt d e)), onS_some]
      have fin : (∀ d ∈ r', d ∈ ds) := fun d hd => hr' d (List.mem_cons_of_mem _ hd)
      refine ite_i (fun _ => ?_) fun _ => ?_
      · rw [if_neg (by decide)]
        exact ⟨fin, _, _, _, rfl⟩
      · exact ⟨fin, _, _, _, rfl⟩
    · rintro s ⟨_, x5, x6, x7, rfl⟩
      exact ⟨fun d hd => hr d (List.mem_cons_of_mem _ hd), _, _, _, _, rfl⟩
  · rintro s ⟨_, x4, x5, x6, x7, rfl⟩
    simp only [↓S_next, ↓S_bk, ↓S_ct, ↓S_rtd, ↓S_seq, ↓S_set, ↓S_drop, ↓S_ret, ↓S_if, ↓S_asg, ↓S_put, ↓S_app, ↓S_ext, ↓S_for, ↓Wp_pure, ↓Wp_opt, ↓Wp_bind, ↓Wp_ite, ↓Wp_var, ↓Wp_op, ↓Wp_un, ↓Wp_test, ↓Wp_dand, ↓Wp_dor, ↓Wp_dnot, ↓Wp_dandV, ↓Wp_dorV, ↓Wp_dnotV, ↓Wp_chain, ↓Wp_cb, ↓Wp_cons, ↓Wp_nil, ↓Wp_tup, ↓Wp_lst, ↓Wp_part, ↓Wp_nopart, ↓Wp_slice, ↓Wp_isi, ↓Wp_isi2, ↓Wp_m1, ↓Wp_call, ↓Wp_pix, ↓Wp_callP0, ↓Wp_callP1, ↓Wp_comp, ↓Wp_disp, ↓Wp_dpnil, ↓Wp_dpcons, ↓Wp_flat, ↓onNx_nx, ↓onNx_bk, ↓onNx_ct, ↓onNx_rt, ↓onRt_rt, ↓onRt_nx, ↓onS_some, ↓onB_b, ↓onI_i, ↓onStr_s, ↓onL_l, ↓lk_0, ↓lk_S, ↓onSet_0, ↓onSet_S, ↓onPut_0, ↓onPut_S, ↓ite_dec, ↓ite_ndec, ↓ite_tt, ↓ite_ff, ↓ite_nt, ↓ite_nf, ↓v_gt, ↓v_lt, ↓v_le, ↓v_ge, ↓v_ltS, ↓v_add, ↓v_addS, ↓v_addL, ↓v_addT, ↓v_addN, ↓v_sub, ↓v_mul, ↓v_mulS, ↓v_mod, ↓v_fdiv, ↓v_pow, ↓v_neg, ↓v_lenL, ↓v_lenT, ↓v_lenS, ↓v_abs, ↓v_rev, ↓v_all, ↓v_any, ↓v_sum, ↓v_eq, ↓v_ne, ↓v_in, ↓v_notIn, ↓q_ii, ↓q_ss, ↓items_l, ↓items_t, ↓items_s, ↓items_r1, ↓items_r2, ↓sl_l, ↓sl_t, ↓sl_s, ↓put_1, ↓put_2, ↓pen_0, ↓pen_1, ↓pen_2, ↓v_ixL, ↓v_ixT, ↓ins_NoneType_none, ↓ins_NoneType_bool, ↓ins_NoneType_int, ↓ins_NoneType_str, ↓ins_NoneType_list, ↓ins_NoneType_tuple, ↓ins_NoneType_dict, ↓ins_bool_none, ↓ins_bool_bool, ↓ins_bool_int, ↓ins_bool_str, ↓ins_bool_list, ↓ins_bool_tuple, ↓ins_bool_dict, ↓ins_int_none, ↓ins_int_bool, ↓ins_int_int, ↓ins_int_str, ↓ins_int_list, ↓ins_int_tuple, ↓ins_int_dict, ↓ins_str_none, ↓ins_str_bool, ↓ins_str_int, ↓ins_str_str, ↓ins_str_list, ↓ins_str_tuple, ↓ins_str_dict, ↓ins_list_none, ↓ins_list_bool, ↓ins_list_int, ↓ins_list_str, ↓ins_list_list, ↓ins_list_tuple, ↓ins_list_dict, ↓ins_tuple_none, ↓ins_tuple_bool, ↓ins_tuple_int, ↓ins_tuple_str, ↓ins_tuple_list, ↓ins_tuple_tuple, ↓ins_tuple_dict, ↓ins_dict_none, ↓ins_dict_bool, ↓ins_dict_int, ↓ins_dict_str, ↓ins_dict_list, ↓ins_dict_tuple, ↓ins_dict_dict, ↓in_sign, ↓onClr_0, ↓onClr_S, ↓onW_nil, ↓onW_cons, ↓onRe_0, ↓onRe_S, ↓onBk_nil, ↓onBk_cons, ↓onTwo_l, ↓S_par, ↓a_tup, ↓onG_name, ↓onG_tup, ↓onGs_nil, ↓onGs_cons, ↓onTurn_nx, ↓onTurn_ct, ↓onTurn_bk, ↓onTurn_rt, ↓onLD_d, ↓v_ixAd, ↓v_inAd, ↓v_notInAd, ↓S_upd, ↓v_zip, ↓Wp_flatA, ↓v_int, ↓v_intB, ↓v_min, ↓v_gin, ↓v_gnin, ↓v_gix, ↓Lvs_nil, ↓Lvs_cons, ↓Wp_lv, ↓Wp_calm, ↓Wp_popAt, ↓Wp_popLast, ↓Wp_plen, ↓Wp_lm, ↓Wp_index, ↓onFg_nx, ↓onFg_bk, ↓onFg_ct, ↓onFg_rt, ↓S_sw, ↓S_slm, ↓S_kput, ↓v_isN, ↓v_notN, ↓v_list, ↓v_listT, ↓v_tupL, ↓v_tupT, ↓v_dictDD, ↓v_dictPD, ↓v_rev2, ↓v_ins, ↓reduceIte]
    refine ⟨lineB (by simp), ?_⟩
    refine Fl_inv (I := fun rest s => ∃ done x4 x8, ds = done ++ rest ∧ s = [some (.list (ns.map PyData.int)), some p3, some (.list ds), some (.list ds), x4, x5, x6, some (.list (isort pLt done)), x8, none]) ⟨[], x4, none, rfl, rfl⟩ ?_ ?_
    · rintro d r s ⟨done, x4, x8, hdn, rfl⟩
      have hd := gds d (by rw [hdn]; simp)
      refine ⟨[some (.list (ns.map PyData.int)), some p3, some (.list ds), some (.list ds), x4, x5, x6, some (.list (isort pLt done)), some d, none], rfl, ?_⟩
      simp only [↓S_next, ↓S_bk, ↓S_ct, ↓S_rtd, ↓S_seq, ↓S_set, ↓S_drop, ↓S_ret, ↓S_if, ↓S_asg, ↓S_put, ↓S_app, ↓S_ext, ↓S_for, ↓Wp_pure, ↓Wp_opt, ↓Wp_bind, ↓Wp_ite, ↓Wp_var, ↓Wp_op, ↓Wp_un, ↓Wp_test, ↓Wp_dand, ↓Wp_dor, ↓Wp_dnot, ↓Wp_dandV, ↓Wp_dorV, ↓Wp_dnotV, ↓Wp_chain, ↓Wp_cb, ↓Wp_cons, ↓Wp_nil, ↓Wp_tup, ↓Wp_lst, ↓Wp_part, ↓Wp_nopart, ↓Wp_slice, ↓Wp_isi, ↓Wp_isi2, ↓Wp_m1, ↓Wp_call, ↓Wp_pix, ↓Wp_callP0, ↓Wp_callP1, ↓Wp_comp, ↓Wp_disp, ↓Wp_dpnil, ↓Wp_dpcons, ↓Wp_flat, ↓onNx_nx, ↓onNx_bk, ↓onNx_ct, ↓onNx_rt, ↓onRt_rt, ↓onRt_nx, ↓onS_some, ↓onB_b, ↓onI_i, ↓onStr_s, ↓onL_l, ↓lk_0, ↓lk_S, ↓onSet_0, ↓onSet_S, ↓onPut_0, ↓onPut_S, ↓ite_dec, ↓ite_ndec, ↓ite_tt, ↓ite_ff, ↓ite_nt, ↓ite_nf, ↓v_gt, ↓v_lt, ↓v_le, ↓v_ge, ↓v_ltS, ↓v_add, ↓v_addS, ↓v_addL, ↓v_addT, ↓v_addN, ↓v_sub, ↓v_mul, ↓v_mulS, ↓v_mod, ↓v_fdiv, ↓v_pow, ↓v_neg, ↓v_lenL, ↓v_lenT, ↓v_lenS, ↓v_abs, ↓v_rev, ↓v_all, ↓v_any, ↓v_sum, ↓v_eq, ↓v_ne, ↓v_in, ↓v_notIn, ↓q_ii, ↓q_ss, ↓items_l, ↓items_t, ↓items_s, ↓items_r1, ↓items_r2, ↓sl_l, ↓sl_t, ↓sl_s, ↓put_1, ↓put_2, ↓pen_0, ↓pen_1, ↓pen_2, ↓v_ixL, ↓v_ixT, ↓ins_NoneType_none, ↓ins_NoneType_bool, ↓ins_NoneType_int, ↓ins_NoneType_str, ↓ins_NoneType_list, ↓ins_NoneType_tuple, ↓ins_NoneType_dict, ↓ins_bool_none, ↓ins_bool_bool, ↓ins_bool_int, ↓ins_bool_str, ↓ins_bool_list, ↓ins_bool_tuple, ↓ins_bool_dict, ↓ins_int_none, ↓ins_int_bool, ↓ins_int_int, ↓ins_int_str, ↓ins_int_list, ↓ins_int_tuple, ↓ins_int_dict, ↓ins_str_none, ↓ins_str_bool, ↓ins_str_int, ↓ins_str_str, ↓ins_str_list, ↓ins_str_tuple, ↓ins_str_dict, ↓ins_list_none, ↓ins_list_bool, ↓ins_list_int, ↓ins_list_str, ↓ins_list_list, ↓ins_list_tuple, ↓ins_list_dict, ↓ins_tuple_none, ↓ins_tuple_bool, ↓ins_tuple_int, ↓ins_tuple_str, ↓ins_tuple_list, ↓ins_tuple_tuple, ↓ins_tuple_dict, ↓ins_dict_none, ↓ins_dict_bool, ↓ins_dict_int, ↓ins_dict_str, ↓ins_dict_list, ↓ins_dict_tuple, ↓ins_dict_dict, ↓in_sign, ↓onClr_0, ↓onClr_S, ↓onW_nil, ↓onW_cons, ↓onRe_0, ↓onRe_S, ↓onBk_nil, ↓onBk_cons, ↓onTwo_l, ↓S_par, ↓a_tup, ↓onG_name, ↓onG_tup, ↓onGs_nil, ↓onGs_cons, ↓onTurn_nx, ↓onTurn_ct, ↓onTurn_bk, ↓onTurn_rt, ↓onLD_d, ↓v_ixAd, ↓v_inAd, ↓v_notInAd, ↓S_upd, ↓v_zip, ↓Wp_flatA, ↓v_int, ↓v_intB, ↓v_min, ↓v_gin, ↓v_gnin, ↓v_gix, ↓Lvs_nil, ↓Lvs_cons, ↓Wp_lv, ↓Wp_calm, ↓Wp_popAt, ↓Wp_popLast, ↓Wp_plen, ↓Wp_lm, ↓Wp_index, ↓onFg_nx, ↓onFg_bk, ↓onFg_ct, ↓onFg_rt, ↓S_sw, ↓S_slm, ↓S_kput, ↓v_isN, ↓v_notN, ↓v_list, ↓v_listT, ↓v_tupL, ↓v_tupT, ↓v_dictDD, ↓v_dictPD, ↓v_rev2, ↓v_ins, ↓reduceIte]
      have hmem : ∀ y ∈ isort pLt done, Good y := fun y hy => gds y (by rw [hdn]; exact List.mem_append_left _ (isort_mem.mp hy))
      have hld : done.length ≤ 14 := by
        have := congrArg List.length hdn
        rw [List.length_append] at this
        omega
      refine Cp_fm (fun y => pLt y d) (fun y => y) (by rw [isort_len]; exact lineB (by simp; omega)) (fun y hy => ?_) ?_
      · have gy := hmem y hy
        refine ⟨[some (.list (ns.map PyData.int)), some p3, some (.list ds), some (.list ds), some y, x5, x6, some (.list (isort pLt done)), some d, none], rfl, ?_⟩
        simp only [↓S_next, ↓S_bk, ↓S_ct, ↓S_rtd, ↓S_seq, ↓S_set, ↓S_drop, ↓S_ret, ↓S_if, ↓S_asg, ↓S_put, ↓S_app, ↓S_ext, ↓S_for, ↓Wp_pure, ↓Wp_opt, ↓Wp_bind, ↓Wp_ite, ↓Wp_var, ↓Wp_op, ↓Wp_un, ↓Wp_test, ↓Wp_dand, ↓Wp_dor, ↓Wp_dnot, ↓Wp_dandV, ↓Wp_dorV, ↓Wp_dnotV, ↓Wp_chain, ↓Wp_cb, ↓Wp_cons, ↓Wp_nil, ↓Wp_tup, ↓Wp_lst, ↓Wp_part, ↓Wp_nopart, ↓Wp_slice, ↓Wp_isi, ↓Wp_isi2, ↓Wp_m1, ↓Wp_call, ↓Wp_pix, ↓Wp_callP0, ↓Wp_callP1, ↓Wp_comp, ↓Wp_disp, ↓Wp_dpnil, ↓Wp_dpcons, ↓Wp_flat, ↓onNx_nx, ↓onNx_bk, ↓onNx_ct, ↓onNx_rt, ↓onRt_rt, ↓onRt_nx, ↓onS_some, ↓onB_b, ↓onI_i, ↓onStr_s, ↓onL_l, ↓lk_0, ↓lk_S, ↓onSet_0, ↓onSet_S, ↓onPut_0, ↓onPut_S, ↓ite_dec, ↓ite_ndec, ↓ite_tt, ↓ite_ff, ↓ite_nt, ↓ite_nf, ↓v_gt, ↓v_lt, ↓v_le, ↓v_ge, ↓v_ltS, ↓v_add, ↓v_addS, ↓v_addL, ↓v_addT, ↓v_addN, ↓v_sub, ↓v_mul, ↓v_mulS, ↓v_mod, ↓v_fdiv, ↓v_pow, ↓v_neg, ↓v_lenL, ↓v_lenT, ↓v_lenS, ↓v_abs, ↓v_rev, ↓v_all, ↓v_any, ↓v_sum, ↓v_eq, ↓v_ne, ↓v_in, ↓v_notIn, ↓q_ii, ↓q_ss, ↓items_l, ↓items_t, ↓items_s, ↓items_r1, ↓items_r2, ↓sl_l, ↓sl_t, ↓sl_s, ↓put_1, ↓put_2, ↓pen_0, ↓pen_1, ↓pen_2, ↓v_ixL, ↓v_ixT, ↓ins_NoneType_none, ↓ins_NoneType_bool, ↓ins_NoneType_int, ↓ins_NoneType_str, ↓ins_NoneType_list, ↓ins_NoneType_tuple, ↓ins_NoneType_dict, ↓ins_bool_none, ↓ins_bool_bool, ↓ins_bool_int, ↓ins_bool_str, ↓ins_bool_list, ↓ins_bool_tuple, ↓ins_bool_dict, ↓ins_int_none, ↓ins_int_bool, ↓ins_int_int, ↓ins_int_str, ↓ins_int_list, ↓ins_int_tuple, ↓ins_int_dict, ↓ins_str_none, ↓ins_str_bool, ↓ins_str_int, ↓ins_str_str, ↓ins_str_list, ↓ins_str_tuple, ↓ins_str_dict, ↓ins_list_none, ↓ins_list_bool, ↓ins_list_int, ↓ins_list_str, ↓ins_list_list, ↓ins_list_tuple, ↓ins_list_dict, ↓ins_tuple_none, ↓ins_tuple_bool, ↓ins_tuple_int, ↓ins_tuple_str, ↓ins_tuple_list, ↓ins_tuple_tuple, ↓ins_tuple_dict, ↓ins_dict_none, ↓ins_dict_bool, ↓ins_dict_int, ↓ins_dict_str, ↓ins_dict_list, ↓ins_dict_tuple, ↓ins_dict_dict, ↓in_sign, ↓onClr_0, ↓onClr_S, ↓onW_nil, ↓onW_cons, ↓onRe_0, ↓onRe_S, ↓onBk_nil, ↓onBk_cons, ↓onTwo_l, ↓S_par, ↓a_tup, ↓onG_name, ↓onG_tup, ↓onGs_nil, ↓onGs_cons, ↓onTurn_nx, ↓onTurn_ct, ↓onTurn_bk, ↓onTurn_rt, ↓onLD_d, ↓v_ixAd, ↓v_inAd, ↓v_notInAd, ↓S_upd, ↓v_zip, ↓Wp_flatA, ↓v_int, ↓v_intB, ↓v_min, ↓v_gin, ↓v_gnin, ↓v_gix, ↓Lvs_nil, ↓Lvs_cons, ↓Wp_lv, ↓Wp_calm, ↓Wp_popAt, ↓Wp_popLast, ↓Wp_plen, ↓Wp_lm, ↓Wp_index, ↓onFg_nx, ↓onFg_bk, ↓onFg_ct, ↓onFg_rt, ↓S_sw, ↓S_slm, ↓S_kput, ↓v_isN, ↓v_notN, ↓v_list, ↓v_listT, ↓v_tupL, ↓v_tupT, ↓v_dictDD, ↓v_dictPD, ↓v_rev2, ↓v_ins, ↓reduceIte, MD.eq (law_key_eq hd.keyed), MD.eq (law_key_eq gy.keyed), ltDt_keys gy hd]
        refine ⟨trivial, ite_i (fun _ => ⟨trivial, rfl⟩) fun _ => rfl⟩
      · rw [List.map_id', List.nil_append]
        have hcl : ((isort pLt done).filter fun y => pLt y d).length ≤ 14 := Nat.le_trans (List.length_filter_le _ _) (by rw [isort_len]; exact hld)
        simp only [↓S_next, ↓S_bk, ↓S_ct, ↓S_rtd, ↓S_seq, ↓S_set, ↓S_drop, ↓S_ret, ↓S_if, ↓S_asg, ↓S_put, ↓S_app, ↓S_ext, ↓S_for, ↓Wp_pure, ↓Wp_opt, ↓Wp_bind, ↓Wp_ite, ↓Wp_var, ↓Wp_op, ↓Wp_un, ↓Wp_test, ↓Wp_dand, ↓Wp_dor, ↓Wp_dnot, ↓Wp_dandV, ↓Wp_dorV, ↓Wp_dnotV, ↓Wp_chain, ↓Wp_cb, ↓Wp_cons, ↓Wp_nil, ↓Wp_tup, ↓Wp_lst, ↓Wp_part, ↓Wp_nopart, ↓Wp_slice, ↓Wp_isi, ↓Wp_isi2, ↓Wp_m1, ↓Wp_call, ↓Wp_pix, ↓Wp_callP0, ↓Wp_callP1, ↓Wp_comp, ↓Wp_disp, ↓Wp_dpnil, ↓Wp_dpcons, ↓Wp_flat, ↓onNx_nx, ↓onNx_bk, ↓onNx_ct, ↓onNx_rt, ↓onRt_rt, ↓onRt_nx, ↓onS_some, ↓onB_b, ↓onI_i, ↓onStr_s, ↓onL_l, ↓lk_0, ↓lk_S, ↓onSet_0, ↓onSet_S, ↓onPut_0, ↓onPut_S, ↓ite_dec, ↓ite_ndec, ↓ite_tt, ↓ite_ff, ↓ite_nt, ↓ite_nf, ↓v_gt, ↓v_lt, ↓v_le, ↓v_ge, ↓v_ltS, ↓v_add, ↓v_addS, ↓v_addL, ↓v_addT, ↓v_addN, ↓v_sub, ↓v_mul, ↓v_mulS, ↓v_mod, ↓v_fdiv, ↓v_pow, ↓v_neg, ↓v_lenL, ↓v_lenT, ↓v_lenS, ↓v_abs, ↓v_rev, ↓v_all, ↓v_any, ↓v_sum, ↓v_eq, ↓v_ne, ↓v_in, ↓v_notIn, ↓q_ii, ↓q_ss, ↓items_l, ↓items_t, ↓items_s, ↓items_r1, ↓items_r2, ↓sl_l, ↓sl_t, ↓sl_s, ↓put_1, ↓put_2, ↓pen_0, ↓pen_1, ↓pen_2, ↓v_ixL, ↓v_ixT, ↓ins_NoneType_none, ↓ins_NoneType_bool, ↓ins_NoneType_int, ↓ins_NoneType_str, ↓ins_NoneType_list, ↓ins_NoneType_tuple, ↓ins_NoneType_dict, ↓ins_bool_none, ↓ins_bool_bool, ↓ins_bool_int, ↓ins_bool_str, ↓ins_bool_list, ↓ins_bool_tuple, ↓ins_bool_dict, ↓ins_int_none, ↓ins_int_bool, ↓ins_int_int, ↓ins_int_str, ↓ins_int_list, ↓ins_int_tuple, ↓ins_int_dict, ↓ins_str_none, ↓ins_str_bool, ↓ins_str_int, ↓ins_str_str, ↓ins_str_list, ↓ins_str_tuple, ↓ins_str_dict, ↓ins_list_none, ↓ins_list_bool, ↓ins_list_int, ↓ins_list_str, ↓ins_list_list, ↓ins_list_tuple, ↓ins_list_dict, ↓ins_tuple_none, ↓ins_tuple_bool, ↓ins_tuple_int, ↓ins_tuple_str, ↓ins_tuple_list, ↓ins_tuple_tuple, ↓ins_tuple_dict, ↓ins_dict_none, ↓ins_dict_bool, ↓ins_dict_int, ↓ins_dict_str, ↓ins_dict_list, ↓ins_dict_tuple, ↓ins_dict_dict, ↓in_sign, ↓onClr_0, ↓onClr_S, ↓onW_nil, ↓onW_cons, ↓onRe_0, ↓onRe_S, ↓onBk_nil, ↓onBk_cons, ↓onTwo_l, ↓S_par, ↓a_tup, ↓onG_name, ↓onG_tup, ↓onGs_nil, ↓onGs_cons, ↓onTurn_nx, ↓onTurn_ct, ↓onTurn_bk, ↓onTurn_rt, ↓onLD_d, ↓v_ixAd, ↓v_inAd, ↓v_notInAd, ↓S_upd, ↓v_zip, ↓Wp_flatA, ↓v_int, ↓v_intB, ↓v_min, ↓v_gin, ↓v_gnin, ↓v_gix, ↓Lvs_nil, ↓Lvs_cons, ↓Wp_lv, ↓Wp_calm, ↓Wp_popAt, ↓Wp_popLast, ↓Wp_plen, ↓Wp_lm, ↓Wp_index, ↓onFg_nx, ↓onFg_bk, ↓onFg_ct, ↓onFg_rt, ↓S_sw, ↓S_slm, ↓S_kput, ↓v_isN, ↓v_notN, ↓v_list, ↓v_listT, ↓v_tupL, ↓v_tupT, ↓v_dictDD, ↓v_dictPD, ↓v_rev2, ↓v_ins, ↓reduceIte]
        refine ⟨by simp [flatA, DR.flat, hd.fl], ⟨by rw [isort_len]; exact lineB_lt (by omega), by omega, by omega⟩, done ++ [d], x4, some d, by rw [hdn]; simp, ?_⟩
        rw [show (((List.filter (fun y => pLt y d) (isort pLt done)).length : Int)).toNat = (List.filter (fun y => pLt y d) (isort pLt done)).length by omega,
          ins_at swo_p (isort_srtd swo_p done) (fun y hy => ?_), isort_snoc]
        have hne : nameD y ≠ nameD d := by
          rw [hdn] at dds
          exact (List.pairwise_append.mp dds).2.2 y (isort_mem.mp hy) d List.mem_cons_self
        exact pLt_total hd.keyed (hmem y hy).keyed (Ne.symm hne)
    · rintro s ⟨done, x4, x8, hdn, rfl⟩
      rw [List.append_nil] at hdn
      subst hdn
      simp only [↓S_next, ↓S_bk, ↓S_ct, ↓S_rtd, ↓S_seq, ↓S_set, ↓S_drop, ↓S_ret, ↓S_if, ↓S_asg, ↓S_put, ↓S_app, ↓S_ext, ↓S_for, ↓Wp_pure, ↓Wp_opt, ↓Wp_bind, ↓Wp_ite, ↓Wp_var, ↓Wp_op, ↓Wp_un, ↓Wp_test, ↓Wp_dand, ↓Wp_dor, ↓Wp_dnot, ↓Wp_dandV, ↓Wp_dorV, ↓Wp_dnotV, ↓Wp_chain, ↓Wp_cb, ↓Wp_cons, ↓Wp_nil, ↓Wp_tup, ↓Wp_lst, ↓Wp_part, ↓Wp_nopart, ↓Wp_slice, ↓Wp_isi, ↓Wp_isi2, ↓Wp_m1, ↓Wp_call, ↓Wp_pix, ↓Wp_callP0, ↓Wp_callP1, ↓Wp_comp, ↓Wp_disp, ↓Wp_dpnil, ↓Wp_dpcons, ↓Wp_flat, ↓onNx_nx, ↓onNx_bk, ↓onNx_ct, ↓onNx_rt, ↓onRt_rt, ↓onRt_nx, ↓onS_some, ↓onB_b, ↓onI_i, ↓onStr_s, ↓onL_l, ↓lk_0, ↓lk_S, ↓onSet_0, ↓onSet_S, ↓onPut_0, ↓onPut_S, ↓ite_dec, ↓ite_ndec, ↓ite_tt, ↓ite_ff, ↓ite_nt, ↓ite_nf, ↓v_gt, ↓v_lt, ↓v_le, ↓v_ge, ↓v_ltS, ↓v_add, ↓v_addS, ↓v_addL, ↓v_addT, ↓v_addN, ↓v_sub, ↓v_mul, ↓v_mulS, ↓v_mod, ↓v_fdiv, ↓v_pow, ↓v_neg, ↓v_lenL, ↓v_lenT, ↓v_lenS, ↓v_abs, ↓v_rev, ↓v_all, ↓v_any, ↓v_sum, ↓v_eq, ↓v_ne, ↓v_in, ↓v_notIn, ↓q_ii, ↓q_ss, ↓items_l, ↓items_t, ↓items_s, ↓items_r1, ↓items_r2, ↓sl_l, ↓sl_t, ↓sl_s, ↓put_1, ↓put_2, ↓pen_0, ↓pen_1, ↓pen_2, ↓v_ixL, ↓v_ixT, ↓ins_NoneType_none, ↓ins_NoneType_bool, ↓ins_NoneType_int, ↓ins_NoneType_str, ↓ins_NoneType_list, ↓ins_NoneType_tuple, ↓ins_NoneType_dict, ↓ins_bool_none, ↓ins_bool_bool, ↓ins_bool_int, ↓ins_bool_str, ↓ins_bool_list, ↓ins_bool_tuple, ↓ins_bool_dict, ↓ins_int_none, ↓ins_int_bool, ↓ins_int_int, ↓ins_int_str, ↓ins_int_list, ↓ins_int_tuple, ↓ins_int_dict, ↓ins_str_none, ↓ins_str_bool, ↓ins_str_int, ↓ins_str_str, ↓ins_str_list, ↓ins_str_tuple, ↓ins_str_dict, ↓ins_list_none, ↓ins_list_bool, ↓ins_list_int, ↓ins_list_str, ↓ins_list_list, ↓ins_list_tuple, ↓ins_list_dict, ↓ins_tuple_none, ↓ins_tuple_bool, ↓ins_tuple_int, ↓ins_tuple_str, ↓ins_tuple_list, ↓ins_tuple_tuple, ↓ins_tuple_dict, ↓ins_dict_none, ↓ins_dict_bool, ↓ins_dict_int, ↓ins_dict_str, ↓ins_dict_list, ↓ins_dict_tuple, ↓ins_dict_dict, ↓in_sign, ↓onClr_0, ↓onClr_S, ↓onW_nil, ↓onW_cons, ↓onRe_0, ↓onRe_S, ↓onBk_nil, ↓onBk_cons, ↓onTwo_l, ↓S_par, ↓a_tup, ↓onG_name, ↓onG_tup, ↓onGs_nil, ↓onGs_cons, ↓onTurn_nx, ↓onTurn_ct, ↓onTurn_bk, ↓onTurn_rt, ↓onLD_d, ↓v_ixAd, ↓v_inAd, ↓v_notInAd, ↓S_upd, ↓v_zip, ↓Wp_flatA, ↓v_int, ↓v_intB, ↓v_min, ↓v_gin, ↓v_gnin, ↓v_gix, ↓Lvs_nil, ↓Lvs_cons, ↓Wp_lv, ↓Wp_calm, ↓Wp_popAt, ↓Wp_popLast, ↓Wp_plen, ↓Wp_lm, ↓Wp_index, ↓onFg_nx, ↓onFg_bk, ↓onFg_ct, ↓onFg_rt, ↓S_sw, ↓S_slm, ↓S_kput, ↓v_isN, ↓v_notN, ↓v_list, ↓v_listT, ↓v_tupL, ↓v_tupT, ↓v_dictDD, ↓v_dictPD, ↓v_rev2, ↓v_ins, ↓reduceIte]
      have hin := in_order_eq gds
      have gso : ∀ y ∈ isort pLt ds, Good y := fun y hy => gds y (isort_mem.mp hy)
      have hin2 := in_order_eq gso
      have hss : isort pLt (isort pLt ds) = isort pLt ds := ((isort_uniq swo_p (isort_srtd swo_p ds) (SrtO.Stb.refl _))).symm
      have hso : Shd 2 (.list (isort pLt ds)) := shd_list fun d hd => (gso d hd).sh
      have hin0 := in_order_eq (ds := []) fun _ h => nomatch h
      refine ⟨by decide, ?_⟩
      refine Fl_inv (I := fun _ s => ∃ x6 x9, s = [some (.list (ns.map PyData.int)), some p3, some (.list ds), some (.list ds), x4, x5, x6, some (.list (isort pLt ds)), x8, x9]) ⟨none, none, rfl⟩ ?_ ?_
      · rintro d r s ⟨x6, x9, rfl⟩
        refine ⟨[some (.list (ns.map PyData.int)), some p3, some (.list ds), some (.list ds), x4, x5, x6, some (.list (isort pLt ds)), x8, some d], rfl, ?_⟩
        simp only [↓S_next, ↓S_bk, ↓S_ct, ↓S_rtd, ↓S_seq, ↓S_set, ↓S_drop, ↓S_ret, ↓S_if, ↓S_asg, ↓S_put, ↓S_app, ↓S_ext, ↓S_for, ↓Wp_pure, ↓Wp_opt, ↓Wp_bind, ↓Wp_ite, ↓Wp_var, ↓Wp_op, ↓Wp_un, ↓Wp_test, ↓Wp_dand, ↓Wp_dor, ↓Wp_dnot, ↓Wp_dandV, ↓Wp_dorV, ↓Wp_dnotV, ↓Wp_chain, ↓Wp_cb, ↓Wp_cons, ↓Wp_nil, ↓Wp_tup, ↓Wp_lst, ↓Wp_part, ↓Wp_nopart, ↓Wp_slice, ↓Wp_isi, ↓Wp_isi2, ↓Wp_m1, ↓Wp_call, ↓Wp_pix, ↓Wp_callP0, ↓Wp_callP1, ↓Wp_comp, ↓Wp_disp, ↓Wp_dpnil, ↓Wp_dpcons, ↓Wp_flat, ↓onNx_nx, ↓onNx_bk, ↓onNx_ct, ↓onNx_rt, ↓onRt_rt, ↓onRt_nx, ↓onS_some, ↓onB_b, ↓onI_i, ↓onStr_s, ↓onL_l, ↓lk_0, ↓lk_S, ↓onSet_0, ↓onSet_S, ↓onPut_0, ↓onPut_S, ↓ite_dec, ↓ite_ndec, ↓ite_tt, ↓ite_ff, ↓ite_nt, ↓ite_nf, ↓v_gt, ↓v_lt, ↓v_le, ↓v_ge, ↓v_ltS, ↓v_add, ↓v_addS, ↓v_addL, ↓v_addT, ↓v_addN, ↓v_sub, ↓v_mul, ↓v_mulS, ↓v_mod, ↓v_fdiv, ↓v_pow, ↓v_neg, ↓v_lenL, ↓v_lenT, ↓v_lenS, ↓v_abs, ↓v_rev, ↓v_all, ↓v_any, ↓v_sum, ↓v_eq, ↓v_ne, ↓v_in, ↓v_notIn, ↓q_ii, ↓q_ss, ↓items_l, ↓items_t, ↓items_s, ↓items_r1, ↓items_r2, ↓sl_l, ↓sl_t, ↓sl_s, ↓put_1, ↓put_2, ↓pen_0, ↓pen_1, ↓pen_2, ↓v_ixL, ↓v_ixT, ↓ins_NoneType_none, ↓ins_NoneType_bool, ↓ins_NoneType_int, ↓ins_NoneType_str, ↓ins_NoneType_list, ↓ins_NoneType_tuple, ↓ins_NoneType_dict, ↓ins_bool_none, ↓ins_bool_bool, ↓ins_bool_int, ↓ins_bool_str, ↓ins_bool_list, ↓ins_bool_tuple, ↓ins_bool_dict, ↓ins_int_none, ↓ins_int_bool, ↓ins_int_int, ↓ins_int_str, ↓ins_int_list, ↓ins_int_tuple, ↓ins_int_dict, ↓ins_str_none, ↓ins_str_bool, ↓ins_str_int, ↓ins_str_str, ↓ins_str_list, ↓ins_str_tuple, ↓ins_str_dict, ↓ins_list_none, ↓ins_list_bool, ↓ins_list_int, ↓ins_list_str, ↓ins_list_list, ↓ins_list_tuple, ↓ins_list_dict, ↓ins_tuple_none, ↓ins_tuple_bool, ↓ins_tuple_int, ↓ins_tuple_str, ↓ins_tuple_list, ↓ins_tuple_tuple, ↓ins_tuple_dict, ↓ins_dict_none, ↓ins_dict_bool, ↓ins_dict_int, ↓ins_dict_str, ↓ins_dict_list, ↓ins_dict_tuple, ↓ins_dict_dict, ↓in_sign, ↓onClr_0, ↓onClr_S, ↓onW_nil, ↓onW_cons, ↓onRe_0, ↓onRe_S, ↓onBk_nil, ↓onBk_cons, ↓onTwo_l, ↓S_par, ↓a_tup, ↓onG_name, ↓onG_tup, ↓onGs_nil, ↓onGs_cons, ↓onTurn_nx, ↓onTurn_ct, ↓onTurn_bk, ↓onTurn_rt, ↓onLD_d, ↓v_ixAd, ↓v_inAd, ↓v_notInAd, ↓S_upd, ↓v_zip, ↓Wp_flatA, ↓v_int, ↓v_intB, ↓v_min, ↓v_gin, ↓v_gnin, ↓v_gix, ↓Lvs_nil, ↓Lvs_cons, ↓Wp_lv, ↓Wp_calm, ↓Wp_popAt, ↓Wp_popLast, ↓Wp_plen, ↓Wp_lm, ↓Wp_index, ↓onFg_nx, ↓onFg_bk, ↓onFg_ct, ↓onFg_rt, ↓S_sw, ↓S_slm, ↓S_kput, ↓v_isN, ↓v_notN, ↓v_list, ↓v_listT, ↓v_tupL, ↓v_tupT, ↓v_dictDD, ↓v_dictPD, ↓v_rev2, ↓v_ins, ↓reduceIte, MD.eq hin]
        rw [eqB_self hso, onS_some, eqB_self sds, onS_some, if_neg (by decide), if_neg (by decide)]
        exact ⟨True.intro, (fun h => by cases h), by rw [List.length_reverse, isort_len]; exact lineB_lt (by omega), _, _, rfl⟩
      · rintro s ⟨x6, x9, rfl⟩
        simp only [↓S_next, ↓S_bk, ↓S_ct, ↓S_rtd, ↓S_seq, ↓S_set, ↓S_drop, ↓S_ret, ↓S_if, ↓S_asg, ↓S_put, ↓S_app, ↓S_ext, ↓S_for, ↓Wp_pure, ↓Wp_opt, ↓Wp_bind, ↓Wp_ite, ↓Wp_var, ↓Wp_op, ↓Wp_un, ↓Wp_test, ↓Wp_dand, ↓Wp_dor, ↓Wp_dnot, ↓Wp_dandV, ↓Wp_dorV, ↓Wp_dnotV, ↓Wp_chain, ↓Wp_cb, ↓Wp_cons, ↓Wp_nil, ↓Wp_tup, ↓Wp_lst, ↓Wp_part, ↓Wp_nopart, ↓Wp_slice, ↓Wp_isi, ↓Wp_isi2, ↓Wp_m1, ↓Wp_call, ↓Wp_pix, ↓Wp_callP0, ↓Wp_callP1, ↓Wp_comp, ↓Wp_disp, ↓Wp_dpnil, ↓Wp_dpcons, ↓Wp_flat, ↓onNx_nx, ↓onNx_bk, ↓onNx_ct, ↓onNx_rt, ↓onRt_rt, ↓onRt_nx, ↓onS_some, ↓onB_b, ↓onI_i, ↓onStr_s, ↓onL_l, ↓lk_0, ↓lk_S, ↓onSet_0, ↓onSet_S, ↓onPut_0, ↓onPut_S, ↓ite_dec, ↓ite_ndec, ↓ite_tt, ↓ite_ff, ↓ite_nt, ↓ite_nf, ↓v_gt, ↓v_lt, ↓v_le, ↓v_ge, ↓v_ltS, ↓v_add, ↓v_addS, ↓v_addL, ↓v_addT, ↓v_addN, ↓v_sub, ↓v_mul, ↓v_mulS, ↓v_mod, ↓v_fdiv, ↓v_pow, ↓v_neg, ↓v_lenL, ↓v_lenT, ↓v_lenS, ↓v_abs, ↓v_rev, ↓v_all, ↓v_any, ↓v_sum, ↓v_eq, ↓v_ne, ↓v_in, ↓v_notIn, ↓q_ii, ↓q_ss, ↓items_l, ↓items_t, ↓items_s, ↓items_r1, ↓items_r2, ↓sl_l, ↓sl_t, ↓sl_s, ↓put_1, ↓put_2, ↓pen_0, ↓pen_1, ↓pen_2, ↓v_ixL, ↓v_ixT, ↓ins_NoneType_none, ↓ins_NoneType_bool, ↓ins_NoneType_int, ↓ins_NoneType_str, ↓ins_NoneType_list, ↓ins_NoneType_tuple, ↓ins_NoneType_dict, ↓ins_bool_none, ↓ins_bool_bool, ↓ins_bool_int, ↓ins_bool_str, ↓ins_bool_list, ↓ins_bool_tuple, ↓ins_bool_dict, ↓ins_int_none, ↓ins_int_bool, ↓ins_int_int, ↓ins_int_str, ↓ins_int_list, ↓ins_int_tuple, ↓ins_int_dict, ↓ins_str_none, ↓ins_str_bool, ↓ins_str_int, ↓ins_str_str, ↓ins_str_list, ↓ins_str_tuple, ↓ins_str_dict, ↓ins_list_none, ↓ins_list_bool, ↓ins_list_int, ↓ins_list_str, ↓ins_list_list, ↓ins_list_tuple, ↓ins_list_dict, ↓ins_tuple_none, ↓ins_tuple_bool, ↓ins_tuple_int, ↓ins_tuple_str, ↓ins_tuple_list, ↓ins_tuple_tuple, ↓ins_tuple_dict, ↓ins_dict_none, ↓ins_dict_bool, ↓ins_dict_int, ↓ins_dict_str, ↓ins_dict_list, ↓ins_dict_tuple, ↓ins_dict_dict, ↓in_sign, ↓onClr_0, ↓onClr_S, ↓onW_nil, ↓onW_cons, ↓onRe_0, ↓onRe_S, ↓onBk_nil, ↓onBk_cons, ↓onTwo_l, ↓S_par, ↓a_tup, ↓onG_name, ↓onG_tup, ↓onGs_nil, ↓onGs_cons, ↓onTurn_nx, ↓onTurn_ct, ↓onTurn_bk, ↓onTurn_rt, ↓onLD_d, ↓v_ixAd, ↓v_inAd, ↓v_notInAd, ↓S_upd, ↓v_zip, ↓Wp_flatA, ↓v_int, ↓v_intB, ↓v_min, ↓v_gin, ↓v_gnin, ↓v_gix, ↓Lvs_nil, ↓Lvs_cons, ↓Wp_lv, ↓Wp_calm, ↓Wp_popAt, ↓Wp_popLast, ↓Wp_plen, ↓Wp_lm, ↓Wp_index, ↓onFg_nx, ↓onFg_bk, ↓onFg_ct, ↓onFg_rt, ↓S_sw, ↓S_slm, ↓S_kput, ↓v_isN, ↓v_notN, ↓v_list, ↓v_listT, ↓v_tupL, ↓v_tupT, ↓v_dictDD, ↓v_dictPD, ↓v_rev2, ↓v_ins, ↓reduceIte, MD.eq hin2, MD.eq hin0]
        rw [hss, eqB_self hso, onS_some, if_pos rfl]
        refine ⟨lineB (by simp), lineB (by simp), ?_⟩
        rw [show isort pLt ([] : List D) = [] from rfl, eqB_self (n := 1) (shd_list shd_nil), onS_some]
        exact ⟨_, rfl⟩
end DR

open PySem PySem.W PySem.Calls PyProof.Rows
theorem PySem.Challenge.cw_doublerings_k04_which_page_goes_ahead_holds : PySem.Challenge.rw_doublerings_k04_which_page_goes_ahead.Holds := by
  w_on; o_law
  refine HandSHeadRun.head_any (r := OpenLaw.row PySem.Challenge.rw_doublerings_k04_which_page_goes_ahead) (q := view (OpenLaw.row PySem.Challenge.rw_doublerings_k04_which_page_goes_ahead).prog [12]) (H := DR.hk) (ob := DR.ob) (M := 3000) (loose := DR.loose) (d := HandSHeadRun.topDef (OpenLaw.row PySem.Challenge.rw_doublerings_k04_which_page_goes_ahead).prog 12) (kwd := []) DR.ob_eq
    (by kernel_rfl) (fun s => by kernel_rfl) DR.run (by kernel_rfl) (by kernel_rfl) (by kernel_rfl) (by rfl) (by first | assumption | decide +kernel) (by decide +kernel) ⟨rfl, rfl, rfl, rfl, rfl, by decide +kernel⟩ ?hw ?hc
  case hw => w_witness2
  case hc =>
    refine L2.walk_ofE (l := PySem.Challenge.rw_doublerings_k04_which_page_goes_ahead) (n := 63) (k := 5) (x := "_law_script") (CX := L2.CX0) rfl (by decide) (by kernel_rfl) ⟨rfl, by decide, by decide⟩ ?F (fun _ _ _ _ z => z)
    intro w mg fa h Y G hmg0
    obtain ⟨K, KX, c⟩ := Y
    have hmg : mg ("law" : PySem.Str) = some (.ref fa) := by
      have e : (HandSHeadRun.topDef (OpenLaw.row PySem.Challenge.rw_doublerings_k04_which_page_goes_ahead).prog 12).name = ("law" : PySem.Str) := by kernel_rfl
      rw [← e]
      exact hmg0
    obtain ⟨fd, hb, hF⟩ := DR.facts_ok (P := (PySem.Challenge.rw_doublerings_k04_which_page_goes_ahead).prog) (w := w) DR.math KX G hmg c
    exact ⟨K, fd, DR.spLaw K, KX, hb, fun H a ns hl _ hS => ⟨a, ns, rfl, DR.noLists_rd (DR.all_at c.more (i := 0) rfl) hS, hl, fun _ => rfl⟩, hF⟩
