import PyProof.Rows.All
import Wide.All
import OpenK.AllK
import Wide.FinOn
import HandS.ForMost
import HandS.Exc
import HandS.CallSlots
import HandS.DictComp
import HandS.WordsExc
import HandS.TupAny
import HandS.Deep
import HandS.Conv
import HandS.Text
import HandS.IsInst
import HandS.ExcInit
import HandS.ExcField
import KE.KExcSuper
import KE.KSuper
import PySem.Challenge.RW_lockrules_k65_neighbours_exchanged
import KE.RegKSuper
import KE.KExcLine
import HandS.ExcIs
set_option Elab.async false
set_option linter.all false
set_option maxRecDepth 100000
namespace DL
open PySem L2

/-! ### data -/
inductive D where
  | non | bl (b : Bool) | int (i : Int) | str (x : List Nat)
  | lst (xs : List D) | tup (xs : List D)
  | dk (ks : List Key) (vs : List D) | dt (ks : List (List Key)) (vs : List D)
  | ins (C : Addr) (fs : List Str) (vs : List D)
  | cl (C : Addr)
  /-- the script -/
  | scr (ns : List Int)
  /-- the written empty tuple -/
  | etup
  /-- dicts that are locked -/
  | fk (ks : List Key) (vs : List D) | ft (ks : List (List Key)) (vs : List D)

def mkS (x : List Nat) : Str := ⟨x.toArray⟩
def okT (x : List Nat) : Prop := ∀ c ∈ x, c < 0x110000
theorem okT.app {x y : List Nat} (a : okT x) (b : okT y) : okT (x ++ y) := fun c h => (List.mem_append.mp h).elim (a c) (b c)

section
variable (K : PySem.W.Frag)
mutual
def Rep (H : Hp) : V → D → Prop
  | v, .non => v = .non
  | v, .bl b => v = .bl b
  | v, .int i => v = .int i
  | v, .str x => v = .str (mkS x) ∧ okT x
  | v, .lst ds => ∃ a vs, v = .ref a ∧ Rd H a (.lst vs) ∧ RepL H vs ds
  | v, .tup ds => ∃ a vs, v = .ref a ∧ H a = some (.tup vs) ∧ RepL H vs ds
  | v, .dk ks ds => ∃ a us, v = .ref a ∧ Rd H a (.dK us) ∧ us.map (·.1) = ks ∧ RepL H (us.map (·.2)) ds
  | v, .dt ks ds => ∃ a us, v = .ref a ∧ Rd H a (.dT us) ∧ us.map (·.1) = ks ∧ RepL H (us.map (·.2)) ds
  | v, .ins C fs ds => ∃ a dx us, v = .ref a ∧ Rd H a (.ins C dx us) ∧ us.map (·.1) = fs ∧ RepL H (us.map (·.2)) ds
  | v, .cl C => v = .ref C
  | v, .scr ns => ∃ a, v = .ref a ∧ SqL K H a (ns.map V.int)
  | v, .etup => ∃ a, v = .ref a ∧ SqT K H a []
  | v, .fk ks ds => ∃ a o us, v = .ref a ∧ H a = some (.frz o (.dK us)) ∧ us.map (·.1) = ks ∧ RepL H (us.map (·.2)) ds
  | v, .ft ks ds => ∃ a o us, v = .ref a ∧ H a = some (.frz o (.dT us)) ∧ us.map (·.1) = ks ∧ RepL H (us.map (·.2)) ds
def RepL (H : Hp) : List V → List D → Prop
  | vs, [] => vs = []
  | vs, d :: ds => ∃ x xs, vs = x :: xs ∧ Rep H x d ∧ RepL H xs ds
end
end

/-- what stands stays -/
structure RdLe (H H' : Hp) : Prop where
  key : ∀ a u, H a = some u → H' a = some u
theorem RdLe.rd {H H' : Hp} (e : RdLe H H') (a : Addr) (u : HO) (h : Rd H a u) : Rd H' a u := h.elim (fun h => .inl (e.key a _ h)) fun ⟨o, h⟩ => .inr ⟨o, e.key a _ h⟩
theorem RdLe.tup {H H' : Hp} (e : RdLe H H') (a : Addr) (xs : List V) (h : H a = some (.tup xs)) : H' a = some (.tup xs) := e.key a _ h
theorem RdLe.refl (H : Hp) : RdLe H H := ⟨fun _ _ h => h⟩
theorem RdLe.trans {H H1 H2 : Hp} (a : RdLe H H1) (b : RdLe H1 H2) : RdLe H H2 := ⟨fun x u h => b.key x u (a.key x u h)⟩
theorem RdLe.ofKey {H H' : Hp} (s : ∀ a u, H a = some u → H' a = some u) : RdLe H H' := ⟨s⟩
theorem RdLe.of {H H' : Hp} (s : Same H H') : RdLe H H' := .ofKey s
section
variable {K : PySem.W.Frag}
theorem RdLe.sqL {H H' : Hp} {a : Addr} {xs : List V} (e : RdLe H H') (h : SqL K H a xs) : SqL K H' a xs := h.elim (fun h => .inl (e.rd _ _ h)) .inr
theorem RdLe.sqT {H H' : Hp} {a : Addr} {xs : List V} (e : RdLe H H') (h : SqT K H a xs) : SqT K H' a xs := h.elim (fun h => .inl (e.rd _ _ h)) .inr
mutual
theorem Rep.mono {H H' : Hp} (e : RdLe H H') : ∀ {v : V} {d : D}, Rep K H v d → Rep K H' v d
  | _, .non, h => h
  | _, .bl _, h => h
  | _, .int _, h => h
  | _, .str _, h => h
  | _, .lst ds, ⟨a, vs, h1, h2, h3⟩ => ⟨a, vs, h1, e.rd _ _ h2, RepL.mono e h3⟩
  | _, .tup ds, ⟨a, vs, h1, h2, h3⟩ => ⟨a, vs, h1, e.tup _ _ h2, RepL.mono e h3⟩
  | _, .dk ks ds, ⟨a, vs, h1, h2, h4, h3⟩ => ⟨a, vs, h1, e.rd _ _ h2, h4, RepL.mono e h3⟩
  | _, .dt ks ds, ⟨a, vs, h1, h2, h4, h3⟩ => ⟨a, vs, h1, e.rd _ _ h2, h4, RepL.mono e h3⟩
  | _, .ins C fs ds, ⟨a, dx, vs, h1, h2, h4, h3⟩ => ⟨a, dx, vs, h1, e.rd _ _ h2, h4, RepL.mono e h3⟩
  | _, .cl _, h => h
  | _, .scr _, ⟨a, h1, h2⟩ => ⟨a, h1, e.sqL h2⟩
  | _, .etup, ⟨a, h1, h2⟩ => ⟨a, h1, e.sqT h2⟩
  | _, .fk ks ds, ⟨a, o, vs, h1, h2, h4, h3⟩ => ⟨a, o, vs, h1, e.key _ _ h2, h4, RepL.mono e h3⟩
  | _, .ft ks ds, ⟨a, o, vs, h1, h2, h4, h3⟩ => ⟨a, o, vs, h1, e.key _ _ h2, h4, RepL.mono e h3⟩
theorem RepL.mono {H H' : Hp} (e : RdLe H H') : ∀ {vs : List V} {ds : List D}, RepL K H vs ds → RepL K H' vs ds
  | _, [], h => h
  | _, d :: ds, ⟨x, xs, h1, h2, h3⟩ => ⟨x, xs, h1, Rep.mono e h2, RepL.mono e h3⟩
end
theorem RepL.length {H : Hp} : ∀ {vs : List V} {ds : List D}, RepL K H vs ds → vs.length = ds.length
  | _, [], h => by
    have h : _ = [] := h
    rw [h]
    rfl
  | _, d :: ds, ⟨x, xs, h1, h2, h3⟩ => by rw [h1, List.length_cons, List.length_cons, RepL.length h3]
theorem RepL.get {H : Hp} : ∀ {vs : List V} {ds : List D} {i : Nat} {d : D}, RepL K H vs ds → ds[i]? = some d → ∃ v, vs[i]? = some v ∧ Rep K H v d
  | _, [], _, _, _, e => by cases e
  | _, d :: ds, 0, _, ⟨x, xs, h1, h2, h3⟩, e => by
    cases e
    subst h1
    exact ⟨x, rfl, h2⟩
  | _, d :: ds, i + 1, _, ⟨x, xs, h1, h2, h3⟩, e => by
    subst h1
    exact RepL.get (i := i) h3 e
theorem RepL.get' {H : Hp} : ∀ {vs : List V} {ds : List D} {i : Nat} {v : V}, RepL K H vs ds → vs[i]? = some v → ∃ d, ds[i]? = some d ∧ Rep K H v d
  | _, [], _, _, h, e => by
    have h : _ = [] := h
    rw [h] at e
    cases e
  | _, d :: ds, 0, _, ⟨x, xs, h1, h2, h3⟩, e => by
    subst h1
    cases e
    exact ⟨d, rfl, h2⟩
  | _, d :: ds, i + 1, _, ⟨x, xs, h1, h2, h3⟩, e => by
    subst h1
    exact RepL.get' (i := i) h3 e
theorem RepL.append {H : Hp} : ∀ {vs : List V} {ds : List D} {us : List V} {es : List D}, RepL K H vs ds → RepL K H us es → RepL K H (vs ++ us) (ds ++ es)
  | _, [], _, _, h, k => by
    have h : _ = [] := h
    rw [h]
    exact k
  | _, d :: ds, _, _, ⟨x, xs, h1, h2, h3⟩, k => by
    subst h1
    exact ⟨x, _, rfl, h2, RepL.append h3 k⟩
theorem RepL.nil {H : Hp} : RepL K H [] [] := rfl
theorem RepL.cons {H : Hp} {v : V} {d : D} {vs : List V} {ds : List D} (h : Rep K H v d) (t : RepL K H vs ds) : RepL K H (v :: vs) (d :: ds) := ⟨v, vs, rfl, h, t⟩
theorem RepL.one {H : Hp} {v : V} {d : D} (h : Rep K H v d) : RepL K H [v] [d] := .cons h .nil
theorem RepL.set {H : Hp} {v : V} {d : D} (hv : Rep K H v d) : ∀ {vs : List V} {ds : List D} (i : Nat), RepL K H vs ds → RepL K H (vs.set i v) (ds.set i d)
  | _, [], _, h => by
    have h : _ = [] := h
    rw [h]
    rfl
  | _, e :: ds, 0, ⟨x, xs, h1, h2, h3⟩ => by
    subst h1
    exact ⟨v, xs, rfl, hv, h3⟩
  | _, e :: ds, i + 1, ⟨x, xs, h1, h2, h3⟩ => by
    subst h1
    exact ⟨x, _, rfl, h2, RepL.set hv i h3⟩
theorem RepL.take {H : Hp} : ∀ {vs : List V} {ds : List D} (n : Nat), RepL K H vs ds → RepL K H (vs.take n) (ds.take n)
  | _, [], n, h => by
    have h : _ = [] := h
    rw [h]
    cases n <;> rfl
  | _, e :: ds, 0, _ => rfl
  | _, e :: ds, n + 1, ⟨x, xs, h1, h2, h3⟩ => by
    subst h1
    exact ⟨x, _, rfl, h2, RepL.take n h3⟩
theorem RepL.drop {H : Hp} : ∀ {vs : List V} {ds : List D} (n : Nat), RepL K H vs ds → RepL K H (vs.drop n) (ds.drop n)
  | _, [], n, h => by
    have h : _ = [] := h
    rw [h]
    cases n <;> rfl
  | _, e :: ds, 0, h => h
  | _, e :: ds, n + 1, ⟨x, xs, h1, h2, h3⟩ => by
    subst h1
    exact RepL.drop n h3
end

/-! ### hidden addresses -/
open Classical in
noncomputable def hide (O : Addr → Prop) (H : Hp) : Hp := fun a => if O a then none else H a
section
variable {O O' : Addr → Prop} {H H' : Hp}
theorem hide_no {a : Addr} (h : ¬ O a) : hide O H a = H a := by
  unfold hide
  rw [if_neg h]
theorem hide_yes {a : Addr} (h : O a) : hide O H a = none := by
  unfold hide
  rw [if_pos h]
theorem hide_some {a : Addr} {o : HO} (h : hide O H a = some o) : ¬ O a ∧ H a = some o := by
  by_cases e : O a
  · rw [hide_yes e] at h
    cases h
  · rw [hide_no e] at h
    exact ⟨e, h⟩
theorem hide_le : RdLe (hide O H) H := .ofKey fun a u h => (hide_some h).2
/-- what is not hidden stands as before -/
theorem hide_mono (h : ∀ a, O' a → O a) (s : ∀ a o, ¬ O a → H a = some o → H' a = some o) : RdLe (hide O H) (hide O' H') := by
  have key : ∀ a o, hide O H a = some o → hide O' H' a = some o := fun a o e => by
    obtain ⟨n, e⟩ := hide_some e
    rw [hide_no fun z => n (h a z)]
    exact s a o n e
  exact RdLe.ofKey key
theorem hide_same (h : ∀ a, O' a → O a) (s : Same H H') : RdLe (hide O H) (hide O' H') := hide_mono h fun a o _ e => s a o e
end
theorem same_new {H : Hp} {p : Addr} {o : HO} (h : H p = none) : Same H (upd H p o) := fun a u e => by
  rw [upd_ne (ne_of_none e h)]
  exact e
theorem same_upd {B H : Hp} {p : Addr} {o : HO} (s : Same B H) (h : B p = none) : Same B (upd H p o) := fun a u e => by
  rw [upd_ne (ne_of_none e h)]
  exact s a u e
end DL
set_option Elab.async false
set_option linter.all false
set_option maxRecDepth 100000
namespace DL
open PySem L2

/-! ### a tree that is owned to a depth: nobody else holds its upper objects -/
def AllP (P : V → List Addr → D → Prop) : List V → List Addr → List D → Prop
  | vs, as, [] => vs = [] ∧ as = []
  | vs, as, d :: ds => ∃ x xs a1 a2, vs = x :: xs ∧ as = a1 ++ a2 ∧ P x a1 d ∧ AllP P xs a2 ds
theorem AllP.imp {P P' : V → List Addr → D → Prop} : ∀ {vs : List V} {as : List Addr} {ds : List D}, AllP P vs as ds → (∀ x a d, (∀ p ∈ a, p ∈ as) → P x a d → P' x a d) → AllP P' vs as ds
  | _, _, [], h, _ => h
  | _, _, d :: ds, ⟨x, xs, a1, a2, h1, h2, h3, h4⟩, f => by
    subst h1 h2
    exact ⟨x, xs, a1, a2, rfl, rfl, f x a1 d (fun p hp => List.mem_append_left _ hp) h3, AllP.imp h4 fun y b e hb => f y b e fun p hp => List.mem_append_right _ (hb p hp)⟩
section
variable (K : PySem.W.Frag)
def Own (G H : Hp) : Nat → V → List Addr → D → Prop
  | 0, v, as, d => as = [] ∧ Rep K G v d
  | k + 1, v, as, .lst ds => ∃ p vs bs, v = .ref p ∧ H p = some (.lst vs) ∧ as = p :: bs ∧ AllP (Own G H k) vs bs ds
  | k + 1, v, as, .dk ks ds => ∃ p us bs, v = .ref p ∧ H p = some (.dK us) ∧ us.map (·.1) = ks ∧ as = p :: bs ∧ AllP (Own G H k) (us.map (·.2)) bs ds
  | k + 1, v, as, .dt ks ds => ∃ p us bs, v = .ref p ∧ H p = some (.dT us) ∧ us.map (·.1) = ks ∧ as = p :: bs ∧ AllP (Own G H k) (us.map (·.2)) bs ds
  | k + 1, v, as, .ins C fs ds => ∃ p dx us bs, v = .ref p ∧ H p = some (.ins C dx us) ∧ us.map (·.1) = fs ∧ as = p :: bs ∧ AllP (Own G H k) (us.map (·.2)) bs ds
  | _ + 1, v, as, d => as = [] ∧ Rep K G v d
end
section
variable {K : PySem.W.Frag} {G G' H H' : Hp}
theorem Own.mono (e : RdLe G G') : ∀ {k : Nat} {v : V} {as : List Addr} {d : D}, Own K G H k v as d → (∀ p ∈ as, H' p = H p) → Own K G' H' k v as d
  | 0, _, _, _, ⟨h1, h2⟩, _ => ⟨h1, h2.mono e⟩
  | k + 1, _, _, .lst ds, ⟨p, vs, bs, h1, h2, h3, h4⟩, f => by
    subst h3
    exact ⟨p, vs, bs, h1, (f p List.mem_cons_self).trans h2, rfl, h4.imp fun x a d ha q => Own.mono e q fun p hp => f p (List.mem_cons_of_mem _ (ha p hp))⟩
  | k + 1, _, _, .dk ks ds, ⟨p, vs, bs, h1, h2, h5, h3, h4⟩, f => by
    subst h3
    exact ⟨p, vs, bs, h1, (f p List.mem_cons_self).trans h2, h5, rfl, h4.imp fun x a d ha q => Own.mono e q fun p hp => f p (List.mem_cons_of_mem _ (ha p hp))⟩
  | k + 1, _, _, .dt ks ds, ⟨p, vs, bs, h1, h2, h5, h3, h4⟩, f => by
    subst h3
    exact ⟨p, vs, bs, h1, (f p List.mem_cons_self).trans h2, h5, rfl, h4.imp fun x a d ha q => Own.mono e q fun p hp => f p (List.mem_cons_of_mem _ (ha p hp))⟩
  | k + 1, _, _, .ins C fs ds, ⟨p, dx, vs, bs, h1, h2, h5, h3, h4⟩, f => by
    subst h3
    exact ⟨p, dx, vs, bs, h1, (f p List.mem_cons_self).trans h2, h5, rfl, h4.imp fun x a d ha q => Own.mono e q fun p hp => f p (List.mem_cons_of_mem _ (ha p hp))⟩
  | _ + 1, _, _, .non, ⟨h1, h2⟩, _ => ⟨h1, h2.mono e⟩
  | _ + 1, _, _, .bl _, ⟨h1, h2⟩, _ => ⟨h1, h2.mono e⟩
  | _ + 1, _, _, .int _, ⟨h1, h2⟩, _ => ⟨h1, h2.mono e⟩
  | _ + 1, _, _, .str _, ⟨h1, h2⟩, _ => ⟨h1, h2.mono e⟩
  | _ + 1, _, _, .tup _, ⟨h1, h2⟩, _ => ⟨h1, h2.mono e⟩
  | _ + 1, _, _, .cl _, ⟨h1, h2⟩, _ => ⟨h1, h2.mono e⟩
  | _ + 1, _, _, .scr _, ⟨h1, h2⟩, _ => ⟨h1, h2.mono e⟩
  | _ + 1, _, _, .etup, ⟨h1, h2⟩, _ => ⟨h1, h2.mono e⟩
  | _ + 1, _, _, .fk _ _, ⟨h1, h2⟩, _ => ⟨h1, h2.mono e⟩
  | _ + 1, _, _, .ft _ _, ⟨h1, h2⟩, _ => ⟨h1, h2.mono e⟩
theorem AllP.repL {P : V → List Addr → D → Prop} : ∀ {vs : List V} {as : List Addr} {ds : List D}, AllP P vs as ds → (∀ x a d, (∀ p ∈ a, p ∈ as) → P x a d → Rep K G x d) → RepL K G vs ds
  | _, _, [], ⟨h, _⟩, _ => h
  | _, _, d :: ds, ⟨x, xs, a1, a2, h1, h2, h3, h4⟩, f => by
    subst h1 h2
    exact ⟨x, xs, rfl, f x a1 d (fun p hp => List.mem_append_left _ hp) h3, h4.repL fun y b e hb => f y b e fun p hp => List.mem_append_right _ (hb p hp)⟩
theorem Own.rep (e : RdLe G G') : ∀ {k : Nat} {v : V} {as : List Addr} {d : D}, Own K G H k v as d → (∀ p ∈ as, ∀ o, H p = some o → Rd G' p o) → Rep K G' v d
  | 0, _, _, _, ⟨h1, h2⟩, _ => h2.mono e
  | k + 1, _, _, .lst ds, ⟨p, vs, bs, h1, h2, h3, h4⟩, f => by
    subst h3
    exact ⟨p, vs, h1, f p List.mem_cons_self _ h2, h4.repL fun x a d ha q => Own.rep e q fun p hp => f p (List.mem_cons_of_mem _ (ha p hp))⟩
  | k + 1, _, _, .dk ks ds, ⟨p, vs, bs, h1, h2, h5, h3, h4⟩, f => by
    subst h3
    exact ⟨p, vs, h1, f p List.mem_cons_self _ h2, h5, h4.repL fun x a d ha q => Own.rep e q fun p hp => f p (List.mem_cons_of_mem _ (ha p hp))⟩
  | k + 1, _, _, .dt ks ds, ⟨p, vs, bs, h1, h2, h5, h3, h4⟩, f => by
    subst h3
    exact ⟨p, vs, h1, f p List.mem_cons_self _ h2, h5, h4.repL fun x a d ha q => Own.rep e q fun p hp => f p (List.mem_cons_of_mem _ (ha p hp))⟩
  | k + 1, _, _, .ins C fs ds, ⟨p, dx, vs, bs, h1, h2, h5, h3, h4⟩, f => by
    subst h3
    exact ⟨p, dx, vs, h1, f p List.mem_cons_self _ h2, h5, h4.repL fun x a d ha q => Own.rep e q fun p hp => f p (List.mem_cons_of_mem _ (ha p hp))⟩
  | _ + 1, _, _, .non, ⟨h1, h2⟩, _ => h2.mono e
  | _ + 1, _, _, .bl _, ⟨h1, h2⟩, _ => h2.mono e
  | _ + 1, _, _, .int _, ⟨h1, h2⟩, _ => h2.mono e
  | _ + 1, _, _, .str _, ⟨h1, h2⟩, _ => h2.mono e
  | _ + 1, _, _, .tup _, ⟨h1, h2⟩, _ => h2.mono e
  | _ + 1, _, _, .cl _, ⟨h1, h2⟩, _ => h2.mono e
  | _ + 1, _, _, .scr _, ⟨h1, h2⟩, _ => h2.mono e
  | _ + 1, _, _, .etup, ⟨h1, h2⟩, _ => h2.mono e
  | _ + 1, _, _, .fk _ _, ⟨h1, h2⟩, _ => h2.mono e
  | _ + 1, _, _, .ft _ _, ⟨h1, h2⟩, _ => h2.mono e
theorem AllP.mem {P : V → List Addr → D → Prop} : ∀ {vs : List V} {as : List Addr} {ds : List D}, AllP P vs as ds → ∀ p ∈ as, ∃ x a d, p ∈ a ∧ P x a d
  | _, _, [], ⟨_, h⟩, p, hp => by
    rw [h] at hp
    cases hp
  | _, _, d :: ds, ⟨x, xs, a1, a2, h1, h2, h3, h4⟩, p, hp => by
    subst h2
    rcases List.mem_append.mp hp with hp | hp
    · exact ⟨x, a1, d, hp, h3⟩
    · exact h4.mem p hp
theorem Own.dom : ∀ {k : Nat} {v : V} {as : List Addr} {d : D}, Own K G H k v as d → ∀ p ∈ as, H p ≠ none
  | 0, _, _, _, ⟨h1, h2⟩, p, hp => by
    rw [h1] at hp
    cases hp
  | k + 1, _, _, .lst ds, ⟨p, vs, bs, h1, h2, h3, h4⟩, q, hq => by
    subst h3
    rcases List.mem_cons.mp hq with hq | hq
    · rw [hq, h2]
      exact fun z => by cases z
    · obtain ⟨x, a, d, ha, h⟩ := h4.mem q hq
      exact Own.dom h q ha
  | k + 1, _, _, .dk ks ds, ⟨p, vs, bs, h1, h2, h5, h3, h4⟩, q, hq => by
    subst h3
    rcases List.mem_cons.mp hq with hq | hq
    · rw [hq, h2]
      exact fun z => by cases z
    · obtain ⟨x, a, d, ha, h⟩ := h4.mem q hq
      exact Own.dom h q ha
  | k + 1, _, _, .dt ks ds, ⟨p, vs, bs, h1, h2, h5, h3, h4⟩, q, hq => by
    subst h3
    rcases List.mem_cons.mp hq with hq | hq
    · rw [hq, h2]
      exact fun z => by cases z
    · obtain ⟨x, a, d, ha, h⟩ := h4.mem q hq
      exact Own.dom h q ha
  | k + 1, _, _, .ins C fs ds, ⟨p, dx, vs, bs, h1, h2, h5, h3, h4⟩, q, hq => by
    subst h3
    rcases List.mem_cons.mp hq with hq | hq
    · rw [hq, h2]
      exact fun z => by cases z
    · obtain ⟨x, a, d, ha, h⟩ := h4.mem q hq
      exact Own.dom h q ha
  | _ + 1, _, _, .non, ⟨h1, h2⟩, p, hp => by rw [h1] at hp; cases hp
  | _ + 1, _, _, .bl _, ⟨h1, h2⟩, p, hp => by rw [h1] at hp; cases hp
  | _ + 1, _, _, .int _, ⟨h1, h2⟩, p, hp => by rw [h1] at hp; cases hp
  | _ + 1, _, _, .str _, ⟨h1, h2⟩, p, hp => by rw [h1] at hp; cases hp
  | _ + 1, _, _, .tup _, ⟨h1, h2⟩, p, hp => by rw [h1] at hp; cases hp
  | _ + 1, _, _, .cl _, ⟨h1, h2⟩, p, hp => by rw [h1] at hp; cases hp
  | _ + 1, _, _, .scr _, ⟨h1, h2⟩, p, hp => by rw [h1] at hp; cases hp
  | _ + 1, _, _, .etup, ⟨h1, h2⟩, p, hp => by rw [h1] at hp; cases hp
  | _ + 1, _, _, .fk _ _, ⟨h1, h2⟩, p, hp => by rw [h1] at hp; cases hp
  | _ + 1, _, _, .ft _ _, ⟨h1, h2⟩, p, hp => by rw [h1] at hp; cases hp
/-- to the depth one: the top alone -/
theorem allP0 : ∀ {vs : List V} {as : List Addr} {ds : List D}, AllP (Own K G H 0) vs as ds ↔ as = [] ∧ RepL K G vs ds
  | vs, as, [] => ⟨fun ⟨a, b⟩ => ⟨b, a⟩, fun ⟨a, b⟩ => ⟨b, a⟩⟩
  | vs, as, d :: ds => by
    constructor
    · rintro ⟨x, xs, a1, a2, h1, h2, ⟨h3, h4⟩, h5⟩
      obtain ⟨h6, h7⟩ := allP0.mp h5
      subst h1 h2 h3 h6
      exact ⟨rfl, x, xs, rfl, h4, h7⟩
    · rintro ⟨h1, x, xs, h2, h3, h4⟩
      subst h1 h2
      exact ⟨x, xs, [], [], rfl, rfl, ⟨rfl, h3⟩, allP0.mpr ⟨rfl, h4⟩⟩
end

/-! ### the state of a body: data for the slots -/
abbrev Env := List (Option D)
/-- which slots own their objects: to which depth, which objects -/
abbrev Lm := Nat → Option (Nat × List Addr)
def L0 : Lm := fun _ => none
def HS (O : Addr → Prop) (L : Lm) : Addr → Prop := fun p => O p ∨ ∃ i k as, L i = some (k, as) ∧ p ∈ as
def dropL (es : List Nat) (L : Lm) : Lm := fun i => if i ∈ es then none else L i
theorem dropL_some {es : List Nat} {L : Lm} {i : Nat} {x : Nat × List Addr} (h : dropL es L i = some x) : i ∉ es ∧ L i = some x := by
  unfold dropL at h
  by_cases e : i ∈ es
  · rw [if_pos e] at h
    cases h
  · rw [if_neg e] at h
    exact ⟨e, h⟩
theorem dropL_no {es : List Nat} {L : Lm} {i : Nat} (h : i ∉ es) : dropL es L i = L i := if_neg h
theorem dropL_yes {es : List Nat} {L : Lm} {i : Nat} (h : i ∈ es) : dropL es L i = none := if_pos h
theorem hs_drop {O : Addr → Prop} {L : Lm} {es : List Nat} : ∀ p, HS O (dropL es L) p → HS O L p := fun p h => h.elim .inl fun ⟨i, k, as, h, m⟩ => .inr ⟨i, k, as, (dropL_some h).2, m⟩
theorem hs_dropLe {O : Addr → Prop} {L : Lm} {es es' : List Nat} (h : ∀ i ∈ es, i ∈ es') : ∀ p, HS O (dropL es' L) p → HS O (dropL es L) p := fun p q => q.elim .inl fun ⟨i, k, as, e, m⟩ => .inr ⟨i, k, as, by
  obtain ⟨n, e⟩ := dropL_some e
  rw [dropL_no fun z => n (h i z), e], m⟩
theorem hs_0 {O : Addr → Prop} {L : Lm} : ∀ p, O p → HS O L p := fun _ h => .inl h

/-- an instance of a class -/
def isIns : D → Bool
  | .ins _ _ _ => true
  | _ => false
structure SR (K : PySem.W.Frag) (B : Hp) (O : Addr → Prop) (L : Lm) (σ : St) (H : Hp) (ρ : Env) : Prop where
  same : Same B H
  dom : ∀ p, O p → B p ≠ none
  len : σ.length = ρ.length
  vars : ∀ i d, L i = none → ρ[i]? = some (some d) → ∃ v, σ[i]? = some (some v) ∧ Rep K (hide (HS O L) H) v d
  owns : ∀ i k as, L i = some (k, as) → ∃ v d, σ[i]? = some (some v) ∧ ρ[i]? = some (some d) ∧ Own K (hide (HS O L) H) H k v as d
  nodup : ∀ i k as, L i = some (k, as) → as.Nodup ∧ ∀ p ∈ as, B p = none
  sep : ∀ i j k as k' as', i ≠ j → L i = some (k, as) → L j = some (k', as') → ∀ p ∈ as, p ∉ as'
  one : ∀ i k as d, L i = some (k, as) → ρ[i]? = some (some d) → isIns d = false → k = 1
section
variable {K : PySem.W.Frag} {B H H' : Hp} {O : Addr → Prop} {L : Lm} {σ : St} {ρ : Env}
theorem SR.hdom (S : SR K B O L σ H ρ) : ∀ p, HS O L p → H p ≠ none := fun p h => h.elim (fun h => by
  cases e : B p with
  | none => exact absurd e (S.dom p h)
  | some o =>
    rw [S.same p o e]
    exact fun z => by cases z) fun ⟨i, k, as, h, m⟩ => by
  obtain ⟨v, d, _, _, w⟩ := S.owns i k as h
  exact w.dom p m
theorem SR.ext (S : SR K B O L σ H ρ) (e : Same H H') : SR K B O L σ H' ρ := by
  have le : RdLe (hide (HS O L) H) (hide (HS O L) H') := hide_same (fun _ h => h) e
  refine ⟨S.same.trans e, S.dom, S.len, fun i d h1 h2 => ?_, fun i k as h => ?_, S.nodup, S.sep, S.one⟩
  · obtain ⟨v, h3, h4⟩ := S.vars i d h1 h2
    exact ⟨v, h3, h4.mono le⟩
  · obtain ⟨v, d, h1, h2, h3⟩ := S.owns i k as h
    refine ⟨v, d, h1, h2, h3.mono le fun p hp => ?_⟩
    cases q : H p with
    | none => exact absurd q (h3.dom p hp)
    | some o => exact e p o q
/-- giving up what some slots own -/
theorem SR.drop (S : SR K B O L σ H ρ) (es : List Nat) : SR K B O (dropL es L) σ H ρ := by
  have le : RdLe (hide (HS O L) H) (hide (HS O (dropL es L)) H) := hide_same hs_drop (Same.refl H)
  refine ⟨S.same, S.dom, S.len, fun i d h1 h2 => ?_, fun i k as h => ?_, fun i k as h => S.nodup i k as (dropL_some h).2, fun i j k as k' as' n h h' => S.sep i j k as k' as' n (dropL_some h).2 (dropL_some h').2, fun i k as d h => S.one i k as d (dropL_some h).2⟩
  · cases e : L i with
    | none =>
      obtain ⟨v, h3, h4⟩ := S.vars i d e h2
      exact ⟨v, h3, h4.mono le⟩
    | some x =>
      obtain ⟨k, as⟩ := x
      obtain ⟨v, d', h3, h4, h5⟩ := S.owns i k as e
      rw [h2] at h4
      cases h4
      refine ⟨v, h3, h5.rep le fun p hp o ho => .inl ?_⟩
      rw [hide_no]
      · exact ho
      · rintro (z | ⟨j, k', as', z, m⟩)
        · exact S.dom p z ((S.nodup i k as e).2 p hp)
        · obtain ⟨n, z⟩ := dropL_some z
          have nij : i ≠ j := fun q => by
            subst q
            rw [dropL_no n, e] at h1
            cases h1
          exact S.sep i j k as k' as' nij e z p hp m
  · obtain ⟨n, h⟩ := dropL_some h
    obtain ⟨v, d, h1, h2, h3⟩ := S.owns i k as h
    exact ⟨v, d, h1, h2, h3.mono le fun _ _ => rfl⟩
/-- a slot is read -/
theorem SR.read (S : SR K B O L σ H ρ) {i : Nat} {d : D} (h : ρ[i]? = some (some d)) : ∃ v, σ[i]? = some (some v) ∧ Rep K (hide (HS O (dropL [i] L)) H) v d :=
  (S.drop [i]).vars i d (dropL_yes List.mem_cons_self) h
def putL (i : Nat) (x : Option (Nat × List Addr)) (L : Lm) : Lm := fun j => if j = i then x else L j
theorem putL_same {i : Nat} {x : Option (Nat × List Addr)} {L : Lm} : putL i x L i = x := if_pos rfl
theorem putL_ne {i j : Nat} {x : Option (Nat × List Addr)} {L : Lm} (h : j ≠ i) : putL i x L j = L j := if_neg h
theorem putL_none {i j : Nat} {L : Lm} {y : Nat × List Addr} (h : putL i none L j = some y) : j ≠ i ∧ L j = some y := by
  unfold putL at h
  by_cases e : j = i
  · rw [if_pos e] at h
    cases h
  · rw [if_neg e] at h
    exact ⟨e, h⟩
theorem hs_put {i : Nat} : ∀ p, HS O (putL i none L) p → HS O L p := fun p h => h.elim .inl fun ⟨j, k, as, h, m⟩ => .inr ⟨j, k, as, (putL_none h).2, m⟩
/-- a slot is given a value that nobody owns -/
theorem SR.set0 (S : SR K B O L σ H ρ) {i : Nat} {v : V} {d : D} (r : Rep K (hide (HS O L) H) v d) (hi : i < σ.length) : SR K B O (putL i none L) (σ.set i (some v)) H (ρ.set i (some d)) := by
  have le : RdLe (hide (HS O L) H) (hide (HS O (putL i none L)) H) := hide_same hs_put (Same.refl H)
  refine ⟨S.same, S.dom, by rw [List.length_set, List.length_set, S.len], fun j e h1 h2 => ?_, fun j k as h => ?_, fun j k as h => S.nodup j k as (putL_none h).2, fun j j' k as k' as' n h h' => S.sep j j' k as k' as' n (putL_none h).2 (putL_none h').2, fun j k as e h h2 => S.one j k as e (putL_none h).2 (by rw [List.getElem?_set_ne (Ne.symm (putL_none h).1)] at h2; exact h2)⟩
  · by_cases q : i = j
    · subst q
      rw [List.getElem?_set_self (by rw [← S.len]; exact hi)] at h2
      cases h2
      exact ⟨v, List.getElem?_set_self hi, r.mono le⟩
    · rw [List.getElem?_set_ne q] at h2 ⊢
      rw [putL_ne (Ne.symm q)] at h1
      obtain ⟨w, h3, h4⟩ := S.vars j e h1 h2
      exact ⟨w, h3, h4.mono le⟩
  · obtain ⟨n, h⟩ := putL_none h
    rw [List.getElem?_set_ne (Ne.symm n), List.getElem?_set_ne (Ne.symm n)]
    obtain ⟨w, e, h1, h2, h3⟩ := S.owns j k as h
    exact ⟨w, e, h1, h2, h3.mono le fun _ _ => rfl⟩
theorem putL_drop {i : Nat} : putL i none L = dropL [i] L := by
  funext j
  unfold putL dropL
  by_cases h : j = i
  · rw [if_pos h, if_pos (by rw [h]; exact List.mem_cons_self)]
  · rw [if_neg h, if_neg (fun z => h (List.mem_singleton.mp z))]
theorem SR.set (S : SR K B O L σ H ρ) {i : Nat} {v : V} {d : D} (r : Rep K (hide (HS O L) H) v d) : SR K B O (dropL [i] L) (σ.set i (some v)) H (ρ.set i (some d)) := by
  by_cases hi : i < σ.length
  · rw [← putL_drop]
    exact S.set0 r hi
  · rw [List.set_eq_of_length_le (by omega), List.set_eq_of_length_le (by rw [← S.len]; omega)]
    exact S.drop [i]
/-- a slot is forgotten -/
theorem SR.unset (S : SR K B O L σ H ρ) (i : Nat) (hL : L i = none) : SR K B O L (σ.set i none) H (ρ.set i none) := by
  refine ⟨S.same, S.dom, by rw [List.length_set, List.length_set, S.len], fun j e h1 h2 => ?_, fun j k as h => ?_, S.nodup, S.sep, fun j k as e h h2 => S.one j k as e h (by
    have n : i ≠ j := fun q => by
      subst q
      rw [hL] at h
      cases h
    rw [List.getElem?_set_ne n] at h2
    exact h2)⟩
  · by_cases q : i = j
    · subst q
      by_cases z : i < ρ.length
      · rw [List.getElem?_set_self z] at h2
        cases h2
      · rw [List.getElem?_eq_none (by rw [List.length_set]; omega)] at h2
        cases h2
    · rw [List.getElem?_set_ne q] at h2 ⊢
      exact S.vars j e h1 h2
  · have n : i ≠ j := fun q => by
      subst q
      rw [hL] at h
      cases h
    rw [List.getElem?_set_ne n, List.getElem?_set_ne n]
    exact S.owns j k as h
/-- a slot is given an object of its own, laid by nobody else -/
theorem SR.setOwn (S : SR K B O L σ H ρ) {i : Nat} {v : V} {d : D} {k : Nat} {as : List Addr} (hk : isIns d = false → k = 1) (hi : i < σ.length) (hn : as.Nodup) (hb : ∀ p ∈ as, ¬ HS O L p ∧ B p = none)
    (hv : ∀ j d, L j = none → ρ[j]? = some (some d) → j ≠ i → ∃ v, σ[j]? = some (some v) ∧ Rep K (hide (HS O (putL i (some (k, as)) L)) H) v d)
    (ho : ∀ j k' as', L j = some (k', as') → j ≠ i → ∃ v d, σ[j]? = some (some v) ∧ ρ[j]? = some (some d) ∧ Own K (hide (HS O (putL i (some (k, as)) L)) H) H k' v as' d)
    (w : Own K (hide (HS O (putL i (some (k, as)) L)) H) H k v as d) : SR K B O (putL i (some (k, as)) L) (σ.set i (some v)) H (ρ.set i (some d)) := by
  refine ⟨S.same, S.dom, by rw [List.length_set, List.length_set, S.len], fun j e h1 h2 => ?_, fun j k' as' h => ?_, fun j k' as' h => ?_, fun j j' k1 as1 k2 as2 n h h' => ?_, fun j k' as' e h h2 hi2 => by
    by_cases q : j = i
    · subst q
      rw [putL_same] at h
      cases h
      rw [List.getElem?_set_self (by rw [← S.len]; exact hi)] at h2
      cases h2
      exact hk hi2
    · rw [putL_ne q] at h
      rw [List.getElem?_set_ne (Ne.symm q)] at h2
      exact S.one j k' as' e h h2 hi2⟩
  · by_cases q : j = i
    · subst q
      rw [putL_same] at h1
      cases h1
    · rw [List.getElem?_set_ne (Ne.symm q)] at h2 ⊢
      rw [putL_ne q] at h1
      exact hv j e h1 h2 q
  · by_cases q : j = i
    · subst q
      rw [putL_same] at h
      cases h
      exact ⟨v, d, List.getElem?_set_self hi, List.getElem?_set_self (by rw [← S.len]; exact hi), w⟩
    · rw [putL_ne q] at h
      rw [List.getElem?_set_ne (Ne.symm q), List.getElem?_set_ne (Ne.symm q)]
      exact ho j k' as' h q
  · by_cases q : j = i
    · subst q
      rw [putL_same] at h
      cases h
      exact ⟨hn, fun p hp => (hb p hp).2⟩
    · rw [putL_ne q] at h
      exact S.nodup j k' as' h
  · intro p hp hp'
    by_cases q : j = i
    · subst q
      rw [putL_same] at h
      cases h
      rw [putL_ne (Ne.symm n)] at h'
      exact (hb p hp).1 (.inr ⟨j', k2, as2, h', hp'⟩)
    · rw [putL_ne q] at h
      by_cases q' : j' = i
      · subst q'
        rw [putL_same] at h'
        cases h'
        exact (hb p hp').1 (.inr ⟨j, k1, as1, h, hp⟩)
      · rw [putL_ne q'] at h'
        exact S.sep j j' k1 as1 k2 as2 n h h' p hp hp'
/-- another base: all that stands and is not owned here -/
noncomputable def nb (L : Lm) (H : Hp) : Hp := hide (fun p => ∃ i k as, L i = some (k, as) ∧ p ∈ as) H
theorem SR.nbSame (S : SR K B O L σ H ρ) : Same B (nb L H) := fun a o e => by
  unfold nb
  rw [hide_no]
  · exact S.same a o e
  · rintro ⟨i, k, as, h, m⟩
    rw [(S.nodup i k as h).2 a m] at e
    cases e
theorem SR.rebase (S : SR K B O L σ H ρ) : SR K (nb L H) O L σ H ρ where
  same := fun a o e => (hide_some e).2
  dom := fun p hp => by
    cases e : B p with
    | none => exact absurd e (S.dom p hp)
    | some o =>
      rw [S.nbSame p o e]
      exact fun z => by cases z
  len := S.len
  vars := S.vars
  owns := S.owns
  nodup := fun i k as h => ⟨(S.nodup i k as h).1, fun p hp => hide_yes ⟨i, k, as, h, hp⟩⟩
  sep := S.sep
  one := S.one
theorem SR.unbase {B' : Hp} (S : SR K B' O L σ H ρ) (e : Same B B') (dom : ∀ p, O p → B p ≠ none) : SR K B O L σ H ρ :=
  ⟨e.trans S.same, dom, S.len, S.vars, S.owns, fun i k as h => ⟨(S.nodup i k as h).1, fun p hp => e.free ((S.nodup i k as h).2 p hp)⟩, S.sep, S.one⟩
/-! ### the top alone -/
def Top (K : PySem.W.Frag) (G : Hp) : HO → D → Prop
  | .lst vs, .lst ds => RepL K G vs ds
  | .dK us, .dk ks ds => us.map (·.1) = ks ∧ RepL K G (us.map (·.2)) ds
  | .dT us, .dt ks ds => us.map (·.1) = ks ∧ RepL K G (us.map (·.2)) ds
  | .ins C _ us, .ins C' fs ds => C = C' ∧ us.map (·.1) = fs ∧ RepL K G (us.map (·.2)) ds
  | _, _ => False
theorem Top.mono {G G' : Hp} (e : RdLe G G') : ∀ {o : HO} {d : D}, Top K G o d → Top K G' o d := by
  intro o d h
  cases o <;> cases d <;> first | exact h.elim | exact RepL.mono e h | exact ⟨h.1, RepL.mono e h.2⟩ | exact ⟨h.1, h.2.1, RepL.mono e h.2.2⟩
theorem own_top {G : Hp} {p : Addr} {o : HO} {d : D} (hp : H p = some o) (t : Top K G o d) : Own K G H 1 (.ref p) [p] d := by
  cases o <;> cases d <;> first
    | exact t.elim
    | exact ⟨p, _, [], rfl, hp, rfl, allP0.mpr ⟨rfl, t⟩⟩
    | exact ⟨p, _, [], rfl, hp, t.1, rfl, allP0.mpr ⟨rfl, t.2⟩⟩
    | (obtain ⟨t1, t2, t3⟩ := t
       subst t1
       exact ⟨p, _, _, [], rfl, hp, t2, rfl, allP0.mpr ⟨rfl, t3⟩⟩)
/-- of what shape an owned thing is -/
def isTop : D → Bool
  | .lst _ => true
  | .dk _ _ => true
  | .dt _ _ => true
  | .ins _ _ _ => true
  | _ => false
theorem top_own {G : Hp} {v : V} {as : List Addr} {d : D} (w : Own K G H 1 v as d) (hd : isTop d = true) : ∃ p o, v = .ref p ∧ as = [p] ∧ H p = some o ∧ Top K G o d := by
  cases d <;> first
    | (cases hd; done)
    | (obtain ⟨p, vs, bs, h1, h2, h3, h4⟩ := w
       obtain ⟨h5, h6⟩ := allP0.mp h4
       subst h5
       exact ⟨p, _, h1, h3, h2, h6⟩)
    | (obtain ⟨p, vs, bs, h1, h2, h7, h3, h4⟩ := w
       obtain ⟨h5, h6⟩ := allP0.mp h4
       subst h5
       exact ⟨p, _, h1, h3, h2, h7, h6⟩)
    | (obtain ⟨p, dx, vs, bs, h1, h2, h7, h3, h4⟩ := w
       obtain ⟨h5, h6⟩ := allP0.mp h4
       subst h5
       exact ⟨p, _, h1, h3, h2, rfl, h7, h6⟩)
theorem Top.isTop {G : Hp} {o : HO} {d : D} (t : Top K G o d) : isTop d = true := by
  cases o <;> cases d <;> first | exact t.elim | rfl
/-- a slot is given a new object of its own -/
theorem SR.fresh {H0 : Hp} (S : SR K B O L σ H0 ρ) (e : Same H0 H) {i : Nat} {p : Addr} {o : HO} {d : D} (hi : i < σ.length) (hp : H0 p = none) (hq : H p = some o) (t : Top K (hide (fun a => HS O L a ∨ a = p) H) o d) :
    SR K B O (putL i (some (1, [p])) L) (σ.set i (some (.ref p))) H (ρ.set i (some d)) := by
  have nb : B p = none := S.same.free hp
  have nh : ¬ HS O L p := fun z => S.hdom p z hp
  have sub : ∀ a, HS O (putL i (some (1, [p])) L) a → HS O L a ∨ a = p := by
    rintro a (z | ⟨j, k, as, z, m⟩)
    · exact .inl (.inl z)
    · by_cases q : j = i
      · subst q
        rw [putL_same] at z
        cases z
        exact .inr (List.mem_singleton.mp m)
      · rw [putL_ne q] at z
        exact .inl (.inr ⟨j, k, as, z, m⟩)
  have le : RdLe (hide (HS O L) H0) (hide (HS O (putL i (some (1, [p])) L)) H) := by
    have key : ∀ a u, hide (HS O L) H0 a = some u → hide (HS O (putL i (some (1, [p])) L)) H a = some u := fun a u h => by
      obtain ⟨n, h⟩ := hide_some h
      rw [hide_no]
      · exact e a u h
      · intro z
        rcases sub a z with z | z
        · exact n z
        · rw [z, hp] at h
          cases h
    exact RdLe.ofKey key
  have le2 : RdLe (hide (fun a => HS O L a ∨ a = p) H) (hide (HS O (putL i (some (1, [p])) L)) H) := hide_same sub (Same.refl H)
  refine (S.ext e).setOwn (fun _ => rfl) hi (by simp) (fun a ha => ?_) (fun j d' h1 h2 _ => ?_) (fun j k as h _ => ?_) (own_top hq (t.mono le2))
  · rw [List.mem_singleton.mp ha]
    exact ⟨nh, nb⟩
  · obtain ⟨v, h3, h4⟩ := S.vars j d' h1 h2
    exact ⟨v, h3, h4.mono le⟩
  · obtain ⟨v, d', h1, h2, h3⟩ := S.owns j k as h
    refine ⟨v, d', h1, h2, h3.mono le fun a ha => ?_⟩
    cases q : H0 a with
    | none => exact absurd q (h3.dom a ha)
    | some o => exact e a o q
/-- what stands in an owned slot -/
theorem SR.top (S : SR K B O L σ H ρ) {i : Nat} {as : List Addr} {d : D} (h : L i = some (1, as)) (hd : ρ[i]? = some (some d)) (ht : isTop d = true) :
    ∃ p o, σ[i]? = some (some (.ref p)) ∧ as = [p] ∧ B p = none ∧ H p = some o ∧ Top K (hide (HS O L) H) o d := by
  obtain ⟨v, d', h1, h2, h3⟩ := S.owns i 1 as h
  rw [hd] at h2
  cases h2
  obtain ⟨p, o, e1, e2, e3, t⟩ := top_own h3 ht
  subst e1 e2
  exact ⟨p, o, h1, rfl, (S.nodup i 1 [p] h).2 p List.mem_cons_self, e3, t⟩
/-- an owned object is changed -/
theorem SR.change (S : SR K B O L σ H ρ) {i : Nat} {p : Addr} {o : HO} {d' : D} (h : L i = some (1, [p])) (hs : σ[i]? = some (some (.ref p))) (hd : ∃ d, ρ[i]? = some (some d)) (t : Top K (hide (HS O L) H) o d') :
    SR K B O L σ (upd H p o) (ρ.set i (some d')) := by
  have nb : B p = none := (S.nodup i 1 [p] h).2 p List.mem_cons_self
  have hp : HS O L p := .inr ⟨i, 1, [p], h, List.mem_cons_self⟩
  have le : RdLe (hide (HS O L) H) (hide (HS O L) (upd H p o)) := hide_mono (fun _ z => z) fun a u n e => by
    rw [upd_ne (fun z : a = p => n (by rw [z]; exact hp))]
    exact e
  have hi : i < ρ.length := by
    obtain ⟨d, e⟩ := hd
    exact (List.getElem?_eq_some_iff.mp e).1
  refine ⟨same_upd S.same nb, S.dom, by rw [List.length_set, S.len], fun j e h1 h2 => ?_, fun j k as h' => ?_, S.nodup, S.sep, fun j k as e h' h2 hi2 => by
    by_cases q : i = j
    · subst q
      rw [h] at h'
      cases h'
      rfl
    · rw [List.getElem?_set_ne q] at h2
      exact S.one j k as e h' h2 hi2⟩
  · have n : i ≠ j := fun q => by
      subst q
      rw [h] at h1
      cases h1
    rw [List.getElem?_set_ne n] at h2
    obtain ⟨v, h3, h4⟩ := S.vars j e h1 h2
    exact ⟨v, h3, h4.mono le⟩
  · by_cases q : i = j
    · subst q
      rw [h] at h'
      cases h'
      exact ⟨_, d', hs, List.getElem?_set_self hi, own_top upd_same (t.mono le)⟩
    · rw [List.getElem?_set_ne q]
      obtain ⟨v, e, h1, h2, h3⟩ := S.owns j k as h'
      exact ⟨v, e, h1, h2, h3.mono le fun a ha => upd_ne fun z => by
        subst z
        exact S.sep i j 1 [a] k as q h h' a List.mem_cons_self ha⟩
end
end DL
set_option Elab.async false
set_option linter.all false
set_option maxRecDepth 100000
namespace DL
open PySem L2

/-! ### answers -/
structure XN where
  C : Addr
  fs : List Str
  vs : List D
inductive R (α : Type) where
  | ok (a : α) | exc (x : XN) | stuck
def R.bind {α β : Type} : R α → (α → R β) → R β
  | .ok a, f => f a
  | .exc x, _ => .exc x
  | .stuck, _ => .stuck
theorem R.ok_bind {α β : Type} {a : α} {f : α → R β} : (R.ok a).bind f = f a := rfl
theorem R.exc_bind {α β : Type} {x : XN} {f : α → R β} : (R.exc x).bind f = .exc x := rfl
theorem R.stuck_bind {α β : Type} {f : α → R β} : (R.stuck : R α).bind f = .stuck := rfl
def R.ofO {α : Type} : Option α → R α
  | some a => .ok a
  | none => .stuck
theorem R.ofO_some {α : Type} {a : α} : R.ofO (some a) = .ok a := rfl
theorem R.ofO_none {α : Type} : R.ofO (none : Option α) = .stuck := rfl

def RepX (K : PySem.W.Frag) (G H : Hp) (c : Value) (dd : Option Addr) (x : XN) : Prop :=
  c = .ref x.C ∧ ∃ a us, dd = some a ∧ H a = some (.xd us) ∧ us.map (·.1) = x.fs ∧ RepL K G (us.map (·.2)) x.vs

def PostG {α β : Type} (K : PySem.W.Frag) (O : Addr → Prop) (W : WX) (rel : Hp → β → α → Prop) (r : R α) (σ : St) (H : Hp) (Q : β → Hp → Prop) : Prop :=
  match r with
  | .ok a => ∀ b H', Same H H' → rel H' b a → Q b H'
  | .exc x => ∀ c dd H', Same H H' → RepX K (hide O H') H' c dd x → W c dd σ H'
  | .stuck => False
section
variable {K : PySem.W.Frag} {O : Addr → Prop} {W : WX} {σ : St} {H H1 : Hp} {α β γ δ : Type} {rel : Hp → β → α → Prop} {rel' : Hp → δ → γ → Prop}
theorem PostG.ext {r : R α} {Q : β → Hp → Prop} (P : PostG K O W rel r σ H Q) (e : Same H H1) : PostG K O W rel r σ H1 Q := by
  cases r with
  | ok a => exact fun b H' e' h => P b H' (e.trans e') h
  | exc x => exact fun c dd H' e' h => P c dd H' (e.trans e') h
  | stuck => exact P
theorem PostG.bind {r : R α} {k : α → R γ} {Q : δ → Hp → Prop} {Q' : β → Hp → Prop} (P : PostG K O W rel' (r.bind k) σ H Q)
    (h : ∀ a b H1, Same H H1 → rel H1 b a → PostG K O W rel' (k a) σ H1 Q → Q' b H1) : PostG K O W rel r σ H Q' := by
  cases r with
  | ok a => exact fun b H' e' hr => h a b H' e' hr (PostG.ext P e')
  | exc x => exact P
  | stuck => exact P
theorem PostG.ofO {o : Option α} {Q : β → Hp → Prop} (P : PostG K O W rel (R.ofO o) σ H Q) : ∃ a, o = some a ∧ ∀ b H', Same H H' → rel H' b a → Q b H' := by
  cases o with
  | none => exact P.elim
  | some a => exact ⟨a, rfl, P⟩
end

def rV (K : PySem.W.Frag) (O : Addr → Prop) (L : Lm) : Hp → V → D → Prop := fun H v d => Rep K (hide (HS O L) H) v d
def rA (K : PySem.W.Frag) (O : Addr → Prop) (L : Lm) : Hp → List V → List D → Prop := fun H v d => RepL K (hide (HS O L) H) v d
def rB : Hp → Bool → Bool → Prop := fun _ b a => b = a
def tD (K : PySem.W.Frag) (W : WX) (es : List Nat) (fe : Env → R D) : TE := fun σ H Q => ∃ B O L ρ, SR K B O L σ H ρ ∧ PostG K O W (rV K O (dropL es L)) (fe ρ) σ H Q
def tDT (K : PySem.W.Frag) (W : WX) (fe : Env → R Bool) : TT := fun σ H Q => ∃ B O L ρ, SR K B O L σ H ρ ∧ PostG K O W rB (fe ρ) σ H Q
def tDA (K : PySem.W.Frag) (W : WX) (es : List Nat) (fe : Env → R (List D)) : TA := fun σ H Q => ∃ B O L ρ, SR K B O L σ H ρ ∧ PostG K O W (rA K O (dropL es L)) (fe ρ) σ H Q
def PD (X : Cx) (W : WX) (e : Expr) (es : List Nat) (fe : Env → R D) : Prop := PE X e (tD X.K W es fe)
def PDT (X : Cx) (W : WX) (e : Expr) (fe : Env → R Bool) : Prop := PT X e (tDT X.K W fe)
def PDW (X : Cx) (W : WX) (e : Expr) (fe : Env → R Bool) : Prop := PW X e (tDT X.K W fe)
def PDA (X : Cx) (W : WX) (e : List Expr) (es : List Nat) (fe : Env → R (List D)) : Prop := PA X e (tDA X.K W es fe)

theorem PE.imp {X : Cx} {e : Expr} {t t' : TE} (h : PE X e t) (f : ∀ σ H Q, t' σ H Q → t σ H Q) : PE X e t' := ⟨fun pins s σ H Q I q => h.run pins s σ H Q I (f σ H Q q)⟩
theorem PT.imp {X : Cx} {e : Expr} {t t' : TT} (h : PT X e t) (f : ∀ σ H Q, t' σ H Q → t σ H Q) : PT X e t' := ⟨fun pins s σ H Q I q => h.run pins s σ H Q I (f σ H Q q)⟩
theorem PW.imp {X : Cx} {e : Expr} {t t' : TT} (h : PW X e t) (f : ∀ σ H Q, t' σ H Q → t σ H Q) : PW X e t' := ⟨fun wh pins s σ H Q I q => h.run wh pins s σ H Q I (f σ H Q q)⟩
theorem PA.imp {X : Cx} {e : List Expr} {t t' : TA} (h : PA X e t) (f : ∀ σ H Q, t' σ H Q → t σ H Q) : PA X e t' := ⟨fun pos pins s σ H Q I q => h.run pos pins s σ H Q I (f σ H Q q)⟩
theorem PS.imp {X : Cx} {e : Stmt} {t t' : TS} (h : PS X e t) (f : ∀ D σ H, t' D σ H → t D σ H) : PS X e t' := ⟨fun pins s σ H D I q => h.run pins s σ H D I (f D σ H q)⟩
theorem PSs.imp {X : Cx} {e : List Stmt} {t t' : TS} (h : PSs X e t) (f : ∀ D σ H, t' D σ H → t D σ H) : PSs X e t' := ⟨fun pins s σ H D I q => h.run pins s σ H D I (f D σ H q)⟩

/-! ### names and constants -/
def getE (ρ : Env) (i : Nat) : R D :=
  match ρ[i]? with
  | some (some d) => .ok d
  | _ => .stuck
section
variable {X : Cx} {W : WX}
theorem pd_var {i : Nat} {e : Expr} (h : PE X e (tVar i)) : PD X W e [i] (fun ρ => getE ρ i) := PE.imp h fun σ H Q ⟨B, O, L, ρ, S, P⟩ => by
  have P : PostG X.K O W (rV X.K O (dropL [i] L)) (getE ρ i) σ H Q := P
  unfold getE at P
  split at P
  · rename_i d e
    obtain ⟨v, h1, h2⟩ := S.read e
    exact ⟨v, h1, P v H (Same.refl H) h2⟩
  · exact P.elim
theorem pd_int {i : Int} {j pos} : PD X W (.Constant (.int i) j pos) [] (fun _ => .ok (.int i)) := PE.imp pe_int fun σ H Q ⟨B, O, L, ρ, S, P⟩ => P _ H (Same.refl H) rfl
theorem pd_bl {b : Bool} {j pos} : PD X W (.Constant (.bool b) j pos) [] (fun _ => .ok (.bl b)) := PE.imp pe_bl fun σ H Q ⟨B, O, L, ρ, S, P⟩ => P _ H (Same.refl H) rfl
theorem pd_non {j pos} : PD X W (.Constant .none j pos) [] (fun _ => .ok .non) := PE.imp pe_non fun σ H Q ⟨B, O, L, ρ, S, P⟩ => P _ H (Same.refl H) rfl
theorem pd_str {x : Str} {j pos} (l : List Nat) (hl : x = mkS l := by decide +kernel) (ho : l.all (fun c => decide (c < 0x110000)) = true := by decide +kernel) : PD X W (.Constant (.str x) j pos) [] (fun _ => .ok (.str l)) := PE.imp pe_str fun σ H Q ⟨B, O, L, ρ, S, P⟩ =>
  P _ H (Same.refl H) ⟨by rw [hl], fun c hc => of_decide_eq_true (List.all_eq_true.mp ho c hc)⟩
/-- a module's constant: an int, a text -/
theorem pd_gint {x : Str} {i : Int} {pos : Pos} (hg : Gl X x) (hm : ∃ t, X.mg x = some (.int i t)) (hd : (x == ("__debug__" : Str)) = false := by decide) : PD X W (.Name x pos) [] (fun _ => .ok (.int i)) := by
  obtain ⟨t, hm⟩ := hm
  exact PE.imp (pe_glob (v := .int i) hg hm ⟨_, rfl⟩ hd) fun σ H Q ⟨B, O, L, ρ, S, P⟩ => P (.int i) H (Same.refl H) rfl
theorem pd_gstr {x : Str} {pos : Pos} (l : List Nat) (hg : Gl X x) (hm : ∃ t, X.mg x = some (.str (mkS l) t)) (ho : l.all (fun c => decide (c < 0x110000)) = true := by decide +kernel) (hd : (x == ("__debug__" : Str)) = false := by decide) :
    PD X W (.Name x pos) [] (fun _ => .ok (.str l)) := by
  obtain ⟨t, hm⟩ := hm
  exact PE.imp (pe_glob (v := .str (mkS l)) hg hm ⟨_, rfl⟩ hd) fun σ H Q ⟨B, O, L, ρ, S, P⟩ => P (.str (mkS l)) H (Same.refl H) ⟨rfl, fun c hc => of_decide_eq_true (List.all_eq_true.mp ho c hc)⟩
/-- the value is no object: nothing is given up -/
def isS : D → Bool
  | .non => true
  | .bl _ => true
  | .int _ => true
  | .str _ => true
  | .cl _ => true
  | _ => false
def scalR (r : R D) : R D := r.bind fun d => if isS d = true then .ok d else .stuck
theorem Rep.scal {K : PySem.W.Frag} {G G' : Hp} {v : V} {d : D} (h : Rep K G v d) (s : isS d = true) : Rep K G' v d := by
  cases d <;> first | exact h | cases s
theorem pd_scal {e : Expr} {es : List Nat} {fe : Env → R D} (h : PD X W e es fe) : PD X W e [] (fun ρ => scalR (fe ρ)) := PE.imp h fun σ H Q ⟨B, O, L, ρ, S, P⟩ => ⟨B, O, L, ρ, S, PostG.bind P fun d v H1 e r P1 => by
  by_cases q : isS d = true
  · rw [if_pos q] at P1
    exact P1 v H1 (Same.refl H1) (r.scal q)
  · rw [if_neg q] at P1
    exact P1.elim⟩

/-! ### operators -/
def OpD (K : PySem.W.Frag) (r : R2) (g : D → D → Option D) : Prop := ∀ (O : Addr → Prop) (H : Hp) (x y : V) (a b d : D) (Q : VK), (∀ p, O p → H p ≠ none) → Rep K (hide O H) x a → Rep K (hide O H) y b → g a b = some d →
  (∀ v H', Same H H' → Rep K (hide O H') v d → Q v H') → r x y H Q
def UnD (K : PySem.W.Frag) (r : V → Hp → VK → Prop) (g : D → Option D) : Prop := ∀ (O : Addr → Prop) (H : Hp) (x : V) (a d : D) (Q : VK), (∀ p, O p → H p ≠ none) → Rep K (hide O H) x a → g a = some d →
  (∀ v H', Same H H' → Rep K (hide O H') v d → Q v H') → r x H Q
def CallD (K : PySem.W.Frag) (r : List V → Hp → VK → Prop) (g : List D → Option D) : Prop := ∀ (O : Addr → Prop) (H : Hp) (xs : List V) (as : List D) (d : D) (Q : VK), (∀ p, O p → H p ≠ none) → RepL K (hide O H) xs as → g as = some d →
  (∀ v H', Same H H' → Rep K (hide O H') v d → Q v H') → r xs H Q
def fOp (g : D → D → Option D) (fa fb : Env → R D) : Env → R D := fun ρ => (fa ρ).bind fun a => (fb ρ).bind fun b => R.ofO (g a b)
theorem drop_mono {K : PySem.W.Frag} {O : Addr → Prop} {L : Lm} {es es' : List Nat} {H H' : Hp} {v : V} {d : D} (h : ∀ i ∈ es, i ∈ es') (e : Same H H') (r : rV K O (dropL es L) H v d) : rV K O (dropL es' L) H' v d := Rep.mono (hide_same (hs_dropLe h) e) r
theorem tD_op {r : R2} {g : D → D → Option D} {ea eb : List Nat} {fa fb : Env → R D} (hg : OpD X.K r g) : ∀ σ H Q, tD X.K W (ea ++ eb) (fOp g fa fb) σ H Q → tOp r (tD X.K W ea fa) (tD X.K W eb fb) σ H Q := fun σ H Q ⟨B, O, L, ρ, S, P⟩ =>
  ⟨B, O, L, ρ, S, PostG.bind P fun a x H1 e1 r1 P1 => ⟨B, O, L, ρ, S.ext e1, PostG.bind P1 fun b y H2 e2 r2 P2 => by
    obtain ⟨d, hd, P3⟩ := P2.ofO
    exact hg (HS O (dropL (ea ++ eb) L)) H2 x y a b d Q (((S.ext e1).ext e2).drop _).hdom (drop_mono (fun i h => List.mem_append_left _ h) e2 r1) (drop_mono (fun i h => List.mem_append_right _ h) (Same.refl H2) r2) hd P3⟩⟩
theorem pd_op {op : Operator} {r : R2} {g : D → D → Option D} {a b : Expr} {pos : Pos} {ea eb : List Nat} {fa fb : Env → R D} (ho : OpR X (binaryOp op) r) (hg : OpD X.K r g) (ha : PD X W a ea fa) (hb : PD X W b eb fb) :
    PD X W (.BinOp a op b pos) (ea ++ eb) (fOp g fa fb) := PE.imp (pe_op ho ha hb) (tD_op hg)
theorem pd_cmp {op : CmpOp} {r : R2} {g : D → D → Option D} {a b : Expr} {pos : Pos} {ea eb : List Nat} {fa fb : Env → R D} (ho : OpR X (compareOp op) r) (hg : OpD X.K r g) (ha : PD X W a ea fa) (hb : PD X W b eb fb)
    (hm : behindInMarks op b = false) : PD X W (.Compare a [op] [b] pos) (ea ++ eb) (fOp g fa fb) := PE.imp (pe_cmpR ho ha hb hm) (tD_op hg)
def asB : D → R Bool
  | .bl b => .ok b
  | _ => .stuck
def fB (fe : Env → R D) : Env → R Bool := fun ρ => (fe ρ).bind asB
theorem tD_B {es : List Nat} {fe : Env → R D} : ∀ σ H Q, tDT X.K W (fB fe) σ H Q → tD X.K W es fe σ H fun x H1 => ∃ k, x = .bl k ∧ Q k H1 := fun σ H Q ⟨B, O, L, ρ, S, P⟩ =>
  ⟨B, O, L, ρ, S, PostG.bind P fun d v H1 e r P1 => by
    cases d <;> first
      | (obtain rfl := (show v = _ from r)
         exact ⟨_, rfl, P1 _ H1 (Same.refl H1) rfl⟩)
      | exact P1.elim⟩
theorem pdt_cmp {op : CmpOp} {r : R2} {g : D → D → Option D} {a b : Expr} {pos : Pos} {ea eb : List Nat} {fa fb : Env → R D} (ho : OpR X (compareOp op) r) (hg : OpD X.K r g) (ha : PD X W a ea fa) (hb : PD X W b eb fb)
    (hm : behindInMarks op b = false) : PDT X W (.Compare a [op] [b] pos) (fB (fOp g fa fb)) := PT.imp (pt_cmpR ho ha hb hm) fun σ H Q h => by
  have q := tD_B (es := ea ++ eb) σ H Q h
  exact tD_op hg σ H _ q
theorem pdt_val {e : Expr} {es : List Nat} {fe : Env → R D} (h : PD X W e es fe) (he : ∀ whole, isTrue e X.env whole = (do let v ← whole; standAt e.pos; holding [v] (truthy v)) := by intro _; rfl) : PDT X W e (fB fe) :=
  PT.imp (pt_val h he) fun σ H Q q => tD_B σ H Q q

/-! ### and, or, not -/
def fAnd (fa fb : Env → R Bool) : Env → R Bool := fun ρ => (fa ρ).bind fun a => if a = true then fb ρ else .ok false
def fOr (fa fb : Env → R Bool) : Env → R Bool := fun ρ => (fa ρ).bind fun a => if a = true then .ok true else fb ρ
def fNot (fa : Env → R Bool) : Env → R Bool := fun ρ => (fa ρ).bind fun a => .ok (!a)
variable {a b c : Expr} {rest : List Expr} {pos : Pos} {ta tb tc : Env → R Bool}
theorem tDT_and : ∀ σ H Q, tDT X.K W (fAnd ta tb) σ H Q → tAnd (tDT X.K W ta) (tDT X.K W tb) σ H Q := fun σ H Q ⟨B, O, L, ρ, S, P⟩ =>
  ⟨B, O, L, ρ, S, PostG.bind P fun k k' H1 e r P1 => by
    obtain rfl : k' = k := r
    cases k' with
    | true => exact ⟨B, O, L, ρ, S.ext e, P1⟩
    | false => exact P1 false H1 (Same.refl H1) rfl⟩
theorem tDT_or : ∀ σ H Q, tDT X.K W (fOr ta tb) σ H Q → tOr (tDT X.K W ta) (tDT X.K W tb) σ H Q := fun σ H Q ⟨B, O, L, ρ, S, P⟩ =>
  ⟨B, O, L, ρ, S, PostG.bind P fun k k' H1 e r P1 => by
    obtain rfl : k' = k := r
    cases k' with
    | false => exact ⟨B, O, L, ρ, S.ext e, P1⟩
    | true => exact P1 true H1 (Same.refl H1) rfl⟩
theorem pdw_and1 (h : PDT X W a ta) : PDW X W (.BoolOp .And [a] pos) ta := pw_and1 h
theorem pdw_or1 (h : PDT X W a ta) : PDW X W (.BoolOp .Or [a] pos) ta := pw_or1 h
theorem pdw_and (h : PDT X W a ta) (k : PDW X W (.BoolOp .And (b :: rest) pos) tb) : PDW X W (.BoolOp .And (a :: b :: rest) pos) (fAnd ta tb) := PW.imp (pw_and h k) tDT_and
theorem pdw_or (h : PDT X W a ta) (k : PDW X W (.BoolOp .Or (b :: rest) pos) tb) : PDW X W (.BoolOp .Or (a :: b :: rest) pos) (fOr ta tb) := PW.imp (pw_or h k) tDT_or
theorem pdt_w (h : PDW X W a ta) : PDT X W a ta := PW.pt h
theorem pdt_not (h : PDT X W a ta) : PDT X W (.UnaryOp .Not a pos) (fNot ta) := PT.imp (pt_not h) fun σ H Q ⟨B, O, L, ρ, S, P⟩ =>
  ⟨B, O, L, ρ, S, PostG.bind P fun k k' H1 e r P1 => by
    obtain rfl : k' = k := r
    exact P1 _ H1 (Same.refl H1) rfl⟩
/-- .. as values -/
def fV (fb : Env → R Bool) : Env → R D := fun ρ => (fb ρ).bind fun k => .ok (.bl k)
theorem pd_one {op} {es : List Nat} {fe : Env → R D} (h : PD X W a es fe) : PD X W (.BoolOp op [a] pos) es fe := pe_one h
def fAndV (fa fb : Env → R D) : Env → R D := fun ρ => (fa ρ).bind fun a => (asB a).bind fun k => if k = true then fb ρ else .ok (.bl false)
def fOrV (fa fb : Env → R D) : Env → R D := fun ρ => (fa ρ).bind fun a => (asB a).bind fun k => if k = true then .ok (.bl true) else fb ρ
def fNotV (fa : Env → R D) : Env → R D := fun ρ => (fa ρ).bind fun a => (asB a).bind fun k => .ok (.bl (!k))
theorem pd_and {ea eb : List Nat} {fa fb : Env → R D} (h : PD X W a ea fa) (k : PD X W (.BoolOp .And (b :: rest) pos) eb fb) : PD X W (.BoolOp .And (a :: b :: rest) pos) eb (fAndV fa fb) := PE.imp (pe_and h k) fun σ H Q ⟨B, O, L, ρ, S, P⟩ =>
  ⟨B, O, L, ρ, S, PostG.bind P fun d v H1 e r P1 => by
    cases d <;> first
      | exact P1.elim
      | (rename_i c
         obtain rfl := (show v = _ from r)
         refine ⟨c, rfl, ?_⟩
         cases c with
         | true => exact ⟨B, O, L, ρ, S.ext e, P1⟩
         | false => exact P1 (.bl false) H1 (Same.refl H1) rfl)⟩
theorem pd_or {ea eb : List Nat} {fa fb : Env → R D} (h : PD X W a ea fa) (k : PD X W (.BoolOp .Or (b :: rest) pos) eb fb) : PD X W (.BoolOp .Or (a :: b :: rest) pos) eb (fOrV fa fb) := PE.imp (pe_or h k) fun σ H Q ⟨B, O, L, ρ, S, P⟩ =>
  ⟨B, O, L, ρ, S, PostG.bind P fun d v H1 e r P1 => by
    cases d <;> first
      | exact P1.elim
      | (rename_i c
         obtain rfl := (show v = _ from r)
         refine ⟨c, rfl, ?_⟩
         cases c with
         | false => exact ⟨B, O, L, ρ, S.ext e, P1⟩
         | true => exact P1 (.bl true) H1 (Same.refl H1) rfl)⟩
theorem pd_not {ea : List Nat} {fa : Env → R D} (h : PD X W a ea fa) : PD X W (.UnaryOp .Not a pos) [] (fNotV fa) := PE.imp (pe_not h) fun σ H Q ⟨B, O, L, ρ, S, P⟩ =>
  ⟨B, O, L, ρ, S, PostG.bind P fun d v H1 e r P1 => by
    cases d <;> first
      | exact P1.elim
      | (rename_i c
         obtain rfl := (show v = _ from r)
         exact ⟨c, rfl, P1 _ H1 (Same.refl H1) rfl⟩)⟩
def fIfE (t : Env → R Bool) (fa fb : Env → R D) : Env → R D := fun ρ => (t ρ).bind fun k => if k = true then fa ρ else fb ρ
theorem pd_ifE {ea eb : List Nat} {fa fb : Env → R D} (ht : PDT X W c tc) (ha : PD X W a ea fa) (hb : PD X W b eb fb) : PD X W (.IfExp c a b pos) (ea ++ eb) (fIfE tc fa fb) := PE.imp (pe_ifExp ht ha hb) fun σ H Q ⟨B, O, L, ρ, S, P⟩ =>
  ⟨B, O, L, ρ, S, PostG.bind P fun k k' H1 e r P1 => by
    obtain rfl : k' = k := r
    have weak : ∀ {es : List Nat} {r : R D}, (∀ i ∈ es, i ∈ ea ++ eb) → PostG X.K O W (rV X.K O (dropL (ea ++ eb) L)) r σ H1 Q → PostG X.K O W (rV X.K O (dropL es L)) r σ H1 Q := fun {es r} hs p => by
      cases r with
      | ok d => exact fun v H2 e2 r2 => p v H2 e2 (drop_mono hs (Same.refl H2) r2)
      | exc x => exact p
      | stuck => exact p
    cases k' with
    | true => exact ⟨B, O, L, ρ, S.ext e, weak (fun i h => List.mem_append_left _ h) P1⟩
    | false => exact ⟨B, O, L, ρ, S.ext e, weak (fun i h => List.mem_append_right _ h) P1⟩⟩

/-! ### arguments, displays -/
def fNil : Env → R (List D) := fun _ => .ok []
def fCons (fa : Env → R D) (fs : Env → R (List D)) : Env → R (List D) := fun ρ => (fa ρ).bind fun a => (fs ρ).bind fun l => .ok (a :: l)
variable {e : Expr} {es : List Expr} {ea eb : List Nat} {fa : Env → R D} {fs : Env → R (List D)}
theorem pda_nil : PDA X W [] [] fNil := PA.imp pa_nil fun σ H Q ⟨B, O, L, ρ, S, P⟩ => P [] H (Same.refl H) rfl
theorem pda_cons (h : PD X W e ea fa) (k : PDA X W es eb fs) (hs : starEach (e :: es) X.env = (false, eval e X.env) :: starEach es X.env := by rfl) : PDA X W (e :: es) (ea ++ eb) (fCons fa fs) := PA.imp (pa_cons h k hs) fun σ H Q ⟨B, O, L, ρ, S, P⟩ =>
  ⟨B, O, L, ρ, S, PostG.bind P fun d v H1 e1 r1 P1 => ⟨B, O, L, ρ, S.ext e1, PostG.bind P1 fun ds vs H2 e2 r2 P2 =>
    P2 (v :: vs) H2 (Same.refl H2) ⟨v, vs, rfl, drop_mono (fun i h => List.mem_append_left _ h) e2 r1, RepL.mono (hide_same (hs_dropLe fun i h => List.mem_append_right _ h) (Same.refl H2)) r2⟩⟩⟩
def lenOk {α : Type} (l : List α) (r : R D) : R D := if l.length ≤ sizeLine then r else .stuck
def fTup (fs : Env → R (List D)) : Env → R D := fun ρ => (fs ρ).bind fun l => lenOk l (.ok (.tup l))
def fLst (fs : Env → R (List D)) : Env → R D := fun ρ => (fs ρ).bind fun l => lenOk l (.ok (.lst l))
/-- a new object, seen by nobody -/
theorem fresh_rep {K : PySem.W.Frag} {O : Addr → Prop} {H H' : Hp} {p : Addr} {vs : List V} {ds : List D} (hd : ∀ p, O p → H p ≠ none) (hp : H p = none) (e : Same H H') (r : RepL K (hide O H) vs ds) : ¬ O p ∧ RepL K (hide O H') vs ds :=
  ⟨fun z => hd p z hp, r.mono (hide_same (fun _ z => z) e)⟩
theorem pd_tup {x1} (h : PDA X W es ea fs) : PD X W (.Tuple es x1 pos) ea (fTup fs) := PE.imp (pe_tup h) fun σ H Q ⟨B, O, L, ρ, S, P⟩ =>
  ⟨B, O, L, ρ, S, PostG.bind P fun ds vs H1 e r P1 => by
    have hl := RepL.length r
    unfold lenOk at P1
    split at P1
    · rename_i hz
      refine ⟨by omega, fun p hp => P1 _ _ (same_new hp) ?_⟩
      obtain ⟨n, r2⟩ := fresh_rep ((S.ext e).drop ea).hdom hp (same_new (o := .tup vs) hp) r
      exact ⟨p, vs, rfl, by rw [hide_no n, upd_same], r2⟩
    · exact P1.elim⟩
/-- new objects: the address, what it holds -/
def PostF (K : PySem.W.Frag) (O : Addr → Prop) (W : WX) (L : Lm) (r : R D) (σ : St) (H : Hp) (Q : V → Hp → Prop) : Prop :=
  match r with
  | .ok d => ∀ p o H', H p = none → Same H H' → H' p = some o → Top K (hide (fun a => HS O L a ∨ a = p) H') o d → Q (.ref p) H'
  | .exc x => ∀ c dd H', Same H H' → RepX K (hide O H') H' c dd x → W c dd σ H'
  | .stuck => False
def tDF (K : PySem.W.Frag) (W : WX) (es : List Nat) (fe : Env → R D) : TE := fun σ H Q => ∃ B O L ρ, SR K B O L σ H ρ ∧ PostF K O W (dropL es L) (fe ρ) σ H Q
def PDF (X : Cx) (W : WX) (e : Expr) (es : List Nat) (fe : Env → R D) : Prop := PE X e (tDF X.K W es fe)
theorem Top.rep {K : PySem.W.Frag} {G G' : Hp} {p : Addr} {o : HO} {d : D} (t : Top K G o d) (e : RdLe G G') (hp : Rd G' p o) : Rep K G' (.ref p) d := by
  have t := t.mono e
  cases o <;> cases d <;> first
    | exact t.elim
    | exact ⟨p, _, rfl, .inl hp, t⟩
    | exact ⟨p, _, rfl, hp, t⟩
    | (obtain ⟨t1, t2, t3⟩ := t
       subst t1
       exact ⟨p, _, _, rfl, hp, t2, t3⟩)
theorem PDF.pd (h : PDF X W e ea fa) : PD X W e ea fa := PE.imp h fun σ H Q ⟨B, O, L, ρ, S, P⟩ => ⟨B, O, L, ρ, S, by
  cases q : fa ρ with
  | ok d =>
    rw [q] at P
    refine fun p o H' hp e' ho t => P (.ref p) H' e' ?_
    have n : ¬ HS O (dropL ea L) p := fun z => (S.drop ea).hdom p z hp
    exact t.rep (hide_same (fun a z => .inl z) (Same.refl H')) (.inl (by rw [hide_no n, ho]))
  | exc x => rw [q] at P; exact P
  | stuck => rw [q] at P; exact P⟩
theorem PostF.bind {K : PySem.W.Frag} {O : Addr → Prop} {L : Lm} {α β : Type} {rel : Hp → β → α → Prop} {r : R α} {k : α → R D} {σ : St} {H : Hp} {Q : VK} {Q' : β → Hp → Prop} (P : PostF K O W L (r.bind k) σ H Q)
    (h : ∀ a b H1, Same H H1 → rel H1 b a → (∀ p, H1 p = none → H p = none) → PostF K O W L (k a) σ H1 Q → Q' b H1) : PostG K O W rel r σ H Q' := by
  cases r with
  | ok a =>
    refine fun b H' e' hr => h a b H' e' hr (fun p => e'.free) ?_
    have P : PostF K O W L (k a) σ H Q := P
    cases q : k a with
    | ok d => rw [q] at P; exact fun p o H2 hp e2 => P p o H2 (e'.free hp) (e'.trans e2)
    | exc x => rw [q] at P; exact fun c dd H2 e2 => P c dd H2 (e'.trans e2)
    | stuck => rw [q] at P; exact P
  | exc x => exact P
  | stuck => exact P
theorem pdf_lst (h : PDA X W es ea fs) : PDF X W (.List es pos) ea (fLst fs) := PE.imp (pe_lst h) fun σ H Q ⟨B, O, L, ρ, S, P⟩ =>
  ⟨B, O, L, ρ, S, PostF.bind P fun ds vs H1 e r fr P1 => by
    have hl := RepL.length r
    unfold lenOk at P1
    split at P1
    · rename_i hz
      refine ⟨by omega, fun p hp => P1 p (.lst vs) _ hp (same_new hp) upd_same ?_⟩
      have r : RepL X.K (hide (HS O (dropL ea L)) H1) vs ds := r
      refine RepL.mono ?_ r
      have key : ∀ a u, hide (HS O (dropL ea L)) H1 a = some u → hide (fun a => HS O (dropL ea L) a ∨ a = p) (upd H1 p (.lst vs)) a = some u := fun a u z => by
        obtain ⟨n, z⟩ := hide_some z
        have np : a ≠ p := ne_of_none z hp
        rw [hide_no (fun y => y.elim n np), upd_ne np]
        exact z
      exact RdLe.ofKey key
    · exact P1.elim⟩
end
end DL
set_option Elab.async false
set_option linter.all false
set_option maxRecDepth 100000
namespace DL
open PySem L2

/-! ### statements -/
inductive Out where
  | nx (ρ : Env) | rt (d : D) | bk (ρ : Env) | ct (ρ : Env) | exc (x : XN) (ρ : Env) | stuck
abbrev Ow := List (Nat × Nat)
def OwOk (ow : Ow) (L : Lm) : Prop := ∀ p ∈ ow, ∃ as, L p.1 = some (p.2, as)
theorem OwOk.nil {L : Lm} : OwOk [] L := fun _ h => by cases h
theorem OwOk.sub {ow ow' : Ow} {L : Lm} (h : OwOk ow L) (s : ∀ p ∈ ow', p ∈ ow) : OwOk ow' L := fun p q => h p (s p q)
theorem OwOk.drop {ow ow' : Ow} {L : Lm} {es : List Nat} (h : OwOk ow L) (s : ∀ p ∈ ow', p ∈ ow ∧ p.1 ∉ es) : OwOk ow' (dropL es L) := fun p q => by
  rw [dropL_no (s p q).2]
  exact h p (s p q).1
def PostS (K : PySem.W.Frag) (B : Hp) (O : Addr → Prop) (W : WX) (ow owl : Ow) (r : Out) (D : Ends) : Prop :=
  match r with
  | .nx ρ => ∀ σ H L, SR K B O L σ H ρ → OwOk ow L → D.nx σ H
  | .rt d => ∀ v H, Same B H → Rep K (hide O H) v d → D.rt v H
  | .bk ρ => ∀ σ H L, SR K B O L σ H ρ → OwOk owl L → D.bk σ H
  | .ct ρ => ∀ σ H L, SR K B O L σ H ρ → OwOk owl L → D.ct σ H
  | .exc x ρ => ∀ c dd σ H L, SR K B O L σ H ρ → RepX K (hide O H) H c dd x → W c dd σ H
  | .stuck => False
def tDS (K : PySem.W.Frag) (W : WX) (ow ow' owl : Ow) (fs : Env → Out) : TS := fun D σ H => ∃ B O L ρ, SR K B O L σ H ρ ∧ OwOk ow L ∧ PostS K B O W ow' owl (fs ρ) D
def PDS (X : Cx) (W : WX) (ow ow' owl : Ow) (st : Stmt) (fs : Env → Out) : Prop := PS X st (tDS X.K W ow ow' owl fs)
def PDB (X : Cx) (W : WX) (ow ow' owl : Ow) (st : List Stmt) (fs : Env → Out) : Prop := PSs X st (tDS X.K W ow ow' owl fs)

/-- an expression's answer, then the statement -/
def stE {α : Type} (r : R α) (ρ : Env) (k : α → Out) : Out :=
  match r with
  | .ok a => k a
  | .exc x => .exc x ρ
  | .stuck => .stuck
theorem stE_ok {α : Type} {a : α} {ρ : Env} {k : α → Out} : stE (.ok a) ρ k = k a := rfl
theorem stE_exc {α : Type} {x : XN} {ρ : Env} {k : α → Out} : stE (.exc x : R α) ρ k = .exc x ρ := rfl
section
variable {K : PySem.W.Frag} {B H : Hp} {O : Addr → Prop} {W : WX} {ow ow' owl : Ow} {L : Lm} {σ : St} {ρ : Env} {D : Ends} {α β : Type}
theorem PostS.bind {rel : Hp → β → α → Prop} {r : R α} {k : α → Out} {Q : β → Hp → Prop} (P : PostS K B O W ow owl (stE r ρ k) D) (S : SR K B O L σ H ρ)
    (h : ∀ a b H1, Same H H1 → rel H1 b a → PostS K B O W ow owl (k a) D → Q b H1) : PostG K O W rel r σ H Q := by
  cases r with
  | ok a => exact fun b H1 e hr => h a b H1 e hr P
  | exc x => exact fun c dd H1 e hr => P c dd σ H1 L (S.ext e) hr
  | stuck => exact P
theorem PostS.rebase {B' : Hp} {r : Out} (P : PostS K B O W ow owl r D) (e : Same B B') (dom : ∀ p, O p → B p ≠ none) : PostS K B' O W ow owl r D := by
  cases r with
  | nx ρ => exact fun σ H L S w => P σ H L (S.unbase e dom) w
  | rt d => exact fun v H s w => P v H (e.trans s) w
  | bk ρ => exact fun σ H L S w => P σ H L (S.unbase e dom) w
  | ct ρ => exact fun σ H L S w => P σ H L (S.unbase e dom) w
  | exc x ρ => exact fun c dd σ H L S w => P c dd σ H L (S.unbase e dom) w
  | stuck => exact P
end
section
variable {X : Cx} {W : WX} {ow ow' ow1 ow2 owl : Ow} {st : Stmt} {sts rest : List Stmt} {f g : Env → Out} {e c : Expr} {es : List Nat} {fe : Env → R D} {fc : Env → R Bool} {pos : Pos}
def fNext : Env → Out := fun ρ => .nx ρ
def fSeq (f g : Env → Out) : Env → Out := fun ρ =>
  match f ρ with
  | .nx ρ' => g ρ'
  | o => o
theorem pdb_nil (h : ∀ p ∈ ow', p ∈ ow := by decide) : PDB X W ow ow' owl [] fNext := PSs.imp pss_nil fun D σ H ⟨B, O, L, ρ, S, w, P⟩ => P σ H L S (w.sub h)
theorem pdb_cons (h : PDS X W ow ow1 owl st f) (k : PDB X W ow1 ow2 owl rest g) : PDB X W ow ow2 owl (st :: rest) (fSeq f g) := PSs.imp (pss_cons h k) fun D σ H ⟨B, O, L, ρ, S, w, P⟩ => ⟨B, O, L, ρ, S, w, by
  have P : PostS X.K B O W ow2 owl (match f ρ with | .nx ρ' => g ρ' | o => o) D := P
  cases q : f ρ with
  | nx ρ' => rw [q] at P; exact fun σ' H' L' S' w' => ⟨B, O, L', ρ', S', w', P⟩
  | rt d => rw [q] at P; exact P
  | bk ρ' => rw [q] at P; exact P
  | ct ρ' => rw [q] at P; exact P
  | exc x ρ' => rw [q] at P; exact P
  | stuck => rw [q] at P; exact P⟩
theorem pdb_one (h : PDS X W ow ow' owl st f) : PDB X W ow ow' owl [st] f := pss_one h
theorem tDS_weak (h : ∀ p ∈ ow2, p ∈ ow1) : ∀ D σ H, tDS X.K W ow ow2 owl f D σ H → tDS X.K W ow ow1 owl f D σ H := fun D σ H ⟨B, O, L, ρ, S, w, P⟩ => ⟨B, O, L, ρ, S, w, by
  cases q : f ρ with
  | nx ρ' => rw [q] at P; exact fun σ' H' L' S' w' => P σ' H' L' S' (w'.sub h)
  | rt d => rw [q] at P; exact P
  | bk ρ' => rw [q] at P; exact P
  | ct ρ' => rw [q] at P; exact P
  | exc x ρ' => rw [q] at P; exact P
  | stuck => rw [q] at P; exact P⟩
theorem PDB.weak (h : PDB X W ow ow1 owl sts f) (s : ∀ p ∈ ow2, p ∈ ow1 := by decide) : PDB X W ow ow2 owl sts f := PSs.imp h (tDS_weak s)
theorem PDS.weak (h : PDS X W ow ow1 owl st f) (s : ∀ p ∈ ow2, p ∈ ow1 := by decide) : PDS X W ow ow2 owl st f := PS.imp h (tDS_weak s)
def fAsg (i : Nat) (fe : Env → R D) : Env → Out := fun ρ => stE (fe ρ) ρ fun d => .nx (ρ.set i (some d))
theorem mem_cons2 {i : Nat} {es : List Nat} {j : Nat} (h : j ∉ es) (h2 : j ≠ i) : j ∉ i :: es := fun z => (List.mem_cons.mp z).elim h2 h
theorem dropL_dropL {es es' : List Nat} {L : Lm} : dropL es (dropL es' L) = dropL (es ++ es') L := by
  funext i
  unfold dropL
  by_cases h : i ∈ es
  · rw [if_pos h, if_pos (List.mem_append_left _ h)]
  · rw [if_neg h]
    by_cases h2 : i ∈ es'
    · rw [if_pos h2, if_pos (List.mem_append_right _ h2)]
    · rw [if_neg h2, if_neg fun z => (List.mem_append.mp z).elim h h2]
theorem pds_asg {i : Nat} (h : PS X st (tAsg (tD X.K W es fe) (gName i))) (ho : ∀ p ∈ ow', p ∈ ow ∧ p.1 ∉ i :: es := by decide) : PDS X W ow ow' owl st (fAsg i fe) := PS.imp h fun D σ H ⟨B, O, L, ρ, S, w, P⟩ => ⟨B, O, L, ρ, S, PostS.bind P S fun d v H1 e r P1 => by
  refine P1 _ _ _ (((S.ext e).drop es).set r) ?_
  rw [dropL_dropL]
  exact w.drop ho⟩
def fAsgF (i : Nat) (fe : Env → R D) : Env → Out := fun ρ => if i < ρ.length then stE (fe ρ) ρ fun d => .nx (ρ.set i (some d)) else .stuck
theorem pds_asgF {i : Nat} (h : PS X st (tAsg (tDF X.K W es fe) (gName i))) (ho : ∀ p ∈ ow', p = (i, 1) ∨ (p ∈ ow ∧ p.1 ∉ i :: es) := by decide) : PDS X W ow ow' owl st (fAsgF i fe) := PS.imp h fun D σ H ⟨B, O, L, ρ, S, w, P⟩ => ⟨B, O, L, ρ, S, by
  have P : PostS X.K B O W ow' owl (if i < ρ.length then stE (fe ρ) ρ fun d => .nx (ρ.set i (some d)) else .stuck) D := P
  split at P
  · rename_i hi
    cases q : fe ρ with
    | ok d =>
      rw [q] at P
      intro p o H' hp e ho' t
      refine P _ _ _ ((S.drop es).fresh e (by rw [S.len]; exact hi) hp ho' t) fun z hz => ?_
      rcases ho z hz with rfl | ⟨h1, h2⟩
      · exact ⟨_, putL_same⟩
      · rw [putL_ne (fun y => h2 (by rw [y]; exact List.mem_cons_self)), dropL_no fun y => h2 (List.mem_cons_of_mem _ y)]
        exact w z h1
    | exc x => rw [q] at P; exact fun c dd H' e r => P c dd σ H' L (S.ext e) r
    | stuck => rw [q] at P; exact P
  · exact P.elim⟩
def fRet (fe : Env → R D) : Env → Out := fun ρ => stE (fe ρ) ρ .rt
theorem hs_le {K : PySem.W.Frag} {O : Addr → Prop} {L : Lm} {H : Hp} {v : V} {d : D} (r : Rep K (hide (HS O L) H) v d) : Rep K (hide O H) v d := r.mono (hide_same hs_0 (Same.refl H))
theorem pds_ret (h : PD X W e es fe) : PDS X W ow ow' owl (.Return (some e) pos) (fRet fe) := PS.imp (ps_ret h) fun D σ H ⟨B, O, L, ρ, S, w, P⟩ => ⟨B, O, L, ρ, S, PostS.bind P S fun d v H1 e r P1 => P1 v H1 (S.same.trans e) (hs_le r)⟩
def fRetN : Env → Out := fun _ => .rt .non
theorem pds_retN : PDS X W ow ow' owl (.Return none pos) fRetN := PS.imp ps_retN fun D σ H ⟨B, O, L, ρ, S, w, P⟩ => P .non H S.same rfl
def fDrop (fe : Env → R D) : Env → Out := fun ρ => stE (fe ρ) ρ fun _ => .nx ρ
theorem pds_drop (h : PS X st (tDrop (tD X.K W es fe))) (ho : ∀ p ∈ ow', p ∈ ow := by decide) : PDS X W ow ow' owl st (fDrop fe) := PS.imp h fun D σ H ⟨B, O, L, ρ, S, w, P⟩ => ⟨B, O, L, ρ, S, PostS.bind P S fun d v H1 e r P1 => P1 σ H1 L (S.ext e) (w.sub ho)⟩
theorem pds_pass (h : ∀ p ∈ ow', p ∈ ow := by decide) : PDS X W ow ow' owl (.Pass pos) fNext := PS.imp ps_pass fun D σ H ⟨B, O, L, ρ, S, w, P⟩ => P σ H L S (w.sub h)
theorem pds_doc {x j pos pos'} (h : ∀ p ∈ ow', p ∈ ow := by decide) : PDS X W ow ow' owl (.Expr (.Constant (.str x) j pos) pos') fNext := PS.imp ps_doc fun D σ H ⟨B, O, L, ρ, S, w, P⟩ => P σ H L S (w.sub h)
def fBrk : Env → Out := fun ρ => .bk ρ
def fCont : Env → Out := fun ρ => .ct ρ
theorem pds_brk (h : ∀ p ∈ owl, p ∈ ow := by decide) : PDS X W ow ow' owl (.Break pos) fBrk := PS.imp ps_break fun D σ H ⟨B, O, L, ρ, S, w, P⟩ => P σ H L S (w.sub h)
theorem pds_cont (h : ∀ p ∈ owl, p ∈ ow := by decide) : PDS X W ow ow' owl (.Continue pos) fCont := PS.imp ps_continue fun D σ H ⟨B, O, L, ρ, S, w, P⟩ => P σ H L S (w.sub h)
def fIf (c : Env → R Bool) (f g : Env → Out) : Env → Out := fun ρ => stE (c ρ) ρ fun b => if b = true then f ρ else g ρ
theorem pds_if {a b : List Stmt} (hc : PDT X W c fc) (ha : PDB X W ow ow' owl a f) (hb : PDB X W ow ow' owl b g) : PDS X W ow ow' owl (.If c a b pos) (fIf fc f g) := PS.imp (ps_if hc ha hb) fun D σ H ⟨B, O, L, ρ, S, w, P⟩ =>
  ⟨B, O, L, ρ, S, PostS.bind P S fun k k' H1 e r P1 => by
    obtain rfl : k' = k := r
    cases k' with
    | true => exact ⟨B, O, L, ρ, S.ext e, w, P1⟩
    | false => exact ⟨B, O, L, ρ, S.ext e, w, P1⟩⟩
end

/-! ### what is walked -/
def JD (K : PySem.W.Frag) (G : Hp) (J : It) (ds : List D) : Prop := ∀ (i : Nat) (H : Hp) (O : Addr → Prop), RdLe G (hide O H) → (∀ p, O p → H p ≠ none) →
  (∀ d, ds[i]? = some d → J.go i H ∧ ∀ x H', J.yld i H x H' → Same H H' ∧ Rep K (hide O H') x d) ∧ (ds.length ≤ i → J.stop i H)
def rJ (K : PySem.W.Frag) (O : Addr → Prop) (L : Lm) : Hp → It → List D → Prop := fun H J ds => JD K (hide (HS O L) H) J ds
def tDI (K : PySem.W.Frag) (W : WX) (es : List Nat) (fi : Env → R (List D)) : TI := fun σ H Q => ∃ B O L ρ, SR K B O L σ H ρ ∧ PostG K O W (rJ K O (dropL es L)) (fi ρ) σ H Q
def PDI (X : Cx) (W : WX) (tg iter : Expr) (es : List Nat) (fi : Env → R (List D)) : Prop := PI X tg iter (tDI X.K W es fi)
theorem PI.imp {X : Cx} {tg e : Expr} {t t' : TI} (h : PI X tg e t) (f : ∀ σ H Q, t' σ H Q → t σ H Q) : PI X tg e t' := ⟨fun pins s σ H Q I q => h.run pins s σ H Q I (f σ H Q q)⟩
/-- a target -/
def TgD (K : PySem.W.Frag) (g : TG) (ts : List Nat) (ft : D → Env → Option Env) : Prop := ∀ (B : Hp) (O : Addr → Prop) (L : Lm) (σ : St) (H : Hp) (ρ ρ' : Env) (v : V) (d : D) (Q : St → Hp → Prop), SR K B O L σ H ρ → Rep K (hide (HS O L) H) v d → ft d ρ = some ρ' →
  (∀ σ', SR K B O (dropL ts L) σ' H ρ' → (∀ vs : List Nat, (∀ t ∈ ts, t ∈ vs) → wipe σ' vs = wipe σ vs) → Q σ' H) → g v σ H Q
theorem wipe_in {σ : St} {i : Nat} : ∀ {vs : List Nat}, i ∈ vs → i < σ.length → (wipe σ vs)[i]? = some none
  | [], h, _ => by cases h
  | v :: vs, h, hl => by
    unfold wipe
    by_cases e : v = i
    · subst e
      exact List.getElem?_set_self (by rw [wipe_length]; exact hl)
    · rw [List.getElem?_set_ne e]
      exact wipe_in ((List.mem_cons.mp h).elim (fun z => absurd z.symm e) id) hl
theorem wipe_eq {σ τ : St} {vs : List Nat} (hl : σ.length = τ.length) (h : ∀ i, i ∉ vs → σ[i]? = τ[i]?) : wipe σ vs = wipe τ vs := by
  refine List.ext_getElem? fun i => ?_
  by_cases m : i ∈ vs
  · by_cases l : i < σ.length
    · rw [wipe_in m l, wipe_in m (by omega)]
    · rw [List.getElem?_eq_none (by rw [wipe_length]; omega), List.getElem?_eq_none (by rw [wipe_length]; omega)]
  · rw [wipe_out m, wipe_out m, h i m]
theorem wipe_set {σ : St} {i : Nat} {x : Option V} {vs : List Nat} (h : i ∈ vs) : wipe (σ.set i x) vs = wipe σ vs :=
  wipe_eq (by rw [List.length_set]) fun j n => List.getElem?_set_ne (fun z : i = j => n (by rw [← z]; exact h))
theorem wipe_wipe {σ : St} {vs : List Nat} : wipe (wipe σ vs) vs = wipe σ vs := wipe_eq (wipe_length _ _) fun i n => wipe_out n
def gtName (i : Nat) : D → Env → Option Env := fun d ρ => some (ρ.set i (some d))
def gtPair (i j : Nat) : D → Env → Option Env
  | .tup [a, b], ρ => some ((ρ.set i (some a)).set j (some b))
  | _, _ => none
theorem tg_name {K : PySem.W.Frag} {i : Nat} : TgD K (gName i) [i] (gtName i) := fun B O L σ H ρ ρ' v d Q S r h k => by
  cases h
  exact k _ (S.set r) fun vs hv => wipe_set (hv i List.mem_cons_self)
theorem tg_pair {K : PySem.W.Frag} {i j : Nat} : TgD K (gTup K 2 (gCons (gName i) (gCons (gName j) gNil))) [j, i] (gtPair i j) := fun B O L σ H ρ ρ' v d Q S r h k => by
  cases d <;> first | (cases h; done) | skip
  rename_i ds
  match ds, h, r with
  | [a, b], h, r =>
    cases h
    obtain ⟨p, vs, e, hs, x, xs, e1, r1, y, ys, e2, r2, e3⟩ := r
    have e3 : ys = [] := e3
    subst e e1 e2 e3
    refine ⟨p, _, rfl, .inl (.inl (hide_some hs).2), rfl, x, _, rfl, y, _, rfl, rfl, ?_⟩
    have q := (S.set (i := i) r1).set (i := j) (r2.mono (hide_same hs_drop (Same.refl H)))
    rw [dropL_dropL] at q
    exact k _ q fun vs hv => (wipe_set (hv j List.mem_cons_self)).trans (wipe_set (hv i (List.mem_cons_of_mem _ List.mem_cons_self)))
def forL (ft : D → Env → Option Env) (fb : Env → Out) : List D → Env → Out
  | [], ρ => .nx ρ
  | d :: ds, ρ =>
    match ft d ρ with
    | none => .stuck
    | some ρ1 =>
      match fb ρ1 with
      | .nx ρ2 => forL ft fb ds ρ2
      | .ct ρ2 => forL ft fb ds ρ2
      | .bk ρ2 => .nx ρ2
      | o => o
def fFor (fi : Env → R (List D)) (ft : D → Env → Option Env) (fb : Env → Out) : Env → Out := fun ρ => stE (fi ρ) ρ fun ds => forL ft fb ds ρ
section
variable {X : Cx} {W : WX} {ow ow' lo owl : Ow} {tg iter : Expr} {body : List Stmt} {es ts : List Nat} {fi : Env → R (List D)} {g : TG} {ft : D → Env → Option Env} {fb : Env → Out} {pos : Pos}
theorem pds_for (hp : PassesOwn (model X.prog X.w) X.A X.env X.xe) (hc : X.calm = true) (hi : PDI X W tg iter es fi) (hg : PG X tg g) (ht : TgD X.K g ts ft) (hb : PDB X W lo lo lo body fb)
    (hlo : ∀ p ∈ lo, p ∈ ow ∧ p.1 ∉ es ∧ p.1 ∉ ts := by decide) (how : ∀ p ∈ ow', p ∈ lo := by decide) (hs : ∀ x, foldedSetIterable iter X.env x = pure x := by intro _; rfl) : PDS X W ow ow' owl (.For tg iter body [] pos) (fFor fi ft fb) :=
  PS.imp (ps_for hp hc hi hg hb hs) fun D σ H ⟨B, O, L, ρ, S, w, P⟩ => ⟨B, O, L, ρ, S, PostS.bind P S fun ds J H1 e hJ P1 => by
    have S1 := (S.ext e).drop es
    have S2 := S1.rebase
    have eB := S1.nbSame
    have P2 : PostS X.K (nb (dropL es L) H1) O W ow' owl (forL ft fb ds ρ) D := P1.rebase eB S.dom
    generalize hB1 : nb (dropL es L) H1 = B1 at P2 S2 eB
    have seen : ∀ {L' : Lm} {σ' : St} {H' : Hp} {ρ' : Env}, SR X.K B1 O L' σ' H' ρ' → RdLe (hide (HS O (dropL es L)) H1) (hide (HS O L') H') := fun {L' σ' H' ρ'} S' => by
      have key : ∀ a u, hide (HS O (dropL es L)) H1 a = some u → hide (HS O L') H' a = some u := fun a u z => by
        obtain ⟨n, z⟩ := hide_some z
        have b1 : B1 a = some u := by
          rw [← hB1]
          unfold nb
          rw [hide_no fun y => n (.inr y)]
          exact z
        rw [hide_no]
        · exact S'.same a u b1
        · rintro (y | ⟨i, k, as, y, m⟩)
          · exact n (.inl y)
          · rw [(S'.nodup i k as y).2 a m] at b1
            cases b1
      exact RdLe.ofKey key
    refine ⟨fun i m σ H => m = ds.length - i ∧ i ≤ ds.length ∧ ∃ L' ρ', SR X.K B1 O L' σ H ρ' ∧ OwOk lo L' ∧ PostS X.K B1 O W ow' owl (forL ft fb (ds.drop i) ρ') D,
      ⟨ds.length, by simp, Nat.zero_le _, dropL es L, ρ, S2, w.drop fun p hp => ⟨(hlo p hp).1, (hlo p hp).2.1⟩, P2⟩, ?_⟩
    rintro i m σ' H' ⟨rfl, hi, L', ρ', S', w', P'⟩
    obtain ⟨j1, j2⟩ := hJ i H' (HS O L') (seen S') S'.hdom
    by_cases hlt : i < ds.length
    · obtain ⟨d, hd⟩ : ∃ d, ds[i]? = some d := ⟨ds[i], List.getElem?_eq_getElem hlt⟩
      obtain ⟨g1, g2⟩ := j1 d hd
      refine .inr ⟨g1, fun σ H => ∃ L' ρ', SR X.K B1 O L' σ H ρ' ∧ OwOk lo L' ∧ PostS X.K B1 O W ow' owl (forL ft fb (ds.drop (i + 1)) ρ') D, fun σ2 H2 q => ⟨ds.length - (i + 1), by omega, rfl, hlt, q⟩, fun x H2 y => ?_⟩
      obtain ⟨e2, r2⟩ := g2 x H2 y
      have hdr : ds.drop i = d :: ds.drop (i + 1) := by
        rw [List.drop_eq_getElem_cons hlt]
        rw [List.getElem?_eq_getElem hlt] at hd
        cases hd
        rfl
      rw [hdr] at P'
      have P' : PostS X.K B1 O W ow' owl (match ft d ρ' with | none => .stuck | some ρ1 => match fb ρ1 with | .nx ρ2 => forL ft fb (ds.drop (i + 1)) ρ2 | .ct ρ2 => forL ft fb (ds.drop (i + 1)) ρ2 | .bk ρ2 => .nx ρ2 | o => o) D := P'
      cases hft : ft d ρ' with
      | none =>
        rw [hft] at P'
        exact P'.elim
      | some ρ1 =>
        rw [hft] at P'
        have P' : PostS X.K B1 O W ow' owl (match fb ρ1 with | .nx ρ2 => forL ft fb (ds.drop (i + 1)) ρ2 | .ct ρ2 => forL ft fb (ds.drop (i + 1)) ρ2 | .bk ρ2 => .nx ρ2 | o => o) D := P'
        refine ht B1 O L' σ' H2 ρ' ρ1 x d _ (S'.ext e2) r2 hft fun σ3 S3 _ => ?_
        refine ⟨B1, O, _, ρ1, S3, w'.drop fun p hp => ⟨hp, (hlo p hp).2.2⟩, ?_⟩
        cases q : fb ρ1 with
        | nx ρ2 => rw [q] at P'; exact fun σ4 H4 L4 S4 w4 => ⟨L4, ρ2, S4, w4, P'⟩
        | ct ρ2 => rw [q] at P'; exact fun σ4 H4 L4 S4 w4 => ⟨L4, ρ2, S4, w4, P'⟩
        | bk ρ2 => rw [q] at P'; exact fun σ4 H4 L4 S4 w4 => P' σ4 H4 L4 S4 (w4.sub how)
        | rt d => rw [q] at P'; exact P'
        | exc x ρ2 => rw [q] at P'; exact P'
        | stuck => rw [q] at P'; exact P'
    · have hi2 : i = ds.length := by omega
      subst hi2
      rw [List.drop_length] at P'
      exact .inl ⟨j2 (Nat.le_refl _), P' σ' H' L' S' (w'.sub how)⟩⟩
end
end DL
set_option Elab.async false
set_option linter.all false
set_option maxRecDepth 100000
namespace DL
open PySem L2

/-! ### comprehensions -/
def wipeE (ρ : Env) : List Nat → Env
  | [] => ρ
  | v :: vs => (wipeE ρ vs).set v none
def R.toO {α : Type} : R α → Option α
  | .ok a => some a
  | _ => none
abbrev W0 : WX := fun _ _ _ _ => False
theorem PostG.toO {α β : Type} {K : PySem.W.Frag} {O : Addr → Prop} {W : WX} {rel : Hp → β → α → Prop} {r : R α} {a : α} {σ : St} {H : Hp} {Q : β → Hp → Prop} (e : r.toO = some a) (h : ∀ b H', Same H H' → rel H' b a → Q b H') : PostG K O W rel r σ H Q := by
  cases r with
  | ok a' => cases e; exact h
  | exc x => cases e
  | stuck => cases e
section
variable {K : PySem.W.Frag} {B H H1 : Hp} {O : Addr → Prop} {L : Lm} {σ : St} {ρ : Env}
theorem SR.wipe1 (S : SR K B O L σ H ρ) : ∀ vs : List Nat, (∀ v ∈ vs, L v = none) → SR K B O L (wipe σ vs) H (wipeE ρ vs)
  | [], _ => S
  | v :: vs, h => (SR.wipe1 S vs fun u hu => h u (List.mem_cons_of_mem _ hu)).unset v (h v List.mem_cons_self)
/-- within a comprehension: the new list at D is hidden; it is part of the base -/
theorem SR.inComp (S : SR K B O L σ H1 ρ) {Dl : Addr} {o : HO} (hD : H1 Dl = none) (e : Same H1 H) (hq : H Dl = some o) : SR K (upd (nb L H1) Dl o) (fun a => O a ∨ a = Dl) L σ H ρ := by
  have S' := S.rebase
  have nh : ¬ HS O L Dl := fun z => S.hdom Dl z hD
  have hs : ∀ a, HS (fun a => O a ∨ a = Dl) L a → HS O L a ∨ a = Dl := fun a z => by
    rcases z with (z | z) | z
    · exact .inl (.inl z)
    · exact .inr z
    · exact .inl (.inr z)
  have le : RdLe (hide (HS O L) H1) (hide (HS (fun a => O a ∨ a = Dl) L) H) := by
    have key : ∀ a u, hide (HS O L) H1 a = some u → hide (HS (fun a => O a ∨ a = Dl) L) H a = some u := fun a u z => by
      obtain ⟨n, z⟩ := hide_some z
      rw [hide_no fun y => (hs a y).elim n (ne_of_none z hD)]
      exact e a u z
    exact RdLe.ofKey key
  refine ⟨fun a u z => ?_, fun p hp => ?_, S.len, fun i d h1 h2 => ?_, fun i k as h => ?_, fun i k as h => ⟨(S.nodup i k as h).1, fun p hp => ?_⟩, S.sep, S.one⟩
  · by_cases q : a = Dl
    · subst q
      rw [upd_same] at z
      cases z
      exact hq
    · rw [upd_ne q] at z
      exact e a u (S'.same a u z)
  · by_cases q : p = Dl
    · subst q
      rw [upd_same]
      exact fun z => by cases z
    · rw [upd_ne q]
      exact S'.dom p (hp.elim id fun z => absurd z q)
  · obtain ⟨v, h3, h4⟩ := S.vars i d h1 h2
    exact ⟨v, h3, h4.mono le⟩
  · obtain ⟨v, d, h1, h2, h3⟩ := S.owns i k as h
    refine ⟨v, d, h1, h2, h3.mono le fun p hp => ?_⟩
    cases q : H1 p with
    | none => exact absurd q (h3.dom p hp)
    | some u => exact e p u q
  · have q : p ≠ Dl := fun z => nh (.inr ⟨i, k, as, h, z ▸ hp⟩)
    rw [upd_ne q]
    exact (S'.nodup i k as h).2 p hp
end
def compL (ft : D → Env → Option Env) (tt : Env → R Bool) (fe : Env → R D) (ρ : Env) : List D → Option (List D)
  | [] => some []
  | d :: ds => (ft d ρ).bind fun ρ1 => (tt ρ1).toO.bind fun b => if b = true then (fe ρ1).toO.bind fun y => (compL ft tt fe ρ ds).bind fun ys => some (y :: ys) else compL ft tt fe ρ ds
def fLc (fi : Env → R (List D)) (ft : D → Env → Option Env) (tt : Env → R Bool) (fe : Env → R D) (vs : List Nat) : Env → R D := fun ρ =>
  (fi ρ).bind fun ds => (R.ofO (compL ft tt fe (wipeE ρ vs) ds)).bind fun ys => lenOk ys (.ok (.lst ys))
def PDTs (X : Cx) (W : WX) (ifs : List Expr) (ft : Env → R Bool) : Prop := PTs X ifs (tDT X.K W ft)
theorem PTs.imp {X : Cx} {e : List Expr} {t t' : TT} (h : PTs X e t) (f : ∀ σ H Q, t' σ H Q → t σ H Q) : PTs X e t' := ⟨fun pins s σ H Q I q => h.run pins s σ H Q I (f σ H Q q)⟩
def fYes : Env → R Bool := fun _ => .ok true
theorem pdts_nil {X : Cx} {W : WX} : PDTs X W [] fYes := PTs.imp pts_nil fun σ H Q ⟨B, O, L, ρ, S, P⟩ => P true H (Same.refl H) rfl
theorem pdts_one {X : Cx} {W : WX} {c : Expr} {ft : Env → R Bool} (h : PDT X W c ft) : PDTs X W [c] ft := pts_one h

section
variable {K : PySem.W.Frag} {W : WX} {es ee vs ts : List Nat} {fi : Env → R (List D)} {g : TG} {ft : D → Env → Option Env} {tt : Env → R Bool} {fe : Env → R D}
theorem PostF.ofO {O : Addr → Prop} {L : Lm} {o : Option α} {k : α → R D} {σ : St} {H : Hp} {Q : VK} (P : PostF K O W L ((R.ofO o).bind k) σ H Q) : ∃ a, o = some a ∧ PostF K O W L (k a) σ H Q := by
  cases o with
  | none => exact P.elim
  | some a => exact ⟨a, rfl, P⟩
/-- one clause -/
theorem tDF_lc (ht : TgD K g ts ft) (hts : ∀ t ∈ ts, t ∈ vs) : ∀ σ H Q, tDF K W (es ++ (ee ++ vs)) (fLc fi ft tt fe vs) σ H Q → tLc (tDI K W es fi) g (tDT K W0 tt) (tD K W0 ee fe) vs σ H Q := by
  intro σ H Q ⟨B, O, L, ρ, S, P⟩
  refine ⟨B, O, L, ρ, S, PostF.bind P fun ds J H1 e hJ fr P1 => ?_⟩
  intro Dl hD
  obtain ⟨ya, hya, P2⟩ := P1.ofO
  have hJ : JD K (hide (HS O (dropL es L)) H1) J ds := hJ
  unfold lenOk at P2
  split at P2
  case isFalse => exact P2.elim
  rename_i hz
  have P2 : ∀ p o H', H1 p = none → Same H1 H' → H' p = some o → Top K (hide (fun a => HS O (dropL (es ++ (ee ++ vs)) L) a ∨ a = p) H') o (.lst ya) → Q (.ref p) H' := P2
  have S1 : SR K B O (dropL (es ++ (ee ++ vs)) L) σ H1 ρ := (S.ext e).drop _
  generalize hL2 : dropL (es ++ (ee ++ vs)) L = L2 at P2 S1
  have hn : ∀ v ∈ vs, L2 v = none := fun v hv => by
    rw [← hL2]
    exact dropL_yes (List.mem_append_right _ (List.mem_append_right _ hv))
  have hsub : ∀ {es' : List Nat}, (∀ i ∈ es', i ∈ es ++ (ee ++ vs)) → ∀ i x, L2 i = some x → dropL es' L2 i = some x := fun {es'} hs i x h => by
    have h' := h
    rw [← hL2] at h'
    rw [dropL_no fun z => (dropL_some h').1 (hs i z)]
    exact h
  refine ⟨fun i m H => m = ds.length - i ∧ i ≤ ds.length ∧ Same H1 H ∧ ∃ us acc rest, H Dl = some (.lst us) ∧ RepL K (hide (fun a => HS O L2 a ∨ a = Dl) H) us acc ∧ compL ft tt fe (wipeE ρ vs) (ds.drop i) = some rest ∧ ya = acc ++ rest,
    ⟨ds.length, by simp, Nat.zero_le _, same_new hD, [], [], ya, upd_same, rfl, hya, rfl⟩, ?_⟩
  rintro i m H ⟨rfl, hi, sH, us, acc, rest, hDl, hr, hc, hy⟩
  have ST := ((S1.inComp hD sH hDl).wipe1 vs hn)
  obtain ⟨j1, j2⟩ := hJ i H (HS (fun a => O a ∨ a = Dl) L2) (by
    have key : ∀ a u, hide (HS O (dropL es L)) H1 a = some u → hide (HS (fun a => O a ∨ a = Dl) L2) H a = some u := fun a u z => by
      obtain ⟨n, z⟩ := hide_some z
      rw [hide_no]
      · exact sH a u z
      · rintro ((y | y) | ⟨j, k, as, y, q⟩)
        · exact n (.inl y)
        · exact ne_of_none z hD y
        · rw [← hL2] at y
          obtain ⟨y1, y2⟩ := dropL_some y
          exact n (.inr ⟨j, k, as, by rw [dropL_no fun w => y1 (List.mem_append_left _ w)]; exact y2, q⟩)
    exact RdLe.ofKey key) ST.hdom
  by_cases hlt : i < ds.length
  · obtain ⟨d, hd⟩ : ∃ d, ds[i]? = some d := ⟨ds[i], List.getElem?_eq_getElem hlt⟩
    obtain ⟨g1, g2⟩ := j1 d hd
    have hdr : ds.drop i = d :: ds.drop (i + 1) := by
      rw [List.drop_eq_getElem_cons hlt]
      rw [List.getElem?_eq_getElem hlt] at hd
      cases hd
      rfl
    rw [hdr] at hc
    unfold compL at hc
    obtain ⟨ρ1, h1, hc⟩ := Option.bind_eq_some_iff.mp hc
    obtain ⟨b, h2, hc⟩ := Option.bind_eq_some_iff.mp hc
    refine .inr ⟨g1, fun H => Same H1 H ∧ ∃ us acc rest, H Dl = some (.lst us) ∧ RepL K (hide (fun a => HS O L2 a ∨ a = Dl) H) us acc ∧ compL ft tt fe (wipeE ρ vs) (ds.drop (i + 1)) = some rest ∧ ya = acc ++ rest, fun H2 q => ⟨ds.length - (i + 1), by omega, rfl, hlt, q⟩, fun x H2 y => ?_⟩
    obtain ⟨e2, r2⟩ := g2 x H2 y
    refine ht _ _ L2 (wipe σ vs) H2 (wipeE ρ vs) ρ1 x d _ (ST.ext e2) r2 h1 fun σ3 S3 wp => ⟨(wp vs hts).trans wipe_wipe, ?_⟩
    refine ⟨_, _, _, ρ1, S3, PostG.toO h2 fun b' H3 e3 hb => ?_⟩
    obtain rfl : b' = b := hb
    cases b' with
    | false =>
      rw [if_neg Bool.false_ne_true] at hc ⊢
      refine ⟨sH.trans (e2.trans e3), us, acc, rest, (S3.ext e3).same Dl _ upd_same, ?_, hc, hy⟩
      exact hr.mono (hide_same (fun _ z => z) (e2.trans e3))
    | true =>
      rw [if_pos rfl] at hc ⊢
      obtain ⟨yd, h3, hc⟩ := Option.bind_eq_some_iff.mp hc
      obtain ⟨ys, h4, hc⟩ := Option.bind_eq_some_iff.mp hc
      cases hc
      refine ⟨_, _, _, ρ1, S3.ext e3, PostG.toO h3 fun yv H4 e4 ry => ?_⟩
      have hD4 : H4 Dl = some (.lst us) := (S3.ext (e3.trans e4)).same Dl _ upd_same
      have hl := hr.length
      have hz' : acc.length + (ys.length + 1) ≤ sizeLine := by
        rw [hy, List.length_append, List.length_cons] at hz
        exact hz
      have lift : RdLe (hide (fun a => HS O L2 a ∨ a = Dl) H4) (hide (fun a => HS O L2 a ∨ a = Dl) (upd H4 Dl (.lst (us ++ [yv])))) := hide_mono (fun _ z => z) fun a u n z => by
        rw [upd_ne fun y => n (.inr y)]
        exact z
      refine ⟨us, hD4, by omega, ?_, us ++ [yv], acc ++ [yd], ys, upd_same, ?_, h4, by rw [hy, List.append_assoc]; rfl⟩
      · exact fun a u z => by
          rw [upd_ne (ne_of_none z hD)]
          exact (sH.trans (e2.trans (e3.trans e4))) a u z
      · refine RepL.append ((hr.mono (hide_same (fun _ z => z) (e2.trans (e3.trans e4)))).mono lift) (.one (Rep.mono ?_ ry))
        refine RdLe.trans (hide_same (fun a z => ?_) (Same.refl H4)) lift
        rcases z with (z | ⟨j, k, as, z, q⟩) | z
        · exact .inl (.inl z)
        · refine .inr ⟨j, k, as, ?_, q⟩
          rw [dropL_dropL]
          exact hsub (fun i hi => (List.mem_append.mp hi).elim (fun z => List.mem_append_right _ (List.mem_append_left _ z)) fun z => List.mem_append_right _ (List.mem_append_right _ (hts i z))) j (k, as) z
        · exact .inl (.inr z)
  · have hi2 : i = ds.length := by omega
    subst hi2
    rw [List.drop_length] at hc
    cases hc
    rw [List.append_nil] at hy
    subst hy
    exact .inl ⟨j2 (Nat.le_refl _), P2 Dl (.lst us) H hD sH hDl hr⟩
end
section
variable {X : Cx} {W : WX} {elt tg iter : Expr} {ifs : List Expr} {scope : Scope} {own : List (Str × Nat)} {pos : Pos} {es ee ts : List Nat} {fi : Env → R (List D)} {g : TG} {ft : D → Env → Option Env} {tt : Env → R Bool} {fe : Env → R D}
theorem pdf_lc (hc : X.calm = true) (hN : X.N.Nodup) (hi : PDI X W tg iter es fi) (ok : BlkOk X.N X.env.scope scope own) (ht : TgD X.K g ts ft)
    (hg : ∀ (s : Shared) (H : Hp) (C : Addr) (cl : List (Str × Addr)) (fp : List Addr), PG (X.blk s H scope (compEnvC scope cl C X.env) fp) tg g)
    (hh : ∀ (s : Shared) (H : Hp) (C : Addr) (cl : List (Str × Addr)) (fp : List Addr), PDTs (X.blk s H scope (compEnvC scope cl C X.env) fp) W0 ifs tt)
    (he : ∀ (s : Shared) (H : Hp) (C : Addr) (cl : List (Str × Addr)) (fp : List Addr), PD (X.blk s H scope (compEnvC scope cl C X.env) fp) W0 elt ee fe)
    (hts : ∀ t ∈ ts, t ∈ own.map (·.2) := by decide) (hs : ∀ x, foldedSetIterable iter X.env x = pure x := by intro _; rfl) : PDF X W (.ListComp elt [⟨tg, iter, ifs, 0⟩] scope pos) (es ++ (ee ++ own.map (·.2))) (fLc fi ft tt fe (own.map (·.2))) :=
  PE.imp (pe_lc (tt := tDT X.K W0 tt) (te := tD X.K W0 ee fe) hc hN hi ok hg hh he hs) (tDF_lc ht hts)
/-- name = [..] -/
theorem ps_setLcD {i : Nat} {y : Str} {py spos : Pos} (hc : X.calm = true) (hN : X.N.Nodup) (hy : X.N[i]? = some y) (hyl : X.env.scope.names.lookup y = some .local)
    (hsw : swapsWith (.ListComp elt [⟨tg, iter, ifs, 0⟩] scope pos) (some (.Name y py)) spos.line X.env = pure true) (hi : PDI X W tg iter es fi) (ok : BlkOk X.N X.env.scope scope own) (ht : TgD X.K g ts ft)
    (hg : ∀ (s : Shared) (H : Hp) (C : Addr) (cl : List (Str × Addr)) (fp : List Addr), PG (X.blk s H scope (compEnvC scope cl C X.env) fp) tg g)
    (hh : ∀ (s : Shared) (H : Hp) (C : Addr) (cl : List (Str × Addr)) (fp : List Addr), PDTs (X.blk s H scope (compEnvC scope cl C X.env) fp) W0 ifs tt)
    (he : ∀ (s : Shared) (H : Hp) (C : Addr) (cl : List (Str × Addr)) (fp : List Addr), PD (X.blk s H scope (compEnvC scope cl C X.env) fp) W0 elt ee fe)
    (hts : ∀ t ∈ ts, t ∈ own.map (·.2) := by decide) (hs : ∀ x, foldedSetIterable iter X.env x = pure x := by intro _; rfl) :
    PS X (.Assign [.Name y py] (.ListComp elt [⟨tg, iter, ifs, 0⟩] scope pos) spos) (tAsg (tDF X.K W (es ++ (ee ++ own.map (·.2))) (fLc fi ft tt fe (own.map (·.2)))) (gName i)) :=
  PS.imp (ps_setLc (tt := tDT X.K W0 tt) (te := tD X.K W0 ee fe) hc hN hy hyl hsw hi ok hg hh he hs) fun D σ H h => tDF_lc ht hts σ H _ h
end
end DL
set_option Elab.async false
set_option linter.all false
set_option maxRecDepth 100000
namespace DL
open PySem PySem.Spec PyProof.Rows L2

/-! ### defs -/
def spD (K : PySem.W.Frag) (n : Nat) (F : List D → R D) : Sp := fun vs H Q E => ∃ (O : Addr → Prop) (ds : List D), (∀ p, O p → H p ≠ none) ∧ RepL K (hide O H) vs ds ∧ ds.length = n ∧
  match F ds with
  | .ok d => ∀ v H', Same H H' → Rep K (hide O H') v d → Q v H'
  | .exc x => ∀ c dd H', Same H H' → RepX K (hide O H') H' c dd x → E c dd H'
  | .stuck => False
theorem spD_len {K : PySem.W.Frag} {n : Nat} {F : List D → R D} {vs : List V} {H : Hp} {Q : VK} {E : XK} (h : spD K n F vs H Q E) : vs.length = n := by
  obtain ⟨O, ds, _, r, e, _⟩ := h
  rw [← e]
  exact r.length
def runF (N n : Nat) (fs : Env → Out) (ds : List D) : R D :=
  match fs (ds.map some ++ List.replicate (N - n) none) with
  | .nx _ => .ok .non
  | .rt d => .ok d
  | .exc x _ => .exc x
  | _ => .stuck
theorem SR.begin {K : PySem.W.Frag} {H : Hp} {O : Addr → Prop} {vs : List V} {ds : List D} {N : List Str} (dom : ∀ p, O p → H p ≠ none) (r : RepL K (hide O H) vs ds) :
    SR K H O L0 (L2.start N vs) H (ds.map some ++ List.replicate (N.length - ds.length) none) := by
  have hl := r.length
  have hO : ∀ p, HS O L0 p → O p := fun p h => h.elim id fun ⟨_, _, _, e, _⟩ => by cases e
  refine ⟨Same.refl H, dom, (by unfold L2.start; simp [hl]), fun i d _ h => ?_, fun i k as h => (by cases h), fun i k as h => (by cases h), fun i j k as k' as' _ h => (by cases h), fun i k as d h => (by cases h)⟩
  by_cases hi : i < ds.length
  · rw [List.getElem?_append_left (by rw [List.length_map]; exact hi), List.getElem?_map] at h
    cases q : ds[i]? with
    | none => rw [q] at h; cases h
    | some e =>
      rw [q] at h
      cases h
      obtain ⟨v, hv, rv⟩ := r.get q
      refine ⟨v, ?_, rv.mono (hide_same hO (Same.refl H))⟩
      unfold L2.start
      rw [List.getElem?_append_left (by rw [List.length_map]; omega), List.getElem?_map, hv]
      rfl
  · rw [List.getElem?_append_right (by rw [List.length_map]; omega), List.getElem?_replicate] at h
    split at h <;> cases h
section
variable {P : Program} {w : World} {K : PySem.W.Frag} {mg : Str → Option Value} {base : Heap}
/-- THE RULE for a def: F is what it computes -/
theorem okD {x qual : Str} {st : Stmt} {f : Addr} {fd : FuncData} {N ps : List Str} {k : Nat} (F : List D → R D) (Fn : Fun K x qual st f fd) (S : FnScope N ps (defScope st))
    (body : ∀ (cdv : Value) (A : Around) (outer : List PySem.Env) (s : Shared) (H : Hp) (E : XK), Room k (A.deeper (envOfC qual (defScope st) s.heap.objs.size f cdv)) →
      ∃ fs, PDB (cxOf (L2.CX P w) P w K mg base N qual (defScope st) f cdv A outer s H E) (fun c d _ H => E c d H) [] [] [] (defBody st) fs ∧ ∀ ds, ds.length = ps.length → F ds = .stuck ∨ runF N.length ps.length fs ds = F ds) :
    FnOk P w K mg base (L2.CX P w) (k + 1) f fd ps (spD K ps.length F) := by
  refine Fn.okX S (fun vs H Q E h => spD_len h) (fun cdv A outer s H vs Q E hr h => ?_)
  obtain ⟨fs, hb, he⟩ := body cdv A outer s H E hr
  refine ⟨_, hb, ?_⟩
  obtain ⟨O, ds, dom, r, hl, h⟩ := h
  have e : runF N.length ps.length fs ds = F ds := by
    rcases he ds hl with z | z
    · rw [z] at h
      exact h.elim
    · exact z
  have SS := SR.begin (N := N) dom r
  refine ⟨H, O, L0, _, SS, OwOk.nil, ?_⟩
  have e : runF N.length ds.length fs ds = F ds := by rw [hl]; exact e
  unfold runF at e
  have hO : ∀ p, HS O L0 p → O p := fun p h => h.elim id fun ⟨_, _, _, e, _⟩ => by cases e
  cases q : fs (ds.map some ++ List.replicate (N.length - ds.length) none) with
  | nx ρ =>
    rw [q] at e
    rw [← e] at h
    exact fun σ H' L S' _ => h .non H' S'.same rfl
  | rt d =>
    rw [q] at e
    rw [← e] at h
    exact fun v H' s' r' => h v H' s' r'
  | exc x ρ =>
    rw [q] at e
    rw [← e] at h
    exact fun c dd σ H' L S' r' => h c dd H' S'.same r'
  | bk ρ => rw [q] at e; rw [← e] at h; exact h.elim
  | ct ρ => rw [q] at e; rw [← e] at h; exact h.elim
  | stuck => rw [q] at e; rw [← e] at h; exact h.elim
end
/-! ### calls -/
def fCall (F : List D → R D) (dds : List D) (fa : Env → R (List D)) : Env → R D := fun ρ => (fa ρ).bind fun l => F (l ++ dds)
section
variable {X : Cx} {W : WX} {k n : Nat} {f : Addr} {fd : FuncData} {ps : List Str} {F : List D → R D} {x : Str} {p pos : Pos} {e : Expr} {es : List Expr} {ea : List Nat} {fa : Env → R (List D)} {dvs : List V} {ds : List Value} {dds : List D}
theorem pd_call (G : FnOk X.prog X.w X.K X.mg X.base (L2.CX X.prog X.w) k f fd ps (spD X.K n F)) (tk : Takes X W) (hr : Room k X.A) (hg : Gl X x) (hm : X.mg x = some (.ref f)) (hk : PySem.W.keepIn X.K (.ref f) = true) (hb : Binds X.K fd ps ds) (hd : Vals dvs ds) (hdd : ∀ G, RepL X.K G dvs dds)
    (ha : PDA X W (e :: es) ea fa) (hn : ∀ ρ l, fa ρ = .ok l → (l ++ dds).length = n) (hdb : (x == ("__debug__" : Str)) = false := by decide) (he : starEach (e :: es) X.env = (false, eval e X.env) :: starEach es X.env := by rfl) (hpl : (backTo pos (starEach es X.env)).any (·.1) = false := by rfl) :
    PD X W (.Call (.Name x p) (e :: es) [] pos) ea (fCall F dds fa) := PE.imp (pe_callSD G hr hg hm hk hb hd (fun σ => passAt tk σ) ha hdb he hpl) fun σ H Q ⟨B, O, L, ρ, S, P⟩ => ⟨B, O, L, ρ, S, by
  have P : PostG X.K O W (rV X.K O (dropL ea L)) ((fa ρ).bind fun l => F (l ++ dds)) σ H Q := P
  cases q : fa ρ with
  | stuck => rw [q] at P; exact P
  | exc y => rw [q] at P; exact P
  | ok l =>
    rw [q] at P
    intro vs H1 e1 r1
    have P : PostG X.K O W (rV X.K O (dropL ea L)) (F (l ++ dds)) σ H Q := P
    refine ⟨HS O (dropL ea L), l ++ dds, ((S.ext e1).drop ea).hdom, RepL.append r1 (hdd _), hn ρ l q, ?_⟩
    cases z : F (l ++ dds) with
    | stuck => rw [z] at P; exact P
    | ok d => rw [z] at P; exact fun v H' e2 r2 => P v H' (e1.trans e2) r2
    | exc y =>
      rw [z] at P
      refine fun c dd H' e2 r2 => P c dd H' (e1.trans e2) ?_
      obtain ⟨h1, a, us, h2, h3, h4, h5⟩ := r2
      exact ⟨h1, a, us, h2, h3, h4, h5.mono (hide_same hs_0 (Same.refl H'))⟩⟩
/-- a try around: what is let out is taken -/
theorem takesD {X : Cx} {E : XK} (hs : X.stack = X.env :: X.outer) (hf : X.env.frame = some X.env.locals) (hex : X.ex = []) {E₁ : Value → Shared → Prop}
    (hx : X.xe = fun e s' => wpAny (model X.prog X.w) X.A (leaving X.env e) (fun _ s'' => L2.CX X.prog X.w X.outer X.H_0 X.s_0 E e s'') E₁ s') : Takes X (fun c d _ H => E c d H) := takes_of hs hf hex hx
end
theorem fNil_len {n : Nat} (h : n = 0) (ρ : Env) (l : List D) (e : fNil ρ = .ok l) : l.length = n := by
  cases e
  exact h.symm
theorem fCons_len {fa : Env → R D} {fs : Env → R (List D)} {n : Nat} (h : ∀ ρ l, fs ρ = .ok l → l.length = n) : ∀ ρ l, fCons fa fs ρ = .ok l → l.length = n + 1 := fun ρ l e => by
  unfold fCons at e
  cases q : fa ρ with
  | ok a =>
    rw [q] at e
    have e : (fs ρ).bind (fun l => R.ok (a :: l)) = .ok l := e
    cases z : fs ρ with
    | ok m =>
      rw [z] at e
      cases e
      rw [List.length_cons, h ρ m z]
    | exc x => rw [z] at e; cases e
    | stuck => rw [z] at e; cases e
  | exc x => rw [q] at e; cases e
  | stuck => rw [q] at e; cases e
end DL
set_option Elab.async false
set_option linter.all false
set_option maxRecDepth 100000
namespace DL
open PySem PySem.Spec PyProof.Rows L2

/-! ### texts -/
theorem mkS_len (x : List Nat) : (mkS x).length = x.length := by
  show x.toArray.size = x.length
  exact List.size_toArray
theorem mkS_list (x : List Nat) : (mkS x).cps.toList = x := rfl
theorem mkS_app (x y : List Nat) : mkS x ++ mkS y = mkS (x ++ y) := by
  show (⟨x.toArray ++ y.toArray⟩ : Str) = ⟨(x ++ y).toArray⟩
  rw [List.append_toArray]
theorem mkS_inj {x y : List Nat} (h : mkS x = mkS y) : x = y := by
  have e : (mkS x).cps.toList = (mkS y).cps.toList := by rw [h]
  exact e
theorem okT.sub {x y : List Nat} (a : okT x) (h : ∀ c ∈ y, c ∈ x) : okT y := fun c hc => a c (h c hc)

/-! ### operators -/
section
variable {K : PySem.W.Frag} {O : Addr → Prop} {H : Hp} {vs us : List V} {ds es : List D} {Q : VK}
theorem new_tup (hO : ∀ p, O p → H p ≠ none) (r : RepL K (hide O H) vs ds) (k : ∀ v H', Same H H' → Rep K (hide O H') v (.tup ds) → Q v H') : ∀ p, H p = none → Q (.ref p) (upd H p (.tup vs)) := fun p hp => by
  obtain ⟨n, r2⟩ := fresh_rep hO hp (same_new (o := .tup vs) hp) r
  exact k _ _ (same_new hp) ⟨p, vs, rfl, by rw [hide_no n, upd_same], r2⟩
theorem new_lst (hO : ∀ p, O p → H p ≠ none) (r : RepL K (hide O H) vs ds) (k : ∀ v H', Same H H' → Rep K (hide O H') v (.lst ds) → Q v H') : ∀ p, H p = none → Q (.ref p) (upd H p (.lst vs)) := fun p hp => by
  obtain ⟨n, r2⟩ := fresh_rep hO hp (same_new (o := .lst vs) hp) r
  exact k _ _ (same_new hp) ⟨p, vs, rfl, .inl (by rw [hide_no n, upd_same]), r2⟩
theorem hide_rd {a : Addr} {u : HO} (h : Rd (hide O H) a u) : Rd H a u := hide_le.rd _ _ h
end
/-- xs + ys, of lists that are read -/
def rCatG : R2 := fun x y H Q => ∃ l b xs zs, x = .ref l ∧ y = .ref b ∧ Rd H l (.lst xs) ∧ Rd H b (.lst zs) ∧ xs.length + zs.length ≤ sizeLine ∧ ∀ p, H p = none → Q (.ref p) (upd H p (.lst (xs ++ zs)))
theorem op_catG {X : Cx} : OpR X (binaryOp .Add) rCatG := by
  intro pins s σ H x y v u Q I rx ry h
  obtain ⟨l, b, xs, zs, rfl, rfl, hH, hB, hz, q⟩ := h
  cases rx
  cases ry
  obtain ⟨z, its, n, r, e⟩ := hH.ok I.hok
  obtain ⟨z2, its2, n2, r2, e2⟩ := hB.ok I.hok
  have l1 := r.length
  have l2 := r2.length
  refine PySem.P.add_list e e2 ?_ (by rw [List.size_toArray, List.size_toArray]; omega)
  have ea : its.toArray ++ its2.toArray = (its ++ its2).toArray := by simp
  rw [ea]
  exact ⟨.ref _, _, I.lnew (t' := s.toks) (r.append r2) (by rw [List.length_append]; omega), rfl, q _ I.fresh⟩
def rAddS : R2 := fun x y H Q => ∃ i j, x = .str i ∧ y = .str j ∧ i.length + j.length ≤ sizeLine ∧ Q (.str (i ++ j)) H
def rAdd (K : PySem.W.Frag) : R2 := fun x y H Q => rI0 (fun i j => .int (i + j)) x y H Q ∨ (rAddS x y H Q ∨ (rCatG x y H Q ∨ rCatA K x y H Q))
theorem op_addD {X : Cx} : OpR X (binaryOp .Add) (rAdd X.K) := op_add.or (OpR.or (r := rAddS) op_add_str (op_catG.or op_catA))
def gAdd : D → D → Option D
  | .int a, .int b => some (.int (a + b))
  | .str a, .str b => if a.length + b.length ≤ sizeLine then some (.str (a ++ b)) else none
  | .lst a, .lst b => if a.length + b.length ≤ sizeLine then some (.lst (a ++ b)) else none
  | .tup a, .tup b => if a.length + b.length ≤ sizeLine then some (.tup (a ++ b)) else none
  | _, _ => none
theorem gd_add {K : PySem.W.Frag} : OpD K (rAdd K) gAdd := by
  intro O H x y a b d Q hO ra rb hg k
  unfold gAdd at hg
  split at hg
  · cases hg
    exact .inl ⟨_, _, ra, rb, k _ H (Same.refl H) rfl⟩
  · split at hg
    case isFalse => cases hg
    rename_i a b hz
    cases hg
    exact .inr (.inl ⟨_, _, ra.1, rb.1, by rw [mkS_len, mkS_len]; exact hz, by rw [mkS_app]; exact k _ H (Same.refl H) ⟨rfl, ra.2.app rb.2⟩⟩)
  · split at hg
    case isFalse => cases hg
    rename_i a b hz
    cases hg
    obtain ⟨p, vs, e1, h1, r1⟩ := ra
    obtain ⟨q, us, e2, h2, r2⟩ := rb
    exact .inr (.inr (.inl ⟨p, q, vs, us, e1, e2, hide_rd h1, hide_rd h2, by rw [r1.length, r2.length]; exact hz, new_lst hO (r1.append r2) k⟩))
  · split at hg
    case isFalse => cases hg
    rename_i a b hz
    cases hg
    obtain ⟨p, vs, e1, h1, r1⟩ := ra
    obtain ⟨q, us, e2, h2, r2⟩ := rb
    refine .inr (.inr (.inr ⟨p, q, vs, us, e1, e2, SqT.of (hide_some h1).2, SqT.of (hide_some h2).2, by rw [r1.length, r2.length]; exact hz, fun e => ?_, fun _ e => ?_, fun _ _ => new_tup hO (r1.append r2) k⟩))
    · subst e
      have l := r1.length
      have e : a = [] := List.eq_nil_of_length_eq_zero l.symm
      subst e
      exact k _ H (Same.refl H) ⟨q, us, rfl, h2, r2⟩
    · subst e
      have l := r2.length
      have e : b = [] := List.eq_nil_of_length_eq_zero l.symm
      subst e
      rw [List.append_nil] at k
      exact k _ H (Same.refl H) ⟨p, vs, rfl, h1, r1⟩
  · cases hg
def gMinus : D → D → Option D
  | .int a, .int b => some (.int (a - b))
  | _, _ => none
theorem gd_sub {K : PySem.W.Frag} : OpD K (rI0 fun i j => .int (i - j)) gMinus := by
  intro O H x y a b d Q hO ra rb hg k
  unfold gMinus at hg
  split at hg
  · cases hg
    exact ⟨_, _, ra, rb, k _ H (Same.refl H) rfl⟩
  · cases hg
/-! times -/
theorem foldl_flat (x : List Nat) : ∀ (n : Nat) (acc : Array Nat), ((List.replicate n (mkS x).cps).foldl (· ++ ·) acc).toList = acc.toList ++ (List.replicate n x).flatten
  | 0, acc => by simp
  | n + 1, acc => by
    rw [List.replicate_succ, List.foldl_cons, foldl_flat x n, List.replicate_succ, List.flatten_cons, Array.toList_append, List.append_assoc]
    rfl
def rMulS : R2 := fun x y H Q => ∃ (l : List Nat) (n : Int), x = .str (mkS l) ∧ y = .int n ∧ 0 ≤ n ∧ n ≤ 1000 ∧ l.length ≤ 1000 ∧ Q (.str (mkS (List.replicate n.toNat l).flatten)) H
theorem op_mulS {X : Cx} : OpR X (binaryOp .Mult) rMulS := by
  intro pins s σ H x y v u Q I rx ry h
  obtain ⟨l, n, rfl, rfl, h0, h1, h2, q⟩ := h
  obtain ⟨t, rfl⟩ := rx
  obtain ⟨t', rfl⟩ := ry
  have hl : (mkS l).length = l.length := mkS_len l
  have hm : (mkS l).length * n.toNat ≤ 1000 * 1000 := by
    rw [hl]
    exact Nat.mul_le_mul h2 (by omega)
  refine PySem.P.mul_str (by
      rw [decide_eq_false (by omega), decide_eq_false (by omega)]
      rfl) (fun a _ => ?_) (fun a _ => ?_) ?_
  · have h3 : ((mkS l).length : Int) * n ≤ 1000 * 1000 := Int.mul_le_mul (by rw [hl]; omega) h1 h0 (by decide)
    have h4 : ((mkS l).length : Int) ≤ (2 ^ 63 - 1) / n := Int.le_ediv_of_mul_le (by omega) (by omega)
    omega
  · unfold Builtin.Str.tooLong
    rw [decide_eq_false]
    have : (sizeLine : Nat) = 16777216 := sizeLine_eq
    omega
  · by_cases c : n < 1
    · rw [if_pos c]
      have e : n = 0 := by omega
      subst e
      exact ⟨by decide, .str _, H, I.tok _, ⟨_, rfl⟩, q⟩
    · rw [if_neg c]
      split
      · rename_i c2
        refine ⟨.str (mkS l), H, I, ⟨t, rfl⟩, ?_⟩
        rw [Bool.or_eq_true, beq_iff_eq, beq_iff_eq] at c2
        rcases c2 with e | e
        · subst e
          have q := q
          rw [show (List.replicate (1 : Int).toNat l).flatten = l by simp] at q
          exact q
        · rw [hl] at e
          have e : l = [] := List.eq_nil_of_length_eq_zero e
          subst e
          rw [show (List.replicate n.toNat ([] : List Nat)).flatten = [] by simp] at q
          exact q
      · have e : (⟨(List.replicate n.toNat (mkS l).cps).foldl (· ++ ·) #[]⟩ : Str) = mkS (List.replicate n.toNat l).flatten := by
          have f := foldl_flat l n.toNat #[]
          show Str.mk _ = Str.mk _
          congr 1
          rw [← Array.toArray_toList (xs := (List.replicate n.toNat (mkS l).cps).foldl (· ++ ·) #[]), f]
          rfl
        rw [e]
        refine ⟨?_, .str _, H, I.tok _, ⟨_, rfl⟩, q⟩
        rw [mkS_len, List.length_flatten, List.map_replicate, List.sum_replicate_nat, ← hl, Nat.mul_comm]
        have : (sizeLine : Nat) = 16777216 := sizeLine_eq
        omega

def rMul : R2 := fun x y H Q => rI CMul (fun i j => .int (i * j)) x y H Q ∨ rMulS x y H Q
theorem op_mulD {X : Cx} : OpR X (binaryOp .Mult) rMul := op_mul.or op_mulS
def gMul : D → D → Option D
  | .int a, .int b => if (-(2 ^ 64) < a ∧ a < 2 ^ 64) ∨ (-(2 ^ 64) < b ∧ b < 2 ^ 64) then some (.int (a * b)) else none
  | .str a, .int n => if 0 ≤ n ∧ n ≤ 1000 ∧ a.length ≤ 1000 then some (.str (List.replicate n.toNat a).flatten) else none
  | _, _ => none
theorem gd_mul {K : PySem.W.Frag} : OpD K rMul gMul := by
  intro O H x y a b d Q hO ra rb hg k
  unfold gMul at hg
  split at hg
  · split at hg
    case isFalse => cases hg
    rename_i hz
    cases hg
    exact .inl ⟨_, _, ra, rb, hz, k _ H (Same.refl H) rfl⟩
  · split at hg
    case isFalse => cases hg
    rename_i a n hz
    cases hg
    refine .inr ⟨a, n, ra.1, rb, hz.1, hz.2.1, hz.2.2, k _ H (Same.refl H) ⟨rfl, fun c hc => ?_⟩⟩
    obtain ⟨l, hl, hc⟩ := List.mem_flatten.mp hc
    exact ra.2 c (List.eq_of_mem_replicate hl ▸ hc)
  · cases hg
def gDiv : D → D → Option D
  | .int a, .int b => if 0 < b ∧ b < 1073741824 then some (.int (a / b)) else none
  | _, _ => none
theorem gd_div {K : PySem.W.Frag} : OpD K (rI CDiv fun i j => .int (i / j)) gDiv := by
  intro O H x y a b d Q hO ra rb hg k
  unfold gDiv at hg
  split at hg
  · split at hg
    case isFalse => cases hg
    rename_i hz
    cases hg
    exact ⟨_, _, ra, rb, hz, k _ H (Same.refl H) rfl⟩
  · cases hg
def gMod : D → D → Option D
  | .int a, .int b => if 0 < b then some (.int (a % b)) else none
  | _, _ => none
theorem gd_mod {K : PySem.W.Frag} : OpD K (rI (fun _ j => 0 < j) fun i j => .int (i % j)) gMod := by
  intro O H x y a b d Q hO ra rb hg k
  unfold gMod at hg
  split at hg
  · split at hg
    case isFalse => cases hg
    rename_i hz
    cases hg
    exact ⟨_, _, ra, rb, hz, k _ H (Same.refl H) rfl⟩
  · cases hg
def gPow : D → D → Option D
  | .int a, .int b => if 0 ≤ b ∧ b ≤ 1000000 ∧ a.natAbs < 2 ^ 64 then some (.int (a ^ b.toNat)) else none
  | _, _ => none
theorem gd_pow {K : PySem.W.Frag} : OpD K (rI CPow fun i j => .int (i ^ j.toNat)) gPow := by
  intro O H x y a b d Q hO ra rb hg k
  unfold gPow at hg
  split at hg
  · split at hg
    case isFalse => cases hg
    rename_i hz
    cases hg
    exact ⟨_, _, ra, rb, hz, k _ H (Same.refl H) rfl⟩
  · cases hg
def gCmpI (p : Int → Int → Bool) : D → D → Option D
  | .int a, .int b => some (.bl (p a b))
  | _, _ => none
theorem gd_cmpI {K : PySem.W.Frag} {p : Int → Int → Bool} : OpD K (rI0 fun i j => .bl (p i j)) (gCmpI p) := by
  intro O H x y a b d Q hO ra rb hg k
  unfold gCmpI at hg
  split at hg
  · cases hg
    exact ⟨_, _, ra, rb, k _ H (Same.refl H) rfl⟩
  · cases hg
abbrev gLt := gCmpI fun i j => decide (i < j)
abbrev gLe := gCmpI fun i j => decide (i ≤ j)
abbrev gGt := gCmpI fun i j => decide (j < i)
abbrev gGe := gCmpI fun i j => decide (j ≤ i)
def fUn (g : D → Option D) (fa : Env → R D) : Env → R D := fun ρ => (fa ρ).bind fun a => R.ofO (g a)
theorem pd_un {X : Cx} {W : WX} {op : UnaryOp} {r : V → Hp → VK → Prop} {g : D → Option D} {a : Expr} {pos : Pos} {ea : List Nat} {fa : Env → R D} (ho : UnR X (unaryOp op) r) (hg : UnD X.K r g) (ha : PD X W a ea fa) : PD X W (.UnaryOp op a pos) ea (fUn g fa) :=
  PE.imp (pe_un ho ha) fun σ H Q ⟨B, O, L, ρ, S, P⟩ => ⟨B, O, L, ρ, S, PostG.bind P fun a x H1 e1 r1 P1 => by
    obtain ⟨d, hd, P3⟩ := P1.ofO
    exact hg (HS O (dropL ea L)) H1 x a d Q ((S.ext e1).drop _).hdom r1 hd P3⟩
def gNeg : D → Option D
  | .int a => some (.int (-a))
  | _ => none
theorem gd_neg {K : PySem.W.Frag} : UnD K (rU fun i => .int (-i)) gNeg := by
  intro O H x a d Q hO ra hg k
  unfold gNeg at hg
  split at hg
  · cases hg
    exact ⟨_, ra, k _ H (Same.refl H) rfl⟩
  · cases hg

/-! ### data as the library has it -/
mutual
def D.pd : D → PyData
  | .non => .none
  | .bl b => .bool b
  | .int i => .int i
  | .str x => .str (mkS x)
  | .lst ds => .list (D.pdL ds)
  | .tup ds => .tuple (D.pdL ds)
  | .dk _ _ => .none
  | .dt _ _ => .none
  | .ins _ _ _ => .none
  | .cl _ => .none
  | .scr _ => .none
  | .etup => .none
  | .fk _ _ => .none
  | .ft _ _ => .none
def D.pdL : List D → List PyData
  | [] => []
  | d :: ds => d.pd :: D.pdL ds
end
mutual
/-- data that == is told of; not deeper than n -/
def isData : Nat → D → Bool
  | _, .non => true
  | _, .bl _ => true
  | _, .int _ => true
  | _, .str _ => true
  | n + 1, .lst ds => isDataL n ds
  | n + 1, .tup ds => isDataL n ds
  | _, _ => false
def isDataL : Nat → List D → Bool
  | _, [] => true
  | n, d :: ds => isData n d && isDataL n ds
end
theorem pdL_map : ∀ ds : List D, D.pdL ds = ds.map D.pd
  | [] => rfl
  | d :: ds => by
    show d.pd :: D.pdL ds = _
    rw [pdL_map ds]
    rfl
theorem isDataL_all : ∀ (n : Nat) (ds : List D), isDataL n ds = ds.all (isData n)
  | n, [] => by unfold isDataL; rfl
  | n, d :: ds => by
    unfold isDataL
    rw [isDataL_all n ds, List.all_cons]
section
variable {K : PySem.W.Frag} {G : Hp}
mutual
theorem dp_of : ∀ {n : Nat} {d : D} {v : V}, isData n d = true → Rep K G v d → Dp K G v d.pd ∧ d.pd.canLay0 = true ∧ d.pd.depth ≤ n
  | n, .non, v, _, h => by
    obtain rfl : v = .non := h
    exact ⟨.non, by simp [D.pd, PyData.canLay0], by simp [D.pd, PyData.depth]⟩
  | n, .bl b, v, _, h => by
    obtain rfl : v = .bl b := h
    exact ⟨.bl b, by simp [D.pd, PyData.canLay0], by simp [D.pd, PyData.depth]⟩
  | n, .int i, v, _, h => by
    obtain rfl : v = .int i := h
    exact ⟨.int i, by simp [D.pd, PyData.canLay0], by simp [D.pd, PyData.depth]⟩
  | n, .str x, v, _, h => by
    obtain ⟨rfl, ho⟩ := h
    refine ⟨.str _, ?_, by simp [D.pd, PyData.depth]⟩
    have e : PySem.PyData.strOk (mkS x) = true := by
      unfold PySem.PyData.strOk
      rw [← Array.all_toList, mkS_list]
      exact List.all_eq_true.mpr fun c hc => decide_eq_true (ho c hc)
    simpa [D.pd, PyData.canLay0] using e
  | 0, .lst ds, v, hd, h => by cases hd
  | 0, .tup ds, v, hd, h => by cases hd
  | n + 1, .lst ds, v, hd, h => by
    obtain ⟨a, vs, rfl, h1, h2⟩ := h
    obtain ⟨q1, q2, q3⟩ := dpL_of (n := n) (by simpa [isData] using hd) h2
    exact ⟨.lst (.inl h1) q1, by simpa [D.pd, PyData.canLay0] using q2, by simpa [D.pd, PyData.depth] using q3⟩
  | n + 1, .tup ds, v, hd, h => by
    obtain ⟨a, vs, rfl, h1, h2⟩ := h
    obtain ⟨q1, q2, q3⟩ := dpL_of (n := n) (by simpa [isData] using hd) h2
    exact ⟨.tup (SqT.of h1) q1, by simpa [D.pd, PyData.canLay0] using q2, by simpa [D.pd, PyData.depth] using q3⟩
  | 0, .dk _ _, v, hd, h => by cases hd
  | _ + 1, .dk _ _, v, hd, h => by cases hd
  | 0, .dt _ _, v, hd, h => by cases hd
  | _ + 1, .dt _ _, v, hd, h => by cases hd
  | 0, .ins _ _ _, v, hd, h => by cases hd
  | _ + 1, .ins _ _ _, v, hd, h => by cases hd
  | 0, .cl _, v, hd, h => by cases hd
  | _ + 1, .cl _, v, hd, h => by cases hd
  | 0, .scr _, v, hd, h => by cases hd
  | _ + 1, .scr _, v, hd, h => by cases hd
  | 0, .etup, v, hd, h => by cases hd
  | _ + 1, .etup, v, hd, h => by cases hd
theorem dpL_of : ∀ {n : Nat} {ds : List D} {vs : List V}, isDataL n ds = true → RepL K G vs ds → DpAll K G vs (D.pdL ds) ∧ PyData.canLayAll0 (D.pdL ds) = true ∧ PyData.depthAll (D.pdL ds) ≤ n
  | n, [], vs, _, h => by
    obtain rfl : vs = [] := h
    exact ⟨.nil, by simp [D.pdL, PyData.canLayAll0], by simp [D.pdL, PyData.depthAll]⟩
  | n, d :: ds, vs, hd, h => by
    obtain ⟨x, xs, rfl, h1, h2⟩ := h
    have hd : isData n d = true ∧ isDataL n ds = true := by simpa [isDataL] using hd
    obtain ⟨a1, a2, a3⟩ := dp_of hd.1 h1
    obtain ⟨b1, b2, b3⟩ := dpL_of hd.2 h2
    exact ⟨.cons a1 b1, by simp [D.pdL, PyData.canLayAll0, a2, b2], by simp only [D.pdL, PyData.depthAll]; omega⟩
end
theorem shaped_of {n : Nat} {d : D} {v : V} (hn : n ≤ 64) (h : isData n d = true) (r : Rep K G v d) : Dp K G v d.pd ∧ SeqAt.shaped d.pd = true := by
  obtain ⟨a, b, c⟩ := dp_of h r
  refine ⟨a, ?_⟩
  unfold SeqAt.shaped
  rw [b, Bool.true_and]
  exact decide_eq_true (Nat.le_trans c hn)
end
theorem Dp.le {K : PySem.W.Frag} {H H' : Hp} (e : RdLe H H') : ∀ {d : PyData} {v : V}, Dp K H v d → Dp K H' v d := by
  intro d v h
  exact Dp.rec (motive_1 := fun v d _ => Dp K H' v d) (motive_2 := fun vs ds _ => DpAll K H' vs ds) .non .bl .int .str (fun h _ ih => .lst (e.sqL h) ih) (fun h _ ih => .tup (e.sqT h) ih) .nil (fun _ _ a b => .cons a b) h
/-- Python's == of data -/
def deq (a b : D) : Bool := PyData.eqv a.pd b.pd
def gEq : D → D → Option D := fun a b => if isData 60 a = true ∧ isData 60 b = true then some (.bl (deq a b)) else none
def gNe : D → D → Option D := fun a b => if isData 60 a = true ∧ isData 60 b = true then some (.bl (!deq a b)) else none
theorem gd_eq {K : PySem.W.Frag} : OpD K (rEqD K) gEq := by
  intro O H x y a b d Q hO ra rb hg k
  unfold gEq at hg
  split at hg
  case isFalse => cases hg
  rename_i hz
  cases hg
  obtain ⟨a1, a2⟩ := shaped_of (by decide) hz.1 ra
  obtain ⟨b1, b2⟩ := shaped_of (by decide) hz.2 rb
  exact ⟨_, _, Dp.le hide_le a1, Dp.le hide_le b1, a2, b2, k _ H (Same.refl H) rfl⟩
theorem gd_ne {K : PySem.W.Frag} : OpD K (rNeD K) gNe := by
  intro O H x y a b d Q hO ra rb hg k
  unfold gNe at hg
  split at hg
  case isFalse => cases hg
  rename_i hz
  cases hg
  obtain ⟨a1, a2⟩ := shaped_of (by decide) hz.1 ra
  obtain ⟨b1, b2⟩ := shaped_of (by decide) hz.2 rb
  exact ⟨_, _, Dp.le hide_le a1, Dp.le hide_le b1, a2, b2, k _ H (Same.refl H) rfl⟩
/-! in -/
def isFlat : D → Bool
  | .non => true
  | .bl _ => true
  | .int _ => true
  | .str _ => true
  | _ => false
theorem flat_of {K : PySem.W.Frag} {G : Hp} {v : V} {d : D} (h : isFlat d = true) (r : Rep K G v d) : flatV v = true := by
  cases d <;> first
    | (obtain rfl := (show v = _ from r); rfl)
    | (obtain rfl := r.1; rfl)
    | cases h
theorem flatL_of {K : PySem.W.Frag} {G : Hp} : ∀ {vs : List V} {ds : List D}, ds.all isFlat = true → RepL K G vs ds → vs.all flatV = true
  | _, [], _, h => by
    have h : _ = [] := h
    rw [h]
    rfl
  | _, d :: ds, hf, ⟨x, xs, h1, h2, h3⟩ => by
    subst h1
    rw [List.all_cons, Bool.and_eq_true] at hf ⊢
    exact ⟨flat_of hf.1 h2, flatL_of hf.2 h3⟩
theorem eqV_of {K : PySem.W.Frag} {G : Hp} {v u : V} {d e : D} (h : isFlat d = true) (h' : isFlat e = true) (r : Rep K G v d) (r' : Rep K G u e) : eqV v u = deq d e := by
  cases d <;> first | (cases h; done) | skip
  all_goals (cases e <;> first | (cases h'; done) | skip)
  all_goals first
    | (obtain rfl := (show v = _ from r); obtain rfl := (show u = _ from r'); first | rfl | (simp [eqV, deq, D.pd, PyData.eqv]; done))
    | (obtain rfl := (show v = _ from r); obtain rfl := r'.1; first | rfl | (simp [eqV, deq, D.pd, PyData.eqv]; done))
    | (obtain rfl := r.1; obtain rfl := (show u = _ from r'); first | rfl | (simp [eqV, deq, D.pd, PyData.eqv]; done))
    | (obtain rfl := r.1; obtain rfl := r'.1; first | rfl | (simp [eqV, deq, D.pd, PyData.eqv]; done))
def memD (x : D) (ds : List D) : Bool := ds.any fun z => deq z x
theorem inV_of {K : PySem.W.Frag} {G : Hp} {u : V} {e : D} (h' : isFlat e = true) (r' : Rep K G u e) : ∀ {vs : List V} {ds : List D}, ds.all isFlat = true → RepL K G vs ds → inV u vs = memD e ds
  | _, [], _, h => by
    have h : _ = [] := h
    rw [h]
    rfl
  | _, d :: ds, hf, ⟨x, xs, h1, h2, h3⟩ => by
    subst h1
    rw [List.all_cons, Bool.and_eq_true] at hf
    have ih := inV_of h' r' hf.2 h3
    unfold inV memD at ih ⊢
    rw [List.any_cons, List.any_cons, ih, eqV_of hf.1 h' h2 r']
def rInS (neg : Bool) : R2 := fun x y H Q => ∃ (c : Nat) (z : Str), x = .str ⟨#[c]⟩ ∧ y = .str z ∧ Q (.bl (if neg then !decide (c ∈ z.cps.toList) else decide (c ∈ z.cps.toList))) H
def rInDD (K : PySem.W.Frag) (neg : Bool) : R2 := fun x y H Q => ∃ d ds, Dp K H x d ∧ Dp K H y (.list ds) ∧ SeqAt.shaped d = true ∧ SeqAt.shaped (.list ds) = true ∧ Q (.bl (if neg then !(ds.any fun z => PyData.eqv z d) else ds.any fun z => PyData.eqv z d)) H
def rInAll (K : PySem.W.Frag) (neg : Bool) : R2 := fun x y H Q => rIn K neg x y H Q ∨ (rInS neg x y H Q ∨ rInDD K neg x y H Q)
theorem op_inAll {X : Cx} (hu : X.A.units + 65 < cLine) : OpR X (compareOp .In) (rInAll X.K false) := op_in_seq.or (OpR.or (r := rInS false) op_in_sign (op_inD hu))
theorem op_ninAll {X : Cx} (hu : X.A.units + 65 < cLine) : OpR X (compareOp .NotIn) (rInAll X.K true) := op_notIn_seq.or (OpR.or (r := rInS true) op_notIn_sign (op_notInD hu))
def inD : D → D → Option Bool
  | .str [c], .str z => some (decide (c ∈ z))
  | x, .lst ds => if isFlat x = true ∧ ds.all isFlat = true then some (memD x ds) else if isData 50 x = true ∧ isDataL 50 ds = true then some (memD x ds) else none
  | x, .tup ds => if isFlat x = true ∧ ds.all isFlat = true then some (memD x ds) else none
  | _, _ => none
def gIn (neg : Bool) : D → D → Option D := fun a b => (inD a b).map fun k => .bl (if neg then !k else k)
theorem gd_in {K : PySem.W.Frag} {neg : Bool} : OpD K (rInAll K neg) (gIn neg) := by
  intro O H x y a b d Q hO ra rb hg k
  unfold gIn at hg
  obtain ⟨w, hw, hg⟩ := Option.map_eq_some_iff.mp hg
  subst hg
  unfold inD at hw
  split at hw
  · cases hw
    exact .inr (.inl ⟨_, _, ra.1, rb.1, k _ H (Same.refl H) rfl⟩)
  · split at hw
    · rename_i hz
      cases hw
      obtain ⟨p, vs, e, h1, h2⟩ := rb
      refine .inl ⟨p, vs, e, .inl (.inl (hide_rd h1)), flat_of hz.1 ra, flatL_of hz.2 h2, ?_⟩
      rw [inV_of hz.1 ra hz.2 h2]
      exact k _ H (Same.refl H) rfl
    · split at hw
      case isFalse => cases hw
      rename_i hz
      cases hw
      obtain ⟨a1, a2⟩ := shaped_of (by decide) hz.1 ra
      obtain ⟨b1, b2⟩ := shaped_of (n := 51) (d := .lst _) (by decide) (by simpa [isData] using hz.2) rb
      have e : ∀ l : List D, (D.pdL l).any (fun z => PyData.eqv z a.pd) = memD a l := fun l => by
        rw [pdL_map, List.any_map]
        rfl
      refine .inr (.inr ⟨_, _, Dp.le hide_le a1, Dp.le hide_le b1, a2, b2, ?_⟩)
      rw [e]
      exact k _ H (Same.refl H) rfl
  · split at hw
    case isFalse => cases hw
    rename_i hz
    cases hw
    obtain ⟨p, vs, e, h1, h2⟩ := rb
    refine .inl ⟨p, vs, e, .inr (SqT.of (hide_some h1).2), flat_of hz.1 ra, flatL_of hz.2 h2, ?_⟩
    rw [inV_of hz.1 ra hz.2 h2]
    exact k _ H (Same.refl H) rfl
  · cases hw
/-! is None -/
def gIsN (neg : Bool) : D → D → Option D
  | a, .non => some (.bl (match a with | .non => !neg | _ => neg))
  | _, _ => none
theorem non_of {K : PySem.W.Frag} {G : Hp} {v : V} {d : D} (r : Rep K G v d) : decide (v = .non) = (match d with | .non => true | _ => false) := by
  cases d <;> first
    | (obtain rfl := (show v = _ from r); rfl)
    | (obtain rfl := r.1; rfl)
    | (obtain ⟨a, rfl, _⟩ := r; rfl)
    | (obtain ⟨a, b, rfl, _⟩ := r; rfl)
    | (obtain ⟨a, b, c, rfl, _⟩ := r; rfl)
theorem gd_isN {K : PySem.W.Frag} : OpD K (fun x y H Q => y = .non ∧ Q (.bl (decide (x = .non))) H) (gIsN false) := by
  intro O H x y a b d Q hO ra rb hg k
  unfold gIsN at hg
  split at hg
  · cases hg
    refine ⟨rb, ?_⟩
    rw [non_of ra]
    refine k _ H (Same.refl H) ?_
    cases a <;> rfl
  · cases hg
theorem gd_notN {K : PySem.W.Frag} : OpD K (fun x y H Q => y = .non ∧ Q (.bl (!decide (x = .non))) H) (gIsN true) := by
  intro O H x y a b d Q hO ra rb hg k
  unfold gIsN at hg
  split at hg
  · cases hg
    refine ⟨rb, ?_⟩
    rw [non_of ra]
    refine k _ H (Same.refl H) ?_
    cases a <;> rfl
  · cases hg
end DL
set_option Elab.async false
set_option linter.all false
set_option maxRecDepth 100000
namespace DL
open PySem PySem.Spec PyProof.Rows L2

/-! ### dicts, read -/
def lookD {κ : Type} [DecidableEq κ] : List κ → List D → κ → Option D
  | k :: ks, d :: ds, x => if k = x then some d else lookD ks ds x
  | _, _, _ => none
def RelD (K : PySem.W.Frag) (G : Hp) : Option V → Option D → Prop
  | some v, some d => Rep K G v d
  | none, none => True
  | _, _ => False
theorem look_rel {K : PySem.W.Frag} {G : Hp} {κ : Type} [DecidableEq κ] (x : κ) : ∀ {us : List (κ × V)} {ds : List D}, RepL K G (us.map (·.2)) ds → RelD K G (valV us x) (lookD (us.map (·.1)) ds x)
  | [], [], _ => trivial
  | [], _ :: _, ⟨_, _, h, _⟩ => by cases h
  | _ :: _, [], h => by
    have h : _ = [] := h
    cases h
  | (k, v) :: us, d :: ds, ⟨y, ys, h1, h2, h3⟩ => by
    cases h1
    show RelD K G (((((k, v) :: us).find? fun kv => decide (kv.1 = x)).map (·.2))) (if k = x then some d else lookD (us.map (·.1)) ds x)
    by_cases e : k = x
    · rw [if_pos e, List.find?_cons_of_pos (by simpa using e)]
      exact h2
    · rw [if_neg e, List.find?_cons_of_neg (by simpa using e)]
      exact look_rel x h3
def keyOf : D → Option Key
  | .int i => some (.inl i)
  | .str x => some (.inr (mkS x))
  | _ => none
def keysOf : List D → Option (List Key)
  | [] => some []
  | d :: ds => (keyOf d).bind fun k => (keysOf ds).bind fun r => some (k :: r)
theorem key_rep {K : PySem.W.Frag} {G : Hp} {v : V} {d : D} {k : Key} (h : keyOf d = some k) (r : Rep K G v d) : v = kV k := by
  cases d <;> first | (cases h; done) | skip
  · cases h
    exact r
  · cases h
    exact r.1
theorem keys_rep {K : PySem.W.Frag} {G : Hp} : ∀ {vs : List V} {ds : List D} {ks : List Key}, keysOf ds = some ks → RepL K G vs ds → vs = ks.map kV
  | vs, [], ks, h, r => by
    cases h
    exact r
  | vs, d :: ds, ks, h, ⟨x, xs, h1, h2, h3⟩ => by
    obtain ⟨k, a, h⟩ := Option.bind_eq_some_iff.mp h
    obtain ⟨r, b, h⟩ := Option.bind_eq_some_iff.mp h
    cases h
    rw [h1, key_rep a h2, keys_rep b h3]
    rfl
/-- what a dict holds at a key: none where it is no dict or no key -/
def dgetD : D → D → Option (Option D)
  | .dk ks vs, x => (keyOf x).map fun k => lookD ks vs k
  | .dt ks vs, .tup ds => (keysOf ds).map fun k => lookD ks vs k
  | .fk ks vs, x => (keyOf x).map fun k => lookD ks vs k
  | .ft ks vs, .tup ds => (keysOf ds).map fun k => lookD ks vs k
  | _, _ => none
theorem dget_rep {K : PySem.W.Frag} {O : Addr → Prop} {H : Hp} {x y : V} {a b : D} {o : Option D} (ra : Rep K (hide O H) x a) (rb : Rep K (hide O H) y b) (h : dgetD a b = some o) : ∃ p w, x = .ref p ∧ DGet H p y w ∧ RelD K (hide O H) w o := by
  unfold dgetD at h
  split at h
  · obtain ⟨k, hk, h⟩ := Option.map_eq_some_iff.mp h
    subst h
    obtain ⟨p, us, e, h1, h2, h3⟩ := ra
    subst h2
    exact ⟨p, _, e, .inl ⟨us, k, hide_rd h1, key_rep hk rb, rfl⟩, look_rel k h3⟩
  · obtain ⟨k, hk, h⟩ := Option.map_eq_some_iff.mp h
    subst h
    obtain ⟨p, us, e, h1, h2, h3⟩ := ra
    obtain ⟨q, vs, e2, g1, g2⟩ := rb
    subst h2 e2
    refine ⟨p, _, e, .inr ⟨us, k, q, hide_rd h1, rfl, ?_, rfl⟩, look_rel k h3⟩
    rw [← keys_rep hk g2]
    exact (hide_some g1).2
  · obtain ⟨k, hk, h⟩ := Option.map_eq_some_iff.mp h
    subst h
    obtain ⟨p, oo, us, e, h1, h2, h3⟩ := ra
    subst h2
    exact ⟨p, _, e, .inl ⟨us, k, .inr ⟨oo, (hide_some h1).2⟩, key_rep hk rb, rfl⟩, look_rel k h3⟩
  · obtain ⟨k, hk, h⟩ := Option.map_eq_some_iff.mp h
    subst h
    obtain ⟨p, oo, us, e, h1, h2, h3⟩ := ra
    obtain ⟨q, vs, e2, g1, g2⟩ := rb
    subst h2 e2
    refine ⟨p, _, e, .inr ⟨us, k, q, .inr ⟨oo, (hide_some h1).2⟩, rfl, ?_, rfl⟩, look_rel k h3⟩
    rw [← keys_rep hk g2]
    exact (hide_some g1).2
  · cases h
def rInK (neg : Bool) : R2 := fun x y H Q => ∃ a o, y = .ref a ∧ DGet H a x o ∧ Q (.bl (if neg then !o.isSome else o.isSome)) H
theorem op_inK {X : Cx} (hu : X.A.units + 1 < cLine) : OpR X (compareOp .In) (rInK false) := by
  intro pins s σ H x y v u Q I rx ry h
  obtain ⟨a, o, rfl, g, q⟩ := h
  obtain rfl : u = Value.ref a := ry
  exact d_in hu I g rx fun s3 I3 => ⟨.bl o.isSome, H, I3, rfl, q⟩
theorem op_ninK {X : Cx} (hu : X.A.units + 1 < cLine) : OpR X (compareOp .NotIn) (rInK true) := by
  intro pins s σ H x y v u Q I rx ry h
  obtain ⟨a, o, rfl, g, q⟩ := h
  obtain rfl : u = Value.ref a := ry
  exact d_notIn hu I g rx fun s3 I3 => ⟨.bl (!o.isSome), H, I3, rfl, q⟩
def rIn5 (K : PySem.W.Frag) (neg : Bool) : R2 := fun x y H Q => rInAll K neg x y H Q ∨ rInK neg x y H Q
theorem op_in5 {X : Cx} (hu : X.A.units + 65 < cLine) : OpR X (compareOp .In) (rIn5 X.K false) := (op_inAll hu).or (op_inK (by omega))
theorem op_nin5 {X : Cx} (hu : X.A.units + 65 < cLine) : OpR X (compareOp .NotIn) (rIn5 X.K true) := (op_ninAll hu).or (op_ninK (by omega))
/-- in, not in: of a list, a tuple, a text, a dict -/
def gIn5 (neg : Bool) : D → D → Option D := fun a b =>
  match b with
  | .dk ks vs => (dgetD (.dk ks vs) a).map fun o => .bl (if neg then !o.isSome else o.isSome)
  | .dt ks vs => (dgetD (.dt ks vs) a).map fun o => .bl (if neg then !o.isSome else o.isSome)
  | .fk ks vs => (dgetD (.fk ks vs) a).map fun o => .bl (if neg then !o.isSome else o.isSome)
  | .ft ks vs => (dgetD (.ft ks vs) a).map fun o => .bl (if neg then !o.isSome else o.isSome)
  | b => gIn neg a b
theorem RelD.some_iff {K : PySem.W.Frag} {G : Hp} {w : Option V} {o : Option D} (h : RelD K G w o) : w.isSome = o.isSome := by
  cases w <;> cases o <;> first | rfl | exact h.elim
theorem gd_in5 {K : PySem.W.Frag} {neg : Bool} : OpD K (rIn5 K neg) (gIn5 neg) := by
  intro O H x y a b d Q hO ra rb hg k
  unfold gIn5 at hg
  have dict : ∀ {b : D}, Rep K (hide O H) y b → (dgetD b a).map (fun o => D.bl (if neg then !o.isSome else o.isSome)) = some d → rIn5 K neg x y H Q := fun {b} rb hg => by
    obtain ⟨o, ho, hg⟩ := Option.map_eq_some_iff.mp hg
    subst hg
    obtain ⟨p, w, e, g, r⟩ := dget_rep rb ra ho
    refine .inr ⟨p, w, e, g, ?_⟩
    rw [r.some_iff]
    exact k _ H (Same.refl H) rfl
  split at hg
  · exact dict rb hg
  · exact dict rb hg
  · exact dict rb hg
  · exact dict rb hg
  · exact .inl (gd_in O H x y a _ d Q hO ra rb hg k)

/-! ### a[i] -/
def rIxD : R2 := fun x y H Q => ∃ a v, x = .ref a ∧ DGet H a y (some v) ∧ Q v H
theorem ix_dict {X : Cx} (hu : X.A.units + 1 < cLine) : IxR X rIxD := by
  intro value slice pins s σ H x y v u Q I rx ry h hs
  obtain ⟨a, w, rfl, g, q⟩ := h
  obtain rfl : v = Value.ref a := rx
  have hT := dict_typeIs I g
  unfold subscriptTail
  refine wpAny_bind ?_
  rw [getitemInPython_of_ne hT.not_modules]
  refine wpAny_bind (wpAny_specialOf hT PySem.F.slot_dict_getitem.lookup ?_)
  have fin : wpAny (model X.prog X.w) X.A (subscripted slice false (.ref a) u) (fun r s₃ => wpAny (model X.prog X.w) X.A (letTemporaryGo value (.ref a) r >>= fun _ => pure r) (EP X pins σ Q) X.xe s₃) X.xe s := by
    rw [hs]
    exact wpAny_operating (d_getItem hu I g ry fun w' s3 I3 rw' => wpAny_bind (wpAny_letTemporaryGo (wpAny_pure ⟨w, H, I3, rw', q⟩)))
  first
    | exact wpAny_pure (wpAny_bind fin)
    | exact wpAny_bind (wpAny_pure (wpAny_bind fin))
    | exact wpAny_bind fin
def rIxA (K : PySem.W.Frag) : R2 := fun x y H Q => rIxL K x y H Q ∨ (rIxT K x y H Q ∨ (rIxS x y H Q ∨ rIxD x y H Q))
theorem ix_all {X : Cx} (hu : X.A.units + 1 < cLine) : IxR X (rIxA X.K) := ix_list.or (ix_tup.or (ix_str.or (ix_dict hu)))
theorem atI_rep {K : PySem.W.Frag} {G : Hp} {vs : List V} {ds : List D} {i : Int} {d : D} (r : RepL K G vs ds) (h : atI ds i = some d) : ∃ v, atI vs i = some v ∧ Rep K G v d := by
  unfold atI at h ⊢
  rw [r.length]
  cases e : ixN ds.length i with
  | none => rw [e] at h; cases h
  | some j =>
    rw [e] at h
    exact r.get h
def gIx : D → D → Option D
  | .lst ds, .int i => atI ds i
  | .tup ds, .int i => atI ds i
  | .str x, .int i => if x.length ≤ sizeLine then (atI x i).map fun c => .str [c] else none
  | .scr ns, .int i => (atI ns i).map .int
  | .dk ks vs, k => (dgetD (.dk ks vs) k).join
  | .dt ks vs, k => (dgetD (.dt ks vs) k).join
  | .fk ks vs, k => (dgetD (.fk ks vs) k).join
  | .ft ks vs, k => (dgetD (.ft ks vs) k).join
  | _, _ => none
theorem gd_ix {K : PySem.W.Frag} : OpD K (rIxA K) gIx := by
  intro O H x y a b d Q hO ra rb hg k
  have dict : ∀ {a : D}, Rep K (hide O H) x a → (dgetD a b).join = some d → rIxA K x y H Q := fun {a} ra hg => by
    cases z : dgetD a b with
    | none => rw [z] at hg; cases hg
    | some o =>
      rw [z] at hg
      have hg : o = some d := hg
      subst hg
      obtain ⟨p, w, e, g, r⟩ := dget_rep ra rb z
      cases w with
      | none => exact r.elim
      | some w => exact .inr (.inr (.inr ⟨p, w, e, g, k w H (Same.refl H) r⟩))
  unfold gIx at hg
  split at hg
  · obtain ⟨p, vs, e, h1, h2⟩ := ra
    obtain ⟨v, hv, rv⟩ := atI_rep h2 hg
    exact .inl ⟨p, vs, _, v, e, rb, .inl (hide_rd h1), hv, k v H (Same.refl H) rv⟩
  · obtain ⟨p, vs, e, h1, h2⟩ := ra
    obtain ⟨v, hv, rv⟩ := atI_rep h2 hg
    exact .inr (.inl ⟨p, vs, _, v, e, rb, SqT.of (hide_some h1).2, hv, k v H (Same.refl H) rv⟩)
  · split at hg
    case isFalse => cases hg
    rename_i hz
    obtain ⟨c, hc, hg⟩ := Option.map_eq_some_iff.mp hg
    subst hg
    refine .inr (.inr (.inl ⟨_, _, c, ra.1, rb, by rw [mkS_len]; exact hz, by rw [mkS_list]; exact hc, k _ H (Same.refl H) ⟨rfl, fun e he => ?_⟩⟩))
    obtain ⟨j, _, h2, _⟩ := atI_get hc
    rw [List.mem_singleton.mp he]
    exact ra.2 c (List.mem_of_getElem? h2)
  · obtain ⟨i, hi, hg⟩ := Option.map_eq_some_iff.mp hg
    subst hg
    obtain ⟨p, e, h1⟩ := ra
    refine .inl ⟨p, _, _, .int i, e, rb, hide_le.sqL h1, ?_, k _ H (Same.refl H) rfl⟩
    unfold atI at hi ⊢
    rw [List.length_map]
    cases z : ixN _ _ with
    | none => rw [z] at hi; cases hi
    | some j =>
      rw [z] at hi
      have hi : _ = some i := hi
      show _ = _
      rw [Option.bind_some, List.getElem?_map]
      rw [Option.bind_some] at hi
      rw [hi]
      rfl
  · exact dict ra hg
  · exact dict ra hg
  · exact dict ra hg
  · exact dict ra hg
  · cases hg
theorem pd_ix {X : Cx} {W : WX} {a b : Expr} {pos : Pos} {ea eb : List Nat} {fa fb : Env → R D} (hu : X.A.units + 1 < cLine) (ha : PD X W a ea fa) (hb : PD X W b eb fb) (hs : PlainIx b) : PD X W (.Subscript a b pos) (ea ++ eb) (fOp gIx fa fb) :=
  PE.imp (pe_ix (ix_all hu) ha hb hs) (tD_op gd_ix)

/-! ### slices -/
def cutG {α : Type} (xs : List α) (lo hi : Option Int) : List α := (xs.drop (HT.sIx xs.length 0 lo)).take (HT.sIx xs.length xs.length hi - HT.sIx xs.length 0 lo)
def rSlP (K : PySem.W.Frag) : V → Option Int → Option Int → Hp → VK → Prop := fun x lo hi H Q => rSlL K x lo hi H Q ∨ (rSlS x lo hi H Q ∨ rSlA K x lo hi H Q)
theorem sl_all {X : Cx} : SlR X (rSlP X.K) := sl_list.or (sl_str.or sl_tupA)
def gSl (lo hi : Option Int) : D → Option D
  | .lst ds => some (.lst (cutG ds lo hi))
  | .str x => if x.length ≤ sizeLine then some (.str (cutG x lo hi)) else none
  | .tup ds => some (.tup (cutG ds lo hi))
  | _ => none
theorem RepL.cut {K : PySem.W.Frag} {G : Hp} {vs : List V} {ds : List D} (r : RepL K G vs ds) (lo hi : Option Int) : RepL K G (cutV vs lo hi) (cutG ds lo hi) := by
  unfold cutV cutG
  rw [r.length]
  exact (r.drop _).take _
theorem cutG_mem {α : Type} {xs : List α} {lo hi : Option Int} {c : α} (h : c ∈ cutG xs lo hi) : c ∈ xs := List.mem_of_mem_drop (List.mem_of_mem_take h)
theorem cutG_whole {α : Type} {xs : List α} {lo hi : Option Int} (h : HT.sIx xs.length 0 lo = 0 ∧ HT.sIx xs.length xs.length hi = xs.length) : cutG xs lo hi = xs := by
  unfold cutG
  rw [h.1, h.2]
  simp
theorem gd_sl {K : PySem.W.Frag} {O : Addr → Prop} {H : Hp} {x : V} {a d : D} {lo hi : Option Int} {Q : VK} (hO : ∀ p, O p → H p ≠ none) (ra : Rep K (hide O H) x a) (hg : gSl lo hi a = some d) (k : ∀ v H', Same H H' → Rep K (hide O H') v d → Q v H') : rSlP K x lo hi H Q := by
  unfold gSl at hg
  split at hg
  · cases hg
    obtain ⟨p, vs, e, h1, h2⟩ := ra
    exact .inl ⟨p, vs, e, .inl (hide_rd h1), new_lst hO (h2.cut lo hi) k⟩
  · split at hg
    case isFalse => cases hg
    rename_i hz
    cases hg
    refine .inr (.inl ⟨_, ra.1, by rw [mkS_len]; exact hz, ?_⟩)
    have e : ∀ l : List Nat, cutS (mkS l) lo hi = mkS (cutG l lo hi) := fun l => by
      unfold cutS cutG
      rw [mkS_len, mkS_list]
      rfl
    rw [e]
    exact k _ H (Same.refl H) ⟨rfl, ra.2.sub fun c hc => cutG_mem hc⟩
  · cases hg
    obtain ⟨p, vs, e, h1, h2⟩ := ra
    refine .inr (.inr ⟨p, vs, e, SqT.of (hide_some h1).2, fun hw => ?_, fun _ => new_tup hO (h2.cut lo hi) k⟩)
    rw [h2.length] at hw
    rw [cutG_whole hw] at k
    exact k _ H (Same.refl H) ⟨p, vs, rfl, h1, h2⟩
  · cases hg
def PDO (X : Cx) (W : WX) (e : Option Expr) (fo : Env → R (Option Int)) : Prop := PO X e (fun σ H Q => ∃ B O L ρ, SR X.K B O L σ H ρ ∧ PostG X.K O W (fun _ (b a : Option Int) => b = a) (fo ρ) σ H Q)
theorem PO.imp {X : Cx} {e : Option Expr} {t t' : TO} (h : PO X e t) (f : ∀ σ H Q, t' σ H Q → t σ H Q) : PO X e t' := ⟨fun pins s σ H Q I q => h.run pins s σ H Q I (f σ H Q q)⟩
def foNone : Env → R (Option Int) := fun _ => .ok none
def foSome (fe : Env → R D) : Env → R (Option Int) := fun ρ => (fe ρ).bind fun d => match d with | .int i => .ok (some i) | _ => .stuck
theorem pdo_none {X : Cx} {W : WX} : PDO X W none foNone := PO.imp po_none fun σ H Q ⟨B, O, L, ρ, S, P⟩ => P none H (Same.refl H) rfl
theorem pdo_some {X : Cx} {W : WX} {e : Expr} {es : List Nat} {fe : Env → R D} (h : PD X W e es fe) : PDO X W (some e) (foSome fe) := PO.imp (po_some h) fun σ H Q ⟨B, O, L, ρ, S, P⟩ => ⟨B, O, L, ρ, S, PostG.bind P fun d v H1 e1 r P1 => by
  cases d <;> first
    | exact P1.elim
    | (obtain rfl := (show v = _ from r)
       exact ⟨_, rfl, P1 _ H1 (Same.refl H1) rfl⟩)⟩
def fSl (fe : Env → R D) (fl fh : Env → R (Option Int)) : Env → R D := fun ρ => (fe ρ).bind fun d => (fl ρ).bind fun l => (fh ρ).bind fun h => R.ofO (gSl l h d)
theorem pd_sl {X : Cx} {W : WX} {e : Expr} {lo hi : Option Expr} {p2 pos : Pos} {es : List Nat} {fe : Env → R D} {fl fh : Env → R (Option Int)} (he : PD X W e es fe) (hl : PDO X W lo fl) (hh : PDO X W hi fh) : PD X W (.Subscript e (.Slice lo hi none p2) pos) es (fSl fe fl fh) :=
  PE.imp (pe_slice sl_all he hl hh) fun σ H Q ⟨B, O, L, ρ, S, P⟩ => ⟨B, O, L, ρ, S, PostG.bind P fun d x H1 e1 r1 P1 => ⟨B, O, L, ρ, S.ext e1, PostG.bind P1 fun l l' H2 e2 r2 P2 => ⟨B, O, L, ρ, (S.ext e1).ext e2, PostG.bind P2 fun h h' H3 e3 r3 P3 => by
    obtain rfl : l' = l := r2
    obtain rfl : h' = h := r3
    obtain ⟨d2, hd, P4⟩ := P3.ofO
    exact gd_sl ((((S.ext e1).ext e2).ext e3).drop es).hdom (drop_mono (fun _ h => h) (e2.trans e3) r1) hd P4⟩⟩⟩

/-! ### calls of built-ins -/
theorem CallR.or {X : Cx} {f : Value} {r r' : List V → Hp → VK → Prop} (h : CallR X f r) (h' : CallR X f r') : CallR X f (fun x H Q => r x H Q ∨ r' x H Q) := by
  intro pins s σ H xs us Q I rx q
  rcases q with q | q
  · exact h pins s σ H xs us Q I rx q
  · exact h' pins s σ H xs us Q I rx q
def fCB (g : List D → Option D) (fa : Env → R (List D)) : Env → R D := fun ρ => (fa ρ).bind fun l => R.ofO (g l)
section
variable {X : Cx} {W : WX} {x : Str} {p pos : Pos} {e : Expr} {es : List Expr} {ea : List Nat} {fa : Env → R (List D)} {r : List V → Hp → VK → Prop} {g : List D → Option D} {id T : String}
theorem tD_CB (hd : CallD X.K r g) : ∀ σ H Q, tD X.K W ea (fCB g fa) σ H Q → tCB r (tDA X.K W ea fa) σ H Q := fun σ H Q ⟨B, O, L, ρ, S, P⟩ => ⟨B, O, L, ρ, S, PostG.bind P fun ds vs H1 e1 r1 P1 => by
  obtain ⟨d, hd2, P2⟩ := P1.ofO
  exact hd _ H1 vs ds d Q ((S.ext e1).drop ea).hdom r1 hd2 P2⟩
theorem pd_callB (hd : CallD X.K r g) (hc : CallR X (.builtin id) r) (hg : Gl X x) (hm : X.mg x = none) (hv : bootBuiltins x = some (.builtin id)) (ha : PDA X W (e :: es) ea fa) (hn : x ≠ "__name__" := by decide) (hdb : (x == ("__debug__" : Str)) = false := by decide) (he : starEach (e :: es) X.env = (false, eval e X.env) :: starEach es X.env := by rfl) (hpl : (backTo pos (starEach es X.env)).any (·.1) = false := by rfl) :
    PD X W (.Call (.Name x p) (e :: es) [] pos) ea (fCB g fa) := PE.imp (pe_callB hc hg hm hv ha hn hdb he hpl) (tD_CB hd)
theorem pd_callTy (hd : CallD X.K r g) (hc : CallR X (.type T) r) (hg : Gl X x) (hm : X.mg x = none) (hv : bootBuiltins x = some (.type T)) (ha : PDA X W (e :: es) ea fa) (hn : x ≠ "__name__" := by decide) (hdb : (x == ("__debug__" : Str)) = false := by decide) (he : starEach (e :: es) X.env = (false, eval e X.env) :: starEach es X.env := by rfl) (hpl : (backTo pos (starEach es X.env)).any (·.1) = false := by rfl) :
    PD X W (.Call (.Name x p) (e :: es) [] pos) ea (fCB g fa) := PE.imp (pe_callTy hc hg hm hv ha hn hdb he hpl) (tD_CB hd)
end
/-! len -/
def rLenD : List V → Hp → VK → Prop := fun xs H Q => ∃ a kvs, xs = [V.ref a] ∧ Rd H a (.dK kvs) ∧ Q (.int (kvs.length : Nat)) H
theorem call_lenK {X : Cx} : CallR X (.builtin "len") rLenD := by
  intro pins s σ H xs us Q I r h
  obtain ⟨a, kvs, rfl, hk, q⟩ := h
  obtain ⟨u, rfl, rx⟩ := vals1 r
  obtain rfl : u = Value.ref a := rx
  exact d_len I hk fun t s' I' => ⟨.int (kvs.length : Nat), H, I', ⟨t, rfl⟩, q⟩
def rLen (K : PySem.W.Frag) : List V → Hp → VK → Prop := fun xs H Q => (∃ x n, xs = [x] ∧ LenV K x H n ∧ Q (.int n) H) ∨ rLenD xs H Q
theorem call_lenA {X : Cx} : CallR X (.builtin "len") (rLen X.K) := call_len.or call_lenK
def gLen : List D → Option D
  | [.lst ds] => some (.int ds.length)
  | [.tup ds] => some (.int ds.length)
  | [.scr ns] => some (.int ns.length)
  | [.str x] => if x.length ≤ sizeLine then some (.int x.length) else none
  | [.dk ks _] => some (.int ks.length)
  | _ => none
theorem one_rep {K : PySem.W.Frag} {G : Hp} {xs : List V} {d : D} (r : RepL K G xs [d]) : ∃ x, xs = [x] ∧ Rep K G x d := by
  obtain ⟨x, ys, h1, h2, h3⟩ := r
  have h3 : ys = [] := h3
  subst h1 h3
  exact ⟨x, rfl, h2⟩
theorem cd_len {K : PySem.W.Frag} : CallD K (rLen K) gLen := by
  intro O H xs as d Q hO r hg k
  unfold gLen at hg
  split at hg
  · cases hg
    obtain ⟨x, rfl, p, vs, rfl, h1, h2⟩ := one_rep r
    rw [← h2.length] at k
    exact .inl ⟨_, _, rfl, .inl ⟨vs, .inl (hide_rd h1), rfl⟩, k _ H (Same.refl H) rfl⟩
  · cases hg
    obtain ⟨x, rfl, p, vs, rfl, h1, h2⟩ := one_rep r
    rw [← h2.length] at k
    exact .inl ⟨_, _, rfl, .inr ⟨vs, SqT.of (hide_some h1).2, rfl⟩, k _ H (Same.refl H) rfl⟩
  · cases hg
    obtain ⟨x, rfl, p, rfl, h1⟩ := one_rep r
    exact .inl ⟨_, _, rfl, .inl ⟨_, hide_le.sqL h1, rfl⟩, by rw [List.length_map]; exact k _ H (Same.refl H) rfl⟩
  · split at hg
    case isFalse => cases hg
    rename_i hz
    cases hg
    obtain ⟨x, rfl, rfl, ho⟩ := one_rep r
    exact .inl ⟨_, _, rfl, ⟨by rw [mkS_len]; exact hz, rfl⟩, by rw [mkS_len]; exact k _ H (Same.refl H) rfl⟩
  · cases hg
    obtain ⟨x, rfl, p, us, rfl, h1, h2, h3⟩ := one_rep r
    refine .inr ⟨p, us, rfl, hide_rd h1, ?_⟩
    rw [← h2, List.length_map] at k
    exact k _ H (Same.refl H) rfl
  · cases hg
/-! int, str -/
theorem int_digit : ∀ c : Nat, 48 ≤ c → c ≤ 57 → PySem.intText? (mkS [c]) = some ((c : Int) - 48) := by
  intro c h1 h2
  have : c = 48 ∨ c = 49 ∨ c = 50 ∨ c = 51 ∨ c = 52 ∨ c = 53 ∨ c = 54 ∨ c = 55 ∨ c = 56 ∨ c = 57 := by omega
  rcases this with h | h | h | h | h | h | h | h | h | h <;> (subst h; decide +kernel)
theorem str_digit : ∀ i : Int, 0 ≤ i → i ≤ 9 → (Str.ofString (toString i)) = mkS [(i + 48).toNat] := by
  intro i h1 h2
  have : i = 0 ∨ i = 1 ∨ i = 2 ∨ i = 3 ∨ i = 4 ∨ i = 5 ∨ i = 6 ∨ i = 7 ∨ i = 8 ∨ i = 9 := by omega
  rcases this with h | h | h | h | h | h | h | h | h | h <;> (subst h; decide +kernel)
def rInt : List V → Hp → VK → Prop := fun xs H Q => ((∃ i, xs = [.int i] ∧ Q (.int i) H) ∨ ∃ k, xs = [.bl k] ∧ Q (.int (if k then 1 else 0)) H) ∨ ∃ a n, xs = [.str a] ∧ PySem.intText? a = some n ∧ a.length ≤ 640 ∧ Q (.int n) H
theorem call_intA {X : Cx} : CallR X (.type "int") rInt := call_int1.or call_int_str
def gInt : List D → Option D
  | [.int i] => some (.int i)
  | [.bl k] => some (.int (if k then 1 else 0))
  | [.str [c]] => if 48 ≤ c ∧ c ≤ 57 then some (.int ((c : Int) - 48)) else none
  | _ => none
theorem cd_int {K : PySem.W.Frag} : CallD K rInt gInt := by
  intro O H xs as d Q hO r hg k
  unfold gInt at hg
  split at hg
  · cases hg
    obtain ⟨x, rfl, rfl⟩ := one_rep r
    exact .inl (.inl ⟨_, rfl, k _ H (Same.refl H) rfl⟩)
  · cases hg
    obtain ⟨x, rfl, rfl⟩ := one_rep r
    exact .inl (.inr ⟨_, rfl, k _ H (Same.refl H) rfl⟩)
  · split at hg
    case isFalse => cases hg
    rename_i hz
    cases hg
    obtain ⟨x, rfl, rfl, ho⟩ := one_rep r
    exact .inr ⟨_, _, rfl, int_digit _ hz.1 hz.2, by rw [mkS_len]; exact Nat.le_of_ble_eq_true rfl, k _ H (Same.refl H) rfl⟩
  · cases hg
def rStr : List V → Hp → VK → Prop := fun xs H Q => ∃ i : Int, xs = [.int i] ∧ i.natAbs.log2 < 1920 ∧ Q (.str (toString i)) H
def gStr : List D → Option D
  | [.int i] => if 0 ≤ i ∧ i ≤ 9 then some (.str [(i + 48).toNat]) else none
  | _ => none
theorem cd_str {K : PySem.W.Frag} : CallD K rStr gStr := by
  intro O H xs as d Q hO r hg k
  unfold gStr at hg
  split at hg
  · split at hg
    case isFalse => cases hg
    rename_i i hz
    cases hg
    obtain ⟨x, rfl, rfl⟩ := one_rep r
    refine ⟨_, rfl, ?_, ?_⟩
    · have : i.natAbs < 2 ^ 10 := by omega
      by_cases z : i.natAbs = 0
      · rw [z]; decide
      · exact Nat.lt_trans ((Nat.log2_lt z).mpr this) (by decide)
    · show Q (.str (Str.ofString (toString i))) H
      rw [str_digit i hz.1 hz.2]
      refine k _ H (Same.refl H) ⟨rfl, fun c hc => ?_⟩
      rw [List.mem_singleton.mp hc]
      omega
  · cases hg
/-! list, tuple -/
def rList (K : PySem.W.Frag) : List V → Hp → VK → Prop := fun xs H Q => ∃ p ys, xs = [V.ref p] ∧ (SqL K H p ys ∨ SqT K H p ys) ∧ ∀ l, H l = none → Q (.ref l) (upd H l (.lst ys))
def gList : List D → Option D
  | [.lst ds] => some (.lst ds)
  | [.tup ds] => some (.lst ds)
  | [.etup] => some (.lst [])
  | _ => none
def rTuple (K : PySem.W.Frag) : List V → Hp → VK → Prop := fun xs H Q => ∃ p ys, xs = [V.ref p] ∧ ((SqL K H p ys ∧ ∀ l, H l = none → Q (.ref l) (upd H l (.tup ys))) ∨ (SqT K H p ys ∧ Q (.ref p) H))
def gTuple : List D → Option D
  | [.lst ds] => some (.tup ds)
  | [.tup ds] => some (.tup ds)
  | _ => none
theorem cd_tuple {K : PySem.W.Frag} : CallD K (rTuple K) gTuple := by
  intro O H xs as d Q hO r hg k
  unfold gTuple at hg
  split at hg
  · cases hg
    obtain ⟨x, rfl, p, vs, rfl, h1, h2⟩ := one_rep r
    exact ⟨p, vs, rfl, .inl ⟨.inl (hide_rd h1), new_tup hO h2 k⟩⟩
  · cases hg
    obtain ⟨x, rfl, p, vs, rfl, h1, h2⟩ := one_rep r
    exact ⟨p, vs, rfl, .inr ⟨SqT.of (hide_some h1).2, k _ H (Same.refl H) ⟨p, vs, rfl, h1, h2⟩⟩⟩
  · cases hg
/-! any, all -/
def boolsOf : List D → Option (List Bool)
  | [] => some []
  | .bl b :: ds => (boolsOf ds).map (b :: ·)
  | _ :: _ => none
theorem bools_rep {K : PySem.W.Frag} {G : Hp} : ∀ {vs : List V} {ds : List D} {bs : List Bool}, boolsOf ds = some bs → RepL K G vs ds → vs = bs.map V.bl
  | vs, [], bs, h, r => by
    cases h
    exact r
  | vs, d :: ds, bs, h, ⟨x, xs, h1, h2, h3⟩ => by
    cases d <;> first | (cases h; done) | skip
    obtain ⟨r, b, h⟩ := Option.map_eq_some_iff.mp h
    subst h
    obtain rfl := (show x = _ from h2)
    rw [h1, bools_rep b h3]
    rfl
def gAny : List D → Option D
  | [.lst ds] => (boolsOf ds).map fun bs => .bl (bs.any id)
  | _ => none
def gAll : List D → Option D
  | [.lst ds] => (boolsOf ds).map fun bs => .bl (bs.all id)
  | _ => none
theorem cd_any {K : PySem.W.Frag} : CallD K (rAny K) gAny := by
  intro O H xs as d Q hO r hg k
  unfold gAny at hg
  split at hg
  · obtain ⟨bs, hb, hg⟩ := Option.map_eq_some_iff.mp hg
    subst hg
    obtain ⟨x, rfl, p, vs, rfl, h1, h2⟩ := one_rep r
    have e := bools_rep hb h2
    subst e
    exact ⟨p, bs, rfl, .inl (hide_rd h1), k _ H (Same.refl H) rfl⟩
  · cases hg
theorem cd_all {K : PySem.W.Frag} : CallD K (rAll K) gAll := by
  intro O H xs as d Q hO r hg k
  unfold gAll at hg
  split at hg
  · obtain ⟨bs, hb, hg⟩ := Option.map_eq_some_iff.mp hg
    subst hg
    obtain ⟨x, rfl, p, vs, rfl, h1, h2⟩ := one_rep r
    have e := bools_rep hb h2
    subst e
    exact ⟨p, bs, rfl, .inl (hide_rd h1), k _ H (Same.refl H) rfl⟩
  · cases hg
end DL
set_option Elab.async false
set_option linter.all false
set_option maxRecDepth 100000
namespace DL
open PySem PySem.Spec PyProof.Rows L2

/-! ### what is walked: lists, tuples, texts, ranges, enumerate -/
theorem jd_list {K : PySem.W.Frag} {G : Hp} {a : Addr} {vs : List V} {ds : List D} (h : Rd G a (.lst vs)) (r : RepL K G vs ds) : JD K G (Itl K a) ds := fun i H O le dom => by
  have hq : SqL K H a vs := .inl (hide_le.rd _ _ (le.rd _ _ h))
  refine ⟨fun d hd => ?_, fun hl => ⟨vs, hq, by rw [r.length]; exact hl⟩⟩
  obtain ⟨v, hv, rv⟩ := r.get hd
  refine ⟨⟨vs, v, hq, hv⟩, fun x H' y => ?_⟩
  obtain ⟨e, y⟩ := y
  subst e
  have := y vs hq
  rw [hv] at this
  cases this
  exact ⟨Same.refl _, rv.mono le⟩
theorem jd_scr {K : PySem.W.Frag} {G : Hp} {a : Addr} {ns : List Int} (h : SqL K G a (ns.map V.int)) : JD K G (Itl K a) (ns.map D.int) := fun i H O le dom => by
  have hq : SqL K H a (ns.map V.int) := hide_le.sqL (le.sqL h)
  refine ⟨fun d hd => ?_, fun hl => ⟨_, hq, by rw [List.length_map] at hl ⊢; exact hl⟩⟩
  rw [List.getElem?_map] at hd
  obtain ⟨n, hn, hd⟩ := Option.map_eq_some_iff.mp hd
  subst hd
  have hv : (ns.map V.int)[i]? = some (.int n) := by rw [List.getElem?_map, hn]; rfl
  refine ⟨⟨_, _, hq, hv⟩, fun x H' y => ?_⟩
  obtain ⟨e, y⟩ := y
  subst e
  have := y _ hq
  rw [hv] at this
  cases this
  exact ⟨Same.refl _, rfl⟩
theorem jd_tup {K : PySem.W.Frag} {G : Hp} {a : Addr} {vs : List V} {ds : List D} (h : G a = some (.tup vs)) (r : RepL K G vs ds) : JD K G (Itt K a) ds := fun i H O le dom => by
  have hq : SqT K H a vs := SqT.of (hide_le.tup _ _ (le.tup _ _ h))
  refine ⟨fun d hd => ?_, fun hl => ⟨vs, hq, by rw [r.length]; exact hl⟩⟩
  obtain ⟨v, hv, rv⟩ := r.get hd
  refine ⟨⟨vs, v, hq, hv⟩, fun x H' y => ?_⟩
  obtain ⟨e, y⟩ := y
  subst e
  have := y vs hq
  rw [hv] at this
  cases this
  exact ⟨Same.refl _, rv.mono le⟩
theorem jd_str {K : PySem.W.Frag} {G : Hp} {z : List Nat} (ho : okT z) : JD K G (Its (mkS z)) (z.map fun c => .str [c]) := fun i H O le dom => by
  refine ⟨fun d hd => ?_, fun hl => ?_⟩
  · rw [List.getElem?_map] at hd
    obtain ⟨c, hc, hd⟩ := Option.map_eq_some_iff.mp hd
    subst hd
    refine ⟨?_, fun x H' y => ?_⟩
    · show i < z.toArray.size
      rw [List.size_toArray]
      exact (List.getElem?_eq_some_iff.mp hc).1
    · obtain ⟨e, c', h1, h2⟩ := y
      subst e
      have h1 : z.toArray[i]? = some c' := h1
      rw [List.getElem?_toArray, hc] at h1
      cases h1
      exact ⟨Same.refl _, h2, fun e he => by rw [List.mem_singleton.mp he]; exact ho c (List.mem_of_getElem? hc)⟩
  · show z.toArray.size ≤ i
    rw [List.size_toArray]
    rw [List.length_map] at hl
    exact hl
theorem jd_range {K : PySem.W.Frag} {G : Hp} {lo : Int} {n : Nat} : JD K G (Itr lo n) ((List.range n).map fun (i : Nat) => .int (lo + i)) := fun i H O le dom => by
  refine ⟨fun d hd => ?_, fun hl => by rw [List.length_map, List.length_range] at hl; exact hl⟩
  rw [List.getElem?_map] at hd
  obtain ⟨c, hc, hd⟩ := Option.map_eq_some_iff.mp hd
  subst hd
  obtain ⟨h1, h2⟩ := List.getElem?_eq_some_iff.mp hc
  rw [List.getElem_range] at h2
  subst h2
  rw [List.length_range] at h1
  refine ⟨h1, fun x H' y => ?_⟩
  obtain ⟨e, y⟩ := y
  subst e
  exact ⟨Same.refl _, y⟩
def pairsD : Nat → List D → List D
  | _, [] => []
  | n, d :: ds => .tup [.int (n : Int), d] :: pairsD (n + 1) ds
theorem pairsD_get : ∀ (ds : List D) (n i : Nat), (pairsD n ds)[i]? = (ds[i]?).map fun d => .tup [.int ((n + i : Nat) : Int), d]
  | [], n, i => rfl
  | d :: ds, n, 0 => rfl
  | d :: ds, n, i + 1 => by
    show (pairsD (n + 1) ds)[i]? = (ds[i]?).map _
    rw [pairsD_get ds (n + 1) i, show n + 1 + i = n + (i + 1) by omega]
theorem pairsD_length : ∀ (ds : List D) (n : Nat), (pairsD n ds).length = ds.length
  | [], _ => rfl
  | d :: ds, n => by
    show (pairsD (n + 1) ds).length + 1 = ds.length + 1
    rw [pairsD_length ds]
theorem jd_enum {K : PySem.W.Frag} {G : Hp} {a : Addr} {vs : List V} {ds : List D} (h : Rd G a (.lst vs)) (r : RepL K G vs ds) : JD K G (Ite K a) (pairsD 0 ds) := fun i H O le dom => by
  have hq : SqL K H a vs := .inl (hide_le.rd _ _ (le.rd _ _ h))
  refine ⟨fun d hd => ?_, fun hl => ⟨vs, hq, by rw [r.length]; rw [pairsD_length] at hl; exact hl⟩⟩
  rw [pairsD_get] at hd
  obtain ⟨d', hd', hd⟩ := Option.map_eq_some_iff.mp hd
  subst hd
  obtain ⟨v, hv, rv⟩ := r.get hd'
  refine ⟨⟨vs, v, hq, hv⟩, fun x H' y => ?_⟩
  obtain ⟨T, x', ex, hT, eH, y⟩ := y
  subst ex eH
  have := y vs hq
  rw [hv] at this
  cases this
  obtain ⟨n, r2⟩ := fresh_rep (vs := [.int (i : Nat), v]) (ds := [.int ((0 + i : Nat) : Int), d']) dom hT (same_new (o := .tup [.int (i : Nat), v]) hT) (.cons (by rw [Nat.zero_add]; rfl) (.one (rv.mono le)))
  exact ⟨same_new hT, T, _, rfl, by rw [hide_no n, upd_same], r2⟩
def iSeq (K : PySem.W.Frag) (tl : TE) : TI := fun σ H R => tl σ H fun x H1 => (∃ a, x = .ref a ∧ (∃ xs, SqL K H1 a xs) ∧ R (Itl K a) H1) ∨ ((∃ a, x = .ref a ∧ (∃ xs, SqT K H1 a xs) ∧ R (Itt K a) H1) ∨ ∃ z, x = .str z ∧ R (Its z) H1)
theorem pi_seq {X : Cx} {tg l : Expr} {tl : TE} (hl : PE X l tl) : PI X tg l (iSeq X.K tl) := by
  refine ⟨fun pins s σ H R I h => ?_⟩
  refine thn (hl.run pins s σ H _ I h) fun v s1 ⟨x, H1, I1, r1, q1⟩ => ?_
  rcases q1 with ⟨a, e, ⟨xs, hq⟩, q⟩ | ⟨a, e, ⟨xs, hq⟩, q⟩ | ⟨z, e, q⟩
  · subst e
    cases r1
    obtain ⟨its, rv, p, hz⟩ := I1.list hq
    refine wpAny_pyIter_list p.isList ?_
    refine ⟨s1.heap.objs.size, [s1.heap.objs.size], _, _, H1, rfl, I1.kept (t' := s1.toks) fun b o e => Heap.get?_push_of_some _ e, turn_list a _, ⟨_, Heap.get?_push_size _ rfl, rfl, rfl⟩, fun b hb => ?_, q⟩
    have e : b = s1.heap.objs.size := by simpa using hb
    subst e
    exact I1.fpOk (Nat.le_refl _) (I1.hok.fresh (Nat.le_refl _))
  · subst e
    cases r1
    obtain ⟨its, rv, p, hz⟩ := I1.tuple hq
    refine wpAny_pyIter_tuple (show s1.heap.IsTuple a its.toArray from p) ?_
    refine ⟨s1.heap.objs.size, [s1.heap.objs.size], _, _, H1, rfl, I1.kept (t' := s1.toks) fun b o e => Heap.get?_push_of_some _ e, turn_tuple a _, ⟨_, Heap.get?_push_size _ rfl, rfl, rfl⟩, fun b hb => ?_, q⟩
    have e : b = s1.heap.objs.size := by simpa using hb
    subst e
    exact I1.fpOk (Nat.le_refl _) (I1.hok.fresh (Nat.le_refl _))
  · subst e
    obtain ⟨t, rfl⟩ := r1
    cases ha : z.cps.all (· < 128)
    · exact wpAny_pyIter_wide ha (pi_one (tk := s1.toks) I1 _ (turn_str _ z t "str_iterator" (.inr rfl)) ⟨_, Heap.get?_push_size _ rfl, rfl, rfl⟩ q)
    · exact wpAny_pyIter_ascii ha (pi_one (tk := s1.toks) I1 _ (turn_str _ z t "str_ascii_iterator" (.inl rfl)) ⟨_, Heap.get?_push_size _ rfl, rfl, rfl⟩ q)
def gIter : D → Option (List D)
  | .lst ds => some ds
  | .tup ds => some ds
  | .str z => some (z.map fun c => .str [c])
  | .scr ns => some (ns.map .int)
  | .etup => some []
  | _ => none
def fIter (fe : Env → R D) : Env → R (List D) := fun ρ => (fe ρ).bind fun d => R.ofO (gIter d)
section
variable {X : Cx} {W : WX} {tg l : Expr} {es : List Nat} {fe : Env → R D} {fa : Env → R (List D)} {p pos : Pos}
theorem pdi_seq (h : PD X W l es fe) : PDI X W tg l es (fIter fe) := PI.imp (pi_seq h) fun σ H Q ⟨B, O, L, ρ, S, P⟩ => ⟨B, O, L, ρ, S, PostG.bind P fun d x H1 e1 r1 P1 => by
  obtain ⟨ds, hd, k⟩ := P1.ofO
  have r1 : Rep X.K (hide (HS O (dropL es L)) H1) x d := r1
  unfold gIter at hd
  split at hd
  · cases hd
    obtain ⟨a, vs, e, h1, h2⟩ := r1
    exact .inl ⟨a, e, ⟨vs, .inl (hide_rd h1)⟩, k _ H1 (Same.refl H1) (jd_list h1 h2)⟩
  · cases hd
    obtain ⟨a, vs, e, h1, h2⟩ := r1
    exact .inr (.inl ⟨a, e, ⟨vs, SqT.of (hide_some h1).2⟩, k _ H1 (Same.refl H1) (jd_tup h1 h2)⟩)
  · cases hd
    exact .inr (.inr ⟨_, r1.1, k _ H1 (Same.refl H1) (jd_str r1.2)⟩)
  · cases hd
    obtain ⟨a, e, h1⟩ := r1
    exact .inl ⟨a, e, ⟨_, hide_le.sqL h1⟩, k _ H1 (Same.refl H1) (jd_scr h1)⟩
  · cases hd
    obtain ⟨a, e, h1⟩ := r1
    refine .inr (.inl ⟨a, e, ⟨_, hide_le.sqT h1⟩, k _ H1 (Same.refl H1) fun i H O le dom => ⟨fun d hd => ?_, fun _ => ⟨[], hide_le.sqT (le.sqT h1), Nat.zero_le _⟩⟩⟩)
    rw [List.getElem?_nil] at hd
    cases hd
  · cases hd⟩
def gRng : List D → Option (List D)
  | [.int j] => if -(2 ^ 62) ≤ j ∧ j < 2 ^ 62 then some ((List.range j.toNat).map fun (i : Nat) => .int ((0 : Int) + i)) else none
  | [.int i, .int j] => if -(2 ^ 62) ≤ i ∧ i < 2 ^ 62 ∧ -(2 ^ 62) ≤ j ∧ j < 2 ^ 62 then some ((List.range (j - i).toNat).map fun (n : Nat) => .int (i + n)) else none
  | _ => none
def fRng (fa : Env → R (List D)) : Env → R (List D) := fun ρ => (fa ρ).bind fun l => R.ofO (gRng l)
theorem pdi_range1 {a : Expr} (hg : Gl X "range") (hm : X.mg "range" = none) (ha : PDA X W [a] es fa) (hn : ∀ ρ l, fa ρ = .ok l → l.length = 1) (hs : starEach [a] X.env = [(false, eval a X.env)] := by rfl) : PDI X W tg (.Call (.Name "range" p) [a] [] pos) es (fRng fa) :=
  PI.imp (pi_range1 hg hm ha hs) fun σ H Q ⟨B, O, L, ρ, S, P⟩ => ⟨B, O, L, ρ, S, by
    have P : PostG X.K O W (rJ X.K O (dropL es L)) ((fa ρ).bind fun l => R.ofO (gRng l)) σ H Q := P
    cases q : fa ρ with
    | stuck => rw [q] at P; exact P
    | exc x => rw [q] at P; exact P
    | ok l =>
      rw [q] at P
      intro vs H1 e1 r1
      have P : PostG X.K O W (rJ X.K O (dropL es L)) (R.ofO (gRng l)) σ H Q := P
      obtain ⟨ds, hd, k⟩ := P.ofO
      have hl := hn ρ l q
      match l, hl, hd, r1 with
      | [d], _, hd, r1 =>
        unfold gRng at hd
        split at hd
        · rename_i j hj
          cases hj
          split at hd
          case isFalse => cases hd
          rename_i hz
          cases hd
          obtain ⟨x, rfl, rfl⟩ := one_rep r1
          exact ⟨j, rfl, hz.1, hz.2, k _ H1 e1 jd_range⟩
        · rename_i h
          cases h
        · cases hd⟩
theorem pdi_range2 {a b : Expr} (hg : Gl X "range") (hm : X.mg "range" = none) (ha : PDA X W [a, b] es fa) (hn : ∀ ρ l, fa ρ = .ok l → l.length = 2) (hs : starEach [a, b] X.env = [(false, eval a X.env), (false, eval b X.env)] := by rfl) (hs2 : starEach [b] X.env = [(false, eval b X.env)] := by rfl) :
    PDI X W tg (.Call (.Name "range" p) [a, b] [] pos) es (fRng fa) :=
  PI.imp (pi_range2 hg hm ha hs hs2) fun σ H Q ⟨B, O, L, ρ, S, P⟩ => ⟨B, O, L, ρ, S, by
    have P : PostG X.K O W (rJ X.K O (dropL es L)) ((fa ρ).bind fun l => R.ofO (gRng l)) σ H Q := P
    cases q : fa ρ with
    | stuck => rw [q] at P; exact P
    | exc x => rw [q] at P; exact P
    | ok l =>
      rw [q] at P
      intro vs H1 e1 r1
      have P : PostG X.K O W (rJ X.K O (dropL es L)) (R.ofO (gRng l)) σ H Q := P
      obtain ⟨ds, hd, k⟩ := P.ofO
      have hl := hn ρ l q
      match l, hl, hd, r1 with
      | [d, d'], _, hd, r1 =>
        unfold gRng at hd
        split at hd
        · rename_i h
          cases h
        · rename_i i j hj
          cases hj
          split at hd
          case isFalse => cases hd
          rename_i hz
          cases hd
          obtain ⟨x, xs, h1, h2, h3⟩ := r1
          obtain ⟨y, h4, h5⟩ := one_rep h3
          have h2 : x = .int i := h2
          have h5 : y = .int j := h5
          subst h1 h2 h4 h5
          exact ⟨i, j, rfl, hz, k _ H1 e1 jd_range⟩
        · cases hd⟩
def gEnum : List D → Option (List D)
  | [.lst ds] => some (pairsD 0 ds)
  | _ => none
def fEnum (fa : Env → R (List D)) : Env → R (List D) := fun ρ => (fa ρ).bind fun l => R.ofO (gEnum l)
theorem pdi_enum {e : Expr} {tpos : Pos} {elts : List Expr} {kk : Nat} (hg : Gl X "enumerate") (hm : X.mg "enumerate" = none) (ha : PDA X W [e] es fa) (hs : starEach [e] X.env = [(false, eval e X.env)] := by rfl) :
    PDI X W (.Tuple elts kk tpos) (.Call (.Name "enumerate" p) [e] [] pos) es (fEnum fa) :=
  PI.imp (pi_enum hg hm ha hs) fun σ H Q ⟨B, O, L, ρ, S, P⟩ => ⟨B, O, L, ρ, S, PostG.bind P fun l vs H1 e1 r1 P1 => by
    obtain ⟨ds, hd, k⟩ := P1.ofO
    unfold gEnum at hd
    split at hd
    · cases hd
      obtain ⟨x, rfl, a, us, rfl, h1, h2⟩ := one_rep r1
      exact ⟨a, us, rfl, .inl (hide_rd h1), k _ H1 (Same.refl H1) (jd_enum h1 h2)⟩
    · cases hd⟩
end

/-! ### new lists and dicts -/
section
variable {X : Cx} {W : WX} {x : Str} {p pos : Pos} {e : Expr} {es : List Expr} {ea : List Nat} {fa : Env → R (List D)}
theorem top_fresh {K : PySem.W.Frag} {O : Addr → Prop} {H : Hp} {p : Addr} {o : HO} {vs : List V} {ds : List D} (hp : H p = none) (r : RepL K (hide O H) vs ds) : RepL K (hide (fun a => O a ∨ a = p) (upd H p o)) vs ds := by
  refine RepL.mono ?_ r
  have key : ∀ a u, hide O H a = some u → hide (fun a => O a ∨ a = p) (upd H p o) a = some u := fun a u z => by
    obtain ⟨n, z⟩ := hide_some z
    have np : a ≠ p := ne_of_none z hp
    rw [hide_no (fun y => y.elim n np), upd_ne np]
    exact z
  exact RdLe.ofKey key
/-- list(xs), list(t) -/
theorem pdf_list (hg : Gl X x) (hm : X.mg x = none) (hv : bootBuiltins x = some (.type "list")) (ha : PDA X W (e :: es) ea fa) (hn : x ≠ "__name__" := by decide) (hdb : (x == ("__debug__" : Str)) = false := by decide) (he : starEach (e :: es) X.env = (false, eval e X.env) :: starEach es X.env := by rfl) (hpl : (backTo pos (starEach es X.env)).any (·.1) = false := by rfl) :
    PDF X W (.Call (.Name x p) (e :: es) [] pos) ea (fCB gList fa) := PE.imp (pe_callTy call_list_of hg hm hv ha hn hdb he hpl) fun σ H Q ⟨B, O, L, ρ, S, P⟩ => ⟨B, O, L, ρ, S, PostF.bind P fun l vs H1 e1 r1 fr P1 => by
  have r1 : RepL X.K (hide (HS O (dropL ea L)) H1) vs l := r1
  cases q : gList l with
  | none => rw [q] at P1; exact P1.elim
  | some d =>
    rw [q] at P1
    have P1 : ∀ p o H', H1 p = none → Same H1 H' → H' p = some o → Top X.K (hide (fun a => HS O (dropL ea L) a ∨ a = p) H') o d → Q (.ref p) H' := P1
    unfold gList at q
    split at q
    · cases q
      obtain ⟨x, rfl, a, us, rfl, h1, h2⟩ := one_rep r1
      exact ⟨a, us, rfl, .inl (.inl (hide_rd h1)), fun p hp => P1 p (.lst us) _ hp (same_new hp) upd_same (top_fresh hp h2)⟩
    · cases q
      obtain ⟨x, rfl, a, us, rfl, h1, h2⟩ := one_rep r1
      exact ⟨a, us, rfl, .inr (SqT.of (hide_some h1).2), fun p hp => P1 p (.lst us) _ hp (same_new hp) upd_same (top_fresh hp h2)⟩
    · cases q
      obtain ⟨x, rfl, a, rfl, h1⟩ := one_rep r1
      exact ⟨a, [], rfl, .inr (hide_le.sqT h1), fun p hp => P1 p (.lst []) _ hp (same_new hp) upd_same rfl⟩
    · cases q⟩
/-- list(range(n)) -/
def gLRng : D → Option D
  | .int n => if n ≤ 16777216 ∧ -(2 ^ 62) ≤ n then some (.lst ((List.range n.toNat).map fun (i : Nat) => .int (i : Int))) else none
  | _ => none
def fLRng (fe : Env → R D) : Env → R D := fun ρ => (fe ρ).bind fun d => R.ofO (gLRng d)
theorem pdf_listRg {a : Expr} {fe : Env → R D} {p2 pos2 : Pos} (hc : X.calm = true) (hg : Gl X "list") (hm : X.mg "list" = none) (hg2 : Gl X "range") (hm2 : X.mg "range" = none) (ha : PD X W a ea fe)
    (na : starEach [a] X.env = (false, eval a X.env) :: starEach [] X.env := by rfl) (na2 : starEach [.Call (.Name "range" p2) [a] [] pos2] X.env = (false, eval (.Call (.Name "range" p2) [a] [] pos2) X.env) :: starEach [] X.env := by rfl) :
    PDF X W (.Call (.Name "list" p) [.Call (.Name "range" p2) [a] [] pos2] [] pos) ea (fLRng fe) := PE.imp (pe_listRg hc hg hm (prg_1 hg2 hm2 ha na) na2) fun σ H Q ⟨B, O, L, ρ, S, P⟩ => ⟨B, O, L, ρ, S, PostF.bind P fun d v H1 e1 r1 fr P1 => by
  cases q : gLRng d with
  | none => rw [q] at P1; exact P1.elim
  | some d2 =>
    rw [q] at P1
    have P1 : ∀ p o H', H1 p = none → Same H1 H' → H' p = some o → Top X.K (hide (fun a => HS O (dropL ea L) a ∨ a = p) H') o d2 → Q (.ref p) H' := P1
    unfold gLRng at q
    split at q
    · split at q
      case isFalse => cases q
      rename_i n hz
      cases q
      obtain rfl : v = .int n := r1
      refine ⟨n, rfl, ⟨by omega, by omega, by omega, by omega, by omega⟩, fun p hp => P1 p _ _ hp (same_new hp) upd_same ?_⟩
      have : ∀ (G : Hp) (m : Nat), RepL X.K G ((List.range m).map fun (i : Nat) => V.int ((0 : Int) + i)) ((List.range m).map fun (i : Nat) => D.int (i : Int)) := fun G m => by
        induction m with
        | zero => exact RepL.nil
        | succ m ih =>
          rw [List.range_succ, List.map_append, List.map_append]
          refine ih.append (.one ?_)
          show V.int _ = V.int _
          rw [Int.zero_add]
      show RepL X.K _ (rgV 0 n) _
      unfold rgV
      rw [Int.sub_zero]
      exact this _ _
    · cases q⟩
/-- {} -/
theorem pdf_dk : PDF X W (.Dict [] [] pos) [] (fun _ => .ok (.dk [] [])) := PE.imp pe_dnewK fun σ H Q ⟨B, O, L, ρ, S, P⟩ p hp => P p (.dK []) _ hp (same_new hp) upd_same ⟨rfl, rfl⟩
theorem pdf_dt : PDF X W (.Dict [] [] pos) [] (fun _ => .ok (.dt [] [])) := PE.imp pe_dnewT fun σ H Q ⟨B, O, L, ρ, S, P⟩ p hp => P p (.dT []) _ hp (same_new hp) upd_same ⟨rfl, rfl⟩
end

/-! ### owned lists and dicts are changed -/
section
variable {X : Cx} {W : WX} {ow ow' owl : Ow} {st : Stmt} {es ei : List Nat} {fe fi : Env → R D}
def fApp (i : Nat) (fe : Env → R D) : Env → Out := fun ρ =>
  match ρ[i]? with
  | some (some (.lst ds)) => stE (fe ρ) ρ fun d => if ds.length < sizeLine then .nx (ρ.set i (some (.lst (ds ++ [d])))) else .stuck
  | _ => .stuck
theorem pds_app {i : Nat} (h : PS X st (tDrop (tBM X.K "list" rAppend (tVar i) (tCons (tD X.K W es fe) tNil)))) (hi : (i, 1) ∈ ow := by decide) (hn : i ∉ es := by decide) (ho : ∀ p ∈ ow', p ∈ ow ∧ p.1 ∉ es := by decide) :
    PDS X W ow ow' owl st (fApp i fe) := PS.imp h fun D σ H ⟨B, O, L, ρ, S, w, P⟩ => by
  have P : PostS X.K B O W ow' owl (match ρ[i]? with | some (some (.lst ds)) => stE (fe ρ) ρ fun d => if ds.length < sizeLine then .nx (ρ.set i (some (.lst (ds ++ [d])))) else .stuck | _ => .stuck) D := P
  split at P
  case h_2 => exact P.elim
  rename_i ds hd
  obtain ⟨as, hL⟩ := w (i, 1) hi
  obtain ⟨p, o, hs, ha, hb, hp, t⟩ := S.top hL hd rfl
  subst ha
  refine ⟨_, hs, ?_⟩
  have list_of : ∀ {H : Hp} {L : Lm} {o : HO}, H p = some o → Top X.K (hide (HS O L) H) o (.lst ds) → ∃ vs, o = .lst vs ∧ RepL X.K (hide (HS O L) H) vs ds := fun {H L o} hp t => by
    cases o <;> first | exact t.elim | exact ⟨_, rfl, t⟩
  obtain ⟨vs, rfl, rv⟩ := list_of hp t
  refine ⟨.inl ⟨rfl, vs, SqL.of hp⟩, B, O, L, ρ, S, PostS.bind P S fun d v H1 e r P1 => ?_⟩
  split at P1
  case isFalse => exact P1.elim
  rename_i hz
  have S1 := (S.ext e).drop es
  have hL1 : dropL es L i = some (1, [p]) := by rw [dropL_no hn]; exact hL
  obtain ⟨p', o', hs', ha', _, hp', t'⟩ := S1.top hL1 hd rfl
  rw [hs] at hs'
  cases hs'
  obtain ⟨us, rfl, ru⟩ := list_of hp' t'
  refine ⟨p, us, v, rfl, rfl, hp', by rw [ru.length]; exact hz, ?_⟩
  have S2 := S1.change (o := .lst (us ++ [v])) (d' := .lst (ds ++ [d])) hL1 hs ⟨_, hd⟩ (RepL.append ru (.one r))
  exact P1 σ _ _ S2 (w.drop ho)
/-- c[i] = v -/
def putKD {κ : Type} [DecidableEq κ] : List κ → List D → κ → D → List κ × List D
  | k :: ks, d :: ds, x, v => if k = x then (k :: ks, v :: ds) else let r := putKD ks ds x v; (k :: r.1, d :: r.2)
  | ks, ds, x, v => (ks ++ [x], ds ++ [v])
def putD : D → D → D → Option D
  | .lst ds, .int i, v => (ixN ds.length i).map fun j => .lst (ds.set j v)
  | .dk ks vs, k, v => (keyOf k).bind fun k => if ks.length < sizeLine ∧ ks.length = vs.length ∧ ks.Nodup then some (let r := putKD ks vs k v; .dk r.1 r.2) else none
  | .dt ks vs, .tup ds, v => (keysOf ds).bind fun k => if ks.length < sizeLine ∧ ks.length = vs.length ∧ ks.Nodup then some (let r := putKD ks vs k v; .dt r.1 r.2) else none
  | _, _, _ => none
theorem putKD_keys {κ : Type} [DecidableEq κ] {x : κ} {v : D} : ∀ {ks : List κ} {ds : List D}, ks.length = ds.length → (putKD ks ds x v).1 = if x ∈ ks then ks else ks ++ [x]
  | [], [], _ => rfl
  | [], _ :: _, h => by cases h
  | _ :: _, [], h => by cases h
  | k :: ks, d :: ds, h => by
    unfold putKD
    by_cases e : k = x
    · rw [if_pos e, if_pos (by rw [e]; exact List.mem_cons_self)]
    · rw [if_neg e]
      show k :: (putKD ks ds x v).1 = _
      rw [putKD_keys (by simpa using h)]
      by_cases m : x ∈ ks
      · rw [if_pos m, if_pos (List.mem_cons_of_mem _ m)]
      · rw [if_neg m, if_neg fun z => (List.mem_cons.mp z).elim (fun z => e z.symm) m]
        rfl
theorem put_rel {K : PySem.W.Frag} {G : Hp} {κ : Type} [DecidableEq κ] {x : κ} {v : V} {d : D} (r : Rep K G v d) : ∀ {us : List (κ × V)} {ds : List D}, (us.map (·.1)).Nodup → RepL K G (us.map (·.2)) ds →
    (putK us x v).map (·.1) = (putKD (us.map (·.1)) ds x d).1 ∧ RepL K G ((putK us x v).map (·.2)) (putKD (us.map (·.1)) ds x d).2
  | [], [], _, h => ⟨rfl, .one r⟩
  | [], _ :: _, _, ⟨_, _, h, _⟩ => by cases h
  | _ :: _, [], _, h => by
    have h : _ = [] := h
    cases h
  | (k, u) :: us, e :: ds, nd, ⟨y, ys, h1, h2, h3⟩ => by
    cases h1
    rw [List.map_cons, List.nodup_cons] at nd
    unfold putK
    by_cases c : k = x
    · rw [if_pos (by rw [List.any_cons]; simp [c])]
      have e1 : (us.map fun kv => if kv.1 = x then (kv.1, v) else kv) = us := by
        refine (List.map_congr_left fun kv hm => ?_).trans (List.map_id us)
        rw [if_neg]
        · rfl
        · intro z
          exact nd.1 (by rw [c, ← z]; exact List.mem_map_of_mem (f := fun p => p.1) hm)
      have e2 : putKD (((k, u) :: us).map (·.1)) (e :: ds) x d = (k :: us.map (·.1), d :: ds) := by
        show (if k = x then _ else _) = _
        rw [if_pos c]
      rw [e2, List.map_cons, e1]
      show List.map _ ((if k = x then (k, v) else (k, u)) :: us) = _ ∧ RepL K G (List.map _ ((if k = x then (k, v) else (k, u)) :: us)) _
      rw [if_pos c]
      exact ⟨rfl, v, _, rfl, r, h3⟩
    · have ih := put_rel (x := x) r nd.2 h3
      unfold putK at ih
      have e2 : putKD (((k, u) :: us).map (·.1)) (e :: ds) x d = (k :: (putKD (us.map (·.1)) ds x d).1, e :: (putKD (us.map (·.1)) ds x d).2) := by
        show (if k = x then _ else _) = _
        rw [if_neg c]
      rw [e2]
      have e3 : (((k, u) :: us).any fun kv => decide (kv.1 = x)) = (us.any fun kv => decide (kv.1 = x)) := by
        rw [List.any_cons]
        simp [c]
      rw [e3]
      split at ih
      · rename_i q
        rw [if_pos q, List.map_cons, if_neg c]
        exact ⟨by rw [List.map_cons, ih.1], u, _, rfl, h2, ih.2⟩
      · rename_i q
        rw [if_neg q]
        exact ⟨by rw [List.cons_append, List.map_cons, ih.1], u, _, rfl, h2, ih.2⟩
def rSetK : TSet := fun o i v H Q => ∃ a H2, o = .ref a ∧ DPut H a i v H2 ∧ Q H2
theorem set_dict (hu : X.A.units + 1 < cLine) : PSet X rSetK := by
  intro pins s σ H o i v ov iv u Q I ro ri rv h
  obtain ⟨a, H2, rfl, g, q⟩ := h
  obtain rfl : ov = Value.ref a := ro
  exact d_setItem hu I g ri rv fun s4 I4 => ⟨H2, I4, q⟩
def rSetA : TSet := fun o i v H Q => rSetL o i v H Q ∨ rSetK o i v H Q
theorem set_all (hu : X.A.units + 1 < cLine) : PSet X rSetA := by
  intro pins s σ H o i v ov iv u Q I ro ri rv h
  rcases h with h | h
  · exact set_list pins s σ H o i v ov iv u Q I ro ri rv h
  · exact set_dict hu pins s σ H o i v ov iv u Q I ro ri rv h
/-- a store into an owned thing -/
theorem put_top {O : Addr → Prop} {H : Hp} {p : Addr} {o : HO} {c c' a d : D} {x v : V} {Q : Hp → Prop} (hp : H p = some o) (t : Top X.K (hide O H) o c) (ra : Rep X.K (hide O H) x a) (rv : Rep X.K (hide O H) v d) (h : putD c a d = some c')
    (k : ∀ o', Top X.K (hide O H) o' c' → Q (upd H p o')) : rSetA (.ref p) x v H Q := by
  unfold putD at h
  split at h
  · obtain ⟨j, hj, h⟩ := Option.map_eq_some_iff.mp h
    subst h
    cases o <;> first | exact t.elim | skip
    rename_i vs
    have t : RepL X.K (hide O H) vs _ := t
    exact .inl ⟨p, vs, _, j, rfl, ra, hp, by rw [t.length]; exact hj, k (.lst (vs.set j v)) (RepL.set rv j t)⟩
  · obtain ⟨key, hk, h⟩ := Option.bind_eq_some_iff.mp h
    split at h
    case isFalse => cases h
    rename_i hz
    cases h
    cases o <;> first | exact t.elim | skip
    rename_i us
    obtain ⟨t1, t2⟩ := (show us.map (·.1) = _ ∧ RepL X.K (hide O H) (us.map (·.2)) _ from t)
    subst t1
    obtain ⟨q1, q2⟩ := put_rel (x := key) rv hz.2.2 t2
    exact .inr ⟨p, _, rfl, .inl ⟨us, key, hp, key_rep hk ra, by simpa using hz.1, rfl⟩, k (.dK (putK us key v)) ⟨q1, q2⟩⟩
  · obtain ⟨key, hk, h⟩ := Option.bind_eq_some_iff.mp h
    split at h
    case isFalse => cases h
    rename_i hz
    cases h
    cases o <;> first | exact t.elim | skip
    rename_i us
    obtain ⟨t1, t2⟩ := (show us.map (·.1) = _ ∧ RepL X.K (hide O H) (us.map (·.2)) _ from t)
    subst t1
    obtain ⟨q1, q2⟩ := put_rel (x := key) rv hz.2.2 t2
    obtain ⟨b, vs, e2, g1, g2⟩ := ra
    subst e2
    exact .inr ⟨p, _, rfl, .inr ⟨us, key, b, hp, rfl, by rw [← keys_rep hk g2]; exact (hide_some g1).2, by simpa using hz.1, rfl⟩, k (.dT (putK us key v)) ⟨q1, q2⟩⟩
  · cases h
def fPut (k : Nat) (fe fi : Env → R D) : Env → Out := fun ρ => stE (fe ρ) ρ fun d =>
  match ρ[k]? with
  | some (some c) => if isTop c = true then stE (fi ρ) ρ fun a => (match putD c a d with | some c' => .nx (ρ.set k (some c')) | none => .stuck) else .stuck
  | _ => .stuck
theorem pds_put {k : Nat} (h : PS X st (tAsg (tD X.K W es fe) (gSub (tVar k) (tD X.K W ei fi) rSetA))) (hi : (k, 1) ∈ ow := by decide) (hn : k ∉ es := by decide) (ho : ∀ p ∈ ow', p ∈ ow ∧ p.1 ∉ es ++ ei := by decide) (hn2 : k ∉ ei := by decide) :
    PDS X W ow ow' owl st (fPut k fe fi) := PS.imp h fun D σ H ⟨B, O, L, ρ, S, w, P⟩ => ⟨B, O, L, ρ, S, PostS.bind P S fun d v H1 e r P1 => by
  split at P1
  case h_2 => exact P1.elim
  rename_i c hc
  split at P1
  case isFalse => exact P1.elim
  rename_i ht
  obtain ⟨as, hL⟩ := w (k, 1) hi
  obtain ⟨p, o, hs, ha, hb, hp, t⟩ := S.top hL hc ht
  subst ha
  refine ⟨_, hs, B, O, L, ρ, S.ext e, PostS.bind P1 (S.ext e) fun a x H2 e2 r2 P2 => ?_⟩
  cases q : putD c a d with
  | none => rw [q] at P2; exact P2.elim
  | some c' =>
    rw [q] at P2
    have S2 := ((S.ext e).ext e2).drop (es ++ ei)
    have hL2 : dropL (es ++ ei) L k = some (1, [p]) := by rw [dropL_no fun z => (List.mem_append.mp z).elim hn hn2]; exact hL
    obtain ⟨p', o', hs', ha', _, hp', t'⟩ := S2.top hL2 hc ht
    rw [hs] at hs'
    cases hs'
    refine put_top hp' t' (drop_mono (fun i h => List.mem_append_right _ h) (Same.refl H2) r2) (drop_mono (fun i h => List.mem_append_left _ h) e2 r) q fun o2 t2 => ?_
    exact P2 σ _ _ (S2.change hL2 hs ⟨_, hc⟩ t2) (w.drop ho)⟩
/-- name op= int -/
def fAug (i : Nat) (f : Int → Int → Int) (fe : Env → R D) : Env → Out := fun ρ =>
  match ρ[i]? with
  | some (some (.int a)) => stE (fe ρ) ρ fun d => (match d with | .int b => .nx (ρ.set i (some (.int (f a b)))) | _ => .stuck)
  | _ => .stuck
theorem pds_aug {i : Nat} {f : Int → Int → Int} (h : PS X st (tAug i (tD X.K W es fe) (ipI f))) (ho : ∀ p ∈ ow', p ∈ ow ∧ p.1 ∉ i :: es := by decide) : PDS X W ow ow' owl st (fAug i f fe) := PS.imp h fun D σ H ⟨B, O, L, ρ, S, w, P⟩ => by
  have P : PostS X.K B O W ow' owl (match ρ[i]? with | some (some (.int a)) => stE (fe ρ) ρ fun d => (match d with | .int b => .nx (ρ.set i (some (.int (f a b)))) | _ => .stuck) | _ => .stuck) D := P
  split at P
  case h_2 => exact P.elim
  rename_i a ha
  obtain ⟨v, h1, h2⟩ := S.read ha
  obtain rfl : v = .int a := h2
  refine ⟨_, h1, B, O, L, ρ, S, PostS.bind P S fun d v H1 e r P1 => ?_⟩
  split at P1
  · rename_i b
    obtain rfl : v = .int b := r
    refine ⟨a, b, rfl, rfl, P1 _ _ _ (((S.ext e).drop es).set (v := .int (f a b)) (d := .int (f a b)) rfl) ?_⟩
    rw [dropL_dropL]
    exact w.drop ho
  · exact P1.elim
end
end DL
set_option Elab.async false
set_option linter.all false
set_option maxRecDepth 100000
namespace DL
open PySem PySem.Spec PyProof.Rows L2

/-! ### short words for the printed terms -/
theorem hu1 {A : Around} {k : Nat} (hr : Room k A) : A.units + 1 < cLine := hu_of hr
theorem hu65 {A : Around} {k : Nat} (hr : Room k A) : A.units + 65 < cLine := by have := hr.un; omega
def fCallN (F : List D → R D) (fa : Env → R (List D)) : Env → R D := fun ρ => (fa ρ).bind F
/-- the module's name x is a def that computes F -/
def Has (P : Program) (w : World) (K : PySem.W.Frag) (mg : Str → Option Value) (base : Heap) (x : Str) (k n : Nat) (F : List D → R D) : Prop :=
  ∃ (f : Addr) (fd : FuncData) (ps : List Str), FnOk P w K mg base (L2.CX P w) k f fd ps (spD K n F) ∧ mg x = some (.ref f) ∧ PySem.W.keepIn K (.ref f) = true ∧ Binds K fd ps []
theorem pd_own {X : Cx} {W : WX} {k j n : Nat} {F : List D → R D} {x : Str} {p pos : Pos} {e : Expr} {es : List Expr} {ea : List Nat} {fa : Env → R (List D)} (C : Has X.prog X.w X.K X.mg X.base x k n F) (tk : Takes X W) (hr : Room j X.A) (hkj : k ≤ j) (hg : Gl X x)
    (ha : PDA X W (e :: es) ea fa) (hn : ∀ ρ l, fa ρ = .ok l → l.length = n) (hdb : (x == ("__debug__" : Str)) = false := by decide) (he : starEach (e :: es) X.env = (false, eval e X.env) :: starEach es X.env := by rfl) (hpl : (backTo pos (starEach es X.env)).any (·.1) = false := by rfl) :
    PD X W (.Call (.Name x p) (e :: es) [] pos) ea (fCallN F fa) := by
  obtain ⟨f, fd, ps, G, hm, hk, hb⟩ := C
  have h := pd_call (p := p) (pos := pos) (dds := []) G tk (hr.mono hkj) hg hm hk hb .nil (fun _ => RepL.nil) ha (fun ρ l q => by rw [List.append_nil]; exact hn ρ l q) hdb he hpl
  have e : fCall F [] fa = fCallN F fa := by
    funext ρ
    show (fa ρ).bind (fun l => F (l ++ [])) = (fa ρ).bind F
    congr 1
    funext l
    rw [List.append_nil]
  rw [e] at h
  exact h
theorem PDB.sub {X : Cx} {W : WX} {ow ow1 ow' owl : Ow} {sts : List Stmt} {f : Env → Out} (h : PDB X W ow1 ow' owl sts f) (s : ∀ p ∈ ow1, p ∈ ow := by decide) : PDB X W ow ow' owl sts f := PSs.imp h fun D σ H ⟨B, O, L, ρ, S, w, P⟩ => ⟨B, O, L, ρ, S, w.sub s, P⟩
section
variable {X : Cx} {W : WX} {ow ow' lo owl : Ow} {st : Stmt} {es ei : List Nat} {fe fi : Env → R D}
/-- name = [..], not owned any more -/
theorem pds_asgFS {i : Nat} (h : PS X st (tAsg (tDF X.K W es fe) (gName i))) (ho : ∀ p ∈ ow', p ∈ ow ∧ p.1 ∉ i :: es := by decide) : PDS X W ow ow' owl st (fAsg i fe) := PS.imp h fun D σ H ⟨B, O, L, ρ, S, w, P⟩ => ⟨B, O, L, ρ, S, by
  have P : PostS X.K B O W ow' owl (stE (fe ρ) ρ fun d => .nx (ρ.set i (some d))) D := P
  cases q : fe ρ with
  | ok d =>
    rw [q] at P
    intro p o H' hp e ho' t
    have n : ¬ HS O (dropL es L) p := fun z => (S.drop es).hdom p z hp
    refine P _ _ _ (((S.ext e).drop es).set (t.rep (hide_same (fun a z => .inl z) (Same.refl H')) (.inl (by rw [hide_no n, ho'])))) ?_
    rw [dropL_dropL]
    exact w.drop ho
  | exc x => rw [q] at P; exact fun c dd H' e r => P c dd σ H' L (S.ext e) r
  | stuck => rw [q] at P; exact P⟩
/-! truth -/
def truD : D → Option Bool
  | .non => some false
  | .bl b => some b
  | .int i => some (i != 0)
  | .str x => if x.length ≤ sizeLine then some (!x.isEmpty) else none
  | .lst ds => some (!ds.isEmpty)
  | .tup ds => some (!ds.isEmpty)
  | _ => none
def fTru (fe : Env → R D) : Env → R Bool := fun ρ => (fe ρ).bind fun d => R.ofO (truD d)
theorem isEmpty_len {α β : Type} {a : List α} {b : List β} (h : a.length = b.length) : a.isEmpty = b.isEmpty := by
  cases a <;> cases b <;> first | rfl | cases h
theorem pdt_truth {e : Expr} (h : PD X W e es fe) (he : ∀ whole, isTrue e X.env whole = (do let v ← whole; standAt e.pos; holding [v] (truthy v))) : PDT X W e (fTru fe) := PT.imp (pt_truth h he) fun σ H Q ⟨B, O, L, ρ, S, P⟩ => ⟨B, O, L, ρ, S, PostG.bind P fun d v H1 e1 r P1 => by
  obtain ⟨k, hk, P2⟩ := P1.ofO
  refine ⟨k, ?_, P2 k H1 (Same.refl H1) rfl⟩
  have r : Rep X.K (hide (HS O (dropL es L)) H1) v d := r
  unfold truD at hk
  split at hk
  · cases hk
    obtain rfl : v = .non := r
    rfl
  · cases hk
    obtain rfl := (show v = V.bl _ from r)
    rfl
  · cases hk
    obtain rfl := (show v = V.int _ from r)
    rfl
  · split at hk
    case isFalse => cases hk
    rename_i x hz
    cases hk
    obtain ⟨rfl, _⟩ := r
    refine ⟨by rw [mkS_len]; exact hz, ?_⟩
    rw [mkS_len]
    have : ∀ l : List Nat, (!l.isEmpty) = ((l.length : Int) != 0) := fun l => by
      cases l with
      | nil => rfl
      | cons c x =>
        show true = (((c :: x).length : Int) != 0)
        rw [List.length_cons]
        symm
        rw [bne_iff_ne]
        omega
    exact this _
  · cases hk
    obtain ⟨p, vs, rfl, h1, h2⟩ := r
    exact .inl ⟨vs, .inl (hide_rd h1), by rw [isEmpty_len h2.length]⟩
  · cases hk
    obtain ⟨p, vs, rfl, h1, h2⟩ := r
    exact .inr (.inl ⟨vs, SqT.of (hide_some h1).2, by rw [isEmpty_len h2.length]⟩)
  · cases hk⟩
theorem call_strA {X : Cx} : CallR X (.type "str") rStr := call_str_int
/-! sum -/
def intsOf : List D → Option (List Int)
  | [] => some []
  | .int b :: ds => (intsOf ds).map (b :: ·)
  | _ :: _ => none
theorem ints_rep {K : PySem.W.Frag} {G : Hp} : ∀ {vs : List V} {ds : List D} {bs : List Int}, intsOf ds = some bs → RepL K G vs ds → vs = bs.map V.int
  | vs, [], bs, h, r => by
    cases h
    exact r
  | vs, d :: ds, bs, h, ⟨x, xs, h1, h2, h3⟩ => by
    cases d <;> first | (cases h; done) | skip
    obtain ⟨r, b, h⟩ := Option.map_eq_some_iff.mp h
    subst h
    obtain rfl := (show x = _ from h2)
    rw [h1, ints_rep b h3]
    rfl
def gSum : List D → Option D
  | [.lst ds] => (intsOf ds).map fun bs => .int bs.sum
  | _ => none
theorem cd_sum {K : PySem.W.Frag} : CallD K (rSum K) gSum := by
  intro O H xs as d Q hO r hg k
  unfold gSum at hg
  split at hg
  · obtain ⟨bs, hb, hg⟩ := Option.map_eq_some_iff.mp hg
    subst hg
    obtain ⟨x, rfl, p, vs, rfl, h1, h2⟩ := one_rep r
    have e := ints_rep hb h2
    subst e
    exact ⟨p, bs, rfl, .inl (hide_rd h1), k _ H (Same.refl H) rfl⟩
  · cases hg
/-! while: as many turns as a number says -/
def whileL (c : Env → R Bool) (fb : Env → Out) : Nat → Env → Out
  | 0, _ => .stuck
  | n + 1, ρ => stE (c ρ) ρ fun k => if k = true then (match fb ρ with | .nx ρ' => whileL c fb n ρ' | .ct ρ' => whileL c fb n ρ' | .bk ρ' => .nx ρ' | o => o) else .nx ρ
def fWhile (c : Env → R Bool) (fb : Env → Out) : Env → Out := whileL c fb 2000
theorem pds_while {c : Expr} {body : List Stmt} {fc : Env → R Bool} {fb : Env → Out} {pos : Pos} (hp : PassesOwn (model X.prog X.w) X.A X.env X.xe) (hc : PDT X W c fc) (hb : PDB X W lo lo lo body fb) (hlo : ∀ p ∈ lo, p ∈ ow := by decide) (how : ∀ p ∈ ow', p ∈ lo := by decide) :
    PDS X W ow ow' owl (.While c body [] pos) (fWhile fc fb) := PS.imp (ps_while hp hc hb) fun D σ H ⟨B, O, L, ρ, S, w, P⟩ => by
  refine ⟨fun m σ H => ∃ L ρ, SR X.K B O L σ H ρ ∧ OwOk lo L ∧ PostS X.K B O W ow' owl (whileL fc fb m ρ) D, ⟨2000, L, ρ, S, w.sub hlo, P⟩, ?_⟩
  rintro m σ H ⟨L, ρ, S, w, P⟩
  cases m with
  | zero => exact P.elim
  | succ m =>
    refine ⟨B, O, L, ρ, S, PostS.bind P S fun k k' H1 e r P1 => ?_⟩
    obtain rfl : k' = k := r
    cases k' with
    | false => exact P1 σ H1 L (S.ext e) (w.sub how)
    | true =>
      rw [if_pos rfl] at P1 ⊢
      refine ⟨fun σ H => ∃ L ρ, SR X.K B O L σ H ρ ∧ OwOk lo L ∧ PostS X.K B O W ow' owl (whileL fc fb m ρ) D, fun σ' H' q => ⟨m, Nat.lt_succ_self m, q⟩, B, O, L, ρ, S.ext e, w, ?_⟩
      cases q : fb ρ with
      | nx ρ2 => rw [q] at P1; exact fun σ4 H4 L4 S4 w4 => ⟨L4, ρ2, S4, w4, P1⟩
      | ct ρ2 => rw [q] at P1; exact fun σ4 H4 L4 S4 w4 => ⟨L4, ρ2, S4, w4, P1⟩
      | bk ρ2 => rw [q] at P1; exact fun σ4 H4 L4 S4 w4 => P1 σ4 H4 L4 S4 (w4.sub how)
      | rt d => rw [q] at P1; exact P1
      | exc x ρ2 => rw [q] at P1; exact P1
      | stuck => rw [q] at P1; exact P1
end

/-! ### expressions that change an owned list or dict -/
def PostM (K : PySem.W.Frag) (B : Hp) (O : Addr → Prop) (W : WX) (ow : Ow) (L : Lm) (ρ : Env) (r : R (D × Env)) (σ : L2.St) (H : Hp) (Q : VK) : Prop :=
  match r with
  | .ok (d, ρ') => ∀ v H' L', SR K B O L' σ H' ρ' → OwOk ow L' → Rep K (hide (HS O L') H') v d → Q v H'
  | .exc x => ∀ c dd H', Same H H' → RepX K (hide O H') H' c dd x → W c dd σ H'
  | .stuck => False
def tDM (K : PySem.W.Frag) (W : WX) (ow : Ow) (fm : Env → R (D × Env)) : TE := fun σ H Q => ∃ B O L ρ, SR K B O L σ H ρ ∧ OwOk ow L ∧ PostM K B O W ow L ρ (fm ρ) σ H Q
def PDM (X : Cx) (W : WX) (ow : Ow) (e : Expr) (fm : Env → R (D × Env)) : Prop := PE X e (tDM X.K W ow fm)
def stM (r : R (D × Env)) (ρ : Env) (k : D → Env → Out) : Out :=
  match r with
  | .ok (d, ρ') => k d ρ'
  | .exc x => .exc x ρ
  | .stuck => .stuck
section
variable {K : PySem.W.Frag} {B H : Hp} {O : Addr → Prop} {W : WX} {ow ow' owl : Ow} {L : Lm} {σ : L2.St} {ρ : Env} {D : Ends}
theorem PostS.bindM {r : R (DL.D × Env)} {k : DL.D → Env → Out} {Q : VK} (P : PostS K B O W ow' owl (stM r ρ k) D) (S : SR K B O L σ H ρ)
    (h : ∀ d ρ' v H' L', SR K B O L' σ H' ρ' → OwOk ow L' → Rep K (hide (HS O L') H') v d → PostS K B O W ow' owl (k d ρ') D → Q v H') : PostM K B O W ow L ρ r σ H Q := by
  cases r with
  | ok a => exact fun v H' L' S' w' r' => h a.1 a.2 v H' L' S' w' r' P
  | exc x => exact fun c dd H1 e hr => P c dd σ H1 L (S.ext e) hr
  | stuck => exact P
end
section
variable {X : Cx} {W : WX} {ow ow' owl : Ow} {st : Stmt} {es : List Nat} {fe : Env → R D} {fm : Env → R (D × Env)}
def fDropM (fm : Env → R (D × Env)) : Env → Out := fun ρ => stM (fm ρ) ρ fun _ ρ' => .nx ρ'
theorem pds_dropM (h : PS X st (tDrop (tDM X.K W ow fm))) (ho : ∀ p ∈ ow', p ∈ ow := by decide) : PDS X W ow ow' owl st (fDropM fm) := PS.imp h fun D σ H ⟨B, O, L, ρ, S, w, P⟩ => ⟨B, O, L, ρ, S, w, PostS.bindM (ow := ow) P S fun d ρ' v H' L' S' w' _ P1 => P1 σ H' L' S' (w'.sub ho)⟩
def fAppM (i : Nat) (fm : Env → R (D × Env)) : Env → Out := fun ρ =>
  match ρ[i]? with
  | some (some (.lst _)) => stM (fm ρ) ρ fun d ρ' => (match ρ'[i]? with | some (some (.lst ds)) => if ds.length < sizeLine then .nx (ρ'.set i (some (.lst (ds ++ [d])))) else .stuck | _ => .stuck)
  | _ => .stuck
theorem top_list {K : PySem.W.Frag} {G : Hp} {o : HO} {ds : List D} (t : Top K G o (.lst ds)) : ∃ vs, o = .lst vs ∧ RepL K G vs ds := by
  cases o <;> first | exact t.elim | exact ⟨_, rfl, t⟩
theorem top_dk {K : PySem.W.Frag} {G : Hp} {o : HO} {ks : List Key} {ds : List D} (t : Top K G o (.dk ks ds)) : ∃ us, o = .dK us ∧ us.map (·.1) = ks ∧ RepL K G (us.map (·.2)) ds := by
  cases o <;> first | exact t.elim | exact ⟨_, rfl, t⟩
theorem pds_appM {i : Nat} (h : PS X st (tDrop (tBM X.K "list" rAppend (tVar i) (tCons (tDM X.K W ow fm) tNil)))) (hi : (i, 1) ∈ ow := by decide) (ho : ∀ p ∈ ow', p ∈ ow := by decide) : PDS X W ow ow' owl st (fAppM i fm) := PS.imp h fun D σ H ⟨B, O, L, ρ, S, w, P⟩ => by
  have P : PostS X.K B O W ow' owl (match ρ[i]? with | some (some (.lst _)) => stM (fm ρ) ρ fun d ρ' => (match ρ'[i]? with | some (some (.lst ds)) => if ds.length < sizeLine then .nx (ρ'.set i (some (.lst (ds ++ [d])))) else .stuck | _ => .stuck) | _ => .stuck) D := P
  split at P
  case h_2 => exact P.elim
  rename_i ds hd
  obtain ⟨as, hL⟩ := w (i, 1) hi
  obtain ⟨p, o, hs, ha, hb, hp, t⟩ := S.top hL hd rfl
  subst ha
  refine ⟨_, hs, ?_⟩
  obtain ⟨vs, rfl, rv⟩ := top_list t
  refine ⟨.inl ⟨rfl, vs, SqL.of hp⟩, B, O, L, ρ, S, w, PostS.bindM (ow := ow) P S fun d ρ' v H' L' S' w' r P1 => ?_⟩
  split at P1
  case h_2 => exact P1.elim
  rename_i ds' hd'
  split at P1
  case isFalse => exact P1.elim
  rename_i hz
  obtain ⟨as', hL'⟩ := w' (i, 1) hi
  obtain ⟨p', o', hs', ha', _, hp', t'⟩ := S'.top hL' hd' rfl
  subst ha'
  rw [hs] at hs'
  cases hs'
  obtain ⟨us, rfl, ru⟩ := top_list t'
  refine ⟨p, us, v, rfl, rfl, hp', by rw [ru.length]; exact hz, ?_⟩
  exact P1 σ _ _ (S'.change (o := .lst (us ++ [v])) (d' := .lst (ds' ++ [d])) hL' hs ⟨_, hd'⟩ (RepL.append ru (.one r))) (w'.sub ho)
/-- x.pop(), x.pop(e) -/
def fPop (i : Nat) : Env → R (D × Env) := fun ρ =>
  match ρ[i]? with
  | some (some (.lst ds)) => (match ds[ds.length - 1]? with | some d => .ok (d, ρ.set i (some (.lst ds.dropLast))) | none => .stuck)
  | _ => .stuck
theorem RepL.dropLast {K : PySem.W.Frag} {G : Hp} {vs : List V} {ds : List D} (r : RepL K G vs ds) : RepL K G vs.dropLast ds.dropLast := by
  rw [List.dropLast_eq_take, List.dropLast_eq_take, r.length]
  exact r.take _
theorem RepL.eraseIdx {K : PySem.W.Frag} {G : Hp} {vs : List V} {ds : List D} (r : RepL K G vs ds) (k : Nat) : RepL K G (vs.eraseIdx k) (ds.eraseIdx k) := by
  rw [List.eraseIdx_eq_take_drop_succ, List.eraseIdx_eq_take_drop_succ]
  exact (r.take _).append (r.drop _)
theorem pdm_pop (i : Nat) {o : Expr} {apos cpos : Pos} (ho : PE X o (tVar i)) (hbase : attributeBase o "pop" X.env (eval o X.env) = eval o X.env := by rfl) (hline : (apos.endLine == cpos.line) = true := by rfl) (hi : (i, 1) ∈ ow := by decide) :
    PDM X W ow (.Call (.Attribute o "pop" apos) [] [] cpos) (fPop i) := PE.imp (pe_bm0 PySem.F.plainAttrs_list PySem.F.slot_list_pop PySem.F.type_list_pop mt_pop ho hbase hline) fun σ H Q ⟨B, O, L, ρ, S, w, P⟩ => by
  have P : PostM X.K B O W ow L ρ (match ρ[i]? with | some (some (.lst ds)) => (match ds[ds.length - 1]? with | some d => .ok (d, ρ.set i (some (.lst ds.dropLast))) | none => .stuck) | _ => .stuck) σ H Q := P
  split at P
  case h_2 => exact P.elim
  rename_i ds hd
  split at P
  case h_2 => exact P.elim
  rename_i d hdl
  obtain ⟨as, hL⟩ := w (i, 1) hi
  obtain ⟨p, o, hs, ha, hb, hp, t⟩ := S.top hL hd rfl
  subst ha
  obtain ⟨vs, rfl, rv⟩ := top_list t
  obtain ⟨v, hv, r⟩ := rv.get hdl
  refine ⟨_, hs, .inl ⟨rfl, vs, SqL.of hp⟩, p, vs, v, rfl, rfl, hp, by rw [rv.length]; exact hv, ?_⟩
  have S2 := S.change (o := .lst vs.dropLast) (d' := .lst ds.dropLast) hL hs ⟨_, hd⟩ rv.dropLast
  refine P v _ L S2 w (r.mono (hide_mono (fun _ z => z) fun a u n e => ?_))
  rw [upd_ne (fun z => n (.inr ⟨i, 1, [p], hL, by rw [z]; exact List.mem_cons_self⟩))]
  exact e
def popAtK (i : Nat) (ρ : Env) (ds : List D) : D → R (D × Env)
  | .int j => if 0 ≤ j ∧ j < 2 ^ 62 then (match ds[j.toNat]? with | some d => .ok (d, ρ.set i (some (.lst (ds.eraseIdx j.toNat)))) | none => .stuck) else .stuck
  | _ => .stuck
def fPopAt (i : Nat) (fe : Env → R D) : Env → R (D × Env) := fun ρ =>
  match ρ[i]? with
  | some (some (.lst ds)) => (fe ρ).bind (popAtK i ρ ds)
  | _ => .stuck
theorem pdm_popAt (i : Nat) {o e : Expr} {apos cpos : Pos} (ho : PE X o (tVar i)) (he : PD X W e es fe) (hbase : attributeBase o "pop" X.env (eval o X.env) = eval o X.env := by rfl)
    (hfew : ((backTo cpos (starEach [e] X.env)).all (fun x => !x.1) && (backToKw cpos (keywordEach [] X.env)).all (fun x => x.1.isSome)
      && decide (([e] : List Expr).length + ([] : List Keyword).length + (if ([] : List Keyword).isEmpty then 0 else 1) < 30)) = true := by rfl)
    (hline : (apos.endLine == cpos.line) = true := by rfl) (hs : starEach [e] X.env = (false, eval e X.env) :: starEach [] X.env := by rfl) (hplain : (backTo cpos (starEach [] X.env)).any (·.1) = false := by rfl) (hi : (i, 1) ∈ ow := by decide) :
    PDM X W ow (.Call (.Attribute o "pop" apos) [e] [] cpos) (fPopAt i fe) := PE.imp (pe_bm PySem.F.plainAttrs_list PySem.F.slot_list_pop PySem.F.type_list_pop mt_popAt ho (pa_cons he pa_nil hs) hbase hfew hline hs hplain) fun σ H Q ⟨B, O, L, ρ, S, w, P⟩ => by
  have P : PostM X.K B O W ow L ρ (match ρ[i]? with | some (some (.lst ds)) => (fe ρ).bind (popAtK i ρ ds) | _ => .stuck) σ H Q := P
  split at P
  case h_2 => exact P.elim
  rename_i ds hd
  obtain ⟨as, hL⟩ := w (i, 1) hi
  obtain ⟨p, o, hs, ha, hb, hp, t⟩ := S.top hL hd rfl
  subst ha
  obtain ⟨vs, rfl, rv⟩ := top_list t
  refine ⟨_, hs, .inl ⟨rfl, vs, SqL.of hp⟩, B, O, L, ρ, S, ?_⟩
  cases q : fe ρ with
  | stuck => rw [q] at P; exact P
  | exc x => rw [q] at P; exact P
  | ok a =>
    rw [q] at P
    intro x H1 e1 r1
    have P : PostM X.K B O W ow L ρ (popAtK i ρ ds a) σ H Q := P
    obtain ⟨j, rfl⟩ : ∃ j, a = .int j := by
      cases a <;> first | exact P.elim | exact ⟨_, rfl⟩
    have P : PostM X.K B O W ow L ρ (if 0 ≤ j ∧ j < 2 ^ 62 then (match ds[j.toNat]? with | some d => .ok (d, ρ.set i (some (.lst (ds.eraseIdx j.toNat)))) | none => .stuck) else .stuck) σ H Q := P
    split at P
    case isFalse => exact P.elim
    rename_i hj
    split at P
    case h_2 => exact P.elim
    rename_i d hdl
    have e2 : x = V.int j := r1
    subst e2
    have S1 := S.ext e1
    obtain ⟨p', o', hs', ha', _, hp', t'⟩ := S1.top hL hd rfl
    rw [hs] at hs'
    cases hs'
    obtain ⟨us, rfl, ru⟩ := top_list t'
    obtain ⟨v, hv, r⟩ := ru.get hdl
    have hlt := (List.getElem?_eq_some_iff.mp hv).1
    refine ⟨p, us, j, j.toNat, v, rfl, rfl, hp', by omega, by omega, seqIndex_of hj.1 (by omega), hv, ?_⟩
    have S2 := S1.change (o := .lst (us.eraseIdx j.toNat)) (d' := .lst (ds.eraseIdx j.toNat)) hL hs ⟨_, hd⟩ (ru.eraseIdx _)
    refine P v _ L S2 w (r.mono (hide_mono (fun _ z => z) fun a u n e => ?_))
    rw [upd_ne (fun z => n (.inr ⟨i, 1, [p], hL, by rw [z]; exact List.mem_cons_self⟩))]
    exact e
/-- d.pop(k): k is there -/
def dropKD : List Key → List D → Key → List Key × List D
  | k :: ks, d :: ds, x => let r := dropKD ks ds x; if k = x then r else (k :: r.1, d :: r.2)
  | _, _, _ => ([], [])
theorem drop_rel {K : PySem.W.Frag} {G : Hp} {x : Key} : ∀ {us : List (Key × V)} {ds : List D}, RepL K G (us.map (·.2)) ds → (dropK us x).map (·.1) = (dropKD (us.map (·.1)) ds x).1 ∧ RepL K G ((dropK us x).map (·.2)) (dropKD (us.map (·.1)) ds x).2
  | [], [], _ => ⟨rfl, rfl⟩
  | [], _ :: _, ⟨_, _, h, _⟩ => by cases h
  | _ :: _, [], h => by
    have h : _ = [] := h
    cases h
  | (k, u) :: us, e :: ds, ⟨y, ys, h1, h2, h3⟩ => by
    cases h1
    have ih := drop_rel (x := x) h3
    show (List.filter _ _).map _ = (let r := dropKD (us.map (·.1)) ds x; if k = x then r else (k :: r.1, e :: r.2)).1 ∧ RepL K G ((List.filter _ _).map _) (let r := dropKD (us.map (·.1)) ds x; if k = x then r else (k :: r.1, e :: r.2)).2
    unfold dropK at ih
    by_cases c : k = x
    · rw [List.filter_cons_of_neg (by simp [c])]
      dsimp only
      rw [if_pos c]
      exact ih
    · rw [List.filter_cons_of_pos (by simp [c])]
      dsimp only
      rw [if_neg c]
      exact ⟨by rw [List.map_cons, ih.1], u, _, rfl, h2, ih.2⟩
def fDPop (i : Nat) (fe : Env → R D) : Env → R (D × Env) := fun ρ =>
  match ρ[i]? with
  | some (some (.dk ks vs)) => (fe ρ).bind fun a => (match keyOf a with | some k => (match lookD ks vs k with | some d => let r := dropKD ks vs k; .ok (d, ρ.set i (some (.dk r.1 r.2))) | none => .stuck) | none => .stuck)
  | _ => .stuck
theorem pdm_dpop (i : Nat) {o e : Expr} {apos cpos : Pos} (ho : PE X o (tVar i)) (he : PD X W e es fe) (m : M1 X o "pop" apos e cpos := by first | exact ⟨rfl, rfl, rfl, rfl⟩ | constructor <;> rfl) (hi : (i, 1) ∈ ow := by decide) :
    PDM X W ow (.Call (.Attribute o "pop" apos) [e] [] cpos) (fDPop i fe) := PE.imp (pe_dpop1 ho he m) fun σ H Q ⟨B, O, L, ρ, S, w, P⟩ => by
  have P : PostM X.K B O W ow L ρ (match ρ[i]? with | some (some (.dk ks vs)) => (fe ρ).bind fun a => (match keyOf a with | some k => (match lookD ks vs k with | some d => let r := dropKD ks vs k; .ok (d, ρ.set i (some (.dk r.1 r.2))) | none => .stuck) | none => .stuck) | _ => .stuck) σ H Q := P
  split at P
  case h_2 => exact P.elim
  rename_i ks vs hd
  obtain ⟨as, hL⟩ := w (i, 1) hi
  obtain ⟨p, o, hs, ha, hb, hp, t⟩ := S.top hL hd rfl
  subst ha
  obtain ⟨us, rfl, rk, rv⟩ := top_dk t
  refine ⟨_, hs, p, rfl, .inl ⟨us, .inl hp⟩, B, O, L, ρ, S, ?_⟩
  cases q : fe ρ with
  | stuck => rw [q] at P; exact P
  | exc x => rw [q] at P; exact P
  | ok a =>
    rw [q] at P
    intro x H1 e1 r1
    have P : PostM X.K B O W ow L ρ (match keyOf a with | some k => (match lookD ks vs k with | some d => let r := dropKD ks vs k; .ok (d, ρ.set i (some (.dk r.1 r.2))) | none => .stuck) | none => .stuck) σ H Q := P
    split at P
    case h_2 => exact P.elim
    rename_i k hk
    split at P
    case h_2 => exact P.elim
    rename_i d hdl
    have S1 := S.ext e1
    obtain ⟨p', o', hs', ha', _, hp', t'⟩ := S1.top hL hd rfl
    rw [hs] at hs'
    cases hs'
    obtain ⟨us', rfl, rk', rv'⟩ := top_dk t'
    subst rk'
    have lr := look_rel k rv'
    rw [hdl] at lr
    cases hv : valV us' k with
    | none => rw [hv] at lr; exact lr.elim
    | some v =>
      rw [hv] at lr
      refine ⟨us', k, v, hp', key_rep hk r1, hv, ?_⟩
      have S2 := S1.change (o := .dK (dropK us' k)) (d' := .dk (dropKD (us'.map fun (p : Key × V) => p.1) vs k).1 (dropKD (us'.map fun (p : Key × V) => p.1) vs k).2) hL hs ⟨_, hd⟩ (drop_rel rv')
      refine P v _ L S2 w (Rep.mono (hide_mono (fun _ z => z) fun a u n e => ?_) lr)
      rw [upd_ne (fun z => n (.inr ⟨i, 1, [p], hL, by rw [z]; exact List.mem_cons_self⟩))]
      exact e
end
end DL
set_option Elab.async false
set_option linter.all false
set_option maxRecDepth 100000
namespace DL
open PySem L2

/-! ### how the functions are computed: equations for simp -/
@[simp] theorem s_bind_ok {α β : Type} {a : α} {f : α → R β} : (R.ok a).bind f = f a := Eq.trans rfl rfl
@[simp] theorem s_bind_exc {α β : Type} {x : XN} {f : α → R β} : (R.exc x : R α).bind f = .exc x := Eq.trans rfl rfl
@[simp] theorem s_bind_stuck {α β : Type} {f : α → R β} : (R.stuck : R α).bind f = .stuck := Eq.trans rfl rfl
@[simp] theorem s_ofO_some {α : Type} {a : α} : R.ofO (some a) = .ok a := Eq.trans rfl rfl
@[simp] theorem s_ofO_none {α : Type} : R.ofO (none : Option α) = .stuck := Eq.trans rfl rfl
@[simp] theorem s_toO_ok {α : Type} {a : α} : (R.ok a).toO = some a := Eq.trans rfl rfl
@[simp] theorem s_toO_exc {α : Type} {x : XN} : (R.exc x : R α).toO = none := Eq.trans rfl rfl
@[simp] theorem s_toO_stuck {α : Type} : (R.stuck : R α).toO = none := Eq.trans rfl rfl
@[simp] theorem s_stE_ok {α : Type} {a : α} {ρ : Env} {k : α → Out} : stE (.ok a) ρ k = k a := Eq.trans rfl rfl
@[simp] theorem s_stE_exc {α : Type} {x : XN} {ρ : Env} {k : α → Out} : stE (.exc x : R α) ρ k = .exc x ρ := Eq.trans rfl rfl
@[simp] theorem s_stE_stuck {α : Type} {ρ : Env} {k : α → Out} : stE (.stuck : R α) ρ k = .stuck := Eq.trans rfl rfl
@[simp] theorem s_stM_ok {d : D} {ρ ρ' : Env} {k : D → Env → Out} : stM (.ok (d, ρ')) ρ k = k d ρ' := Eq.trans rfl rfl
@[simp] theorem s_stM_exc {x : XN} {ρ : Env} {k : D → Env → Out} : stM (.exc x) ρ k = .exc x ρ := Eq.trans rfl rfl
@[simp] theorem s_stM_stuck {ρ : Env} {k : D → Env → Out} : stM .stuck ρ k = .stuck := Eq.trans rfl rfl
@[simp] theorem s_getE0 {d : D} {ρ : Env} : getE (some d :: ρ) 0 = .ok d := Eq.trans rfl rfl
@[simp] theorem s_getES {o : Option D} {ρ : Env} {i : Nat} : getE (o :: ρ) (i + 1) = getE ρ i := Eq.trans rfl rfl
@[simp] theorem s_fNil {ρ : Env} : fNil ρ = .ok [] := Eq.trans rfl rfl
@[simp] theorem s_fCons {fa : Env → R D} {fs : Env → R (List D)} {ρ : Env} : fCons fa fs ρ = (fa ρ).bind fun a => (fs ρ).bind fun l => .ok (a :: l) := Eq.trans rfl rfl
@[simp] theorem s_fOp {g : D → D → Option D} {fa fb : Env → R D} {ρ : Env} : fOp g fa fb ρ = (fa ρ).bind fun a => (fb ρ).bind fun b => R.ofO (g a b) := Eq.trans rfl rfl
@[simp] theorem s_fUn {g : D → Option D} {fa : Env → R D} {ρ : Env} : fUn g fa ρ = (fa ρ).bind fun a => R.ofO (g a) := Eq.trans rfl rfl
@[simp] theorem s_fCB {g : List D → Option D} {fa : Env → R (List D)} {ρ : Env} : fCB g fa ρ = (fa ρ).bind fun l => R.ofO (g l) := Eq.trans rfl rfl
@[simp] theorem s_fCallN {F : List D → R D} {fa : Env → R (List D)} {ρ : Env} : fCallN F fa ρ = (fa ρ).bind F := Eq.trans rfl rfl
@[simp] theorem s_fB {fe : Env → R D} {ρ : Env} : fB fe ρ = (fe ρ).bind asB := Eq.trans rfl rfl
@[simp] theorem s_asB {b : Bool} : asB (.bl b) = .ok b := Eq.trans rfl rfl
@[simp] theorem s_fTru {fe : Env → R D} {ρ : Env} : fTru fe ρ = (fe ρ).bind fun d => R.ofO (truD d) := Eq.trans rfl rfl
@[simp] theorem s_fAnd {fa fb : Env → R Bool} {ρ : Env} : fAnd fa fb ρ = (fa ρ).bind fun a => if a = true then fb ρ else .ok false := Eq.trans rfl rfl
@[simp] theorem s_fOr {fa fb : Env → R Bool} {ρ : Env} : fOr fa fb ρ = (fa ρ).bind fun a => if a = true then .ok true else fb ρ := Eq.trans rfl rfl
@[simp] theorem s_fNot {fa : Env → R Bool} {ρ : Env} : fNot fa ρ = (fa ρ).bind fun a => .ok (!a) := Eq.trans rfl rfl
@[simp] theorem s_fAndV {fa fb : Env → R D} {ρ : Env} : fAndV fa fb ρ = (fa ρ).bind fun a => (asB a).bind fun k => if k = true then fb ρ else .ok (.bl false) := Eq.trans rfl rfl
@[simp] theorem s_fOrV {fa fb : Env → R D} {ρ : Env} : fOrV fa fb ρ = (fa ρ).bind fun a => (asB a).bind fun k => if k = true then .ok (.bl true) else fb ρ := Eq.trans rfl rfl
@[simp] theorem s_fNotV {fa : Env → R D} {ρ : Env} : fNotV fa ρ = (fa ρ).bind fun a => (asB a).bind fun k => .ok (.bl (!k)) := Eq.trans rfl rfl
@[simp] theorem s_fIfE {t : Env → R Bool} {fa fb : Env → R D} {ρ : Env} : fIfE t fa fb ρ = (t ρ).bind fun k => if k = true then fa ρ else fb ρ := Eq.trans rfl rfl
@[simp] theorem s_fTup {fs : Env → R (List D)} {ρ : Env} : fTup fs ρ = (fs ρ).bind fun l => lenOk l (.ok (.tup l)) := Eq.trans rfl rfl
@[simp] theorem s_fLst {fs : Env → R (List D)} {ρ : Env} : fLst fs ρ = (fs ρ).bind fun l => lenOk l (.ok (.lst l)) := Eq.trans rfl rfl
theorem lenOk_le {α : Type} {l : List α} {r : R D} (h : l.length ≤ sizeLine) : lenOk l r = r := if_pos h
@[simp] theorem s_lenOk0 {α : Type} {r : R D} : lenOk ([] : List α) r = r := lenOk_le (Nat.zero_le _)
@[simp] theorem s_lenOk1 {α : Type} {a : α} {r : R D} : lenOk [a] r = r := lenOk_le (by rw [sizeLine_eq]; simp only [List.length_cons, List.length_nil]; decide)
@[simp] theorem s_lenOk2 {α : Type} {a b : α} {r : R D} : lenOk [a, b] r = r := lenOk_le (by rw [sizeLine_eq]; simp only [List.length_cons, List.length_nil]; decide)
@[simp] theorem s_lenOk3 {α : Type} {a b c : α} {r : R D} : lenOk [a, b, c] r = r := lenOk_le (by rw [sizeLine_eq]; simp only [List.length_cons, List.length_nil]; decide)
@[simp] theorem s_lenOk4 {α : Type} {a b c d : α} {r : R D} : lenOk [a, b, c, d] r = r := lenOk_le (by rw [sizeLine_eq]; simp only [List.length_cons, List.length_nil]; decide)
@[simp] theorem s_scalR_ok {d : D} : scalR (.ok d) = if isS d = true then .ok d else .stuck := Eq.trans rfl rfl
@[simp] theorem s_scalR_stuck : scalR .stuck = .stuck := Eq.trans rfl rfl
@[simp] theorem s_isS_int {i : Int} : isS (.int i) = true := Eq.trans rfl rfl
@[simp] theorem s_isS_bl {i : Bool} : isS (.bl i) = true := Eq.trans rfl rfl
@[simp] theorem s_isS_str {i : List Nat} : isS (.str i) = true := Eq.trans rfl rfl
@[simp] theorem s_isS_non : isS .non = true := Eq.trans rfl rfl
@[simp] theorem s_isS_cl {C : Addr} : isS (.cl C) = true := Eq.trans rfl rfl
@[simp] theorem s_fSeq {f g : Env → Out} {ρ : Env} : fSeq f g ρ = match f ρ with | .nx ρ' => g ρ' | o => o := Eq.trans rfl rfl
@[simp] theorem s_fNext {ρ : Env} : fNext ρ = .nx ρ := Eq.trans rfl rfl
@[simp] theorem s_fAsg {i : Nat} {fe : Env → R D} {ρ : Env} : fAsg i fe ρ = stE (fe ρ) ρ fun d => .nx (ρ.set i (some d)) := Eq.trans rfl rfl
@[simp] theorem s_fAsgF {i : Nat} {fe : Env → R D} {ρ : Env} : fAsgF i fe ρ = if i < ρ.length then stE (fe ρ) ρ fun d => .nx (ρ.set i (some d)) else .stuck := Eq.trans rfl rfl
@[simp] theorem s_fRet {fe : Env → R D} {ρ : Env} : fRet fe ρ = stE (fe ρ) ρ .rt := Eq.trans rfl rfl
@[simp] theorem s_fRetN {ρ : Env} : fRetN ρ = .rt .non := Eq.trans rfl rfl
@[simp] theorem s_fDrop {fe : Env → R D} {ρ : Env} : fDrop fe ρ = stE (fe ρ) ρ fun _ => .nx ρ := Eq.trans rfl rfl
@[simp] theorem s_fDropM {fe : Env → R (D × Env)} {ρ : Env} : fDropM fe ρ = stM (fe ρ) ρ fun _ ρ' => .nx ρ' := Eq.trans rfl rfl
@[simp] theorem s_fIf {c : Env → R Bool} {f g : Env → Out} {ρ : Env} : fIf c f g ρ = stE (c ρ) ρ fun b => if b = true then f ρ else g ρ := Eq.trans rfl rfl
@[simp] theorem s_fFor {fi : Env → R (List D)} {ft : D → Env → Option Env} {fb : Env → Out} {ρ : Env} : fFor fi ft fb ρ = stE (fi ρ) ρ fun ds => forL ft fb ds ρ := Eq.trans rfl rfl
@[simp] theorem s_forL_nil {ft : D → Env → Option Env} {fb : Env → Out} {ρ : Env} : forL ft fb [] ρ = .nx ρ := Eq.trans rfl rfl
theorem forL_cons {ft : D → Env → Option Env} {fb : Env → Out} {ρ : Env} {d : D} {ds : List D} : forL ft fb (d :: ds) ρ = match ft d ρ with
    | none => .stuck
    | some ρ1 => match fb ρ1 with
      | .nx ρ2 => forL ft fb ds ρ2
      | .ct ρ2 => forL ft fb ds ρ2
      | .bk ρ2 => .nx ρ2
      | o => o := rfl
@[simp] theorem s_gtName {i : Nat} {d : D} {ρ : Env} : gtName i d ρ = some (ρ.set i (some d)) := Eq.trans rfl rfl
@[simp] theorem s_gtPair {i j : Nat} {a b : D} {ρ : Env} : gtPair i j (.tup [a, b]) ρ = some ((ρ.set i (some a)).set j (some b)) := Eq.trans rfl rfl
@[simp] theorem s_fIter {fe : Env → R D} {ρ : Env} : fIter fe ρ = (fe ρ).bind fun d => R.ofO (gIter d) := Eq.trans rfl rfl
@[simp] theorem s_fRng {fa : Env → R (List D)} {ρ : Env} : fRng fa ρ = (fa ρ).bind fun l => R.ofO (gRng l) := Eq.trans rfl rfl
@[simp] theorem s_fEnum {fa : Env → R (List D)} {ρ : Env} : fEnum fa ρ = (fa ρ).bind fun l => R.ofO (gEnum l) := Eq.trans rfl rfl
@[simp] theorem s_fLRng {fe : Env → R D} {ρ : Env} : fLRng fe ρ = (fe ρ).bind fun d => R.ofO (gLRng d) := Eq.trans rfl rfl
@[simp] theorem s_gIter_lst {ds : List D} : gIter (.lst ds) = some ds := Eq.trans rfl rfl
@[simp] theorem s_gIter_tup {ds : List D} : gIter (.tup ds) = some ds := Eq.trans rfl rfl
@[simp] theorem s_gIter_str {z : List Nat} : gIter (.str z) = some (z.map fun c => .str [c]) := Eq.trans rfl rfl
@[simp] theorem s_gIter_scr {ds : List Int} : gIter (.scr ds) = some (ds.map .int) := Eq.trans rfl rfl
@[simp] theorem s_fLc {fi : Env → R (List D)} {ft : D → Env → Option Env} {tt : Env → R Bool} {fe : Env → R D} {vs : List Nat} {ρ : Env} : fLc fi ft tt fe vs ρ = (fi ρ).bind fun ds => (R.ofO (compL ft tt fe (wipeE ρ vs) ds)).bind fun ys => lenOk ys (.ok (.lst ys)) := Eq.trans rfl rfl
@[simp] theorem s_wipe0 {ρ : Env} : wipeE ρ [] = ρ := Eq.trans rfl rfl
@[simp] theorem s_wipeS {ρ : Env} {v : Nat} {vs : List Nat} : wipeE ρ (v :: vs) = (wipeE ρ vs).set v none := Eq.trans rfl rfl
@[simp] theorem s_fYes {ρ : Env} : fYes ρ = .ok true := Eq.trans rfl rfl
@[simp] theorem s_foNone {ρ : Env} : foNone ρ = .ok none := Eq.trans rfl rfl
@[simp] theorem s_foSome {fe : Env → R D} {ρ : Env} : foSome fe ρ = (fe ρ).bind fun d => match d with | .int i => .ok (some i) | _ => .stuck := Eq.trans rfl rfl
@[simp] theorem s_fSl {fe : Env → R D} {fl fh : Env → R (Option Int)} {ρ : Env} : fSl fe fl fh ρ = (fe ρ).bind fun d => (fl ρ).bind fun l => (fh ρ).bind fun h => R.ofO (gSl l h d) := Eq.trans rfl rfl
/-! operators on what is known -/
@[simp] theorem s_add_int {a b : Int} : gAdd (.int a) (.int b) = some (.int (a + b)) := Eq.trans rfl rfl
theorem add_str {a b : List Nat} (h : a.length + b.length ≤ sizeLine) : gAdd (.str a) (.str b) = some (.str (a ++ b)) := if_pos h
theorem add_lst {a b : List D} (h : a.length + b.length ≤ sizeLine) : gAdd (.lst a) (.lst b) = some (.lst (a ++ b)) := if_pos h
theorem add_tup {a b : List D} (h : a.length + b.length ≤ sizeLine) : gAdd (.tup a) (.tup b) = some (.tup (a ++ b)) := if_pos h
@[simp] theorem s_minus {a b : Int} : gMinus (.int a) (.int b) = some (.int (a - b)) := Eq.trans rfl rfl
theorem mul_int {a b : Int} (h : (-(2 ^ 64) < a ∧ a < 2 ^ 64) ∨ (-(2 ^ 64) < b ∧ b < 2 ^ 64)) : gMul (.int a) (.int b) = some (.int (a * b)) := if_pos h
theorem div_int {a b : Int} (h : 0 < b ∧ b < 1073741824) : gDiv (.int a) (.int b) = some (.int (a / b)) := if_pos h
theorem mod_int {a b : Int} (h : 0 < b) : gMod (.int a) (.int b) = some (.int (a % b)) := if_pos h
theorem pow_int {a b : Int} (h : 0 ≤ b ∧ b ≤ 1000000 ∧ a.natAbs < 2 ^ 64) : gPow (.int a) (.int b) = some (.int (a ^ b.toNat)) := if_pos h
@[simp] theorem s_cmpI {p : Int → Int → Bool} {a b : Int} : gCmpI p (.int a) (.int b) = some (.bl (p a b)) := Eq.trans rfl rfl
@[simp] theorem s_neg {a : Int} : gNeg (.int a) = some (.int (-a)) := Eq.trans rfl rfl
@[simp] theorem s_len_lst {ds : List D} : gLen [.lst ds] = some (.int ds.length) := Eq.trans rfl rfl
@[simp] theorem s_len_tup {ds : List D} : gLen [.tup ds] = some (.int ds.length) := Eq.trans rfl rfl
@[simp] theorem s_len_scr {ds : List Int} : gLen [.scr ds] = some (.int ds.length) := Eq.trans rfl rfl
theorem len_str {x : List Nat} (h : x.length ≤ sizeLine) : gLen [.str x] = some (.int x.length) := if_pos h
@[simp] theorem s_int_int {i : Int} : gInt [.int i] = some (.int i) := Eq.trans rfl rfl
@[simp] theorem s_int_bl {i : Bool} : gInt [.bl i] = some (.int (if i then 1 else 0)) := Eq.trans rfl rfl
theorem int_dig {c : Nat} (h : 48 ≤ c ∧ c ≤ 57) : gInt [.str [c]] = some (.int ((c : Int) - 48)) := if_pos h
theorem str_dig {i : Int} (h : 0 ≤ i ∧ i ≤ 9) : gStr [.int i] = some (.str [(i + 48).toNat]) := if_pos h
@[simp] theorem s_list_lst {ds : List D} : gList [.lst ds] = some (.lst ds) := Eq.trans rfl rfl
@[simp] theorem s_list_tup {ds : List D} : gList [.tup ds] = some (.lst ds) := Eq.trans rfl rfl
@[simp] theorem s_tuple_lst {ds : List D} : gTuple [.lst ds] = some (.tup ds) := Eq.trans rfl rfl
@[simp] theorem s_tuple_tup {ds : List D} : gTuple [.tup ds] = some (.tup ds) := Eq.trans rfl rfl
@[simp] theorem s_ix_lst {ds : List D} {i : Int} : gIx (.lst ds) (.int i) = atI ds i := Eq.trans rfl rfl
@[simp] theorem s_ix_tup {ds : List D} {i : Int} : gIx (.tup ds) (.int i) = atI ds i := Eq.trans rfl rfl
@[simp] theorem s_ix_scr {ns : List Int} {i : Int} : gIx (.scr ns) (.int i) = (atI ns i).map .int := Eq.trans rfl rfl
theorem ix_str {x : List Nat} {i : Int} (h : x.length ≤ sizeLine) : gIx (.str x) (.int i) = (atI x i).map fun c => .str [c] := if_pos h
theorem atI_get? {α : Type} {xs : List α} {i : Int} (h : 0 ≤ i) : atI xs i = xs[i.toNat]? := by
  unfold atI ixN
  rw [if_pos h]
  by_cases h2 : i < xs.length
  · rw [if_pos h2]
    rfl
  · rw [if_neg h2, List.getElem?_eq_none (by omega)]
    rfl
@[simp] theorem s_sl_lst {ds : List D} {l h : Option Int} : gSl l h (.lst ds) = some (.lst (cutG ds l h)) := Eq.trans rfl rfl
@[simp] theorem s_sl_tup {ds : List D} {l h : Option Int} : gSl l h (.tup ds) = some (.tup (cutG ds l h)) := Eq.trans rfl rfl
theorem sl_str {x : List Nat} {l h : Option Int} (hx : x.length ≤ sizeLine) : gSl l h (.str x) = some (.str (cutG x l h)) := if_pos hx
theorem rng1 {j : Int} (h : -(2 ^ 62) ≤ j ∧ j < 2 ^ 62) : gRng [.int j] = some ((List.range j.toNat).map fun (i : Nat) => .int ((0 : Int) + i)) := if_pos h
theorem rng2 {i j : Int} (h : -(2 ^ 62) ≤ i ∧ i < 2 ^ 62 ∧ -(2 ^ 62) ≤ j ∧ j < 2 ^ 62) : gRng [.int i, .int j] = some ((List.range (j - i).toNat).map fun (n : Nat) => .int (i + n)) := if_pos h
theorem size_eq : (sizeLine : Nat) = 16777216 := sizeLine_eq
end DL
set_option Elab.async false
set_option linter.all false
set_option maxRecDepth 100000
namespace DL
open PySem L2

/-! ### several dicts are locked at once -/
abbrev Lks := List (Addr × HO)
def unl (l : Lks) (H : Hp) : Hp := fun a =>
  match l.lookup a with
  | some u => some u
  | none => H a
theorem unl_nil {H : Hp} : unl [] H = H := rfl
theorem unl_cons {p : Addr × HO} {l : Lks} {H : Hp} (n : p.1 ∉ l.map (·.1)) : unl (p :: l) H = upd (unl l H) p.1 p.2 := by
  funext a
  unfold unl upd
  obtain ⟨b, u⟩ := p
  by_cases e : a = b
  · subst e
    rw [if_pos rfl]
    simp [List.lookup]
  · have e' : (a == b) = false := by simpa using e
    rw [if_neg e]
    simp only [List.lookup, e']
theorem unl_out {l : Lks} {H : Hp} {a : Addr} (n : a ∉ l.map (·.1)) : unl l H a = H a := by
  induction l with
  | nil => rfl
  | cons p l ih =>
    obtain ⟨b, u⟩ := p
    have hb : a ≠ b := fun e => n (by rw [e]; exact List.mem_cons_self)
    have e' : (a == b) = false := by simpa using hb
    unfold unl
    simp only [List.lookup, e']
    exact ih fun z => n (List.mem_cons_of_mem _ z)
theorem unl_in {l : Lks} {H : Hp} {p : Addr × HO} (nd : (l.map (·.1)).Nodup) (h : p ∈ l) : unl l H p.1 = some p.2 := by
  induction l with
  | nil => cases h
  | cons q l ih =>
    rw [List.map_cons, List.nodup_cons] at nd
    rw [unl_cons nd.1]
    rcases List.mem_cons.mp h with e | h
    · rw [e]
      exact upd_same
    · rw [upd_ne fun z => nd.1 (by rw [← z]; exact List.mem_map_of_mem (f := fun q => q.1) h)]
      exact ih nd.2 h
/-- H' is H with these locked -/
structure LkTo (l : Lks) (H H' : Hp) : Prop where
  on : ∀ p ∈ l, ∃ od, H' p.1 = some (.frz od p.2)
  off : ∀ a, a ∉ l.map (·.1) → H' a = H a
structure LkOk (l : Lks) (H : Hp) : Prop where
  nd : (l.map (·.1)).Nodup
  at_ : ∀ p ∈ l, H p.1 = some p.2 ∧ Mut (some p.2)
section
variable {X : Cx} {pins : List (Addr × Obj)} {σ : St} {H : Hp} {s : Shared}
theorem lockN (I : Inv X pins σ H s) : ∀ l : Lks, LkOk l H → ∃ H', Inv X pins σ H' s ∧ LkTo l H H'
  | [], _ => ⟨H, I, ⟨fun _ h => (List.not_mem_nil h).elim, fun _ _ => rfl⟩⟩
  | (d, u) :: l, ⟨nd, hat⟩ => by
    rw [List.map_cons, List.nodup_cons] at nd
    obtain ⟨H1, I1, k⟩ := lockN I l ⟨nd.2, fun p h => hat p (List.mem_cons_of_mem _ h)⟩
    obtain ⟨e, m⟩ := hat (d, u) List.mem_cons_self
    have e1 : H1 d = some u := (k.off d nd.1).trans e
    obtain ⟨od, I2⟩ := I1.lock e1 m
    refine ⟨_, I2, ⟨fun p h => ?_, fun a n => ?_⟩⟩
    · rcases List.mem_cons.mp h with q | h
      · rw [q]
        exact ⟨od, upd_same⟩
      · obtain ⟨o, z⟩ := k.on p h
        exact ⟨o, by rw [upd_ne fun y => nd.1 (by rw [← y]; exact List.mem_map_of_mem (f := fun q => q.1) h)]; exact z⟩
    · rw [upd_ne fun y => n (by rw [y]; exact List.mem_cons_self)]
      exact k.off a fun z => n (List.mem_cons_of_mem _ z)
theorem unlockN (I : Inv X pins σ H s) : ∀ l : Lks, (l.map (·.1)).Nodup → (∀ p ∈ l, ∃ od, H p.1 = some (.frz od p.2)) → (∀ p ∈ l, ∀ o u, X.H_0 p.1 ≠ some (.frz o u)) → Inv X pins σ (unl l H) s
  | [], _, _, _ => I
  | (d, u) :: l, nd, hat, h0 => by
    rw [List.map_cons, List.nodup_cons] at nd
    have I1 := unlockN I l nd.2 (fun p h => hat p (List.mem_cons_of_mem _ h)) fun p h => h0 p (List.mem_cons_of_mem _ h)
    obtain ⟨od, e⟩ := hat (d, u) List.mem_cons_self
    have e1 : unl l H d = some (.frz od u) := (unl_out nd.1).trans e
    rw [unl_cons nd.1]
    exact I1.unlock e1 (h0 (d, u) List.mem_cons_self)
theorem lk_nofrz {l : Lks} (I : Inv X pins σ H s) (k : LkOk l H) : ∀ p ∈ l, ∀ o u, X.H_0 p.1 ≠ some (.frz o u) := fun p h => I.nofrz (k.at_ p h).1 (k.at_ p h).2
def tLkS (t : TS) : TS := fun D σ H => ∃ l, LkOk l H ∧ ∀ H', LkTo l H H' → t ⟨fun σ1 H1 => (∀ p ∈ l, H1 p.1 = H' p.1) ∧ D.nx σ1 (unl l H1), fun v H1 => (∀ p ∈ l, H1 p.1 = H' p.1) ∧ D.rt v (unl l H1), fun σ1 H1 => (∀ p ∈ l, H1 p.1 = H' p.1) ∧ D.bk σ1 (unl l H1),
  fun σ1 H1 => (∀ p ∈ l, H1 p.1 = H' p.1) ∧ D.ct σ1 (unl l H1)⟩ σ H'
def tLkE (t : TE) : TE := fun σ H Q => ∃ l, LkOk l H ∧ ∀ H', LkTo l H H' → t σ H' fun v H1 => (∀ p ∈ l, H1 p.1 = H' p.1) ∧ Q v (unl l H1)
theorem ps_lk {st : Stmt} {t : TS} (h : PS X st t) : PS X st (tLkS t) := by
  refine ⟨fun pins s σ H D I hw => ?_⟩
  obtain ⟨l, ok, hw⟩ := hw
  obtain ⟨H', I1, k⟩ := lockN I l ok
  have back : ∀ {σ1 : St} {H1 : Hp} {s1 : Shared}, Inv X pins σ1 H1 s1 → (∀ p ∈ l, H1 p.1 = H' p.1) → Inv X pins σ1 (unl l H1) s1 := fun {σ1 H1 s1} J e =>
    unlockN J l ok.nd (fun p h => by rw [e p h]; exact k.on p h) (lk_nofrz I ok)
  refine thn (h.run pins s σ _ _ I1 (hw H' k)) fun f s1 q => ?_
  cases f with
  | next => obtain ⟨σ1, H1, J, e, q⟩ := q; exact ⟨σ1, _, back J e, q⟩
  | brk => obtain ⟨σ1, H1, J, e, q⟩ := q; exact ⟨σ1, _, back J e, q⟩
  | cont => obtain ⟨σ1, H1, J, e, q⟩ := q; exact ⟨σ1, _, back J e, q⟩
  | ret v => obtain ⟨x, σ1, H1, J, r, e, q⟩ := q; exact ⟨x, σ1, _, back J e, r, q⟩
theorem pe_lk {e : Expr} {t : TE} (h : PE X e t) : PE X e (tLkE t) := by
  refine ⟨fun pins s σ H Q I hw => ?_⟩
  obtain ⟨l, ok, hw⟩ := hw
  obtain ⟨H', I1, k⟩ := lockN I l ok
  refine thn (h.run pins s σ _ _ I1 (hw H' k)) fun v s1 ⟨x, H1, J, r, e, q⟩ => ?_
  exact ⟨x, _, unlockN J l ok.nd (fun p h => by rw [e p h]; exact k.on p h) (lk_nofrz I ok), r, q⟩
end

/-! ### the data, locked -/
mutual
def frzD : D → D
  | .lst ds => .lst (frzL ds)
  | .tup ds => .tup (frzL ds)
  | .dk ks ds => .fk ks (frzL ds)
  | .dt ks ds => .ft ks (frzL ds)
  | .ins C fs ds => .ins C fs (frzL ds)
  | d => d
def frzL : List D → List D
  | [] => []
  | d :: ds => frzD d :: frzL ds
end
mutual
def thawD : D → D
  | .lst ds => .lst (thawL ds)
  | .tup ds => .tup (thawL ds)
  | .dk ks ds => .dk ks (thawL ds)
  | .dt ks ds => .dt ks (thawL ds)
  | .fk ks ds => .dk ks (thawL ds)
  | .ft ks ds => .dt ks (thawL ds)
  | .ins C fs ds => .ins C fs (thawL ds)
  | d => d
def thawL : List D → List D
  | [] => []
  | d :: ds => thawD d :: thawL ds
end
/-- a heap that differs from G in locks let go -/
def ThTo (G G' : Hp) : Prop := ∀ a o, G a = some o → G' a = some o ∨ ∃ od u, o = .frz od u ∧ G' a = some u
theorem ThTo.rd {G G' : Hp} (t : ThTo G G') {a : Addr} {u : HO} (hu : ∀ od v, u ≠ .frz od v) (h : Rd G a u) : Rd G' a u := by
  rcases h with h | ⟨o, h⟩
  · rcases t a _ h with q | ⟨od, v, e, _⟩
    · exact .inl q
    · exact absurd e (hu od v)
  · rcases t a _ h with q | ⟨od, v, e, q⟩
    · exact .inr ⟨o, q⟩
    · cases e
      exact .inl q
section
variable {K : PySem.W.Frag}
theorem ThTo.sqL {G G' : Hp} (t : ThTo G G') {a : Addr} {xs : List V} (h : SqL K G a xs) : SqL K G' a xs := h.elim (fun h => .inl (t.rd (fun _ _ z => nomatch z) h)) .inr
theorem ThTo.sqT {G G' : Hp} (t : ThTo G G') {a : Addr} {xs : List V} (h : SqT K G a xs) : SqT K G' a xs := h.elim (fun h => .inl (t.rd (fun _ _ z => nomatch z) h)) .inr
theorem ThTo.tup {G G' : Hp} (t : ThTo G G') {a : Addr} {xs : List V} (h : G a = some (.tup xs)) : G' a = some (.tup xs) := by
  rcases t a _ h with q | ⟨od, v, e, _⟩
  · exact q
  · cases e
mutual
theorem Rep.thaw {G G' : Hp} (t : ThTo G G') : ∀ {v : V} {d : D}, Rep K G v d → Rep K G' v (thawD d)
  | _, .non, h => h
  | _, .bl _, h => h
  | _, .int _, h => h
  | _, .str _, h => h
  | _, .lst ds, ⟨a, vs, h1, h2, h3⟩ => ⟨a, vs, h1, t.rd (fun _ _ z => nomatch z) h2, RepL.thaw t h3⟩
  | _, .tup ds, ⟨a, vs, h1, h2, h3⟩ => ⟨a, vs, h1, t.tup h2, RepL.thaw t h3⟩
  | _, .dk ks ds, ⟨a, vs, h1, h2, h4, h3⟩ => ⟨a, vs, h1, t.rd (fun _ _ z => nomatch z) h2, h4, RepL.thaw t h3⟩
  | _, .dt ks ds, ⟨a, vs, h1, h2, h4, h3⟩ => ⟨a, vs, h1, t.rd (fun _ _ z => nomatch z) h2, h4, RepL.thaw t h3⟩
  | _, .ins C fs ds, ⟨a, dx, vs, h1, h2, h4, h3⟩ => ⟨a, dx, vs, h1, t.rd (fun _ _ z => nomatch z) h2, h4, RepL.thaw t h3⟩
  | _, .cl _, h => h
  | _, .scr _, ⟨a, h1, h2⟩ => ⟨a, h1, t.sqL h2⟩
  | _, .etup, ⟨a, h1, h2⟩ => ⟨a, h1, t.sqT h2⟩
  | _, .fk ks ds, ⟨a, o, vs, h1, h2, h4, h3⟩ => ⟨a, vs, h1, t.rd (fun _ _ z => nomatch z) (.inr ⟨o, h2⟩), h4, RepL.thaw t h3⟩
  | _, .ft ks ds, ⟨a, o, vs, h1, h2, h4, h3⟩ => ⟨a, vs, h1, t.rd (fun _ _ z => nomatch z) (.inr ⟨o, h2⟩), h4, RepL.thaw t h3⟩
theorem RepL.thaw {G G' : Hp} (t : ThTo G G') : ∀ {vs : List V} {ds : List D}, RepL K G vs ds → RepL K G' vs (thawL ds)
  | _, [], h => h
  | _, d :: ds, ⟨x, xs, h1, h2, h3⟩ => ⟨x, xs, h1, Rep.thaw t h2, RepL.thaw t h3⟩
end
/-- a dict's content -/
def isDt : HO → Prop
  | .dK _ => True
  | .dT _ => True
  | _ => False
/-- a heap that differs from G in dicts locked -/
def FzTo (G G' : Hp) : Prop := ∀ a o, G a = some o → G' a = some o ∨ ∃ od, isDt o ∧ G' a = some (.frz od o)
theorem FzTo.no {G G' : Hp} (t : FzTo G G') {a : Addr} {o : HO} (h : G a = some o) (n : ¬ isDt o) : G' a = some o := by
  rcases t a o h with q | ⟨_, q, _⟩
  · exact q
  · exact absurd q n
theorem FzTo.rd {G G' : Hp} (t : FzTo G G') {a : Addr} {u : HO} (h : Rd G a u) : Rd G' a u := by
  rcases h with h | ⟨o, h⟩
  · rcases t a _ h with q | ⟨od, _, q⟩
    · exact .inl q
    · exact .inr ⟨od, q⟩
  · exact .inr ⟨o, t.no h id⟩
theorem FzTo.sqL {G G' : Hp} (t : FzTo G G') {a : Addr} {xs : List V} (h : SqL K G a xs) : SqL K G' a xs := h.elim (fun h => .inl (t.rd h)) .inr
theorem FzTo.sqT {G G' : Hp} (t : FzTo G G') {a : Addr} {xs : List V} (h : SqT K G a xs) : SqT K G' a xs := h.elim (fun h => .inl (t.rd h)) .inr
mutual
theorem Rep.fz {G G' : Hp} (t : FzTo G G') : ∀ {v : V} {d : D}, Rep K G v d → Rep K G' v d
  | _, .non, h => h
  | _, .bl _, h => h
  | _, .int _, h => h
  | _, .str _, h => h
  | _, .lst ds, ⟨a, vs, h1, h2, h3⟩ => ⟨a, vs, h1, t.rd h2, RepL.fz t h3⟩
  | _, .tup ds, ⟨a, vs, h1, h2, h3⟩ => ⟨a, vs, h1, t.no h2 id, RepL.fz t h3⟩
  | _, .dk ks ds, ⟨a, vs, h1, h2, h4, h3⟩ => ⟨a, vs, h1, t.rd h2, h4, RepL.fz t h3⟩
  | _, .dt ks ds, ⟨a, vs, h1, h2, h4, h3⟩ => ⟨a, vs, h1, t.rd h2, h4, RepL.fz t h3⟩
  | _, .ins C fs ds, ⟨a, dx, vs, h1, h2, h4, h3⟩ => ⟨a, dx, vs, h1, t.rd h2, h4, RepL.fz t h3⟩
  | _, .cl _, h => h
  | _, .scr _, ⟨a, h1, h2⟩ => ⟨a, h1, t.sqL h2⟩
  | _, .etup, ⟨a, h1, h2⟩ => ⟨a, h1, t.sqT h2⟩
  | _, .fk ks ds, ⟨a, o, vs, h1, h2, h4, h3⟩ => ⟨a, o, vs, h1, t.no h2 id, h4, RepL.fz t h3⟩
  | _, .ft ks ds, ⟨a, o, vs, h1, h2, h4, h3⟩ => ⟨a, o, vs, h1, t.no h2 id, h4, RepL.fz t h3⟩
theorem RepL.fz {G G' : Hp} (t : FzTo G G') : ∀ {vs : List V} {ds : List D}, RepL K G vs ds → RepL K G' vs ds
  | _, [], h => h
  | _, d :: ds, ⟨x, xs, h1, h2, h3⟩ => ⟨x, xs, h1, Rep.fz t h2, RepL.fz t h3⟩
end
/-- what is asked of a list of addresses so that d may be had locked -/
def Fzs (K : PySem.W.Frag) (G : Hp) (v : V) (d' : D) (l : List Addr) : Prop := (∀ a ∈ l, ∃ u, G a = some u ∧ isDt u) ∧ ∀ G', FzTo G G' → (∀ a ∈ l, ∀ u, G a = some u → ∃ od, G' a = some (.frz od u)) → Rep K G' v d'
def FzsL (K : PySem.W.Frag) (G : Hp) (v : List V) (d' : List D) (l : List Addr) : Prop := (∀ a ∈ l, ∃ u, G a = some u ∧ isDt u) ∧ ∀ G', FzTo G G' → (∀ a ∈ l, ∀ u, G a = some u → ∃ od, G' a = some (.frz od u)) → RepL K G' v d'
mutual
theorem Rep.frz {G : Hp} : ∀ {v : V} {d : D}, Rep K G v d → ∃ l, Fzs K G v (frzD d) l
  | _, .non, h => ⟨[], fun _ z => (List.not_mem_nil z).elim, fun _ _ _ => h⟩
  | _, .bl _, h => ⟨[], fun _ z => (List.not_mem_nil z).elim, fun _ _ _ => h⟩
  | _, .int _, h => ⟨[], fun _ z => (List.not_mem_nil z).elim, fun _ _ _ => h⟩
  | _, .str _, h => ⟨[], fun _ z => (List.not_mem_nil z).elim, fun _ _ _ => h⟩
  | _, .cl _, h => ⟨[], fun _ z => (List.not_mem_nil z).elim, fun _ _ _ => h⟩
  | _, .scr _, h => ⟨[], fun _ z => (List.not_mem_nil z).elim, fun G' t _ => Rep.fz t h⟩
  | _, .etup, h => ⟨[], fun _ z => (List.not_mem_nil z).elim, fun G' t _ => Rep.fz t h⟩
  | _, .fk _ _, h => ⟨[], fun _ z => (List.not_mem_nil z).elim, fun G' t _ => Rep.fz t h⟩
  | _, .ft _ _, h => ⟨[], fun _ z => (List.not_mem_nil z).elim, fun G' t _ => Rep.fz t h⟩
  | _, .lst ds, ⟨a, vs, h1, h2, h3⟩ =>
    let ⟨l, h4, h5⟩ := RepL.frz h3
    ⟨l, h4, fun G' t q => ⟨a, vs, h1, t.rd h2, h5 G' t q⟩⟩
  | _, .tup ds, ⟨a, vs, h1, h2, h3⟩ =>
    let ⟨l, h4, h5⟩ := RepL.frz h3
    ⟨l, h4, fun G' t q => ⟨a, vs, h1, t.no h2 id, h5 G' t q⟩⟩
  | _, .ins C fs ds, ⟨a, dx, vs, h1, h2, h6, h3⟩ =>
    let ⟨l, h4, h5⟩ := RepL.frz h3
    ⟨l, h4, fun G' t q => ⟨a, dx, vs, h1, t.rd h2, h6, h5 G' t q⟩⟩
  | _, .dk ks ds, ⟨a, vs, h1, h2, h6, h3⟩ =>
    let ⟨l, h4, h5⟩ := RepL.frz h3
    match h2 with
    | .inl h2 => ⟨a :: l, fun b hb => (List.mem_cons.mp hb).elim (fun e => ⟨.dK vs, e ▸ h2, trivial⟩) (h4 b), fun G' t q =>
      let ⟨od, z⟩ := q a List.mem_cons_self _ h2
      ⟨a, od, vs, h1, z, h6, h5 G' t fun b hb => q b (List.mem_cons_of_mem _ hb)⟩⟩
    | .inr ⟨o, h2⟩ => ⟨l, h4, fun G' t q => ⟨a, o, vs, h1, t.no h2 id, h6, h5 G' t q⟩⟩
  | _, .dt ks ds, ⟨a, vs, h1, h2, h6, h3⟩ =>
    let ⟨l, h4, h5⟩ := RepL.frz h3
    match h2 with
    | .inl h2 => ⟨a :: l, fun b hb => (List.mem_cons.mp hb).elim (fun e => ⟨.dT vs, e ▸ h2, trivial⟩) (h4 b), fun G' t q =>
      let ⟨od, z⟩ := q a List.mem_cons_self _ h2
      ⟨a, od, vs, h1, z, h6, h5 G' t fun b hb => q b (List.mem_cons_of_mem _ hb)⟩⟩
    | .inr ⟨o, h2⟩ => ⟨l, h4, fun G' t q => ⟨a, o, vs, h1, t.no h2 id, h6, h5 G' t q⟩⟩
theorem RepL.frz {G : Hp} : ∀ {vs : List V} {ds : List D}, RepL K G vs ds → ∃ l, FzsL K G vs (frzL ds) l
  | _, [], h => ⟨[], fun _ z => (List.not_mem_nil z).elim, fun _ _ _ => h⟩
  | _, d :: ds, ⟨x, xs, h1, h2, h3⟩ =>
    let ⟨l, h4, h5⟩ := Rep.frz h2
    let ⟨l', h6, h7⟩ := RepL.frz h3
    ⟨l ++ l', fun b hb => (List.mem_append.mp hb).elim (h4 b) (h6 b), fun G' t q => ⟨x, xs, h1, h5 G' t fun b hb => q b (List.mem_append_left _ hb), h7 G' t fun b hb => q b (List.mem_append_right _ hb)⟩⟩
end

theorem Top.thaw {G G' : Hp} (t : ThTo G G') : ∀ {o : HO} {d : D}, Top K G o d → Top K G' o (thawD d) := by
  intro o d h
  cases o <;> cases d <;> first | exact h.elim | exact RepL.thaw t h | exact ⟨h.1, RepL.thaw t h.2⟩ | exact ⟨h.1, h.2.1, RepL.thaw t h.2.2⟩
theorem Own.fz {G G' H H' : Hp} (t : FzTo G G') : ∀ {k : Nat} {v : V} {as : List Addr} {d : D}, Own K G H k v as d → (∀ p ∈ as, H' p = H p) → Own K G' H' k v as d
  | 0, _, _, _, ⟨h1, h2⟩, _ => ⟨h1, h2.fz t⟩
  | k + 1, _, _, .lst ds, ⟨p, vs, bs, h1, h2, h3, h4⟩, f => by
    subst h3
    exact ⟨p, vs, bs, h1, (f p List.mem_cons_self).trans h2, rfl, h4.imp fun x a d ha q => Own.fz t q fun p hp => f p (List.mem_cons_of_mem _ (ha p hp))⟩
  | k + 1, _, _, .dk ks ds, ⟨p, vs, bs, h1, h2, h5, h3, h4⟩, f => by
    subst h3
    exact ⟨p, vs, bs, h1, (f p List.mem_cons_self).trans h2, h5, rfl, h4.imp fun x a d ha q => Own.fz t q fun p hp => f p (List.mem_cons_of_mem _ (ha p hp))⟩
  | k + 1, _, _, .dt ks ds, ⟨p, vs, bs, h1, h2, h5, h3, h4⟩, f => by
    subst h3
    exact ⟨p, vs, bs, h1, (f p List.mem_cons_self).trans h2, h5, rfl, h4.imp fun x a d ha q => Own.fz t q fun p hp => f p (List.mem_cons_of_mem _ (ha p hp))⟩
  | k + 1, _, _, .ins C fs ds, ⟨p, dx, vs, bs, h1, h2, h5, h3, h4⟩, f => by
    subst h3
    exact ⟨p, dx, vs, bs, h1, (f p List.mem_cons_self).trans h2, h5, rfl, h4.imp fun x a d ha q => Own.fz t q fun p hp => f p (List.mem_cons_of_mem _ (ha p hp))⟩
  | _ + 1, _, _, .non, ⟨h1, h2⟩, _ => ⟨h1, h2.fz t⟩
  | _ + 1, _, _, .bl _, ⟨h1, h2⟩, _ => ⟨h1, h2.fz t⟩
  | _ + 1, _, _, .int _, ⟨h1, h2⟩, _ => ⟨h1, h2.fz t⟩
  | _ + 1, _, _, .str _, ⟨h1, h2⟩, _ => ⟨h1, h2.fz t⟩
  | _ + 1, _, _, .tup _, ⟨h1, h2⟩, _ => ⟨h1, h2.fz t⟩
  | _ + 1, _, _, .cl _, ⟨h1, h2⟩, _ => ⟨h1, h2.fz t⟩
  | _ + 1, _, _, .scr _, ⟨h1, h2⟩, _ => ⟨h1, h2.fz t⟩
  | _ + 1, _, _, .etup, ⟨h1, h2⟩, _ => ⟨h1, h2.fz t⟩
  | _ + 1, _, _, .fk _ _, ⟨h1, h2⟩, _ => ⟨h1, h2.fz t⟩
  | _ + 1, _, _, .ft _ _, ⟨h1, h2⟩, _ => ⟨h1, h2.fz t⟩
end

/-! ### a state, locked and let go again -/
/-- a list without doubles -/
theorem nodup_of (l : List Addr) : ∃ l' : List Addr, l'.Nodup ∧ ∀ a, a ∈ l' ↔ a ∈ l := by
  induction l with
  | nil => exact ⟨[], List.nodup_nil, fun a => Iff.rfl⟩
  | cons b l ih =>
    obtain ⟨l', nd, h⟩ := ih
    by_cases m : b ∈ l'
    · refine ⟨l', nd, fun a => (h a).trans ⟨fun z => List.mem_cons_of_mem _ z, fun z => (List.mem_cons.mp z).elim (fun e => ?_) id⟩⟩
      rw [e]
      exact (h b).mp m
    · refine ⟨b :: l', List.nodup_cons.mpr ⟨m, nd⟩, fun a => ?_⟩
      rw [List.mem_cons, List.mem_cons, h a]
open Classical in
noncomputable def lkB (l : Lks) (H' B : Hp) : Hp := fun a => if a ∈ l.map (·.1) then H' a else B a
section
variable {K : PySem.W.Frag} {B H H' : Hp} {O : Addr → Prop} {L : Lm} {σ : St} {ρ : Env} {l : Lks}
theorem lkB_in {a : Addr} (h : a ∈ l.map (·.1)) : lkB l H' B a = H' a := by
  unfold lkB
  rw [if_pos h]
theorem lkB_out {a : Addr} (h : a ∉ l.map (·.1)) : lkB l H' B a = B a := by
  unfold lkB
  rw [if_neg h]
theorem LkTo.some (k : LkTo l H H') {a : Addr} (h : a ∈ l.map (·.1)) : ∃ od u, (a, u) ∈ l ∧ H' a = some (.frz od u) := by
  obtain ⟨p, hp, rfl⟩ := List.mem_map.mp h
  obtain ⟨od, z⟩ := k.on p hp
  exact ⟨od, p.2, hp, z⟩
theorem lk_fz {P : Addr → Prop} (ok : LkOk l H) (hd : ∀ p ∈ l, isDt p.2) (k : LkTo l H H') : FzTo (hide P H) (hide P H') := fun a o e => by
  obtain ⟨n, e⟩ := hide_some e
  rw [hide_no n]
  by_cases m : a ∈ l.map (·.1)
  · obtain ⟨od, u, hu, z⟩ := k.some m
    have q := (ok.at_ _ hu).1
    rw [e] at q
    cases q
    exact .inr ⟨od, hd _ hu, z⟩
  · exact .inl ((k.off a m).trans e)
theorem th_of {P : Addr → Prop} {H2 : Hp} (nd : (l.map (·.1)).Nodup) (k : LkTo l H H') (e2 : ∀ p ∈ l, H2 p.1 = H' p.1) : ThTo (hide P H2) (hide P (unl l H2)) := fun a o e => by
  obtain ⟨n, e⟩ := hide_some e
  rw [hide_no n]
  by_cases m : a ∈ l.map (·.1)
  · obtain ⟨od, u, hu, z⟩ := k.some m
    rw [e2 _ hu, z] at e
    cases e
    exact .inr ⟨od, u, rfl, unl_in nd hu⟩
  · exact .inl ((unl_out m).trans e)
/-- the state, some dicts locked that are seen -/
theorem SR.lk (S : SR K B O L σ H ρ) (ok : LkOk l H) (hd : ∀ p ∈ l, isDt p.2) (hv : ∀ p ∈ l, ¬ HS O L p.1) (k : LkTo l H H') : SR K (lkB l H' (nb L H)) O L σ H' ρ := by
  have S' := S.rebase
  refine ⟨fun a o e => ?_, fun p hp => ?_, S.len, fun i d h1 h2 => ?_, fun i kk as h => ?_, fun i kk as h => ⟨(S.nodup i kk as h).1, fun p hp => ?_⟩, S.sep, S.one⟩
  · by_cases m : a ∈ l.map (·.1)
    · rw [lkB_in m] at e
      exact e
    · rw [lkB_out m] at e
      exact (k.off a m).trans (S'.same a o e)
  · by_cases m : p ∈ l.map (·.1)
    · rw [lkB_in m]
      obtain ⟨od, u, _, z⟩ := k.some m
      rw [z]
      exact fun y => by cases y
    · rw [lkB_out m]
      exact S'.dom p hp
  · obtain ⟨v, h3, h4⟩ := S.vars i d h1 h2
    exact ⟨v, h3, h4.fz (lk_fz ok hd k)⟩
  · obtain ⟨v, d, h1, h2, h3⟩ := S.owns i kk as h
    have keep : ∀ p ∈ as, H' p = H p := fun p hp => k.off p fun m => by
      obtain ⟨q, hq, e⟩ := List.mem_map.mp m
      exact hv q hq (.inr ⟨i, kk, as, h, by rw [e]; exact hp⟩)
    exact ⟨v, d, h1, h2, h3.fz (lk_fz ok hd k) keep⟩
  · have m : p ∉ l.map (·.1) := fun m => by
      obtain ⟨q, hq, e⟩ := List.mem_map.mp m
      exact hv q hq (.inr ⟨i, kk, as, h, by rw [e]; exact hp⟩)
    rw [lkB_out m]
    exact hide_yes ⟨i, kk, as, h, hp⟩
theorem SR.lk_same (S : SR K B O L σ H ρ) (ok : LkOk l H) (hv : ∀ p ∈ l, ¬ HS O L p.1) (k : LkTo l H H') {H2 : Hp} (e : Same (lkB l H' (nb L H)) H2) : Same (nb L H) (unl l H2) ∧ ∀ p ∈ l, H2 p.1 = H' p.1 := by
  have at2 : ∀ p ∈ l, H2 p.1 = H' p.1 := fun p hp => by
    have m : p.1 ∈ l.map (·.1) := List.mem_map_of_mem (f := fun q => q.1) hp
    obtain ⟨od, u, _, z⟩ := k.some m
    rw [z]
    exact e p.1 _ ((lkB_in m).trans z)
  refine ⟨fun a o z => ?_, at2⟩
  by_cases m : a ∈ l.map (·.1)
  · obtain ⟨od, u, hu, _⟩ := k.some m
    rw [unl_in ok.nd hu]
    have q := (ok.at_ _ hu).1
    rw [(hide_some z).2] at q
    exact q.symm
  · rw [unl_out m]
    exact e a o ((lkB_out m).trans z)
/-- .. and let go -/
theorem SR.unlk (S : SR K B O L σ H ρ) (ok : LkOk l H) (hv : ∀ p ∈ l, ¬ HS O L p.1) (k : LkTo l H H') {L2 : Lm} {σ2 : St} {H2 : Hp} {ρ2 : Env} (T : SR K (lkB l H' (nb L H)) O L2 σ2 H2 ρ2)
    (one : ∀ i kk as, L2 i = some (kk, as) → kk = 1 ∧ ∀ d, ρ2[i]? = some (some d) → isTop d = true) : SR K B O L2 σ2 (unl l H2) (ρ2.map (Option.map thawD)) := by
  obtain ⟨e1, e2⟩ := S.lk_same ok hv k T.same
  have th : ∀ P, ThTo (hide P H2) (hide P (unl l H2)) := fun P => th_of ok.nd k e2
  have off : ∀ p, lkB l H' (nb L H) p = none → p ∉ l.map (·.1) := fun p z m => by
    rw [lkB_in m] at z
    obtain ⟨od, u, _, y⟩ := k.some m
    rw [y] at z
    cases z
  have back : ∀ {i : Nat} {d : D}, (ρ2.map (Option.map thawD))[i]? = some (some d) → ∃ d', ρ2[i]? = some (some d') ∧ d = thawD d' := fun {i d} h => by
    rw [List.getElem?_map] at h
    cases z : ρ2[i]? with
    | none => rw [z] at h; cases h
    | some x =>
      rw [z] at h
      cases x with
      | none => cases h
      | some d' => cases h; exact ⟨d', rfl, rfl⟩
  refine ⟨S.nbSame.trans e1, S.dom, by rw [List.length_map]; exact T.len, fun i d h1 h2 => ?_, fun i kk as h => ?_, fun i kk as h => ⟨(T.nodup i kk as h).1, fun p hp => ?_⟩, T.sep, fun i kk as d h _ _ => (one i kk as h).1⟩
  · obtain ⟨d', h3, rfl⟩ := back h2
    obtain ⟨v, h4, h5⟩ := T.vars i d' h1 h3
    exact ⟨v, h4, h5.thaw (th _)⟩
  · obtain ⟨v, d, h1, h2, h3⟩ := T.owns i kk as h
    obtain ⟨rfl, ht⟩ := one i kk as h
    obtain ⟨p, o, rfl, rfl, hp, t⟩ := top_own h3 (ht d h2)
    refine ⟨_, thawD d, h1, by rw [List.getElem?_map, h2]; rfl, own_top ?_ (t.thaw (th _))⟩
    rw [unl_out (off p ((T.nodup i 1 [p] h).2 p List.mem_cons_self))]
    exact hp
  · have z := (T.nodup i kk as h).2 p hp
    have m := off p z
    rw [lkB_out m] at z
    exact S.nbSame.free z
/-- a slot's data are told otherwise -/
theorem SR.redata (S : SR K B O L σ H ρ) {i : Nat} {v : V} {d : D} (hL : L i = none) (hs : σ[i]? = some (some v)) (r : Rep K (hide (HS O L) H) v d) : SR K B O L σ H (ρ.set i (some d)) := by
  have hi : i < ρ.length := by
    rw [← S.len]
    exact (List.getElem?_eq_some_iff.mp hs).1
  refine ⟨S.same, S.dom, by rw [List.length_set, S.len], fun j e h1 h2 => ?_, fun j k as h => ?_, S.nodup, S.sep, fun j k as e h h2 => S.one j k as e h (by
    have n : i ≠ j := fun q => by
      subst q
      rw [hL] at h
      cases h
    rw [List.getElem?_set_ne n] at h2
    exact h2)⟩
  · by_cases q : i = j
    · subst q
      rw [List.getElem?_set_self hi] at h2
      cases h2
      exact ⟨v, hs, r⟩
    · rw [List.getElem?_set_ne q] at h2
      exact S.vars j e h1 h2
  · have n : i ≠ j := fun q => by
      subst q
      rw [hL] at h
      cases h
    rw [List.getElem?_set_ne n]
    exact S.owns j k as h
/-- the locks that a slot's dicts want -/
theorem SR.lkSlot (S : SR K B O L σ H ρ) {i : Nat} {d : D} (hL : L i = none) (h : ρ[i]? = some (some d)) : ∃ l : Lks, LkOk l H ∧ (∀ p ∈ l, isDt p.2) ∧ (∀ p ∈ l, ¬ HS O L p.1) ∧ ∀ H', LkTo l H H' → SR K (lkB l H' (nb L H)) O L σ H' (ρ.set i (some (frzD d))) := by
  obtain ⟨v, hs, r⟩ := S.vars i d hL h
  obtain ⟨l0, h1, h2⟩ := r.frz
  obtain ⟨l1, nd, m1⟩ := nodup_of l0
  have hq : ∀ a ∈ l1, ∃ u, ¬ HS O L a ∧ H a = some u ∧ isDt u := fun a ha => by
    obtain ⟨u, z, hu⟩ := h1 a ((m1 a).mp ha)
    obtain ⟨n, z⟩ := hide_some z
    exact ⟨u, n, z, hu⟩
  let f : Addr → Addr × HO := fun a => (a, (H a).getD (.tup []))
  have mf : (l1.map f).map (·.1) = l1 := by
    rw [List.map_map]
    exact List.map_id l1
  have inv : ∀ p ∈ l1.map f, p.1 ∈ l1 ∧ ¬ HS O L p.1 ∧ H p.1 = some p.2 ∧ isDt p.2 := fun p hp => by
    obtain ⟨a, ha, rfl⟩ := List.mem_map.mp hp
    obtain ⟨u, n, z, hu⟩ := hq a ha
    have e : (f a).2 = u := by
      show (H a).getD _ = u
      rw [z]
      rfl
    exact ⟨ha, n, by rw [e]; exact z, by rw [e]; exact hu⟩
  have ok : LkOk (l1.map f) H := ⟨by rw [mf]; exact nd, fun p hp => ⟨(inv p hp).2.2.1, by
    have q := (inv p hp).2.2.2
    cases z : p.2 <;> rw [z] at q <;> first | exact q.elim | trivial⟩⟩
  have hd : ∀ p ∈ l1.map f, isDt p.2 := fun p hp => (inv p hp).2.2.2
  have hv : ∀ p ∈ l1.map f, ¬ HS O L p.1 := fun p hp => (inv p hp).2.1
  refine ⟨l1.map f, ok, hd, hv, fun H' k => (S.lk ok hd hv k).redata hL hs (h2 _ (lk_fz ok hd k) fun a ha u hu => ?_)⟩
  have ha1 : a ∈ l1 := (m1 a).mpr ha
  obtain ⟨n, hu⟩ := hide_some hu
  rw [hide_no n]
  obtain ⟨od, z⟩ := k.on (f a) (List.mem_map_of_mem (f := f) ha1)
  have e : (f a).2 = u := by
    show (H a).getD _ = u
    rw [hu]
    rfl
  rw [e] at z
  exact ⟨od, z⟩
end
/-! ### the rules -/
def thawO (ow : Ow) (o : Out) : Out :=
  match o with
  | .nx ρ => if ow.all (fun p => p.2 == 1 && (match ρ[p.1]? with | some (some d) => isTop d | _ => false)) then .nx (ρ.map (Option.map thawD)) else .stuck
  | .rt d => .rt (thawD d)
  | _ => .stuck
def fLkS (i : Nat) (ow : Ow) (f : Env → Out) : Env → Out := fun ρ =>
  match ρ[i]? with
  | some (some d) => thawO ow (f (ρ.set i (some (frzD d))))
  | _ => .stuck
section
variable {X : Cx} {W : WX} {ow ow' ow0 owl : Ow} {st : Stmt} {f : Env → Out} {e : Expr} {es : List Nat} {fe : Env → R D}
/-- only these slots are owned -/
theorem SR.only {K : PySem.W.Frag} {B H : Hp} {O : Addr → Prop} {L : Lm} {σ : St} {ρ : Env} (S : SR K B O L σ H ρ) (ow : Ow) (w : OwOk ow L) : ∃ L', SR K B O L' σ H ρ ∧ OwOk ow L' ∧ ∀ i x, L' i = some x → ∃ p ∈ ow, p.1 = i ∧ p.2 = x.1 := by
  let es := (List.range ρ.length).filter fun i => !(ow.any fun p => p.1 == i)
  refine ⟨dropL es L, S.drop es, fun p hp => ?_, fun i x h => ?_⟩
  · obtain ⟨as, h⟩ := w p hp
    refine ⟨as, ?_⟩
    rw [dropL_no]
    · exact h
    · intro z
      have q := (List.mem_filter.mp z).2
      have : (ow.any fun q => q.1 == p.1) = true := List.any_eq_true.mpr ⟨p, hp, by simp⟩
      rw [this] at q
      cases q
  · obtain ⟨n, h⟩ := dropL_some h
    obtain ⟨k, as⟩ := x
    obtain ⟨v, d, h1, h2, _⟩ := S.owns i k as h
    have hi : i < ρ.length := (List.getElem?_eq_some_iff.mp h2).1
    have q : (ow.any fun p => p.1 == i) = true := by
      cases z : (ow.any fun p => p.1 == i) with
      | true => rfl
      | false => exact absurd (List.mem_filter.mpr ⟨List.mem_range.mpr hi, by rw [z]; rfl⟩) n
    obtain ⟨p, hp, e⟩ := List.any_eq_true.mp q
    have e : p.1 = i := by simpa using e
    obtain ⟨as', h'⟩ := w p hp
    rw [e, h] at h'
    cases h'
    exact ⟨p, hp, e, rfl⟩
theorem pds_lk (i : Nat) (h : PDS X W ow0 ow' owl st f) (ho : ∀ p ∈ ow0, p ∈ ow ∧ p.1 ∉ [i] := by decide) : PDS X W ow ow' owl st (fLkS i ow' f) := PS.imp (ps_lk h) fun D σ H ⟨B, O, L, ρ, S, w, P⟩ => by
  unfold fLkS at P
  split at P
  case h_2 => exact P.elim
  rename_i d hd
  have S1 := S.drop [i]
  obtain ⟨l, ok, hdt, hv, hl⟩ := S1.lkSlot (dropL_yes List.mem_cons_self) hd
  refine ⟨l, ok, fun H' k => ⟨_, O, _, _, hl H' k, w.drop ho, ?_⟩⟩
  generalize f (ρ.set i (some (frzD d))) = r at P
  cases r with
  | nx ρ2 =>
    intro σ2 H2 L2 S2 w2
    obtain ⟨L3, S3, w3, only⟩ := S2.only ow' w2
    refine ⟨(S1.lk_same ok hv k S3.same).2, ?_⟩
    have P : PostS X.K B O W ow' owl (if ow'.all (fun p => p.2 == 1 && (match ρ2[p.1]? with | some (some d) => isTop d | _ => false)) then .nx (ρ2.map (Option.map thawD)) else .stuck) D := P
    split at P
    case isFalse => exact P.elim
    rename_i hall
    refine P σ2 _ L3 (S1.unlk ok hv k S3 fun j kk as hj => ?_) w3
    obtain ⟨p, hp, e1, e2⟩ := only j _ hj
    have q := List.all_eq_true.mp hall p hp
    rw [Bool.and_eq_true] at q
    have q1 : p.2 = 1 := by simpa using q.1
    refine ⟨e2.symm.trans q1, fun d' hd' => ?_⟩
    have q2 := q.2
    rw [e1, hd'] at q2
    exact q2
  | rt d2 =>
    intro v H2 e r
    have P : PostS X.K B O W ow' owl (.rt (thawD d2)) D := P
    obtain ⟨e1, e2⟩ := S1.lk_same ok hv k e
    exact ⟨e2, P v _ (S1.nbSame.trans e1) (r.thaw (th_of ok.nd k e2))⟩
  | bk ρ2 => exact P.elim
  | ct ρ2 => exact P.elim
  | exc x ρ2 => exact P.elim
  | stuck => exact P.elim
def thawR (r : R D) : R D :=
  match r with
  | .ok d => .ok (thawD d)
  | _ => .stuck
def fLkE (i : Nat) (fe : Env → R D) : Env → R D := fun ρ =>
  match ρ[i]? with
  | some (some d) => thawR (fe (ρ.set i (some (frzD d))))
  | _ => .stuck
theorem pdf_lk (i : Nat) (h : PDF X W e es fe) : PDF X W e (es ++ [i]) (fLkE i fe) := PE.imp (pe_lk h) fun σ H Q ⟨B, O, L, ρ, S, P⟩ => by
  unfold fLkE at P
  split at P
  case h_2 => exact P.elim
  rename_i d hd
  have S1 := S.drop [i]
  obtain ⟨l, ok, hdt, hv, hl⟩ := S1.lkSlot (dropL_yes List.mem_cons_self) hd
  refine ⟨l, ok, fun H' k => ⟨_, O, _, _, hl H' k, ?_⟩⟩
  generalize fe (ρ.set i (some (frzD d))) = r at P
  rw [dropL_dropL]
  cases r with
  | ok d2 =>
    have P : ∀ p o H2, H p = none → Same H H2 → H2 p = some o → Top X.K (hide (fun a => HS O (dropL (es ++ [i]) L) a ∨ a = p) H2) o (thawD d2) → Q (.ref p) H2 := P
    intro p o H2 hp e2 ho t
    have np : p ∉ l.map (·.1) := fun m => by
      obtain ⟨od, u, _, z⟩ := k.some m
      rw [hp] at z
      cases z
    have at2 : ∀ q ∈ l, H2 q.1 = H' q.1 := fun q hq => by
      obtain ⟨od, z⟩ := k.on q hq
      rw [z]
      exact e2 q.1 _ z
    refine ⟨at2, P p o _ ((k.off p np).symm.trans hp) (fun a u z => ?_) (by rw [unl_out np]; exact ho) (t.thaw (th_of ok.nd k at2))⟩
    by_cases m : a ∈ l.map (·.1)
    · obtain ⟨od, u', hu, _⟩ := k.some m
      rw [unl_in ok.nd hu]
      have q := (ok.at_ _ hu).1
      rw [z] at q
      exact q.symm
    · rw [unl_out m]
      exact e2 a u ((k.off a m).trans z)
  | exc x => exact P.elim
  | stuck => exact P.elim
/-! the keys of a locked dict -/
def keyD : Key → D
  | .inl i => .int i
  | .inr x => .str x.cps.toList
def okK : Key → Bool
  | .inl _ => true
  | .inr x => x.cps.toList.all fun c => decide (c < 0x110000)
def gKeys : D → Option (List D)
  | .fk ks _ => if ks.all okK then some (ks.map keyD) else none
  | _ => none
def fKeys (fe : Env → R D) : Env → R (List D) := fun ρ => (fe ρ).bind fun d => R.ofO (gKeys d)
theorem keyD_rep {K : PySem.W.Frag} {G : Hp} {k : Key} (h : okK k = true) : Rep K G (kV k) (keyD k) := by
  cases k with
  | inl i => rfl
  | inr x => exact ⟨by show V.str x = V.str (mkS x.cps.toList); unfold mkS; rfl, fun c hc => of_decide_eq_true (List.all_eq_true.mp h c hc)⟩
theorem pdi_keys {tg : Expr} (h : PD X W e es fe) : PDI X W tg e es (fKeys fe) := PI.imp (pi_keys h) fun σ H Q ⟨B, O, L, ρ, S, P⟩ => ⟨B, O, L, ρ, S, PostG.bind P fun d v H1 e1 r P1 => by
  obtain ⟨ds, hd, k⟩ := P1.ofO
  unfold gKeys at hd
  split at hd
  case h_2 => cases hd
  rename_i ks vs
  split at hd
  case isFalse => cases hd
  rename_i hok
  cases hd
  obtain ⟨a, o, us, ev, h1, h2, h3⟩ := r
  subst ev h2
  refine ⟨a, o, rfl, .inl ⟨us, (hide_some h1).2, k _ H1 (Same.refl H1) fun i H2 O2 le dom => ?_⟩⟩
  have h4 : H2 a = some (.frz o (.dK us)) := (hide_some (le.key a _ h1)).2
  refine ⟨fun d hd => ⟨⟨h4, ?_⟩, fun x H3 y => ?_⟩, fun hl => ⟨h4, by rw [List.length_map, List.length_map] at hl; exact hl⟩⟩
  · have := (List.getElem?_eq_some_iff.mp hd).1
    rw [List.length_map, List.length_map] at this
    exact this
  · obtain ⟨rfl, kk, vv, z, rfl⟩ := y
    rw [List.getElem?_map, List.getElem?_map, z] at hd
    cases hd
    have m : kk ∈ us.map (·.1) := List.mem_map.mpr ⟨_, List.mem_of_getElem? z, rfl⟩
    exact ⟨Same.refl _, keyD_rep (List.all_eq_true.mp hok kk m)⟩⟩
end
end DL
set_option Elab.async false
set_option linter.all false
set_option maxRecDepth 100000
namespace DL
open PySem L2

/-! ### two clauses -/
def compL2 (ft : D → Env → Option Env) (tt : Env → R Bool) (fi2 : Env → R (List D)) (vs2 : List Nat) (ft2 : D → Env → Option Env) (tt2 : Env → R Bool) (fe : Env → R D) (ρ : Env) : List D → Option (List D)
  | [] => some []
  | d :: ds => (ft d ρ).bind fun ρ1 => (tt ρ1).toO.bind fun b => if b = true then (fi2 ρ1).toO.bind fun ds2 => (compL ft2 tt2 fe (wipeE ρ1 vs2) ds2).bind fun ys => (compL2 ft tt fi2 vs2 ft2 tt2 fe ρ ds).bind fun zs => some (ys ++ zs)
    else compL2 ft tt fi2 vs2 ft2 tt2 fe ρ ds
def fLc2 (fi : Env → R (List D)) (ft : D → Env → Option Env) (tt : Env → R Bool) (fi2 : Env → R (List D)) (vs2 : List Nat) (ft2 : D → Env → Option Env) (tt2 : Env → R Bool) (fe : Env → R D) (vs : List Nat) : Env → R D := fun ρ =>
  (fi ρ).bind fun ds => (R.ofO (compL2 ft tt fi2 vs2 ft2 tt2 fe (wipeE ρ vs) ds)).bind fun ys => lenOk ys (.ok (.lst ys))
section
variable {K : PySem.W.Frag} {B0 H H' : Hp} {O : Addr → Prop} {L : Lm} {σ : St} {ρ : Env}
theorem SR.reDl {Dl : Addr} {o o' : HO} (S : SR K (upd B0 Dl o) O L σ H ρ) (hO : O Dl) (k : ∀ a u, a ≠ Dl → H a = some u → H' a = some u) (h : H' Dl = some o') : SR K (upd B0 Dl o') O L σ H' ρ := by
  have le : RdLe (hide (HS O L) H) (hide (HS O L) H') := RdLe.ofKey fun a u z => by
    obtain ⟨n, z⟩ := hide_some z
    rw [hide_no n]
    exact k a u (fun e => n (by rw [e]; exact .inl hO)) z
  have ne : ∀ i kk as, L i = some (kk, as) → ∀ p ∈ as, p ≠ Dl := fun i kk as h p hp e => by
    have q := (S.nodup i kk as h).2 p hp
    rw [e, upd_same] at q
    cases q
  refine ⟨fun a u z => ?_, fun p hp => ?_, S.len, fun i d h1 h2 => ?_, fun i kk as h => ?_, fun i kk as h => ⟨(S.nodup i kk as h).1, fun p hp => ?_⟩, S.sep, S.one⟩
  · by_cases q : a = Dl
    · subst q
      rw [upd_same] at z
      cases z
      exact h
    · rw [upd_ne q] at z
      exact k a u q (S.same a u (by rw [upd_ne q]; exact z))
  · by_cases q : p = Dl
    · subst q
      rw [upd_same]
      exact fun z => by cases z
    · have z := S.dom p hp
      rw [upd_ne q] at z ⊢
      exact z
  · obtain ⟨v, h3, h4⟩ := S.vars i d h1 h2
    exact ⟨v, h3, h4.mono le⟩
  · obtain ⟨v, d, h1, h2, h3⟩ := S.owns i kk as h
    refine ⟨v, d, h1, h2, h3.mono le fun p hp => ?_⟩
    cases q : H p with
    | none => exact absurd q (h3.dom p hp)
    | some u => exact k p u (ne i kk as h p hp) q
  · have q := ne i kk as h p hp
    have z := (S.nodup i kk as h).2 p hp
    rw [upd_ne q] at z ⊢
    exact z
end
section
variable {K : PySem.W.Frag} {W : WX} {es e2 ee vs vs2 ts ts2 : List Nat} {fi fi2 : Env → R (List D)} {g g2 : TG} {ft ft2 : D → Env → Option Env} {tt tt2 : Env → R Bool} {fe : Env → R D}
theorem tDF_lc2 (ht : TgD K g ts ft) (ht2 : TgD K g2 ts2 ft2) (hts : ∀ t ∈ ts, t ∈ vs) (hts2 : ∀ t ∈ ts2, t ∈ vs2) (hvs : ∀ t ∈ vs2, t ∈ vs) : ∀ σ H Q, tDF K W (es ++ (e2 ++ (ee ++ vs))) (fLc2 fi ft tt fi2 vs2 ft2 tt2 fe vs) σ H Q →
    tLc2 (tDI K W es fi) g (tDT K W0 tt) (tDI K W0 e2 fi2) g2 (tDT K W0 tt2) (tD K W0 ee fe) vs vs2 σ H Q := by
  intro σ H Q ⟨B, O, L, ρ, S, P⟩
  refine ⟨B, O, L, ρ, S, PostF.bind P fun ds J H1 e hJ fr P1 => ?_⟩
  intro Dl hD
  obtain ⟨ya, hya, P2⟩ := P1.ofO
  have hJ : JD K (hide (HS O (dropL es L)) H1) J ds := hJ
  unfold lenOk at P2
  split at P2
  case isFalse => exact P2.elim
  rename_i hz
  generalize hEe : es ++ (e2 ++ (ee ++ vs)) = E at P2
  have inE : ∀ i, (i ∈ es ∨ i ∈ e2 ∨ i ∈ ee ∨ i ∈ vs) → i ∈ E := fun i h => by
    rw [← hEe]
    rcases h with h | h | h | h
    · exact List.mem_append_left _ h
    · exact List.mem_append_right _ (List.mem_append_left _ h)
    · exact List.mem_append_right _ (List.mem_append_right _ (List.mem_append_left _ h))
    · exact List.mem_append_right _ (List.mem_append_right _ (List.mem_append_right _ h))
  have P2 : ∀ p o H', H1 p = none → Same H1 H' → H' p = some o → Top K (hide (fun a => HS O (dropL E L) a ∨ a = p) H') o (.lst ya) → Q (.ref p) H' := P2
  have S1 : SR K B O (dropL E L) σ H1 ρ := (S.ext e).drop _
  generalize hL2 : dropL E L = L2 at P2 S1
  have hn : ∀ v ∈ vs, L2 v = none := fun v hv => by
    rw [← hL2]
    exact dropL_yes (inE v (.inr (.inr (.inr hv))))
  have hsub : ∀ {es' : List Nat}, (∀ i ∈ es', i ∈ E) → dropL es' L2 = L2 := fun {es'} hs => by
    funext i
    by_cases m : i ∈ es'
    · rw [dropL_yes m, ← hL2, dropL_yes (hs i m)]
    · exact dropL_no m
  have lift : ∀ {H4 : Hp} {us ys : List V}, RdLe (hide (fun a => HS O L2 a ∨ a = Dl) H4) (hide (fun a => HS O L2 a ∨ a = Dl) (upd H4 Dl (.lst us))) := fun {H4 us ys} => hide_mono (fun _ z => z) fun a u n z => by
    rw [upd_ne fun y => n (.inr y)]
    exact z
  refine ⟨fun i m H => m = ds.length - i ∧ i ≤ ds.length ∧ Same H1 H ∧ ∃ us acc rest, H Dl = some (.lst us) ∧ RepL K (hide (fun a => HS O L2 a ∨ a = Dl) H) us acc ∧ compL2 ft tt fi2 vs2 ft2 tt2 fe (wipeE ρ vs) (ds.drop i) = some rest ∧ ya = acc ++ rest,
    ⟨ds.length, by simp, Nat.zero_le _, same_new hD, [], [], ya, upd_same, rfl, hya, rfl⟩, ?_⟩
  rintro i m H ⟨rfl, hi, sH, us, acc, rest, hDl, hr, hc, hy⟩
  have ST := ((S1.inComp hD sH hDl).wipe1 vs hn)
  obtain ⟨j1, j2⟩ := hJ i H (HS (fun a => O a ∨ a = Dl) L2) (by
    have key : ∀ a u, hide (HS O (dropL es L)) H1 a = some u → hide (HS (fun a => O a ∨ a = Dl) L2) H a = some u := fun a u z => by
      obtain ⟨n, z⟩ := hide_some z
      rw [hide_no]
      · exact sH a u z
      · rintro ((y | y) | ⟨j, k, as, y, q⟩)
        · exact n (.inl y)
        · exact ne_of_none z hD y
        · rw [← hL2] at y
          obtain ⟨y1, y2⟩ := dropL_some y
          exact n (.inr ⟨j, k, as, by rw [dropL_no fun w => y1 (inE j (.inl w))]; exact y2, q⟩)
    exact RdLe.ofKey key) ST.hdom
  by_cases hlt : i < ds.length
  · obtain ⟨d, hd⟩ : ∃ d, ds[i]? = some d := ⟨ds[i], List.getElem?_eq_getElem hlt⟩
    obtain ⟨g1, gy⟩ := j1 d hd
    have hdr : ds.drop i = d :: ds.drop (i + 1) := by
      rw [List.drop_eq_getElem_cons hlt]
      rw [List.getElem?_eq_getElem hlt] at hd
      cases hd
      rfl
    rw [hdr] at hc
    unfold compL2 at hc
    obtain ⟨ρ1, h1, hc⟩ := Option.bind_eq_some_iff.mp hc
    obtain ⟨b, h2, hc⟩ := Option.bind_eq_some_iff.mp hc
    refine .inr ⟨g1, fun H => Same H1 H ∧ ∃ us acc rest, H Dl = some (.lst us) ∧ RepL K (hide (fun a => HS O L2 a ∨ a = Dl) H) us acc ∧ compL2 ft tt fi2 vs2 ft2 tt2 fe (wipeE ρ vs) (ds.drop (i + 1)) = some rest ∧ ya = acc ++ rest, fun H2 q => ⟨ds.length - (i + 1), by omega, rfl, hlt, q⟩, fun x H2 y => ?_⟩
    obtain ⟨ee2, r2⟩ := gy x H2 y
    refine ht _ _ L2 (wipe σ vs) H2 (wipeE ρ vs) ρ1 x d _ (ST.ext ee2) r2 h1 fun σ3 S3 wp => ⟨(wp vs hts).trans wipe_wipe, ?_⟩
    rw [hsub fun t h => inE t (.inr (.inr (.inr (hts t h))))] at S3
    refine ⟨_, _, _, ρ1, S3, PostG.toO h2 fun b' H3 e3 hb => ?_⟩
    obtain rfl : b' = b := hb
    cases b' with
    | false =>
      rw [if_neg Bool.false_ne_true] at hc ⊢
      refine ⟨sH.trans (ee2.trans e3), us, acc, rest, (S3.ext e3).same Dl _ upd_same, ?_, hc, hy⟩
      exact hr.mono (hide_same (fun _ z => z) (ee2.trans e3))
    | true =>
      rw [if_pos rfl] at hc ⊢
      obtain ⟨ds2, h3, hc⟩ := Option.bind_eq_some_iff.mp hc
      obtain ⟨ys, h4, hc⟩ := Option.bind_eq_some_iff.mp hc
      obtain ⟨zs, h5, hc⟩ := Option.bind_eq_some_iff.mp hc
      cases hc
      refine ⟨_, _, _, ρ1, S3.ext e3, PostG.toO h3 fun J1 H4 e4 hJ1 => ?_⟩
      have hJ1 : JD K (hide (HS (fun a => O a ∨ a = Dl) (dropL e2 L2)) H4) J1 ds2 := hJ1
      rw [hsub fun t h => inE t (.inr (.inl h))] at hJ1
      have S4 := (S3.ext e3).ext e4
      have hD4 : H4 Dl = some (.lst us) := S4.same Dl _ upd_same
      have sH4 : Same H1 H4 := sH.trans (ee2.trans (e3.trans e4))
      have hr4 : RepL K (hide (fun a => HS O L2 a ∨ a = Dl) H4) us acc := hr.mono (hide_same (fun _ z => z) (ee2.trans (e3.trans e4)))
      refine ⟨fun j k H => k = ds2.length - j ∧ j ≤ ds2.length ∧ (∀ a u, a ≠ Dl → H4 a = some u → H a = some u) ∧ ∃ us acc r, H Dl = some (.lst us) ∧ RepL K (hide (fun a => HS O L2 a ∨ a = Dl) H) us acc ∧ compL ft2 tt2 fe (wipeE ρ1 vs2) (ds2.drop j) = some r ∧ ya = acc ++ (r ++ zs),
        ⟨ds2.length, by simp, Nat.zero_le _, fun _ _ _ z => z, us, acc, ys, hD4, hr4, h4, hy⟩, ?_⟩
      rintro j k H5 ⟨rfl, hj, k5, us5, acc5, r5, hD5, hr5, hc5, hy5⟩
      have s15 : Same H1 H5 := fun a u z => k5 a u (ne_of_none z hD) (sH4 a u z)
      have S5 := (S4.reDl (.inr rfl) k5 hD5).wipe1 vs2 fun v hv => hn v (hvs v hv)
      obtain ⟨l1, l2⟩ := hJ1 j H5 (HS (fun a => O a ∨ a = Dl) L2) (RdLe.ofKey fun a u z => by
        obtain ⟨n, z⟩ := hide_some z
        rw [hide_no n]
        exact k5 a u (fun w => n (by rw [w]; exact .inl (.inr rfl))) z) S5.hdom
      by_cases hlt2 : j < ds2.length
      · obtain ⟨d2, hd2⟩ : ∃ d, ds2[j]? = some d := ⟨ds2[j], List.getElem?_eq_getElem hlt2⟩
        obtain ⟨go2, gy2⟩ := l1 d2 hd2
        have hdr2 : ds2.drop j = d2 :: ds2.drop (j + 1) := by
          rw [List.drop_eq_getElem_cons hlt2]
          rw [List.getElem?_eq_getElem hlt2] at hd2
          cases hd2
          rfl
        rw [hdr2] at hc5
        unfold compL at hc5
        obtain ⟨ρ6, h6, hc5⟩ := Option.bind_eq_some_iff.mp hc5
        obtain ⟨b6, h7, hc5⟩ := Option.bind_eq_some_iff.mp hc5
        refine .inr ⟨go2, fun H => (∀ a u, a ≠ Dl → H4 a = some u → H a = some u) ∧ ∃ us acc r, H Dl = some (.lst us) ∧ RepL K (hide (fun a => HS O L2 a ∨ a = Dl) H) us acc ∧ compL ft2 tt2 fe (wipeE ρ1 vs2) (ds2.drop (j + 1)) = some r ∧ ya = acc ++ (r ++ zs), fun H' q => ⟨ds2.length - (j + 1), by omega, rfl, hlt2, q⟩, fun x6 H6 y6 => ?_⟩
        obtain ⟨e6, r6⟩ := gy2 x6 H6 y6
        refine ht2 _ _ L2 (wipe σ3 vs2) H6 (wipeE ρ1 vs2) ρ6 x6 d2 _ (S5.ext e6) r6 h6 fun σ7 S7 wp7 => ⟨(wp7 vs2 hts2).trans wipe_wipe, ?_⟩
        rw [hsub fun t h => inE t (.inr (.inr (.inr (hvs t (hts2 t h)))))] at S7
        refine ⟨_, _, _, ρ6, S7, PostG.toO h7 fun b7 H7 e7 hb7 => ?_⟩
        obtain rfl : b7 = b6 := hb7
        have k7 : ∀ {H8 : Hp}, Same H6 H8 → ∀ a u, a ≠ Dl → H4 a = some u → H8 a = some u := fun e8 a u ne z => e8 a u (e6 a u (k5 a u ne z))
        cases b7 with
        | false =>
          rw [if_neg Bool.false_ne_true] at hc5 ⊢
          exact ⟨k7 e7, us5, acc5, r5, (S7.ext e7).same Dl _ upd_same, hr5.mono (hide_same (fun _ z => z) (e6.trans e7)), hc5, hy5⟩
        | true =>
          rw [if_pos rfl] at hc5 ⊢
          obtain ⟨yd, h8, hc5⟩ := Option.bind_eq_some_iff.mp hc5
          obtain ⟨yr, h9, hc5⟩ := Option.bind_eq_some_iff.mp hc5
          cases hc5
          refine ⟨_, _, _, ρ6, S7.ext e7, PostG.toO h8 fun yv H8 e8 ry => ?_⟩
          have hD8 : H8 Dl = some (.lst us5) := (S7.ext (e7.trans e8)).same Dl _ upd_same
          have hl := hr5.length
          have hz' : acc5.length + (yr.length + 1) ≤ sizeLine := by
            have q := hz
            rw [hy5, List.length_append, List.length_append, List.length_cons] at q
            omega
          refine ⟨us5, hD8, by omega, fun a u ne z => ?_, us5 ++ [yv], acc5 ++ [yd], yr, upd_same, ?_, h9, by rw [hy5, List.append_assoc]; rfl⟩
          · rw [upd_ne ne]
            exact k7 (e7.trans e8) a u ne z
          · refine RepL.append ((hr5.mono (hide_same (fun _ z => z) (e6.trans (e7.trans e8)))).mono (lift (ys := []))) (.one (Rep.mono ?_ ry))
            refine RdLe.trans (hide_same (fun a z => ?_) (Same.refl H8)) (lift (ys := []))
            rw [hsub fun t h => inE t (.inr (.inr (.inl h)))]
            rcases z with (z | z) | z
            · exact .inl (.inl z)
            · exact .inr z
            · exact .inl (.inr z)
      · have hj2 : j = ds2.length := by omega
        subst hj2
        rw [List.drop_length] at hc5
        cases hc5
        exact .inl ⟨l2 (Nat.le_refl _), s15, us5, acc5, zs, hD5, hr5, h5, hy5⟩
  · have hi2 : i = ds.length := by omega
    subst hi2
    rw [List.drop_length] at hc
    cases hc
    rw [List.append_nil] at hy
    subst hy
    exact .inl ⟨j2 (Nat.le_refl _), P2 Dl (.lst us) H hD sH hDl hr⟩
end
section
variable {X : Cx} {W : WX} {elt tg iter tg2 iter2 : Expr} {ifs ifs2 : List Expr} {scope : Scope} {own : List (Str × Nat)} {pos : Pos} {es e2 ee ts ts2 vs1 : List Nat} {fi fi2 : Env → R (List D)} {g g2 : TG} {ft ft2 : D → Env → Option Env} {tt tt2 : Env → R Bool} {fe : Env → R D}
theorem pdf_lc2 (hc : X.calm = true) (hN : X.N.Nodup) (hi : PDI X W tg iter es fi) (ok : BlkOk X.N X.env.scope scope own) (ht : TgD X.K g ts ft) (ht2 : TgD X.K g2 ts2 ft2)
    (hg : ∀ (s : Shared) (H : Hp) (C : Addr) (cl : List (Str × Addr)) (fp : List Addr), PG (X.blk s H scope (compEnvC scope cl C X.env) fp) tg g)
    (hh : ∀ (s : Shared) (H : Hp) (C : Addr) (cl : List (Str × Addr)) (fp : List Addr), PDTs (X.blk s H scope (compEnvC scope cl C X.env) fp) W0 ifs tt)
    (hi2 : ∀ (s : Shared) (H : Hp) (C : Addr) (cl : List (Str × Addr)) (fp : List Addr), PDI (X.blk s H scope (compEnvC scope cl C X.env) fp) W0 tg2 iter2 e2 fi2)
    (hg2 : ∀ (s : Shared) (H : Hp) (C : Addr) (cl : List (Str × Addr)) (fp : List Addr), PG (X.blk s H scope (compEnvC scope cl C X.env) fp) tg2 g2)
    (hh2 : ∀ (s : Shared) (H : Hp) (C : Addr) (cl : List (Str × Addr)) (fp : List Addr), PDTs (X.blk s H scope (compEnvC scope cl C X.env) fp) W0 ifs2 tt2)
    (he : ∀ (s : Shared) (H : Hp) (C : Addr) (cl : List (Str × Addr)) (fp : List Addr), PD (X.blk s H scope (compEnvC scope cl C X.env) fp) W0 elt ee fe)
    (hts : ∀ t ∈ ts, t ∈ own.map (·.2) := by decide) (hts2 : ∀ t ∈ ts2, t ∈ vs1 := by decide) (hv : ∀ t ∈ vs1, t ∈ own.map (·.2) := by decide) (hs : ∀ x, foldedSetIterable iter X.env x = pure x := by intro _; rfl) (hs1 : ∀ env x, foldedSetIterable iter2 env x = pure x := by intro _ _; rfl) :
    PDF X W (.ListComp elt [⟨tg, iter, ifs, 0⟩, ⟨tg2, iter2, ifs2, 0⟩] scope pos) (es ++ (e2 ++ (ee ++ own.map (·.2)))) (fLc2 fi ft tt fi2 vs1 ft2 tt2 fe (own.map (·.2))) :=
  PE.imp (pe_lc2 (wi1 := tDI X.K W0 e2 fi2) (tt := tDT X.K W0 tt) (tt1 := tDT X.K W0 tt2) (te := tD X.K W0 ee fe) hc hN hi ok hv hg hh hi2 hg2 hh2 he hs hs1) (tDF_lc2 ht ht2 hts hts2 hv)
theorem ps_setLc2D {i : Nat} {y : Str} {py spos : Pos} (hc : X.calm = true) (hN : X.N.Nodup) (hy : X.N[i]? = some y) (hyl : X.env.scope.names.lookup y = some .local)
    (hsw : swapsWith (.ListComp elt [⟨tg, iter, ifs, 0⟩, ⟨tg2, iter2, ifs2, 0⟩] scope pos) (some (.Name y py)) spos.line X.env = pure true) (hi : PDI X W tg iter es fi) (ok : BlkOk X.N X.env.scope scope own) (ht : TgD X.K g ts ft) (ht2 : TgD X.K g2 ts2 ft2)
    (hg : ∀ (s : Shared) (H : Hp) (C : Addr) (cl : List (Str × Addr)) (fp : List Addr), PG (X.blk s H scope (compEnvC scope cl C X.env) fp) tg g)
    (hh : ∀ (s : Shared) (H : Hp) (C : Addr) (cl : List (Str × Addr)) (fp : List Addr), PDTs (X.blk s H scope (compEnvC scope cl C X.env) fp) W0 ifs tt)
    (hi2 : ∀ (s : Shared) (H : Hp) (C : Addr) (cl : List (Str × Addr)) (fp : List Addr), PDI (X.blk s H scope (compEnvC scope cl C X.env) fp) W0 tg2 iter2 e2 fi2)
    (hg2 : ∀ (s : Shared) (H : Hp) (C : Addr) (cl : List (Str × Addr)) (fp : List Addr), PG (X.blk s H scope (compEnvC scope cl C X.env) fp) tg2 g2)
    (hh2 : ∀ (s : Shared) (H : Hp) (C : Addr) (cl : List (Str × Addr)) (fp : List Addr), PDTs (X.blk s H scope (compEnvC scope cl C X.env) fp) W0 ifs2 tt2)
    (he : ∀ (s : Shared) (H : Hp) (C : Addr) (cl : List (Str × Addr)) (fp : List Addr), PD (X.blk s H scope (compEnvC scope cl C X.env) fp) W0 elt ee fe)
    (hts : ∀ t ∈ ts, t ∈ own.map (·.2) := by decide) (hts2 : ∀ t ∈ ts2, t ∈ vs1 := by decide) (hv : ∀ t ∈ vs1, t ∈ own.map (·.2) := by decide) (hs : ∀ x, foldedSetIterable iter X.env x = pure x := by intro _; rfl) (hs1 : ∀ env x, foldedSetIterable iter2 env x = pure x := by intro _ _; rfl) :
    PS X (.Assign [.Name y py] (.ListComp elt [⟨tg, iter, ifs, 0⟩, ⟨tg2, iter2, ifs2, 0⟩] scope pos) spos) (tAsg (tDF X.K W (es ++ (e2 ++ (ee ++ own.map (·.2)))) (fLc2 fi ft tt fi2 vs1 ft2 tt2 fe (own.map (·.2)))) (gName i)) :=
  PS.imp (ps_setLc2 (wi1 := tDI X.K W0 e2 fi2) (tt := tDT X.K W0 tt) (tt1 := tDT X.K W0 tt2) (te := tD X.K W0 ee fe) hc hN hy hyl hsw hi ok hv hg hh hi2 hg2 hh2 he hs hs1) fun D σ H h => tDF_lc2 ht ht2 hts hts2 hv σ H _ h
end

/-! ### a dict comprehension: keys ints or texts -/
def compDk (ft : D → Env → Option Env) (tt : Env → R Bool) (fk fv : Env → R D) (ρ : Env) : List D → List Key × List D → Option (List Key × List D)
  | [], a => some a
  | d :: ds, a => (ft d ρ).bind fun ρ1 => (tt ρ1).toO.bind fun b => if b = true then (fk ρ1).toO.bind fun k => (keyOf k).bind fun k => (fv ρ1).toO.bind fun y =>
      if a.1.length < sizeLine ∧ a.1.Nodup ∧ a.1.length = a.2.length then compDk ft tt fk fv ρ ds (putKD a.1 a.2 k y) else none
    else compDk ft tt fk fv ρ ds a
def fDc (fi : Env → R (List D)) (ft : D → Env → Option Env) (tt : Env → R Bool) (fk fv : Env → R D) (vs : List Nat) : Env → R D := fun ρ =>
  (fi ρ).bind fun ds => (R.ofO (compDk ft tt fk fv (wipeE ρ vs) ds ([], []))).bind fun r => .ok (.dk r.1 r.2)
section
variable {K : PySem.W.Frag} {W : WX} {es ek ee vs ts : List Nat} {fi : Env → R (List D)} {g : TG} {ft : D → Env → Option Env} {tt : Env → R Bool} {fk fe : Env → R D}
theorem tDF_dc (ht : TgD K g ts ft) (hts : ∀ t ∈ ts, t ∈ vs) : ∀ σ H Q, tDF K W (es ++ (ek ++ (ee ++ vs))) (fDc fi ft tt fk fe vs) σ H Q → tDc (tDI K W es fi) g (tDT K W0 tt) (tD K W0 ek fk) (tD K W0 ee fe) vs σ H Q := by
  intro σ H Q ⟨B, O, L, ρ, S, P⟩
  refine ⟨B, O, L, ρ, S, PostF.bind P fun ds J H1 e hJ fr P1 => ?_⟩
  intro Dl hD
  obtain ⟨ya, hya, P2⟩ := P1.ofO
  have hJ : JD K (hide (HS O (dropL es L)) H1) J ds := hJ
  generalize hEe : es ++ (ek ++ (ee ++ vs)) = E at P2
  have inE : ∀ i, (i ∈ es ∨ i ∈ ek ∨ i ∈ ee ∨ i ∈ vs) → i ∈ E := fun i h => by
    rw [← hEe]
    rcases h with h | h | h | h
    · exact List.mem_append_left _ h
    · exact List.mem_append_right _ (List.mem_append_left _ h)
    · exact List.mem_append_right _ (List.mem_append_right _ (List.mem_append_left _ h))
    · exact List.mem_append_right _ (List.mem_append_right _ (List.mem_append_right _ h))
  have P2 : ∀ p o H', H1 p = none → Same H1 H' → H' p = some o → Top K (hide (fun a => HS O (dropL E L) a ∨ a = p) H') o (.dk ya.1 ya.2) → Q (.ref p) H' := P2
  have S1 : SR K B O (dropL E L) σ H1 ρ := (S.ext e).drop _
  generalize hL2 : dropL E L = L2 at P2 S1
  have hn : ∀ v ∈ vs, L2 v = none := fun v hv => by
    rw [← hL2]
    exact dropL_yes (inE v (.inr (.inr (.inr hv))))
  have hsub : ∀ {es' : List Nat}, (∀ i ∈ es', i ∈ E) → dropL es' L2 = L2 := fun {es'} hs => by
    funext i
    by_cases m : i ∈ es'
    · rw [dropL_yes m, ← hL2, dropL_yes (hs i m)]
    · exact dropL_no m
  have lift : ∀ {H4 : Hp} {o : HO}, RdLe (hide (fun a => HS O L2 a ∨ a = Dl) H4) (hide (fun a => HS O L2 a ∨ a = Dl) (upd H4 Dl o)) := fun {H4 o} => hide_mono (fun _ z => z) fun a u n z => by
    rw [upd_ne fun y => n (.inr y)]
    exact z
  refine ⟨fun i m H => m = ds.length - i ∧ i ≤ ds.length ∧ Same H1 H ∧ ∃ us acc, H Dl = some (.dK us) ∧ RepL K (hide (fun a => HS O L2 a ∨ a = Dl) H) (us.map (·.2)) acc ∧ compDk ft tt fk fe (wipeE ρ vs) (ds.drop i) (us.map (·.1), acc) = some ya,
    ⟨ds.length, by simp, Nat.zero_le _, same_new hD, [], [], upd_same, rfl, hya⟩, ?_⟩
  rintro i m H ⟨rfl, hi, sH, us, acc, hDl, hr, hc⟩
  have ST := ((S1.inComp hD sH hDl).wipe1 vs hn)
  obtain ⟨j1, j2⟩ := hJ i H (HS (fun a => O a ∨ a = Dl) L2) (by
    have key : ∀ a u, hide (HS O (dropL es L)) H1 a = some u → hide (HS (fun a => O a ∨ a = Dl) L2) H a = some u := fun a u z => by
      obtain ⟨n, z⟩ := hide_some z
      rw [hide_no]
      · exact sH a u z
      · rintro ((y | y) | ⟨j, k, as, y, q⟩)
        · exact n (.inl y)
        · exact ne_of_none z hD y
        · rw [← hL2] at y
          obtain ⟨y1, y2⟩ := dropL_some y
          exact n (.inr ⟨j, k, as, by rw [dropL_no fun w => y1 (inE j (.inl w))]; exact y2, q⟩)
    exact RdLe.ofKey key) ST.hdom
  by_cases hlt : i < ds.length
  · obtain ⟨d, hd⟩ : ∃ d, ds[i]? = some d := ⟨ds[i], List.getElem?_eq_getElem hlt⟩
    obtain ⟨g1, gy⟩ := j1 d hd
    have hdr : ds.drop i = d :: ds.drop (i + 1) := by
      rw [List.drop_eq_getElem_cons hlt]
      rw [List.getElem?_eq_getElem hlt] at hd
      cases hd
      rfl
    rw [hdr] at hc
    unfold compDk at hc
    obtain ⟨ρ1, h1, hc⟩ := Option.bind_eq_some_iff.mp hc
    obtain ⟨b, h2, hc⟩ := Option.bind_eq_some_iff.mp hc
    refine .inr ⟨g1, fun H => Same H1 H ∧ ∃ us acc, H Dl = some (.dK us) ∧ RepL K (hide (fun a => HS O L2 a ∨ a = Dl) H) (us.map (·.2)) acc ∧ compDk ft tt fk fe (wipeE ρ vs) (ds.drop (i + 1)) (us.map (·.1), acc) = some ya, fun H2 q => ⟨ds.length - (i + 1), by omega, rfl, hlt, q⟩, fun x H2 y => ?_⟩
    obtain ⟨ee2, r2⟩ := gy x H2 y
    refine ht _ _ L2 (wipe σ vs) H2 (wipeE ρ vs) ρ1 x d _ (ST.ext ee2) r2 h1 fun σ3 S3 wp => ⟨(wp vs hts).trans wipe_wipe, ?_⟩
    rw [hsub fun t h => inE t (.inr (.inr (.inr (hts t h))))] at S3
    refine ⟨_, _, _, ρ1, S3, PostG.toO h2 fun b' H3 e3 hb => ?_⟩
    obtain rfl : b' = b := hb
    cases b' with
    | false =>
      rw [if_neg Bool.false_ne_true] at hc ⊢
      exact ⟨sH.trans (ee2.trans e3), us, acc, (S3.ext e3).same Dl _ upd_same, hr.mono (hide_same (fun _ z => z) (ee2.trans e3)), hc⟩
    | true =>
      rw [if_pos rfl] at hc ⊢
      obtain ⟨kd, h3, hc⟩ := Option.bind_eq_some_iff.mp hc
      obtain ⟨k, h4, hc⟩ := Option.bind_eq_some_iff.mp hc
      obtain ⟨yd, h5, hc⟩ := Option.bind_eq_some_iff.mp hc
      split at hc
      case isFalse => cases hc
      rename_i hz
      refine ⟨_, _, _, ρ1, S3.ext e3, PostG.toO h3 fun kv H4 e4 rk => ?_⟩
      refine ⟨_, _, _, ρ1, (S3.ext e3).ext e4, PostG.toO h5 fun yv H5 e5 ry => ?_⟩
      have hD5 : H5 Dl = some (.dK us) := (S3.ext (e3.trans (e4.trans e5))).same Dl _ upd_same
      have ekv : kv = kV k := key_rep h4 rk
      have hr5 : RepL K (hide (fun a => HS O L2 a ∨ a = Dl) H5) (us.map (·.2)) acc := hr.mono (hide_same (fun _ z => z) (ee2.trans (e3.trans (e4.trans e5))))
      have ry5 : Rep K (hide (fun a => HS O L2 a ∨ a = Dl) H5) yv yd := by
        refine Rep.mono (hide_same (fun a z => ?_) (Same.refl H5)) ry
        rw [hsub fun t h => inE t (.inr (.inr (.inl h)))]
        rcases z with (z | z) | z
        · exact .inl (.inl z)
        · exact .inr z
        · exact .inl (.inr z)
      have hz1 : us.length < sizeLine := by
        have q := hz.1
        rw [List.length_map] at q
        exact q
      obtain ⟨p1, p2⟩ := put_rel (x := k) ry5 hz.2.1 hr5
      refine ⟨us, k, ekv, hD5, hz1, fun a u z => ?_, putK us k yv, (putKD (us.map (·.1)) acc k yd).2, upd_same, p2.mono lift, ?_⟩
      · rw [upd_ne (ne_of_none z hD)]
        exact (sH.trans (ee2.trans (e3.trans (e4.trans e5)))) a u z
      · rw [p1]
        exact hc
  · have hi2 : i = ds.length := by omega
    subst hi2
    rw [List.drop_length] at hc
    cases hc
    exact .inl ⟨j2 (Nat.le_refl _), P2 Dl (.dK us) H hD sH hDl ⟨rfl, hr⟩⟩
end
section
variable {X : Cx} {W : WX} {kx vx tg iter : Expr} {ifs : List Expr} {scope : Scope} {own : List (Str × Nat)} {pos : Pos} {es ek ee ts : List Nat} {fi : Env → R (List D)} {g : TG} {ft : D → Env → Option Env} {tt : Env → R Bool} {fk fe : Env → R D}
theorem pdf_dc (hc : X.calm = true) (hN : X.N.Nodup) (hi : PDI X W tg iter es fi) (ok : BlkOk X.N X.env.scope scope own) (ht : TgD X.K g ts ft)
    (hg : ∀ (s : Shared) (H : Hp) (C : Addr) (cl : List (Str × Addr)) (fp : List Addr), PG (X.blk s H scope (compEnvC scope cl C X.env) fp) tg g)
    (hh : ∀ (s : Shared) (H : Hp) (C : Addr) (cl : List (Str × Addr)) (fp : List Addr), PDTs (X.blk s H scope (compEnvC scope cl C X.env) fp) W0 ifs tt)
    (hk : ∀ (s : Shared) (H : Hp) (C : Addr) (cl : List (Str × Addr)) (fp : List Addr), PD (X.blk s H scope (compEnvC scope cl C X.env) fp) W0 kx ek fk)
    (he : ∀ (s : Shared) (H : Hp) (C : Addr) (cl : List (Str × Addr)) (fp : List Addr), PD (X.blk s H scope (compEnvC scope cl C X.env) fp) W0 vx ee fe)
    (hts : ∀ t ∈ ts, t ∈ own.map (·.2) := by decide) (hs : ∀ x, foldedSetIterable iter X.env x = pure x := by intro _; rfl) : PDF X W (.DictComp kx vx [⟨tg, iter, ifs, 0⟩] scope pos) (es ++ (ek ++ (ee ++ own.map (·.2)))) (fDc fi ft tt fk fe (own.map (·.2))) :=
  PE.imp (pe_dc (tt := tDT X.K W0 tt) (tk := tD X.K W0 ek fk) (tv := tD X.K W0 ee fe) hc hN hi ok hg hh hk he hs) (tDF_dc ht hts)
end

/-! ### d.get(k), d.get(k, x) -/
def gDGet : D → D → D → Option D := fun c k x => (dgetD c k).map fun o => o.getD x
def isDct : D → Bool
  | .dk _ _ => true
  | .dt _ _ => true
  | .fk _ _ => true
  | .ft _ _ => true
  | _ => false
def fDGet (fc fk fx : Env → R D) : Env → R D := fun ρ => (fc ρ).bind fun c => if isDct c = true then (fk ρ).bind fun k => (fx ρ).bind fun x => R.ofO (gDGet c k x) else .stuck
section
variable {X : Cx} {W : WX} {o e f : Expr} {apos cpos : Pos} {eo ek ex : List Nat} {fo fk fx : Env → R D}
theorem isDct_rep {K : PySem.W.Frag} {P : Addr → Prop} {H : Hp} {x : V} {c : D} (r : Rep K (hide P H) x c) (h : isDct c = true) : ∃ a, x = .ref a ∧ IsD H a := by
  cases c <;> first | (cases h; done) | skip
  · obtain ⟨a, us, e, h1, _⟩ := r
    exact ⟨a, e, .inl ⟨us, hide_rd h1⟩⟩
  · obtain ⟨a, us, e, h1, _⟩ := r
    exact ⟨a, e, .inr ⟨us, hide_rd h1⟩⟩
  · obtain ⟨a, oo, us, e, h1, _⟩ := r
    exact ⟨a, e, .inl ⟨us, .inr ⟨oo, (hide_some h1).2⟩⟩⟩
  · obtain ⟨a, oo, us, e, h1, _⟩ := r
    exact ⟨a, e, .inr ⟨us, .inr ⟨oo, (hide_some h1).2⟩⟩⟩
theorem pd_dget2 (hu : X.A.units + 1 < cLine) (ho : PD X W o eo fo) (he : PD X W e ek fk) (hf : PD X W f ex fx) (m : M2 X o "get" apos e f cpos := by first | exact ⟨rfl, rfl, rfl, rfl⟩ | constructor <;> rfl) :
    PD X W (.Call (.Attribute o "get" apos) [e, f] [] cpos) (eo ++ (ek ++ ex)) (fDGet fo fk fx) := PE.imp (pe_dget2 hu ho he hf m) fun σ H Q ⟨B, O, L, ρ, S, P⟩ => ⟨B, O, L, ρ, S, PostG.bind P fun c x H1 e1 r1 P1 => by
  have r1 : Rep X.K (hide (HS O (dropL eo L)) H1) x c := r1
  split at P1
  case isFalse => exact P1.elim
  rename_i hc
  obtain ⟨a, ea, ia⟩ := isDct_rep r1 hc
  refine ⟨a, ea, ia, B, O, L, ρ, S.ext e1, PostG.bind P1 fun k y H2 e2 r2 P2 => ⟨B, O, L, ρ, (S.ext e1).ext e2, PostG.bind P2 fun z u H3 e3 r3 P3 => ?_⟩⟩
  obtain ⟨d, hd, P4⟩ := P3.ofO
  obtain ⟨w, hw, hd⟩ := Option.map_eq_some_iff.mp hd
  have lift : ∀ {es : List Nat} {G : Hp} {v : V} {d : D}, (∀ i ∈ es, i ∈ eo ++ (ek ++ ex)) → Same G H3 → Rep X.K (hide (HS O (dropL es L)) G) v d → Rep X.K (hide (HS O (dropL (eo ++ (ek ++ ex)) L)) H3) v d := fun hs e r => drop_mono hs e r
  have ra := lift (fun i h => List.mem_append_left _ h) (e2.trans e3) r1
  have rb := lift (fun i h => List.mem_append_right _ (List.mem_append_left _ h)) e3 r2
  have rc := lift (fun i h => List.mem_append_right _ (List.mem_append_right _ h)) (Same.refl H3) r3
  obtain ⟨p, ov, ep, g, rel⟩ := dget_rep ra rb hw
  rw [ea] at ep
  cases ep
  refine ⟨ov, g, P4 _ H3 (Same.refl H3) ?_⟩
  subst hd
  cases ov <;> cases w <;> first | exact rel.elim | exact rc | exact rel⟩
end

/-! ### x[i] += n for a list that is owned -/
def rGetL (K : PySem.W.Frag) : V → V → Hp → VK → Prop := fun o i H Q => ∃ a xs j v, o = .ref a ∧ i = .int j ∧ H a = some (.lst xs) ∧ atI xs j = some v ∧ Q v H
def fAugS (k : Nat) (f : Int → Int → Int) (fe fi : Env → R D) : Env → Out := fun ρ => stE (fi ρ) ρ fun i =>
  match ρ[k]?, i with
  | some (some (.lst ds)), .int j => (match atI ds j with
    | some (.int a) => stE (fe ρ) ρ fun d => (match d, ixN ds.length j with
      | .int b, some n => .nx (ρ.set k (some (.lst (ds.set n (.int (f a b))))))
      | _, _ => .stuck)
    | _ => .stuck)
  | _, _ => .stuck
section
variable {X : Cx} {W : WX} {ow ow' owl : Ow} {st : Stmt} {es ei : List Nat} {fe fi : Env → R D}
theorem pds_augS {k : Nat} {f : Int → Int → Int} (h : PS X st (tAugS (tVar k) (tD X.K W ei fi) (tD X.K W es fe) (rGetL X.K) (ipI f) rSetL)) (hi : (k, 1) ∈ ow := by decide) (hn : k ∉ ei ++ es := by decide) (ho : ∀ p ∈ ow', p ∈ ow ∧ p.1 ∉ ei ++ es := by decide) :
    PDS X W ow ow' owl st (fAugS k f fe fi) := PS.imp h fun D σ H ⟨B, O, L, ρ, S, w, P⟩ => by
  obtain ⟨as, hL⟩ := w (k, 1) hi
  obtain ⟨v0, d0, hs0, hd0, hown⟩ := S.owns k 1 as hL
  refine ⟨v0, hs0, B, O, L, ρ, S, PostS.bind P S fun i y H1 e1 r1 P1 => ?_⟩
  rw [hd0] at P1
  cases d0 <;> first | exact P1.elim | skip
  rename_i ds
  cases i <;> first | exact P1.elim | skip
  rename_i j
  obtain rfl : y = .int j := r1
  have P1 : PostS X.K B O W ow' owl (match atI ds j with
    | some (.int a) => stE (fe ρ) ρ fun d => (match d, ixN ds.length j with
      | .int b, some n => .nx (ρ.set k (some (.lst (ds.set n (.int (f a b))))))
      | _, _ => .stuck)
    | _ => .stuck) D := P1
  cases q : atI ds j with
  | none => rw [q] at P1; exact P1.elim
  | some da =>
    rw [q] at P1
    cases da <;> first | exact P1.elim | skip
    rename_i a
    have S1 := (S.ext e1).drop (ei ++ es)
    have hL1 : dropL (ei ++ es) L k = some (1, as) := by rw [dropL_no hn]; exact hL
    obtain ⟨p, o, hs, ha, hb, hp, t⟩ := S1.top hL1 hd0 rfl
    rw [hs0] at hs
    cases hs
    have list_of : ∀ {H : Hp} {L : Lm} {o : HO}, H p = some o → Top X.K (hide (HS O L) H) o (.lst ds) → ∃ vs, o = .lst vs ∧ RepL X.K (hide (HS O L) H) vs ds := fun {H L o} hp t => by
      cases o <;> first | exact t.elim | exact ⟨_, rfl, t⟩
    obtain ⟨vs, rfl, rv⟩ := list_of hp t
    obtain ⟨va, hva, rva⟩ := atI_rep rv q
    obtain rfl : va = .int a := rva
    refine ⟨p, vs, j, .int a, rfl, rfl, hp, hva, B, O, L, ρ, S.ext e1, PostS.bind P1 (S.ext e1) fun d u H2 e2 r2 P2 => ?_⟩
    cases d <;> first | exact P2.elim | skip
    rename_i b
    obtain rfl : u = .int b := r2
    have P2 : PostS X.K B O W ow' owl (match (DL.D.int b), ixN ds.length j with
      | .int b, some n => .nx (ρ.set k (some (.lst (ds.set n (.int (f a b))))))
      | _, _ => .stuck) D := P2
    cases hn2 : ixN ds.length j with
    | none => rw [hn2] at P2; exact P2.elim
    | some n =>
      rw [hn2] at P2
      have S2 := S1.ext e2
      subst ha
      obtain ⟨p', o', hs', ha', hb', hp', t'⟩ := S2.top hL1 hd0 rfl
      cases ha'
      obtain ⟨us, rfl, ru⟩ := list_of hp' t'
      refine ⟨a, b, rfl, rfl, p, us, j, n, rfl, rfl, hp', by rw [ru.length]; exact hn2, ?_⟩
      exact P2 σ _ _ (S2.change (o := .lst (us.set n (.int (f a b)))) (d' := .lst (ds.set n (.int (f a b)))) hL1 hs' ⟨_, hd0⟩ (RepL.set (show Rep X.K _ (V.int (f a b)) (DL.D.int (f a b)) from rfl) n ru)) (w.drop ho)
end
theorem pg_lst1 {X : Cx} : PGet X (rGetL X.K) := by
  intro pins s σ H o i ov iv Q I ro ri h
  obtain ⟨a, xs, j, v, rfl, rfl, ha, hv, q⟩ := h
  cases ro
  obtain ⟨t, rfl⟩ := ri
  obtain ⟨its, r, pl, hz⟩ := I.list (SqL.of ha)
  obtain ⟨n, h1, h2, h3, h4, h5⟩ := atI_get hv
  obtain ⟨w, ew, rw'⟩ := r.get h2
  have hl := r.length
  have hn := line63
  have fin : EP X pins σ Q w s := ⟨v, H, I, rw', q⟩
  by_cases h0 : 0 ≤ j
  · have hj : j.toNat = n := by
      rw [seqIndex_of h0 h5] at h1
      exact Option.some.inj h1
    exact wpAny_getItem_list pl.isList h0 (by omega) (by rw [hj]; simpa using ew) fin
  · have hj : (j + (its.toArray.size : Int)).toNat = n := by
      rw [seqIndex_neg (by omega) h4] at h1
      rw [List.size_toArray, ← hl]
      exact Option.some.inj h1
    exact wpAny_getItem_list_neg pl.isList (by omega) (by rw [List.size_toArray] <;> omega) (by omega) (by rw [hj]; simpa using ew) fin

/-! ### isinstance of a built-in class -/
def tyD : D → Option String
  | .non => some "NoneType"
  | .bl _ => some "bool"
  | .int _ => some "int"
  | .str _ => some "str"
  | .lst _ => some "list"
  | .tup _ => some "tuple"
  | .dk _ _ => some "dict"
  | .fk _ _ => some "dict"
  | _ => none
def tyNames : List String := ["NoneType", "bool", "int", "str", "list", "tuple", "dict"]
def isiB (a b : String) : Bool := a == b || (a == "bool" && b == "int")
theorem kitB_all : ∀ a ∈ tyNames, ∀ b ∈ tyNames, kitB a b = some (isiB a b) := by decide +kernel
theorem tyD_mem {d : D} {a : String} (h : tyD d = some a) : a ∈ tyNames := by
  cases d <;> first | (cases h; done) | (cases h; decide)
theorem tyD_rep {K : PySem.W.Frag} {P : Addr → Prop} {H : Hp} {v : V} {d : D} {a : String} (h : tyD d = some a) (r : Rep K (hide P H) v d) : TyX K H v (.type a) := by
  cases d <;> first | (cases h; done) | cases h
  · obtain rfl : v = .non := r
    exact .base .non
  · obtain rfl := (show v = V.bl _ from r)
    exact .base (.bl _)
  · obtain rfl := (show v = V.int _ from r)
    exact .base (.int _)
  · obtain ⟨rfl, _⟩ := r
    exact .base (.str _)
  · obtain ⟨a, vs, rfl, h1, _⟩ := r
    rcases hide_rd h1 with z | ⟨o, z⟩
    · exact .base (.lst z)
    · exact .base (.frz z)
  · obtain ⟨a, vs, rfl, h1, _⟩ := r
    exact .base (.tup (hide_some h1).2)
  · obtain ⟨a, vs, rfl, h1, _⟩ := r
    rcases hide_rd h1 with z | ⟨o, z⟩
    · exact .base (.dK z)
    · exact .fDict z
  · obtain ⟨a, o, vs, rfl, h1, _⟩ := r
    exact .fDict (hide_some h1).2
def gIsi (b : String) : D → Option D := fun d => (tyD d).map fun a => .bl (isiB a b)
def fIsi (b : String) (fe : Env → R D) : Env → R D := fun ρ => (fe ρ).bind fun d => R.ofO (gIsi b d)
section
variable {X : Cx} {W : WX} {e : Expr} {es : List Nat} {fe : Env → R D} {p p2 pos : Pos} {x : Str}
theorem pe_tyN {T : String} (hg : Gl X x) (hm : X.mg x = none) (hb : bootBuiltins x = some (.type T)) (hn : x ≠ "__name__") (hdb : (x == ("__debug__" : Str)) = false) : PE X (.Name x p) (fun _ H Q => Q (.ty T) H) :=
  ⟨fun pins s σ H Q I h => ld_blt I hg hm hb ⟨.ty T, H, I, rfl, h⟩ hn hdb⟩
theorem pd_isi {T : String} (hg : Gl X "isinstance") (hm : X.mg "isinstance" = none) (hi : bootBuiltins "isinstance" = some (.builtin "isinstance")) (hg2 : Gl X x) (hm2 : X.mg x = none) (hb : bootBuiltins x = some (.type T)) (h : PD X W e es fe) (hT : T ∈ tyNames := by decide)
    (hn : x ≠ "__name__" := by decide) (hdb : (x == ("__debug__" : Str)) = false := by decide) (s1 : starEach [e, .Name x p2] X.env = (false, eval e X.env) :: starEach [.Name x p2] X.env := by rfl) (s2 : starEach [.Name x p2] X.env = (false, eval (.Name x p2) X.env) :: starEach [] X.env := by rfl)
    (hpl : (backTo pos (starEach [.Name x p2] X.env)).any (·.1) = false := by rfl) :
    PD X W (.Call (.Name "isinstance" p) [e, .Name x p2] [] pos) [] (fIsi T fe) := PE.imp (pe_callB call_isi hg hm hi (pa_cons h (pa_cons (pe_tyN hg2 hm2 hb hn hdb) pa_nil s2) s1) (by decide) (by decide) s1 hpl) fun σ H Q ⟨B, O, L, ρ, S, P⟩ => ⟨B, O, L, ρ, S, PostG.bind P fun d v H1 e1 r1 P1 => by
  obtain ⟨w, hd, k⟩ := P1.ofO
  obtain ⟨a, ha, hw⟩ := Option.map_eq_some_iff.mp hd
  subst hw
  exact ⟨v, .ty T, .type a, .type T, isiB a T, rfl, .ty T, tyD_rep ha r1, kit_ty (kitB_all a (tyD_mem ha) T hT), k _ H1 (Same.refl H1) rfl⟩⟩
end
theorem boot_int : bootBuiltins "int" = some (.type "int") := by decide +kernel
theorem boot_str : bootBuiltins "str" = some (.type "str") := by decide +kernel
theorem boot_list : bootBuiltins "list" = some (.type "list") := by decide +kernel
theorem boot_tuple : bootBuiltins "tuple" = some (.type "tuple") := by decide +kernel
theorem boot_dict : bootBuiltins "dict" = some (.type "dict") := by decide +kernel
theorem boot_bool : bootBuiltins "bool" = some (.type "bool") := by decide +kernel
theorem boot_any : bootBuiltins "any" = some (.builtin "any") := by decide +kernel
theorem boot_all : bootBuiltins "all" = some (.builtin "all") := by decide +kernel
theorem boot_sum : bootBuiltins "sum" = some (.builtin "sum") := by decide +kernel
theorem boot_len : bootBuiltins "len" = some (.builtin "len") := by decide +kernel
theorem boot_isinstance : bootBuiltins "isinstance" = some (.builtin "isinstance") := by decide +kernel
/-! what is never reached -/
theorem pds_any {X : Cx} {W : WX} {ow ow' owl : Ow} {st : Stmt} : PDS X W ow ow' owl st (fun _ => .stuck) := ⟨fun pins s σ H D I ⟨B, O, L, ρ, S, w, P⟩ => P.elim⟩
theorem pd_any {X : Cx} {W : WX} {e : Expr} : PD X W e [] (fun _ => .stuck) := ⟨fun pins s σ H Q I ⟨B, O, L, ρ, S, P⟩ => P.elim⟩
theorem pdb_any {X : Cx} {W : WX} {ow ow' owl : Ow} {st : List Stmt} : PDB X W ow ow' owl st (fun _ => .stuck) := ⟨fun pins s σ H D I ⟨B, O, L, ρ, S, w, P⟩ => P.elim⟩
end DL
set_option Elab.async false
set_option linter.all false
set_option maxRecDepth 100000
namespace DL
open PySem PySem.W PySem.Calls PyProof.Rows L2

/-! ### super().__init__('text') as the first row of an exception's __init__ -/
/-- what the written part says of class C whose __init__ (at f, its cell at cc, its code at cda) says so -/
structure SupC (P : Program) (K : PySem.W.Frag) (C cc cda : Addr) : Prop where
  code : ∃ ccl cdd ccs vs file tf, K.lookup cda = some ⟨ccl, cdd, .fields vs, ccs⟩ ∧ vs[2]? = some (.str file tf) ∧ ((P.main.file : Str) == file) = true
  cell : ∃ cl cld csl, K.lookup cc = some ⟨cl, cld, .cell (some (.ref C)), csl⟩
  cls : ∃ cd, clsIn K C = some cd
  mro : mroIn K C (.ref C) = some true
  sup : ks_superIn K C C "__init__" = some (some (.builtin "ValueError.__init__"))
  ve : subIn K (.ref C) (.type "ValueError") = some true
  tp : nsIn K cStatics "thirdparty.any" = some none
  ini : excInitIn K C [.type "ValueError", .type "Exception", .type "BaseException", .type "object"] "ValueError.__new__" = true
section
variable {P : Program} {w : World} {K : PySem.W.Frag} {mg : Str → Option Value} {base : Heap} {A : Around} {E : Value → Shared → Prop} {s : Shared} {h₀ : Heap} {L a C cc cda f t0 : Addr} {m : Str → Option Value}
theorem sup_row {q : Str} {scope : Scope} {body : List Stmt} {p0 p1 ap p2 pos pos' : Pos} {x : Str} {j : Nat} {Q : Flow → Shared → Prop} {of : Obj} {fd : FuncData} {ar : Arg} (M : Mod K mg base) (kb : ∀ b o, base.get? b = some o → h₀.get? b = some o) (S : SupC P K C cc cda)
    (F : Fr h₀ L s.heap m) (N : News h₀ L s.heap [(a, excObj C t0 none .none)]) (hf : K.lookup f = some of) (hfd : of.data = .func fd) (hp : (fd.params.posonlyargs ++ fd.params.args).head? = some ar) (hv : m ar.arg = some (.ref a))
    (mS : mg "super" = none) (hk : scope.kind = .function) (hks : scope.names.lookup ("super" : Str) = some .globalImplicit) (hkc : scope.names.lookup ("__class__" : Str) = some .free) (hka : scope.names.lookup ar.arg = some .local)
    (htop : (P.main.scope.names.lookup ("super" : Str)).isSome = false) {pl : Sem Bool}
    (he : eval (.Call (.Attribute (.Call (.Name "super" p0) [] [] p1) "__init__" ap) [.Constant (.str x) j p2] [] pos) (ksEnv q scope L f (.ref cda) cc) = (do
      let ov ← attributeBase (.Call (.Name "super" p0) [] [] p1) "__init__" (ksEnv q scope L f (.ref cda) cc) (eval (.Call (.Name "super" p0) [] [] p1) (ksEnv q scope L f (.ref cda) cc))
      standAt ap.atName
      let (g, first) ← holding [ov] (getMethod ov "__init__" pl)
      callWith pos g first (backTo pos (starEach [.Constant (.str x) j p2] (ksEnv q scope L f (.ref cda) cc))) []))
    (h : ∀ h' t' tk, Fr h₀ L h' m → News h₀ L h' [(a, excObj C t' none .none)] → Q .next { s with heap := h', toks := tk }) :
    _root_.PySem.wpAt (model P w) A (.func body (ksEnv q scope L f (.ref cda) cc)) (exec (.Expr (.Call (.Attribute (.Call (.Name "super" p0) [] [] p1) "__init__" ap) [.Constant (.str x) j p2] [] pos) pos') (ksEnv q scope L f (.ref cda) cc)) Q E s := by
  obtain ⟨ccl, cdd, ccs, vs, file, tf, hcode, hvs, hfile⟩ := S.code
  obtain ⟨cl, cld, csl, hcell⟩ := S.cell
  obtain ⟨cdC, hcls⟩ := S.cls
  obtain ⟨mb, hb1, hb2⟩ := M.blt
  have X₀ : K.In h₀ := M.kin.keeps kb
  have X : K.In s.heap := X₀.keeps F.keep
  have kall : ∀ b o, base.get? b = some o → s.heap.get? b = some o := fun b o e => F.keep b o (kb b o e)
  have ho := (N (a, excObj C t0 none .none) List.mem_cons_self).1
  have I : InstAt s.heap a (excObj C t0 none .none) C none := ⟨ho, rfl, rfl, trivial⟩
  obtain ⟨oD, hD1, hD2⟩ : ∃ oD, s.heap.get? C = some oD ∧ oD.data = .cls cdC := by
    have z := hcls
    unfold clsIn at z
    split at z
    · rename_i c d cd' sl hc
      cases z
      exact ⟨_, X _ _ hc, rfl⟩
    · cases z
  refine ks_wpAt_Expr_any ?_ (by unfold interactive; rw [hk]; rfl)
  refine ks_wpAt_MethodCall (pl := pl) ?_ he
  refine ks_wpAt_super_base hks hkc rfl rfl (X _ _ hf) hfd hp rfl (X _ _ hcode) rfl hvs hfile htop ?_
  refine ks_loadName_global hk hks (loadGlobal_builtin (env := ksEnv q scope L f (.ref cda) cc) (M.glob.keeps kall) mS (hb1.keeps kall) ((hb2 "super" (by decide)).trans (by decide +kernel)) ⟨rfl, ?_⟩)
  refine wpAny_loadName_free hk hkc rfl ⟨_, X _ _ hcell, rfl⟩ ?_
  refine wpAny_loadName_local hk hka F.ns hv ?_
  refine ks_wpAny_isType_cls hD1 hD2 ⟨rfl, ?_⟩
  refine ks_wpAny_call_super hD1 hD2 I.at_ I.cls (fun c e => by cases e) (looks_mroIn X S.mro) fun h1 e1 k1 => ?_
  obtain ⟨F1, N1, l1⟩ := ks_newsPush F N rfl e1 k1
  refine kxs_method kxs_ValueError (s := { s with heap := h1 }) F1 X₀ N1 List.mem_cons_self (InstAt.of_exc0 N1 (.tail _ List.mem_cons_self)) S.tp S.sup S.ve (by decide) fun u h2 F2 N2 l2 => ?_
  refine kxs_callWith1 N2 List.mem_cons_self (spliced_cons ?_)
  refine (Constant_str ?_ : wpAny (model P w) A (eval (.Constant (.str x) j p2) (ksEnv q scope L f (.ref cda) cc)) _ _ _)
  refine spliced_nil ⟨kxs_at N2 List.mem_cons_self, ?_⟩
  have ne1 : s.heap.objs.size ≠ a := fun z => absurd (l1 _ List.mem_cons_self) (by rw [z]; exact Nat.lt_irrefl _)
  have ne2 : u ≠ a := fun z => absurd (l2 _ (.tail _ List.mem_cons_self)) (by rw [z]; exact Nat.lt_irrefl _)
  refine kxs_call F2 X₀ N2 PySem.F.excBase_ValueError S.ini List.mem_cons_self (.tail ne2 (.tail ne1 (.head fun _ z => (List.not_mem_nil z).elim))) (by simp only [List.length_cons, List.length_nil]; decide) fun t' h3 F3 N3 l3 => ?_
  exact h h3 t' _ F3 fun p hp => by
    rw [List.mem_singleton.mp hp]
    exact N3 _ (.tail _ (.tail _ (.tail _ List.mem_cons_self)))
end

/-! ### .. and the def around it -/
structure ScI (N ps : List Str) (sc : Scope) : Prop where
  kind : sc.kind = .function
  co : sc.isCoroutine = false
  gen : sc.isGenerator = false
  nd : N.Nodup
  pre : N.take ps.length = ps
  par : ∀ x ∈ ps, sc.names.lookup x = some .local
  nocell : ∀ y ∈ sc.names, y.2 ≠ .cell
  free : ∀ y ∈ sc.names, y.2 = .free → y.1 = "__class__"
  cls : sc.names.lookup ("__class__" : Str) = some .free
  sup : sc.names.lookup ("super" : Str) = some .globalImplicit
def cxI (CX : CXT) (P : Program) (w : World) (K : PySem.W.Frag) (mg : Str → Option Value) (base : Heap) (N : List Str) (qual : Str) (scope : Scope) (f cda cc : Addr) (A : Around) (outer : List PySem.Env) (s : Shared) (H : Hp) (E : XK) : Cx where
  prog := P
  w := w
  K := K
  mg := mg
  base := base
  A := A.deeper (ksEnv qual scope s.heap.objs.size f (.ref cda) cc)
  N := N
  s_0 := s
  H_0 := H
  env := ksEnv qual scope s.heap.objs.size f (.ref cda) cc
  outer := outer
  stack := ksEnv qual scope s.heap.objs.size f (.ref cda) cc :: outer
  ex := []
  calm := true
  fn := fun x => decide (x ≠ "__class__")
  pn := []
  xe := fun e s' => wpAny (model P w) (A.deeper (ksEnv qual scope s.heap.objs.size f (.ref cda) cc)) (leaving (ksEnv qual scope s.heap.objs.size f (.ref cda) cc) e) (fun _ s'' => CX outer H s E e s'') (fun e' s'' => CX outer H s E e' s'') s'
theorem zip_lookup {x : Str} {u : Value} : ∀ {ps : List Str} {us : List Value} {i : Nat}, ps.Nodup → ps[i]? = some x → us[i]? = some u → (ps.zip us).reverse.lookup x = some u := by
  intro ps us i nd h1 h2
  have key : ∀ {l : List (Str × Value)}, (∀ v, (x, v) ∈ l → v = u) → (x, u) ∈ l → l.lookup x = some u := by
    intro l
    induction l with
    | nil => intro _ h; cases h
    | cons p l ih =>
      intro h m
      obtain ⟨y, v⟩ := p
      by_cases e : x = y
      · subst e
        have := h v List.mem_cons_self
        subst this
        simp [List.lookup]
      · have e' : (x == y) = false := by simpa using e
        simp only [List.lookup, e']
        refine ih (fun v hv => h v (List.mem_cons_of_mem _ hv)) ?_
        rcases List.mem_cons.mp m with q | q
        · cases q
          exact absurd rfl e
        · exact q
  have at_ : ∀ {ps : List Str} {us : List Value} {i : Nat}, ps[i]? = some x → us[i]? = some u → (x, u) ∈ ps.zip us := by
    intro ps
    induction ps with
    | nil => intro us i h; cases i <;> cases h
    | cons p ps ih =>
      intro us i h1 h2
      cases us with
      | nil => cases i <;> cases h2
      | cons v us =>
        cases i with
        | zero => cases h1; cases h2; exact List.mem_cons_self
        | succ i => exact List.mem_cons_of_mem _ (ih h1 h2)
  have one : ∀ {ps : List Str} {us : List Value} {i : Nat}, ps.Nodup → ps[i]? = some x → us[i]? = some u → ∀ v, (x, v) ∈ ps.zip us → v = u := by
    intro ps
    induction ps with
    | nil => intro us i _ h; cases i <;> cases h
    | cons p ps ih =>
      intro us i nd h1 h2 v hv
      rw [List.nodup_cons] at nd
      cases us with
      | nil => cases hv
      | cons v0 us =>
        cases i with
        | zero =>
          cases h1
          cases h2
          rcases List.mem_cons.mp hv with q | q
          · cases q
            rfl
          · exact absurd (List.of_mem_zip q).1 nd.1
        | succ i =>
          rcases List.mem_cons.mp hv with q | q
          · cases q
            exact absurd (List.mem_of_getElem? (show ps[i]? = some x from h1)) nd.1
          · exact ih nd.2 h1 h2 v q
  refine key (fun v hv => one nd h1 h2 v (List.mem_reverse.mp hv)) (List.mem_reverse.mpr (at_ h1 h2))
section
variable {CX : CXT} {P : Program} {w : World} {K : PySem.W.Frag} {mg : Str → Option Value} {base : Heap} {N ps : List Str} {qual : Str} {scope : Scope} {f a C cda cc t1 : Addr} {A : Around} {outer : List PySem.Env} {s : Shared} {H : Hp} {E : XK} {us : List Value} {vs : List V} {h' : Heap} {tk : Nat}
theorem inv_sup (Sc : ScI N ps scope) (S : SupC P K C cc cda) (hd : A.handled = none) (e0 : Env0 P w K mg base A outer s H) (hl : vs.length = ps.length) (r : Vals vs us) (ha : H a = some (exo a C none))
    (F : Fr (hideAll s.heap [a]) s.heap.objs.size h' (fun y => (ps.zip us).reverse.lookup y)) (hx : h'.get? a = some (excObj C t1 none .none)) :
    Inv (cxI CX P w K mg base N qual scope f cda cc A outer s H E) [] (L2.start N vs) H { s with heap := h', toks := tk } := by
  have kp : ∀ b o, b ≠ a → s.heap.get? b = some o → h'.get? b = some o := fun b o n e => F.keep b o (hideAll_get [a] e fun z => n (List.mem_singleton.mp z))
  have nk : ∀ b o, base.get? b = some o → b ≠ a := fun b o e z => by
    have q := (e0.bs b o e).2
    rw [z, ha] at q
    cases q
  obtain ⟨cl, cld, csl, hcell⟩ := S.cell
  have hcb : base.get? cc = some ⟨cl, cld, .cell (some (.ref C)), csl⟩ := e0.mod.kin _ _ hcell
  have noA : ∀ b : Addr, b ∉ (cxI CX P w K mg base N qual scope f cda cc A outer s H E).ex := fun b z => absurd (show b ∈ ([] : List Addr) from z) (by simp)
  have cl1 : ∀ {x : Str} {c : Addr}, (cxI CX P w K mg base N qual scope f cda cc A outer s H E).env.cells.lookup x = some c → x = "__class__" ∧ c = cc := fun {x c} e => by
    have e : ([("__class__", cc)] : List (Str × Addr)).lookup x = some c := e
    by_cases q : x = "__class__"
    · subst q
      simp [List.lookup] at e
      exact ⟨rfl, e.symm⟩
    · have q' : (x == ("__class__" : Str)) = false := by simpa using q
      simp only [List.lookup, q'] at e
      cases e
  have un : Un (cxI CX P w K mg base N qual scope f cda cc A outer s H E).fs [] H H s.heap h' := {
    keep := fun b o e n _ _ => kp b o (fun z => by rw [z, ha] at n; cases n) e
    slot := fun b o e n _ _ => ⟨o.slots, kp b o (fun z => by rw [z, ha] at n; cases n) e⟩
    free := fun _ _ _ n _ => n
    there := fun b o e _ => by
      by_cases z : b = a
      · rw [z]
        exact ⟨_, hx⟩
      · exact ⟨o, kp b o z e⟩
    tups := fun _ _ q => q
    frzs := fun _ _ _ q => q
    tbls := fun _ ps q => ⟨#[], by rw [q]; simp⟩ }
  refine ⟨⟨e0.mod, Sc.kind, rfl, rfl, Nat.le_refl _, fun x y c h1 h2 => ?_, fun x hk => ?_, fun x c hfn h => ?_, fun _ => hd, Around.frames_deeper e0.frames, .inr ⟨rfl, rfl⟩, fun b z => absurd z (noA b), e0.bs, e0.bsz, fun b _ _ => noA b, fun b z => absurd z (noA b), e0.funs, e0.frf⟩,
    rfl, e0.bare, un, ⟨_, F.ns, fun i y v h1 h2 h3 => ?_⟩, fun x c h => ?_, e0.hok.fresh (Nat.le_refl _), fun x c h => ?_, fun p hp => absurd (show p ∈ ([] : List (Addr × Obj)) from hp) (by simp), fun b o q => ?_, ?_⟩
  · rw [(cl1 h1).1, (cl1 h2).1]
  · have hk : scope.names.lookup x = some .cell ∨ scope.names.lookup x = some .free := hk
    rcases hk with hk | hk
    · exact absurd rfl (Sc.nocell _ (PySem.mem_of_lookup hk))
    · have q : x = "__class__" := Sc.free _ (PySem.mem_of_lookup hk) rfl
      subst q
      exact ⟨cc, rfl⟩
  · have q := (cl1 h).1
    have hfn : decide (x ≠ "__class__") = true := hfn
    rw [q] at hfn
    exact absurd hfn (by decide)
  · have hi : i < vs.length := by
      unfold L2.start at h2
      by_cases hi : i < vs.length
      · exact hi
      · rw [List.getElem?_append_right (by simpa using hi), List.getElem?_replicate] at h2
        split at h2 <;> cases h2
    have hv : vs[i]? = some v := by
      unfold L2.start at h2
      rw [List.getElem?_append_left (by simpa using hi), List.getElem?_map] at h2
      cases e : vs[i]? with
      | none => rw [e] at h2; cases h2
      | some b => rw [e] at h2; cases h2; rfl
    obtain ⟨u, hu, rv⟩ := r.get hv
    have hp : ps[i]? = some y := by
      rw [← Sc.pre, List.getElem?_take_of_lt (by omega)]
      exact h1
    have ndP : ps.Nodup := by
      rw [← Sc.pre]
      exact Sc.nd.sublist (List.take_sublist _ _)
    exact ⟨u, rv, .inl ⟨Sc.par y (List.mem_of_getElem? hp), zip_lookup ndP hp hu⟩⟩
  · rw [(cl1 h).2]
    exact ⟨_, _, F.keep _ _ (hideAll_get [a] (e0.bs _ _ hcb).1 fun z => nk _ _ hcb (List.mem_singleton.mp z)), rfl⟩
  · rw [(cl1 h).2]
    exact (e0.bs _ _ hcb).2
  · by_cases z : b = a
    · subst z
      rw [ha] at q
      cases q
      exact exo_ok hx
    · exact (e0.hok b o q).stay (fun c v hc e => kp c v (by
        rcases hc with hc | hc
        · rw [hc]
          exact z
        · exact at_ne ha hc exo_own) e) (fun _ q => q) fun _ _ q => q
  · unfold L2.start
    show _ = N.length
    have hpl : ps.length ≤ N.length := by
      have := congrArg List.length Sc.pre
      rw [List.length_take] at this
      omega
    rw [List.length_append, List.length_map, List.length_replicate]
    omega
/-- THE RULE for such an __init__ -/
theorem fn_init {name : Str} {params : Arguments} {rest : List Stmt} {dV kV doc pm ct oc : Value} {an od : Option Addr} {osl : Array (Option Value)} {k : Nat} {sp : Sp} {p0 p1 ap p2 pos pos' : Pos} {x : Str} {j : Nat} {self : Arg} {pl : List PySem.Env → Sem Bool}
    (lk : K.lookup f = some ⟨oc, od, .func (ksFn name qual params (.Expr (.Call (.Attribute (.Call (.Name "super" p0) [] [] p1) "__init__" ap) [.Constant (.str x) j p2] [] pos) pos' :: rest) scope dV kV doc pm an (.ref cda) ct cc), osl⟩)
    (hcd : PySem.W.codeIn K (.ref cda) qual = true) (Sc : ScI N ps scope) (S : SupC P K C cc cda) (hp : (params.posonlyargs ++ params.args).head? = some self) (hps : ps[0]? = some self.arg) (mS : mg "super" = none) (htop : (P.main.scope.names.lookup ("super" : Str)).isSome = false)
    (he : ∀ L : Addr, eval (.Call (.Attribute (.Call (.Name "super" p0) [] [] p1) "__init__" ap) [.Constant (.str x) j p2] [] pos) (ksEnv qual scope L f (.ref cda) cc) = (do
      let ov ← attributeBase (.Call (.Name "super" p0) [] [] p1) "__init__" (ksEnv qual scope L f (.ref cda) cc) (eval (.Call (.Name "super" p0) [] [] p1) (ksEnv qual scope L f (.ref cda) cc))
      standAt ap.atName
      let (g, first) ← holding [ov] (getMethod ov "__init__" (pl [ksEnv qual scope L f (.ref cda) cc]))
      callWith pos g first (backTo pos (starEach [.Constant (.str x) j p2] (ksEnv qual scope L f (.ref cda) cc))) []))
    (len : ∀ vs H Q E, sp vs H Q E → vs.length = ps.length) (hsp : ∀ vs H Q E, sp vs H Q E → ∃ (a : Addr) (ws : List V), vs = .ref a :: ws ∧ H a = some (exo a C none))
    (hbody : ∀ (A : Around) (outer : List PySem.Env) (s : Shared) (H : Hp) (vs : List V) (Q : VK) (E : XK), Room k (A.deeper (ksEnv qual scope s.heap.objs.size f (.ref cda) cc)) → sp vs H Q E →
      ∃ t, PSs (cxI CX P w K mg base N qual scope f cda cc A outer s H E) rest t ∧ t { nx := fun _ H' => Q .non H', rt := Q } (L2.start N vs) H) :
    FnOk P w K mg base CX (k + 1) f (ksFn name qual params (.Expr (.Call (.Attribute (.Call (.Name "super" p0) [] [] p1) "__init__" ap) [.Constant (.str x) j p2] [] pos) pos' :: rest) scope dV kV doc pm an (.ref cda) ct cc) ps sp := by
  refine ⟨len, fun A outer s H args us vs Q E hr e0 hb r h => ?_⟩
  have hl := len _ _ _ _ h
  obtain ⟨a, ws, rfl, ha⟩ := hsp _ _ _ _ h
  have KX : K.In s.heap := e0.mod.kin.keeps fun b o e => (e0.bs b o e).1
  have lim : s.heap.NoLimit := e0.mod.nolimit.keeps fun b o e => (e0.bs b o e).1
  have nk : ∀ b o, base.get? b = some o → b ≠ a := fun b o e z => by
    have q := (e0.bs b o e).2
    rw [z, ha] at q
    cases q
  obtain ⟨t0, hoe⟩ := exo_at e0.hok ha
  have ndP : ps.Nodup := by
    rw [← Sc.pre]
    exact Sc.nd.sublist (List.take_sublist _ _)
  refine ks_codeAny_call_defAt hr.depth (KX _ _ lk) rfl lim (PySem.W.codeRec_of KX hcd) rfl hb Sc.nocell (fun y hy => Sc.par _ (List.of_mem_zip hy).1) (fun h1 hns hk1 => ?_) Sc.co Sc.gen Sc.kind
  have F1 : Fr (hideAll s.heap [a]) s.heap.objs.size h1 (fun y => (ps.zip us).reverse.lookup y) := ⟨hns, fun b o e => hk1 b o (of_hideAll _ e), Nat.le_of_eq (hideAll_size _ _)⟩
  have N1 : News (hideAll s.heap [a]) s.heap.objs.size h1 [(a, excObj C t0 none .none)] := fun p hp => by
    rw [List.mem_singleton.mp hp]
    exact ⟨hk1 _ _ hoe, Nat.ne_of_lt (Heap.lt_size hoe), hideAll_none [a] List.mem_cons_self⟩
  have kb : ∀ b o, base.get? b = some o → (hideAll s.heap [a]).get? b = some o := fun b o e => hideAll_get [a] (e0.bs b o e).1 fun z => nk b o e (List.mem_singleton.mp z)
  have hu : us[0]? = some (.ref a) := by
    cases r with
    | cons ra _ =>
      have ra : _ = Value.ref a := ra
      subst ra
      rfl
  refine ks_wpAt_execs_cons ?_
  refine sup_row e0.mod kb S F1 N1 lk rfl hp (zip_lookup ndP hps hu) mS Sc.kind Sc.sup Sc.cls (Sc.par _ (List.mem_of_getElem? hps)) htop (he _) fun h2 t2 tk F2 N2 => ?_
  obtain ⟨t, ht, hq⟩ := hbody A outer s H _ Q E (hr.deeper _) h
  have I := inv_sup (CX := CX) (w := w) (mg := mg) (N := N) (qual := qual) (f := f) (outer := outer) (E := E) (tk := tk) Sc S hr.hd e0 hl r ha F2 (N2 _ List.mem_cons_self).1
  refine wpAt_of_wpAny (wpAny_mono (ht.run [] _ _ H _ I hq) (fun fl s' hs => ?_) fun e s' hs => hs)
  have fin : ∀ {σ' : L2.St} {H' : Hp} {v : V} {u : Value}, Inv (cxI CX P w K mg base N qual scope f cda cc A outer s H E) [] σ' H' s' → RelV v u → Q v H' → CE outer P w H s Q u s' := fun {σ' H' v u} J rv q => ⟨v, H', J.os, J.bare, J.base, J.hok, rv, q⟩
  cases fl with
  | ret u => obtain ⟨v, σ', H', J, rv, q⟩ := hs; exact fin J rv q
  | next => obtain ⟨σ', H', J, q⟩ := hs; exact fin (v := V.non) (u := Value.none) J rfl q
  | brk => obtain ⟨_, _, _, q⟩ := hs; exact q.elim
  | cont => obtain ⟨_, _, _, q⟩ := hs; exact q.elim
/-- what __init__ leaves: the exception's dict with its fields -/
def spI (C : Addr) (fs : List Str) : Sp := fun vs H Q _ => ∃ (a : Addr) (ws : List V), vs = .ref a :: ws ∧ ws.length = fs.length ∧ H a = some (exo a C none) ∧
  ∀ d H', d ≠ a → H d = none → H' d = some (exd d (fs.zip ws).reverse) → H' a = some (exo a C (some d)) → (∀ b, b ≠ d → b ≠ a → H' b = H b) → Q .non H'
end
section
variable {P : Program} {w : World} {K : PySem.W.Frag} {mg : Str → Option Value} {base : Heap} {ps : List Str} {qual : Str} {scope : Scope} {f C cda cc : Addr} {name : Str} {params : Arguments} {dV kV doc pm ct oc : Value} {an od : Option Addr} {osl : Array (Option Value)} {k : Nat}
  {p0 p1 ap p2 pos pos' a1 a2 a3 a4 b1 b2 b3 b4 : Pos} {x : Str} {j : Nat} {q1 q2 f1 f2 : Str} {self : Arg} {pl : List PySem.Env → Sem Bool}
theorem init1 (lk : K.lookup f = some ⟨oc, od, .func (ksFn name qual params (.Expr (.Call (.Attribute (.Call (.Name "super" p0) [] [] p1) "__init__" ap) [.Constant (.str x) j p2] [] pos) pos' :: [.Assign [.Attribute (.Name "self" a1) f1 a2] (.Name q1 a3) a4]) scope dV kV doc pm an (.ref cda) ct cc), osl⟩)
    (hcd : PySem.W.codeIn K (.ref cda) qual = true) (Sc : ScI ["self", q1] ["self", q1] scope) (S : SupC P K C cc cda) (T : OexC K C) (hno : PySem.W.findIn K (.ref C) f1 = some none) (hp : (params.posonlyargs ++ params.args).head? = some self) (hself : self.arg = "self") (mS : mg "super" = none) (htop : (P.main.scope.names.lookup ("super" : Str)).isSome = false)
    (he : ∀ L : Addr, eval (.Call (.Attribute (.Call (.Name "super" p0) [] [] p1) "__init__" ap) [.Constant (.str x) j p2] [] pos) (ksEnv qual scope L f (.ref cda) cc) = (do
      let ov ← attributeBase (.Call (.Name "super" p0) [] [] p1) "__init__" (ksEnv qual scope L f (.ref cda) cc) (eval (.Call (.Name "super" p0) [] [] p1) (ksEnv qual scope L f (.ref cda) cc))
      standAt ap.atName
      let (g, first) ← holding [ov] (getMethod ov "__init__" (pl [ksEnv qual scope L f (.ref cda) cc]))
      callWith pos g first (backTo pos (starEach [.Constant (.str x) j p2] (ksEnv qual scope L f (.ref cda) cc))) []))
    (hs1 : ∀ L : Addr, swapsWith (.Name q1 a3) (some (.Attribute (.Name "self" a1) f1 a2)) a4.line (ksEnv qual scope L f (.ref cda) cc) = pure false) (hd1 : (q1 == ("__debug__" : Str)) = false) (hd2 : (q1 == ("__classdict__" : Str)) = false) :
    FnOk P w K mg base (L2.CX P w) (k + 1) f (ksFn name qual params (.Expr (.Call (.Attribute (.Call (.Name "super" p0) [] [] p1) "__init__" ap) [.Constant (.str x) j p2] [] pos) pos' :: [.Assign [.Attribute (.Name "self" a1) f1 a2] (.Name q1 a3) a4]) scope dV kV doc pm an (.ref cda) ct cc) ["self", q1] (spI C [f1]) := by
  refine fn_init (N := ["self", q1]) (pl := pl) lk hcd Sc S hp (by rw [hself]; rfl) mS htop he (fun vs H Q E h => ?_) (fun vs H Q E h => ?_) fun A outer s H vs Q E hr h => ?_
  · obtain ⟨a, ws, rfl, hl, _⟩ := h
    rw [List.length_cons, hl]
    rfl
  · obtain ⟨a, ws, rfl, _, ha, _⟩ := h
    exact ⟨a, ws, rfl, ha⟩
  · have v0 : ∀ X : Cx, X = cxI (L2.CX P w) P w K mg base ["self", q1] qual scope f cda cc A outer s H E → PE X (.Name "self" a1) (tVar 0) := fun X e => by
      subst e
      exact pe_var rfl (.inl (Sc.par _ List.mem_cons_self)) (by decide) (by decide)
    have v1 : ∀ X : Cx, X = cxI (L2.CX P w) P w K mg base ["self", q1] qual scope f cda cc A outer s H E → PE X (.Name q1 a3) (tVar 1) := fun X e => by
      subst e
      exact pe_var rfl (.inl (Sc.par _ (List.mem_cons_of_mem _ List.mem_cons_self))) hd1 hd2
    refine ⟨_, pss_cons (ps_ost (v0 _ rfl) (v1 _ rfl) (hs1 _)) pss_nil, ?_⟩
    obtain ⟨a, ws, rfl, hl, ha, hq⟩ := h
    match ws, hl with
    | [y], _ =>
      refine ⟨y, rfl, _, rfl, a, C, rfl, T, hno, .inl ⟨ha, fun dx n ne => ?_⟩⟩
      exact hq dx _ ne n (by rw [upd_ne ne, upd_same]; rfl) upd_same fun b n1 n2 => by rw [upd_ne n2, upd_ne n1]
theorem init2 (lk : K.lookup f = some ⟨oc, od, .func (ksFn name qual params (.Expr (.Call (.Attribute (.Call (.Name "super" p0) [] [] p1) "__init__" ap) [.Constant (.str x) j p2] [] pos) pos' :: [.Assign [.Attribute (.Name "self" a1) f1 a2] (.Name q1 a3) a4, .Assign [.Attribute (.Name "self" b1) f2 b2] (.Name q2 b3) b4]) scope dV kV doc pm an (.ref cda) ct cc), osl⟩)
    (hcd : PySem.W.codeIn K (.ref cda) qual = true) (Sc : ScI ["self", q1, q2] ["self", q1, q2] scope) (S : SupC P K C cc cda) (T : OexC K C) (hno : PySem.W.findIn K (.ref C) f1 = some none) (hno2 : PySem.W.findIn K (.ref C) f2 = some none) (hp : (params.posonlyargs ++ params.args).head? = some self) (hself : self.arg = "self") (mS : mg "super" = none) (htop : (P.main.scope.names.lookup ("super" : Str)).isSome = false)
    (he : ∀ L : Addr, eval (.Call (.Attribute (.Call (.Name "super" p0) [] [] p1) "__init__" ap) [.Constant (.str x) j p2] [] pos) (ksEnv qual scope L f (.ref cda) cc) = (do
      let ov ← attributeBase (.Call (.Name "super" p0) [] [] p1) "__init__" (ksEnv qual scope L f (.ref cda) cc) (eval (.Call (.Name "super" p0) [] [] p1) (ksEnv qual scope L f (.ref cda) cc))
      standAt ap.atName
      let (g, first) ← holding [ov] (getMethod ov "__init__" (pl [ksEnv qual scope L f (.ref cda) cc]))
      callWith pos g first (backTo pos (starEach [.Constant (.str x) j p2] (ksEnv qual scope L f (.ref cda) cc))) []))
    (hs1 : ∀ L : Addr, swapsWith (.Name q1 a3) (some (.Attribute (.Name "self" a1) f1 a2)) a4.line (ksEnv qual scope L f (.ref cda) cc) = pure false) (hs2 : ∀ L : Addr, swapsWith (.Name q2 b3) (some (.Attribute (.Name "self" b1) f2 b2)) b4.line (ksEnv qual scope L f (.ref cda) cc) = pure false)
    (hd1 : (q1 == ("__debug__" : Str)) = false) (hd2 : (q1 == ("__classdict__" : Str)) = false) (hd3 : (q2 == ("__debug__" : Str)) = false) (hd4 : (q2 == ("__classdict__" : Str)) = false) :
    FnOk P w K mg base (L2.CX P w) (k + 1) f (ksFn name qual params (.Expr (.Call (.Attribute (.Call (.Name "super" p0) [] [] p1) "__init__" ap) [.Constant (.str x) j p2] [] pos) pos' :: [.Assign [.Attribute (.Name "self" a1) f1 a2] (.Name q1 a3) a4, .Assign [.Attribute (.Name "self" b1) f2 b2] (.Name q2 b3) b4]) scope dV kV doc pm an (.ref cda) ct cc) ["self", q1, q2] (spI C [f1, f2]) := by
  refine fn_init (N := ["self", q1, q2]) (pl := pl) lk hcd Sc S hp (by rw [hself]; rfl) mS htop he (fun vs H Q E h => ?_) (fun vs H Q E h => ?_) fun A outer s H vs Q E hr h => ?_
  · obtain ⟨a, ws, rfl, hl, _⟩ := h
    rw [List.length_cons, hl]
    rfl
  · obtain ⟨a, ws, rfl, _, ha, _⟩ := h
    exact ⟨a, ws, rfl, ha⟩
  · have v0 : ∀ (X : Cx) (p : Pos), X = cxI (L2.CX P w) P w K mg base ["self", q1, q2] qual scope f cda cc A outer s H E → PE X (.Name "self" p) (tVar 0) := fun X p e => by
      subst e
      exact pe_var rfl (.inl (Sc.par _ List.mem_cons_self)) (by decide) (by decide)
    have v1 : ∀ X : Cx, X = cxI (L2.CX P w) P w K mg base ["self", q1, q2] qual scope f cda cc A outer s H E → PE X (.Name q1 a3) (tVar 1) := fun X e => by
      subst e
      exact pe_var rfl (.inl (Sc.par _ (List.mem_cons_of_mem _ List.mem_cons_self))) hd1 hd2
    have v2 : ∀ X : Cx, X = cxI (L2.CX P w) P w K mg base ["self", q1, q2] qual scope f cda cc A outer s H E → PE X (.Name q2 b3) (tVar 2) := fun X e => by
      subst e
      exact pe_var rfl (.inl (Sc.par _ (List.mem_cons_of_mem _ (List.mem_cons_of_mem _ List.mem_cons_self)))) hd3 hd4
    refine ⟨_, pss_cons (ps_ost (v0 _ _ rfl) (v1 _ rfl) (hs1 _)) (pss_cons (ps_ost (v0 _ _ rfl) (v2 _ rfl) (hs2 _)) pss_nil), ?_⟩
    obtain ⟨a, ws, rfl, hl, ha, hq⟩ := h
    match ws, hl with
    | [y, z], _ =>
      refine ⟨y, rfl, _, rfl, a, C, rfl, T, hno, .inl ⟨ha, fun dx n ne => ?_⟩⟩
      refine ⟨z, rfl, _, rfl, a, C, rfl, T, hno2, .inr ⟨dx, [(f1, y)], upd_same, by rw [upd_ne ne, upd_same], by simp, ?_⟩⟩
      exact hq dx _ ne n upd_same (by rw [upd_ne (Ne.symm ne), upd_same]) fun b n1 n2 => by rw [upd_ne n1, upd_ne n2, upd_ne n1]
end

/-! ### raise C(e, ..) -/
/-- class x stands at C; its fields, in the order of __init__ -/
def HasX (P : Program) (w : World) (K : PySem.W.Frag) (mg : Str → Option Value) (base : Heap) (x : Str) (C : Addr) (fs : List Str) : Prop := OexC K C ∧ mg x = some (.ref C) ∧ ∃ (fI : Addr) (fd : FuncData) (ps : List Str),
  PySem.W.findIn K (.ref C) "__init__" = some (some (.ref fI)) ∧ PySem.W.typeIn K (.ref fI) = some (.type "function") ∧ FnOk P w K mg base (L2.CX P w) 1 fI fd ps (spI C fs) ∧ Binds K fd ps []
def fRaise (C : Addr) (fs : List Str) (fa : DL.Env → R (List D)) : DL.Env → Out := fun ρ => stE (fa ρ) ρ fun l => .exc ⟨C, fs.reverse, l.reverse⟩ ρ
theorem RepL.rev {K : PySem.W.Frag} {G : Hp} : ∀ {vs : List V} {ds : List D}, RepL K G vs ds → RepL K G vs.reverse ds.reverse
  | _, [], h => by
    have h : _ = [] := h
    subst h
    exact RepL.nil
  | _, d :: ds, ⟨x, xs, h1, h2, h3⟩ => by
    subst h1
    rw [List.reverse_cons, List.reverse_cons]
    exact (RepL.rev h3).append (.one h2)
/-- (as the library's del) -/
def del2 (H : Hp) (a : Addr) : Hp := fun b => if b = a then none else H b
section
variable {X : Cx} {W : WX} {ow ow' owl : Ow} {x : Str} {C : Addr} {fs : List Str} {p pos pos2 : Pos} {e : Expr} {es : List Expr} {ea : List Nat} {fa : DL.Env → R (List D)}
theorem pds_raise (h : HasX X.prog X.w X.K X.mg X.base x C fs) (hc : X.calm = true) (tk : Takes X W) (hr : Room 2 X.A) (hg : Gl X x) (ha : PDA X W (e :: es) ea fa) (hn : ∀ ρ l, fa ρ = .ok l → l.length = fs.length) (hz : fs.length ≤ 10 := by decide)
    (hdb : (x == ("__debug__" : Str)) = false := by decide) (he : starEach (e :: es) X.env = (false, eval e X.env) :: starEach es X.env := by rfl) (hpl : (backTo pos (starEach es X.env)).any (·.1) = false := by rfl) :
    PDS X W ow ow' owl (.Raise (some (.Call (.Name x p) (e :: es) [] pos)) none pos2) (fRaise C fs fa) := by
  obtain ⟨T, hm, fI, fd, ps, iC, tI, F1, hb⟩ := h
  refine PS.imp (ps_raise hc tk (pmk_oex T iC tI F1 hr hb .nil (passes_call tk fun _ _ _ _ z => z.elim) hg hm ha hdb he hpl)) fun D σ H ⟨B, O, L, ρ, S, w, P⟩ => ⟨B, O, L, ρ, S, ?_⟩
  have P : PostS X.K B O W ow' owl (stE (fa ρ) ρ fun l => .exc ⟨C, fs.reverse, l.reverse⟩ ρ) D := P
  cases q : fa ρ with
  | stuck => rw [q] at P; exact P
  | exc y => rw [q] at P; exact fun c dd H1 e1 r => P c dd σ H1 L (S.ext e1) r
  | ok l =>
    rw [q] at P
    intro vs H1 e1 r1
    have r1 : RepL X.K (hide (HS O (dropL ea L)) H1) vs l := r1
    have P : ∀ c dd σ H L, SR X.K B O L σ H ρ → RepX X.K (hide O H) H c dd ⟨C, fs.reverse, l.reverse⟩ → W c dd σ H := P
    have hl := r1.length
    have hn2 := hn ρ l q
    refine ⟨by omega, fun a na => ?_⟩
    rw [List.append_nil]
    refine ⟨a, vs, rfl, by omega, upd_same, fun d H' dn hd h1 h2 h3 => ?_⟩
    rw [upd_ne dn] at hd
    have eH : upd (DL.del2 H' a) d (.xd (fs.zip vs).reverse) = upd H1 d (.xd (fs.zip vs).reverse) := by
      funext b
      by_cases q1 : b = d
      · rw [q1, upd_same, upd_same]
      · rw [upd_ne q1, upd_ne q1]
        unfold DL.del2
        by_cases q2 : b = a
        · rw [if_pos q2, q2, na]
        · rw [if_neg q2, h3 b q1 q2, upd_ne q2]
    refine ⟨rfl, d, (fs.zip vs).reverse, h2, h1, hd, ?_⟩
    show W (.ref C) (some d) σ (upd (DL.del2 H' a) d (.xd (fs.zip vs).reverse))
    rw [eH]
    have e2 : Same H1 (upd H1 d (.xd (fs.zip vs).reverse)) := same_new hd
    refine P _ _ σ _ L ((S.ext e1).ext e2) ⟨rfl, d, _, rfl, upd_same, ?_, ?_⟩
    · show List.map (·.1) (fs.zip vs).reverse = fs.reverse
      rw [List.map_reverse, List.map_fst_zip (by omega)]
    · show RepL X.K _ (List.map (·.2) (fs.zip vs).reverse) l.reverse
      rw [List.map_reverse, List.map_snd_zip (by omega)]
      exact (r1.mono (RdLe.trans (hide_same hs_0 (Same.refl H1)) (hide_same (fun _ z => z) e2))).rev
end
end DL
set_option Elab.async false
set_option linter.all false
set_option maxRecDepth 100000
namespace DL
open PySem L2

/-! ### try: what raises nothing -/
def fTryN (f : DL.Env → Out) : DL.Env → Out := fun ρ =>
  match f ρ with
  | .exc _ _ => .stuck
  | o => o
theorem takes_no {X : Cx} : Takes X.nox W0 := fun u s' h => by
  obtain ⟨a, B, sI, pins, σ, H, cls, d, _, _, _, _, _, _, _, _, z⟩ := h
  exact z.elim
section
variable {X : Cx} {W : WX} {ow ow' owl : Ow} {body : List Stmt} {h₀ : ExceptHandler} {hs : List ExceptHandler} {pos : Pos} {f : DL.Env → Out}
theorem pds_tryN (hb : Takes X.nox W0 → PDB X.nox W0 ow ow' owl body f) : PDS X W ow ow' owl (.Try body (h₀ :: hs) [] [] pos) (fTryN f) := PS.imp (ps_try_thru0 (hb takes_no)) fun D σ H ⟨B, O, L, ρ, S, w, P⟩ => ⟨B, O, L, ρ, S, w, by
  unfold fTryN at P
  cases q : f ρ with
  | nx ρ' => rw [q] at P; exact P
  | rt d => rw [q] at P; exact P
  | bk ρ' => rw [q] at P; exact P
  | ct ρ' => rw [q] at P; exact P
  | exc x ρ' => rw [q] at P; exact P.elim
  | stuck => rw [q] at P; exact P⟩
end

/-! ### except C as n: return e -/
def XAt (K : PySem.W.Frag) (O : Addr → Prop) (H : Hp) (cls : Value) (d : Option Addr) (x : XN) : Prop := cls = .ref x.C ∧ ∃ dd us, d = some dd ∧ H dd = some (.xd us) ∧ us.map (·.1) = x.fs ∧ RepL K (hide O H) (us.map (·.2)) x.vs
theorem XAt.ext {K : PySem.W.Frag} {O : Addr → Prop} {H H' : Hp} {cls : Value} {d : Option Addr} {x : XN} (h : XAt K O H cls d x) (e : Same H H') : XAt K O H' cls d x := by
  obtain ⟨h1, dd, us, h2, h3, h4, h5⟩ := h
  exact ⟨h1, dd, us, h2, e dd _ h3, h4, h5.mono (hide_same (fun _ z => z) e)⟩
def rX (K : PySem.W.Frag) (O : Addr → Prop) : Hp → V → D → Prop := fun H v d => Rep K (hide O H) v d
def rXA (K : PySem.W.Frag) (O : Addr → Prop) : Hp → List V → List D → Prop := fun H v d => RepL K (hide O H) v d
def tX (K : PySem.W.Frag) (a : Addr) (cls : Value) (d : Option Addr) (i : Nat) (v : XN → R D) : TE := fun σ H Q => ∃ (O : Addr → Prop) (x : XN), (∀ p, O p → H p ≠ none) ∧ σ[i]? = some (some (.ref a)) ∧ XAt K O H cls d x ∧ PostG K O W0 (rX K O) (v x) σ H Q
def tXA (K : PySem.W.Frag) (a : Addr) (cls : Value) (d : Option Addr) (i : Nat) (v : XN → R (List D)) : TA := fun σ H Q => ∃ (O : Addr → Prop) (x : XN), (∀ p, O p → H p ≠ none) ∧ σ[i]? = some (some (.ref a)) ∧ XAt K O H cls d x ∧ PostG K O W0 (rXA K O) (v x) σ H Q
/-- an expression of an except suite: constants and the exception's fields -/
def PX (X : Cx) (i : Nat) (e : Expr) (v : XN → R D) : Prop := ∀ (a : Addr) (oe : Obj) (cls : Value) (d : Option Addr) (pn : List (Addr × Obj)), Zc cls d oe → (∃ vs, oe.data = .fields vs) → PE (X.suite a ((a, oe) :: pn)) e (tX X.K a cls d i v)
def PXA (X : Cx) (i : Nat) (e : List Expr) (v : XN → R (List D)) : Prop := ∀ (a : Addr) (oe : Obj) (cls : Value) (d : Option Addr) (pn : List (Addr × Obj)), Zc cls d oe → (∃ vs, oe.data = .fields vs) → PA (X.suite a ((a, oe) :: pn)) e (tXA X.K a cls d i v)
def fldX (C : Addr) (f : Str) (x : XN) : R D := if x.C = C then R.ofO (look x.fs x.vs) else .stuck
where look : List Str → List D → Option D
  | g :: gs, d :: ds => if g = f then some d else look gs ds
  | _, _ => none
theorem look_fld {K : PySem.W.Frag} {G : Hp} {f : Str} : ∀ {us : List (Str × V)} {ds : List D} {d : D}, RepL K G (us.map (·.2)) ds → fldX.look f (us.map (·.1)) ds = some d → ∃ v, us.lookup f = some v ∧ Rep K G v d
  | [], _, _, _, h => by cases h
  | (g, v) :: us, [], _, h, _ => by
    have h : _ = [] := h
    cases h
  | (g, v) :: us, d0 :: ds, d, ⟨y, ys, h1, h2, h3⟩, h => by
    cases h1
    have h : (if g = f then some d0 else fldX.look f (us.map (·.1)) ds) = some d := h
    rw [lookup_put]
    by_cases e : g = f
    · rw [if_pos e] at h
      cases h
      rw [if_pos e.symm]
      exact ⟨_, rfl, h2⟩
    · rw [if_neg e] at h
      rw [if_neg fun z => e z.symm]
      exact look_fld h3 h
section
variable {X : Cx} {i : Nat} {e : Expr} {es : List Expr} {v : XN → R D} {vs : XN → R (List D)} {pos : Pos}
theorem px_str {x : Str} {j pos} (l : List Nat) (hl : x = mkS l := by decide +kernel) (ho : l.all (fun c => decide (c < 0x110000)) = true := by decide +kernel) : PX X i (.Constant (.str x) j pos) (fun _ => .ok (.str l)) := fun a oe cls d pn hz hf =>
  PE.imp pe_str fun σ H Q ⟨O, x, dom, hs, xa, P⟩ => P _ H (Same.refl H) ⟨by rw [hl], fun c hc => of_decide_eq_true (List.all_eq_true.mp ho c hc)⟩
theorem px_int {z : Int} {j pos} : PX X i (.Constant (.int z) j pos) (fun _ => .ok (.int z)) := fun a oe cls d pn hz hf => PE.imp pe_int fun σ H Q ⟨O, x, dom, hs, xa, P⟩ => P _ H (Same.refl H) rfl
theorem px_bl {z : Bool} {j pos} : PX X i (.Constant (.bool z) j pos) (fun _ => .ok (.bl z)) := fun a oe cls d pn hz hf => PE.imp pe_bl fun σ H Q ⟨O, x, dom, hs, xa, P⟩ => P _ H (Same.refl H) rfl
theorem px_non {j pos} : PX X i (.Constant .none j pos) (fun _ => .ok .non) := fun a oe cls d pn hz hf => PE.imp pe_non fun σ H Q ⟨O, x, dom, hs, xa, P⟩ => P _ H (Same.refl H) rfl
theorem px_fld {C : Addr} {f n : Str} {np : Pos} (T : XfC X.K C) (hno : PySem.W.findIn X.K (.ref C) f = some none) (hN : X.N[i]? = some n) (hv : Vis X.env.scope n) (hd : (n == ("__debug__" : Str)) = false := by decide) (hcd : (n == ("__classdict__" : Str)) = false := by decide)
    (hb : attributeBase (.Name n np) f X.env (eval (.Name n np) X.env) = eval (.Name n np) X.env := by rfl) : PX X i (.Attribute (.Name n np) f pos) (fldX C f) := fun a oe cls d pn hz hf =>
  PE.imp (pe_xf T hno hz hf (pe_var (i := i) hN hv hd hcd) hb) fun σ H Q ⟨O, x, dom, hs, xa, P⟩ => by
    obtain ⟨h1, dd, us, h2, h3, h4, h5⟩ := xa
    have P : PostG X.K O W0 (rX X.K O) (if x.C = C then R.ofO (fldX.look f x.fs x.vs) else .stuck) σ H Q := P
    split at P
    case isFalse => exact P.elim
    rename_i hC
    obtain ⟨w, hw, k⟩ := P.ofO
    rw [← h4] at hw
    obtain ⟨u, hu, r⟩ := look_fld h5 hw
    exact ⟨_, hs, rfl, by rw [h1, hC], dd, us, u, h2, h3, hu, k u H (Same.refl H) r⟩
theorem pxa_nil : PXA X i [] (fun _ => .ok []) := fun a oe cls d pn hz hf => PA.imp pa_nil fun σ H Q ⟨O, x, dom, hs, xa, P⟩ => P [] H (Same.refl H) rfl
theorem pxa_cons (h : PX X i e v) (k : PXA X i es vs) (hs : starEach (e :: es) X.env = (false, eval e X.env) :: starEach es X.env := by rfl) : PXA X i (e :: es) (fun x => (v x).bind fun a => (vs x).bind fun l => .ok (a :: l)) := fun a oe cls d pn hz hf =>
  PA.imp (pa_cons (h a oe cls d pn hz hf) (k a oe cls d pn hz hf) hs) fun σ H Q ⟨O, x, dom, hs, xa, P⟩ => ⟨O, x, dom, hs, xa, PostG.bind P fun y yv H1 e1 r1 P1 => ⟨O, x, fun p hp z => dom p hp (e1.free z), hs, xa.ext e1, PostG.bind P1 fun ys yvs H2 e2 r2 P2 =>
    P2 (yv :: yvs) H2 (Same.refl H2) ⟨yv, yvs, rfl, Rep.mono (hide_same (fun _ z => z) e2) r1, r2⟩⟩⟩
theorem px_tup {x1} (h : PXA X i es vs) : PX X i (.Tuple es x1 pos) (fun x => (vs x).bind fun l => lenOk l (.ok (.tup l))) := fun a oe cls d pn hz hf =>
  PE.imp (pe_tup (h a oe cls d pn hz hf)) fun σ H Q ⟨O, x, dom, hs, xa, P⟩ => ⟨O, x, dom, hs, xa, PostG.bind P fun ds us H1 e1 r1 P1 => by
    have r1 : RepL X.K (hide O H1) us ds := r1
    have hl := r1.length
    unfold lenOk at P1
    split at P1
    case isFalse => exact P1.elim
    rename_i hz2
    refine ⟨by omega, fun p hp => P1 _ _ (same_new hp) ?_⟩
    obtain ⟨n, r2⟩ := fresh_rep (fun q hq z => dom q hq (e1.free z)) hp (same_new (o := .tup us) hp) r1
    exact ⟨p, us, rfl, by rw [hide_no n, upd_same], r2⟩⟩
end
/-- m: which classes the clause takes -/
def fTryAs (i : Nat) (m : Addr → Option Bool) (v : XN → R D) (f : DL.Env → Out) : DL.Env → Out := fun ρ =>
  match f ρ with
  | .exc x ρ' => (match m x.C with
    | some true => if i < ρ'.length then (match v x with | .ok d => .rt d | _ => .stuck) else .stuck
    | some false => .exc x ρ'
    | none => .stuck)
  | o => o
section
variable {X : Cx} {W : WX} {ow ow' owl : Ow} {body : List Stmt} {pos pos' rp np : Pos} {f : DL.Env → Out} {i : Nat} {n x : Str} {c : Value} {e : Expr} {v : XN → R D} {m : Addr → Option Bool}
theorem pds_tryAs (i : Nat) (hs : X.stack = X.env :: X.outer) (hf : X.env.frame = some X.env.locals) (hN : X.N.Nodup) (hi : X.N[i]? = some n) (hln : X.env.kindOf n = some .local) (hc : Names X x c) (tk : Takes X W) (hm : ∀ C b, m C = some b → PySem.W.exmOne X.K (.ref C) c = some b)
    (hb : ∀ (W : WX) (pn : List (Addr × Obj)) (xe : Value → Shared → Prop), Takes (X.tr pn xe) W → PassesOwn (model X.prog X.w) X.A X.env xe → PDB (X.tr pn xe) W ow ow' owl body f) (he : PX X i e v) :
    PDS X W ow ow' owl (.Try body [.ExceptHandler (some (.Name x np)) (some n) [.Return (some e) rp] pos'] [] [] pos) (fTryAs i m v f) :=
  PS.imp (ps_try_as (i := i) (tb := fun W => tDS X.K W ow ow' owl f) (ts := fun a cls d => tRet (tX X.K a cls d i v)) (Wout := W) hs hf hN hi hln hc tk (fun W pn xe t p => hb W pn xe t p) fun a oe cls d pn hz hfd => pss_cons (ps_ret (he a oe cls d pn hz hfd)) pss_nil) fun D σ H ⟨B, O, L, ρ, S, w, P⟩ => ⟨B, O, L, ρ, S, w, by
  unfold fTryAs at P
  cases q : f ρ with
  | nx ρ' => rw [q] at P; exact P
  | rt d => rw [q] at P; exact P
  | bk ρ' => rw [q] at P; exact P
  | ct ρ' => rw [q] at P; exact P
  | stuck => rw [q] at P; exact P
  | exc x ρ' =>
    rw [q] at P
    intro cls dd σ' H' L' S' rx
    have P : PostS X.K B O W ow' owl (match m x.C with
      | some true => if i < ρ'.length then (match v x with | .ok d => .rt d | _ => .stuck) else .stuck
      | some false => .exc x ρ'
      | none => .stuck) D := P
    obtain ⟨h1, a', us, h2, h3, h4, h5⟩ := rx
    cases hmx : m x.C with
    | none => rw [hmx] at P; exact P.elim
    | some b =>
      rw [hmx] at P
      refine ⟨b, by rw [h1]; exact hm _ _ hmx, fun hb a na => ?_, fun hb => ?_⟩
      · subst hb
        have P : PostS X.K B O W ow' owl (if i < ρ'.length then (match v x with | .ok d => .rt d | _ => .stuck) else .stuck) D := P
        split at P
        case isFalse => exact P.elim
        rename_i hi
        have hO : ∀ p, O p → H' p ≠ none := fun p hp z => by
          cases e : B p with
          | none => exact S'.dom p hp e
          | some o =>
            rw [S'.same p o e] at z
            cases z
        refine ⟨O, x, hO, List.getElem?_set_self (by rw [S'.len]; exact hi), ⟨h1, a', us, h2, h3, h4, h5⟩, ?_⟩
        cases hv : v x with
        | ok d =>
          rw [hv] at P
          have P : ∀ v H, Same B H → Rep X.K (hide O H) v d → D.rt v H := P
          exact fun u H2 e2 r2 => P u H2 (S'.same.trans e2) r2
        | exc y => rw [hv] at P; exact P.elim
        | stuck => rw [hv] at P; exact P.elim
      · subst hb
        exact P cls dd σ' H' L' S' ⟨h1, a', us, h2, h3, h4, h5⟩⟩
end
theorem exm_nil {K : PySem.W.Frag} {c : Value} : ∀ (C : Addr) (b : Bool), (none : Option Bool) = some b → PySem.W.exmOne K (.ref C) c = some b := fun _ _ h => by cases h
theorem exm_cons {K : PySem.W.Frag} {c : Value} {y : Addr} {v : Bool} {m : Addr → Option Bool} (h : PySem.W.exmOne K (.ref y) c = some v) (r : ∀ C b, m C = some b → PySem.W.exmOne K (.ref C) c = some b) : ∀ C b, (if C = y then some v else m C) = some b → PySem.W.exmOne K (.ref C) c = some b := fun C b q => by
  by_cases e : C = y
  · rw [if_pos e] at q
    cases q
    rw [e]
    exact h
  · rw [if_neg e] at q
    exact r C b q
/-- a def of which nothing is asked -/
theorem has_stuck {P : Program} {w : World} {K : PySem.W.Frag} {mg : Str → Option Value} {base : Heap} {x : Str} {f : Addr} {fd : FuncData} {ps : List Str} {n : Nat} (m : mg x = some (.ref f)) (kp : PySem.W.keepIn K (.ref f) = true) (bd : Binds K fd ps []) (hn : ps.length = n) (k : Nat) : Has P w K mg base x k n (fun _ => .stuck) := by
  refine ⟨f, fd, ps, ⟨fun vs H Q E h => by rw [hn]; exact spD_len h, fun A outer s H args us vs Q E hr he hb hv hs => ?_⟩, m, kp, bd⟩
  obtain ⟨_, _, _, _, _, z⟩ := hs
  exact z.elim
end DL
set_option Elab.async false
set_option linter.all false
set_option maxRecDepth 100000
namespace DL
open PySem L2

/-! ### an owned list or dict is read in place: what is taken out of it is nobody's -/
section
variable {K : PySem.W.Frag} {B H : Hp} {O : Addr → Prop} {L : Lm} {σ : St} {ρ : DL.Env}
def RepS (K : PySem.W.Frag) (G H : Hp) (v : V) (c : D) : Prop := Rep K G v c ∨ ∃ p o, v = .ref p ∧ H p = some o ∧ Top K G o c
theorem SR.readS (S : SR K B O L σ H ρ) {i : Nat} {c : D} (h : ρ[i]? = some (some c)) (n : isIns c = false) : ∃ v, σ[i]? = some (some v) ∧ RepS K (hide (HS O L) H) H v c := by
  cases e : L i with
  | none =>
    obtain ⟨v, h1, h2⟩ := S.vars i c e h
    exact ⟨v, h1, .inl h2⟩
  | some x =>
    obtain ⟨k, as⟩ := x
    obtain ⟨v, d, h1, h2, h3⟩ := S.owns i k as e
    rw [h] at h2
    cases h2
    have hk := S.one i k as c e h n
    subst hk
    refine ⟨v, h1, ?_⟩
    cases q : isTop c with
    | true =>
      obtain ⟨p, o, h4, _, h5, t⟩ := top_own h3 q
      exact .inr ⟨p, o, h4, h5, t⟩
    | false => cases c <;> first | exact .inl h3.2 | cases q
theorem RepS.dget {P : Addr → Prop} {v y : V} {c b : D} {o : Option D} (r : RepS K (hide P H) H v c) (rb : Rep K (hide P H) y b) (h : dgetD c b = some o) : ∃ p w, v = .ref p ∧ DGet H p y w ∧ RelD K (hide P H) w o := by
  rcases r with r | ⟨p, ho, e, hp, t⟩
  · exact dget_rep r rb h
  · unfold dgetD at h
    split at h
    · obtain ⟨k, hk, h⟩ := Option.map_eq_some_iff.mp h
      subst h
      cases ho <;> first | exact t.elim | skip
      rename_i us
      obtain ⟨t1, t2⟩ := t
      subst t1
      exact ⟨p, _, e, .inl ⟨us, k, .inl hp, key_rep hk rb, rfl⟩, look_rel k t2⟩
    · obtain ⟨k, hk, h⟩ := Option.map_eq_some_iff.mp h
      subst h
      cases ho <;> first | exact t.elim | skip
      rename_i us
      obtain ⟨t1, t2⟩ := t
      obtain ⟨q, vs, e2, g1, g2⟩ := rb
      subst t1 e2
      refine ⟨p, _, e, .inr ⟨us, k, q, .inl hp, rfl, ?_, rfl⟩, look_rel k t2⟩
      rw [← keys_rep hk g2]
      exact (hide_some g1).2
    · cases ho <;> exact t.elim
    · cases ho <;> exact t.elim
    · cases h
theorem gd_ixS {P : Addr → Prop} {v y : V} {c b d : D} {Q : VK} (dom : ∀ p, P p → H p ≠ none) (r : RepS K (hide P H) H v c) (rb : Rep K (hide P H) y b) (h : gIx c b = some d) (k : ∀ v H', Same H H' → Rep K (hide P H') v d → Q v H') : rIxA K v y H Q := by
  rcases r with r | ⟨p, ho, e, hp, t⟩
  · exact gd_ix P H v y c b d Q dom r rb h k
  · have dict : (dgetD c b).join = some d → rIxA K v y H Q := fun hg => by
      cases z : dgetD c b with
      | none => rw [z] at hg; cases hg
      | some o =>
        rw [z] at hg
        have hg : o = some d := hg
        subst hg
        obtain ⟨p', w, e', g, rel⟩ := RepS.dget (.inr ⟨p, ho, e, hp, t⟩) rb z
        cases w with
        | none => exact rel.elim
        | some w => exact .inr (.inr (.inr ⟨p', w, e', g, k w H (Same.refl H) rel⟩))
    cases c <;> first | (cases ho <;> exact t.elim) | skip
    · cases ho <;> first | exact t.elim | skip
      cases b <;> first | (cases h; done) | skip
      rename_i ds us j
      have t : RepL K (hide P H) us ds := t
      obtain ⟨z, hz, rz⟩ := atI_rep t (show atI ds j = some d from h)
      exact .inl ⟨p, us, j, z, e, rb, SqL.of hp, hz, k z H (Same.refl H) rz⟩
    · exact dict h
    · exact dict h
    · cases h
end
section
variable {X : Cx} {W : WX} {a b o e f : Expr} {pos apos cpos : Pos} {eb ex : List Nat} {fb fx : DL.Env → R D} {i : Nat}
theorem pd_ixO (i : Nat) (hu : X.A.units + 1 < cLine) (ha : PE X a (tVar i)) (hb : PD X W b eb fb) (hs : PlainIx b) : PD X W (.Subscript a b pos) eb (fOp gIx (fun ρ => getE ρ i) fb) :=
  PE.imp (pe_ix (ix_all hu) ha hb hs) fun σ H Q ⟨B, O, L, ρ, S, P⟩ => by
    have P : PostG X.K O W (rV X.K O (dropL eb L)) ((getE ρ i).bind fun a => (fb ρ).bind fun b => R.ofO (gIx a b)) σ H Q := P
    unfold getE at P
    split at P
    case h_2 => exact P.elim
    rename_i c hc
    have P : PostG X.K O W (rV X.K O (dropL eb L)) ((fb ρ).bind fun b => R.ofO (gIx c b)) σ H Q := P
    obtain ⟨v, hs, _⟩ := S.read hc
    refine ⟨v, hs, B, O, L, ρ, S, PostG.bind P fun bd y H2 e2 r2 P2 => ?_⟩
    obtain ⟨d, hd, k⟩ := P2.ofO
    have n : isIns c = false := by cases c <;> first | rfl | cases hd
    have S2 := (S.ext e2).drop eb
    obtain ⟨v', hs', rs⟩ := S2.readS hc n
    rw [hs] at hs'
    cases hs'
    exact gd_ixS S2.hdom rs r2 hd k
theorem pd_dgetO (i : Nat) (hu : X.A.units + 1 < cLine) (ho : PE X o (tVar i)) (he : PD X W e eb fb) (hf : PD X W f ex fx) (m : M2 X o "get" apos e f cpos := by first | exact ⟨rfl, rfl, rfl, rfl⟩ | constructor <;> rfl) :
    PD X W (.Call (.Attribute o "get" apos) [e, f] [] cpos) (eb ++ ex) (fDGet (fun ρ => getE ρ i) fb fx) := PE.imp (pe_dget2 hu ho he hf m) fun σ H Q ⟨B, O, L, ρ, S, P⟩ => by
  have P : PostG X.K O W (rV X.K O (dropL (eb ++ ex) L)) ((getE ρ i).bind fun c => if isDct c = true then (fb ρ).bind fun k => (fx ρ).bind fun x => R.ofO (gDGet c k x) else .stuck) σ H Q := P
  unfold getE at P
  split at P
  case h_2 => exact P.elim
  rename_i c hc
  have P : PostG X.K O W (rV X.K O (dropL (eb ++ ex) L)) (if isDct c = true then (fb ρ).bind fun k => (fx ρ).bind fun x => R.ofO (gDGet c k x) else .stuck) σ H Q := P
  split at P
  case isFalse => exact P.elim
  rename_i hdc
  have n : isIns c = false := by cases c <;> first | rfl | cases hdc
  obtain ⟨v, hs, rs0⟩ := S.readS hc n
  have ia : ∃ a, v = .ref a ∧ IsD H a := by
    rcases rs0 with r | ⟨p, o, e, hp, t⟩
    · exact isDct_rep r hdc
    · refine ⟨p, e, ?_⟩
      cases c <;> first | (cases hdc; done) | skip
      · cases o <;> first | exact t.elim | exact .inl ⟨_, .inl hp⟩
      · cases o <;> first | exact t.elim | exact .inr ⟨_, .inl hp⟩
      · cases o <;> exact t.elim
      · cases o <;> exact t.elim
  obtain ⟨a, ea, ia⟩ := ia
  refine ⟨v, hs, a, ea, ia, B, O, L, ρ, S, PostG.bind P fun k y H2 e2 r2 P2 => ⟨B, O, L, ρ, S.ext e2, PostG.bind P2 fun z u H3 e3 r3 P3 => ?_⟩⟩
  obtain ⟨d, hd, P4⟩ := P3.ofO
  obtain ⟨w, hw, hd⟩ := Option.map_eq_some_iff.mp hd
  have S3 := (S.ext (e2.trans e3)).drop (eb ++ ex)
  obtain ⟨v', hs', rs⟩ := S3.readS hc n
  rw [hs] at hs'
  cases hs'
  have rb := drop_mono (es' := eb ++ ex) (fun i h => List.mem_append_left _ h) e3 r2
  have rc := drop_mono (es' := eb ++ ex) (fun i h => List.mem_append_right _ h) (Same.refl H3) r3
  obtain ⟨p, ov, ep, g, rel⟩ := rs.dget rb hw
  rw [ea] at ep
  cases ep
  refine ⟨ov, g, P4 _ H3 (Same.refl H3) ?_⟩
  subst hd
  cases ov <;> cases w <;> first | exact rel.elim | exact rc | exact rel
theorem pd_slO (i : Nat) {lo hi : Option Expr} {p2 : Pos} {fl fh : DL.Env → R (Option Int)} (he : PE X e (tVar i)) (hl : PDO X W lo fl) (hh : PDO X W hi fh) : PD X W (.Subscript e (.Slice lo hi none p2) pos) [] (fSl (fun ρ => getE ρ i) fl fh) :=
  PE.imp (pe_slice sl_all he hl hh) fun σ H Q ⟨B, O, L, ρ, S, P⟩ => by
    have P : PostG X.K O W (rV X.K O (dropL [] L)) ((getE ρ i).bind fun d => (fl ρ).bind fun l => (fh ρ).bind fun h => R.ofO (gSl l h d)) σ H Q := P
    unfold getE at P
    split at P
    case h_2 => exact P.elim
    rename_i c hc
    have P : PostG X.K O W (rV X.K O (dropL [] L)) ((fl ρ).bind fun l => (fh ρ).bind fun h => R.ofO (gSl l h c)) σ H Q := P
    obtain ⟨v, hs, _⟩ := S.read hc
    refine ⟨v, hs, B, O, L, ρ, S, PostG.bind P fun l l' H2 e2 r2 P2 => ⟨B, O, L, ρ, S.ext e2, PostG.bind P2 fun h h' H3 e3 r3 P3 => ?_⟩⟩
    obtain rfl : l' = l := r2
    obtain rfl : h' = h := r3
    obtain ⟨d, hd, k⟩ := P3.ofO
    have n : isIns c = false := by cases c <;> first | rfl | cases hd
    have S3 := (S.ext (e2.trans e3)).drop []
    obtain ⟨v', hs', rs⟩ := S3.readS hc n
    rw [hs] at hs'
    cases hs'
    rcases rs with r | ⟨p, ho, e, hp, t⟩
    · exact gd_sl S3.hdom r hd k
    · obtain ⟨ds, rfl⟩ : ∃ ds, c = .lst ds := by cases c <;> first | exact ⟨_, rfl⟩ | (cases hd; done) | (cases ho <;> exact t.elim)
      obtain ⟨us, rfl, t⟩ : ∃ us, ho = .lst us ∧ RepL X.K (hide (HS O (dropL [] L)) H3) us ds := by cases ho <;> first | exact t.elim | exact ⟨_, rfl, t⟩
      cases hd
      exact .inl ⟨p, us, e, SqL.of hp, new_lst S3.hdom (t.cut l' h') k⟩
end
end DL
set_option Elab.async false
set_option linter.all false
set_option maxRecDepth 100000
namespace DL
open PySem L2
structure Cls where
  Blocked : Addr

def b_start : Env → Out :=
  (fSeq (fIf (fOr (fB (fOp gLt (fun ρ => getE ρ 0) (fun _ => .ok (.int 1)))) (fB (fOp gGt (fun ρ => getE ρ 0) (fun _ => .ok (.int 6)))))
  (fun _ => .stuck)
  fNext)
  (fRet (fOp gMul (fun _ => .ok (.str [46])) (fun ρ => getE ρ 0))))
def F_start : List D → R D := runF 1 1 (b_start)
def b_is_step : Env → Out :=
  (fRet (fAndV (fOp gEq (fCB gLen (fCons (fun ρ => getE ρ 1) fNil)) (fun _ => .ok (.int 2))) (fAndV (fOp (gIn5 false) (fOp gIx (fun ρ => getE ρ 1) (fun _ => .ok (.int 0))) (fun _ => .ok (.str [43, 45]))) (fOp (gIn5 false) (fOp gIx (fun ρ => getE ρ 1) (fun _ => .ok (.int 1))) (fSl (fun _ => .ok (.str [48, 49, 50, 51, 52, 53])) foNone (foSome (fun ρ => getE ρ 0)))))))
def F_is_step : List D → R D := runF 2 2 (b_is_step)
def b_after : Env → Out :=
  (fSeq (fIf (fNot (fB (fCallN F_is_step (fCons (fCB gLen (fCons (fun ρ => getE ρ 0) fNil)) (fCons (fun ρ => getE ρ 1) fNil)))))
  (fun _ => .stuck)
  fNext)
  (fSeq (fAsg 2 (fCB gInt (fCons (fOp gIx (fun ρ => getE ρ 1) (fun _ => .ok (.int 1))) fNil)))
  (fSeq (fIf (fB (fOp gEq (fOp gIx (fun ρ => getE ρ 1) (fun _ => .ok (.int 0))) (fun _ => .ok (.str [43]))))
  (fSeq (fIf (fB (fOp gNe (fOp gIx (fun ρ => getE ρ 0) (fun ρ => getE ρ 2)) (fun _ => .ok (.str [46]))))
  (fun _ => .stuck)
  fNext)
  (fRet (fOp gAdd (fOp gAdd (fSl (fun ρ => getE ρ 0) foNone (foSome (fun ρ => getE ρ 2))) (fun _ => .ok (.str [104]))) (fSl (fun ρ => getE ρ 0) (foSome (fOp gAdd (fun ρ => getE ρ 2) (fun _ => .ok (.int 1)))) foNone))))
  fNext)
  (fSeq (fIf (fB (fOp gNe (fOp gIx (fun ρ => getE ρ 0) (fun ρ => getE ρ 2)) (fun _ => .ok (.str [104]))))
  (fun _ => .stuck)
  fNext)
  (fRet (fOp gAdd (fOp gAdd (fSl (fun ρ => getE ρ 0) foNone (foSome (fun ρ => getE ρ 2))) (fun _ => .ok (.str [114]))) (fSl (fun ρ => getE ρ 0) (foSome (fOp gAdd (fun ρ => getE ρ 2) (fun _ => .ok (.int 1)))) foNone)))))))
def F_after : List D → R D := runF 3 2 (b_after)
def b_replay : Env → Out :=
  (fSeq (fAsg 2 (fCallN F_start (fCons (fun ρ => getE ρ 0) fNil)))
  (fSeq (fFor (fIter (fun ρ => getE ρ 1)) (gtName 3)
  (fAsg 2 (fCallN F_after (fCons (fun ρ => getE ρ 2) (fCons (fun ρ => getE ρ 3) fNil)))))
  (fRet (fun ρ => getE ρ 2))))
def F_replay : List D → R D := runF 4 2 (b_replay)
def b_check_programs : Env → Out :=
  (fFor (fEnum (fCons (fun ρ => getE ρ 1) fNil)) (gtPair 2 3)
  (fSeq (fTryN (fAsg 5 (fCallN F_replay (fCons (fun ρ => getE ρ 0) (fCons (fun ρ => getE ρ 3) fNil)))))
  (fIf (fB (fOp (gIn5 false) (fun _ => .ok (.str [104])) (fun ρ => getE ρ 5)))
  (fun _ => .stuck)
  fNext)))
def F_check_programs : List D → R D := runF 6 2 (b_check_programs)
def b_holds : Env → Out :=
  (fSeq (fAsg 3 (fSl (fun ρ => getE ρ 0) foNone (foSome (fun ρ => getE ρ 1))))
  (fRet (fAndV (fOp (gIn5 false) (fOp gAdd (fun _ => .ok (.str [43])) (fun ρ => getE ρ 2)) (fun ρ => getE ρ 3)) (fOp (gIn5 true) (fOp gAdd (fun _ => .ok (.str [45])) (fun ρ => getE ρ 2)) (fun ρ => getE ρ 3)))))
def F_holds : List D → R D := runF 4 3 (b_holds)
def b_is_free : Env → Out :=
  (fSeq (fAsg 3 (fOp gIx (fOp gIx (fun ρ => getE ρ 0) (fun ρ => getE ρ 2)) (fOp gIx (fun ρ => getE ρ 1) (fun ρ => getE ρ 2))))
  (fSeq (fIf (fB (fOp gEq (fOp gIx (fun ρ => getE ρ 3) (fun _ => .ok (.int 0))) (fun _ => .ok (.str [45]))))
  (fRet (fun _ => .ok (.bl true)))
  fNext)
  (fRet (fNotV (fCB gAny (fCons (fLc (fRng (fCons (fCB gLen (fCons (fun ρ => getE ρ 0) fNil)) fNil)) (gtName 4) fYes (fCallN F_holds (fCons (fOp gIx (fun ρ => getE ρ 0) (fun ρ => getE ρ 4)) (fCons (fOp gIx (fun ρ => getE ρ 1) (fun ρ => getE ρ 4)) (fCons (fOp gIx (fun ρ => getE ρ 3) (fun _ => .ok (.int 1))) fNil)))) [4]) fNil))))))
def F_is_free : List D → R D := runF 5 3 (b_is_free)
def b_outcome (A : Cls) : Env → Out :=
  (fSeq (fDrop (fCallN F_check_programs (fCons (fun _ => .ok (.int 6)) (fCons (fun ρ => getE ρ 0) fNil))))
  (fSeq (fAsgF 2 (fLc (fIter (fun ρ => getE ρ 0)) (gtName 7) fYes (fun _ => .ok (.int 0)) [7]))
  (fSeq (fAsgF 3 (fun _ => .ok (.dk [] [])))
  (fSeq (fFor (fEnum (fCons (fun ρ => getE ρ 1) fNil)) (gtPair 4 5)
  (fSeq (fIf (fOr (fB (fOp gLt (fun ρ => getE ρ 5) (fun _ => .ok (.int 0)))) (fOr (fB (fOp gGe (fun ρ => getE ρ 5) (fCB gLen (fCons (fun ρ => getE ρ 0) fNil)))) (fB (fOp gEq (fOp gIx (fun ρ => getE ρ 2) (fun ρ => getE ρ 5)) (fCB gLen (fCons (fOp gIx (fun ρ => getE ρ 0) (fun ρ => getE ρ 5)) fNil))))))
  (fun _ => .stuck)
  fNext)
  (fSeq (fAsg 6 (fOp gIx (fOp gIx (fun ρ => getE ρ 0) (fun ρ => getE ρ 5)) (fOp gIx (fun ρ => getE ρ 2) (fun ρ => getE ρ 5))))
  (fSeq (fIf (fNot (fB (fun ρ => scalR ((fCallN F_is_free (fCons (fun ρ => getE ρ 0) (fCons (fun ρ => getE ρ 2) (fCons (fun ρ => getE ρ 5) fNil)))) ρ))))
  (fRaise A.Blocked ["place", "item"] (fCons (fun ρ => getE ρ 4) (fCons (fCB gInt (fCons (fOp gIx (fun ρ => getE ρ 6) (fun _ => .ok (.int 1))) fNil)) fNil)))
  fNext)
  (fSeq (fIf (fB (fOp gEq (fOp gIx (fun ρ => getE ρ 6) (fun _ => .ok (.int 0))) (fun _ => .ok (.str [43]))))
  (fSeq (fAsg 8 (fCB gInt (fCons (fOp gIx (fun ρ => getE ρ 6) (fun _ => .ok (.int 1))) fNil)))
  (fPut 3 (fOp gAdd (fDGet (fun ρ => getE ρ 3) (fun ρ => getE ρ 8) (fTup fNil)) (fTup (fCons (fun ρ => getE ρ 5) fNil))) (fun ρ => getE ρ 8)))
  fNext)
  (fAugS 2 (fun i j => i + j) (fun _ => .ok (.int 1)) (fun ρ => getE ρ 5)))))))
  (fSeq (fIf (fB (fCB gAny (fCons (fLc (fRng (fCons (fCB gLen (fCons (fun ρ => getE ρ 0) fNil)) fNil)) (gtName 9) fYes (fOp gLt (fOp gIx (fun ρ => getE ρ 2) (fun ρ => getE ρ 9)) (fCB gLen (fCons (fOp gIx (fun ρ => getE ρ 0) (fun ρ => getE ρ 9)) fNil))) [9]) fNil)))
  (fun _ => .stuck)
  fNext)
  (fRet (fDc (fRng (fCons (fun _ => .ok (.int 6)) fNil)) (gtName 8) (fB (fOp (gIn5 false) (fun ρ => getE ρ 8) (fun ρ => getE ρ 3))) (fun ρ => getE ρ 8) (fOp gIx (fun ρ => getE ρ 3) (fun ρ => getE ρ 8)) [8])))))))
def F_outcome (A : Cls) : List D → R D := runF 10 2 (b_outcome A)
def b__law_cell : Env → Out :=
  (fSeq (fIf (fB (fOp gLt (fun ρ => getE ρ 1) (fCB gLen (fCons (fun ρ => getE ρ 0) fNil))))
  (fRet (fOp gIx (fun ρ => getE ρ 0) (fun ρ => getE ρ 1)))
  fNext)
  (fRet (fun _ => .ok (.int 0))))
def F__law_cell : List D → R D := runF 2 2 (b__law_cell)
def b__law_numbers : Env → Out :=
  (fSeq (fAsg 3 (fun _ => .ok (.int 0)))
  (fSeq (fIf (fB (fOp gGe (fun ρ => getE ρ 0) (fOp gPow (fun _ => .ok (.int 10)) (fun _ => .ok (.int 18)))))
  (fAsg 3 (fOp gMinus (fun ρ => getE ρ 0) (fOp gPow (fun _ => .ok (.int 10)) (fun _ => .ok (.int 18)))))
  fNext)
  (fSeq (fAsg 4 (fOp gMod (fCB gInt (fCons (fun ρ => getE ρ 0) fNil)) (fun _ => .ok (.int 2147483647))))
  (fSeq (fAsgF 5 (fLst fNil))
  (fSeq (fFor (fRng (fCons (fun ρ => getE ρ 1) fNil)) (gtName 6)
  (fSeq (fAsg 4 (fOp gMod (fCB gInt (fCons (fOp gAdd (fOp gAdd (fOp gMul (fun ρ => getE ρ 4) (fun _ => .ok (.int 48271))) (fOp gMul (fun _ => .ok (.int 10007)) (fun ρ => getE ρ 6))) (fun _ => .ok (.int 12345))) fNil)) (fun _ => .ok (.int 2147483647))))
  (fIf (fB (fOp gGt (fun ρ => getE ρ 3) (fun _ => .ok (.int 0))))
  (fSeq (fApp 5 (fOp gMod (fCB gInt (fCons (fun ρ => getE ρ 3) fNil)) (fun ρ => getE ρ 2)))
  (fAsg 3 (fOp gDiv (fun ρ => getE ρ 3) (fun ρ => getE ρ 2))))
  (fApp 5 (fOp gMod (fOp gDiv (fun ρ => getE ρ 4) (fun _ => .ok (.int 1021))) (fun ρ => getE ρ 2))))))
  (fRet (fun ρ => getE ρ 5)))))))
def F__law_numbers : List D → R D := runF 7 3 (b__law_numbers)
def b__law_same (F_rec : List D → R D) : Env → Out :=
  (fSeq (fIf (fB (fOp (gIsN false) (fun ρ => getE ρ 1) (fun _ => .ok .non)))
  (fRet (fOp (gIsN false) (fun ρ => getE ρ 0) (fun _ => .ok .non)))
  fNext)
  (fSeq (fIf (fB (fIsi "bool" (fun ρ => getE ρ 1)))
  (fRet (fAndV (fIsi "bool" (fun ρ => getE ρ 0)) (fOp gEq (fun ρ => getE ρ 0) (fun ρ => getE ρ 1))))
  fNext)
  (fSeq (fIf (fB (fIsi "int" (fun ρ => getE ρ 1)))
  (fRet (fAndV (fIsi "int" (fun ρ => getE ρ 0)) (fAndV (fNotV (fIsi "bool" (fun ρ => getE ρ 0))) (fOp gEq (fun ρ => getE ρ 0) (fun ρ => getE ρ 1)))))
  fNext)
  (fSeq (fIf (fB (fIsi "str" (fun ρ => getE ρ 1)))
  (fRet (fAndV (fIsi "str" (fun ρ => getE ρ 0)) (fOp gEq (fun ρ => getE ρ 0) (fun ρ => getE ρ 1))))
  fNext)
  (fSeq (fIf (fAnd (fB (fIsi "list" (fun ρ => getE ρ 1))) (fNot (fB (fIsi "list" (fun ρ => getE ρ 0)))))
  (fRet (fun _ => .ok (.bl false)))
  fNext)
  (fSeq (fIf (fAnd (fB (fIsi "tuple" (fun ρ => getE ρ 1))) (fNot (fB (fIsi "tuple" (fun ρ => getE ρ 0)))))
  (fRet (fun _ => .ok (.bl false)))
  fNext)
  (fSeq (fIf (fB (fOp gNe (fCB gLen (fCons (fun ρ => getE ρ 0) fNil)) (fCB gLen (fCons (fun ρ => getE ρ 1) fNil))))
  (fRet (fun _ => .ok (.bl false)))
  fNext)
  (fSeq (fFor (fRng (fCons (fCB gLen (fCons (fun ρ => getE ρ 1) fNil)) fNil)) (gtName 2)
  (fIf (fNot (fB (fCallN F_rec (fCons (fOp gIx (fun ρ => getE ρ 0) (fun ρ => getE ρ 2)) (fCons (fOp gIx (fun ρ => getE ρ 1) (fun ρ => getE ρ 2)) fNil)))))
  (fRet (fun _ => .ok (.bl false)))
  fNext))
  (fRet (fun _ => .ok (.bl true)))))))))))
def F__law_same : Nat → List D → R D
  | 0 => fun _ => .stuck
  | n + 1 => runF 3 2 (b__law_same (F__law_same n))
def b__law_moved : Env → Out :=
  (fSeq (fAsg 2 (fCB gInt (fCons (fOp gIx (fun ρ => getE ρ 1) (fun _ => .ok (.int 1))) fNil)))
  (fSeq (fAsg 3 (fun _ => .ok (.str [104])))
  (fSeq (fIf (fB (fOp gEq (fOp gIx (fun ρ => getE ρ 1) (fun _ => .ok (.int 0))) (fun _ => .ok (.str [45]))))
  (fAsg 3 (fun _ => .ok (.str [114])))
  fNext)
  (fRet (fOp gAdd (fOp gAdd (fSl (fun ρ => getE ρ 0) foNone (foSome (fun ρ => getE ρ 2))) (fun ρ => getE ρ 3)) (fSl (fun ρ => getE ρ 0) (foSome (fOp gAdd (fun ρ => getE ρ 2) (fun _ => .ok (.int 1)))) foNone))))))
def F__law_moved : List D → R D := runF 4 2 (b__law_moved)
def b__law_ends : Env → Out :=
  (fRet (fLc (fRng (fCons (fCB gLen (fCons (fun ρ => getE ρ 0) fNil)) fNil)) (gtName 1) (fB (fOp gEq (fOp gIx (fun ρ => getE ρ 0) (fun ρ => getE ρ 1)) (fun _ => .ok (.str [104])))) (fOp gAdd (fun _ => .ok (.str [45])) (fCB gStr (fCons (fun ρ => getE ρ 1) fNil))) [1]))
def F__law_ends : List D → R D := runF 2 1 (b__law_ends)
def b__law_free : Env → Out :=
  (fSeq (fAsg 2 (fOp gMul (fun _ => .ok (.str [46])) (fun ρ => getE ρ 0)))
  (fSeq (fAsgF 3 (fLst fNil))
  (fSeq (fFor (fIter (fun ρ => getE ρ 1)) (gtName 4)
  (fSeq (fAsg 5 (fLc (fRng (fCons (fun ρ => getE ρ 0) fNil)) (gtName 6) (fB (fOp gEq (fOp gIx (fun ρ => getE ρ 2) (fun ρ => getE ρ 6)) (fun _ => .ok (.str [46])))) (fOp gAdd (fun _ => .ok (.str [43])) (fCB gStr (fCons (fun ρ => getE ρ 6) fNil))) [6]))
  (fSeq (fAsg 5 (fOp gAdd (fun ρ => getE ρ 5) (fLc (fRng (fCons (fun ρ => getE ρ 0) fNil)) (gtName 6) (fB (fOp gEq (fOp gIx (fun ρ => getE ρ 2) (fun ρ => getE ρ 6)) (fun _ => .ok (.str [104])))) (fOp gAdd (fun _ => .ok (.str [45])) (fCB gStr (fCons (fun ρ => getE ρ 6) fNil))) [6])))
  (fIf (fB (fOp gNe (fun ρ => getE ρ 5) (fLst fNil)))
  (fSeq (fApp 3 (fOp gIx (fun ρ => getE ρ 5) (fOp gMod (fCB gInt (fCons (fun ρ => getE ρ 4) fNil)) (fCB gLen (fCons (fun ρ => getE ρ 5) fNil)))))
  (fAsg 2 (fCallN F__law_moved (fCons (fun ρ => getE ρ 2) (fCons (fOp gIx (fun ρ => getE ρ 3) (fUn gNeg (fun _ => .ok (.int 1)))) fNil)))))
  fNext))))
  (fRet (fOp gAdd (fun ρ => getE ρ 3) (fCallN F__law_ends (fCons (fun ρ => getE ρ 2) fNil)))))))
def F__law_free : List D → R D := runF 7 2 (b__law_free)
def b__law_order : Env → Out :=
  (fSeq (fAsgF 2 (fLc (fIter (fun ρ => getE ρ 0)) (gtName 8) fYes (fun _ => .ok (.int 0)) [8]))
  (fSeq (fAsgF 3 (fun _ => .ok (.dk [] [])))
  (fSeq (fAsgF 4 (fLst fNil))
  (fSeq (fFor (fIter (fun ρ => getE ρ 1)) (gtName 5)
  (fSeq (fAsgF 6 (fLst fNil))
  (fSeq (fFor (fRng (fCons (fCB gLen (fCons (fun ρ => getE ρ 0) fNil)) fNil)) (gtName 7)
  (fIf (fB (fOp gLt (fOp gIx (fun ρ => getE ρ 2) (fun ρ => getE ρ 7)) (fCB gLen (fCons (fOp gIx (fun ρ => getE ρ 0) (fun ρ => getE ρ 7)) fNil))))
  (fSeq (fAsg 9 (fOp gIx (fOp gIx (fun ρ => getE ρ 0) (fun ρ => getE ρ 7)) (fOp gIx (fun ρ => getE ρ 2) (fun ρ => getE ρ 7))))
  (fIf (fOr (fB (fOp gEq (fOp gIx (fun ρ => getE ρ 9) (fun _ => .ok (.int 0))) (fun _ => .ok (.str [45])))) (fB (fOp (gIn5 true) (fOp gIx (fun ρ => getE ρ 9) (fun _ => .ok (.int 1))) (fun ρ => getE ρ 3))))
  (fApp 6 (fun ρ => getE ρ 7))
  fNext))
  fNext))
  (fIf (fB (fOp gNe (fun ρ => getE ρ 6) (fLst fNil)))
  (fSeq (fAsg 7 (fOp gIx (fun ρ => getE ρ 6) (fOp gMod (fCB gInt (fCons (fun ρ => getE ρ 5) fNil)) (fCB gLen (fCons (fun ρ => getE ρ 6) fNil)))))
  (fSeq (fAsg 9 (fOp gIx (fOp gIx (fun ρ => getE ρ 0) (fun ρ => getE ρ 7)) (fOp gIx (fun ρ => getE ρ 2) (fun ρ => getE ρ 7))))
  (fSeq (fPut 2 (fOp gAdd (fOp gIx (fun ρ => getE ρ 2) (fun ρ => getE ρ 7)) (fun _ => .ok (.int 1))) (fun ρ => getE ρ 7))
  (fSeq (fApp 4 (fun ρ => getE ρ 7))
  (fIf (fB (fOp gEq (fOp gIx (fun ρ => getE ρ 9) (fun _ => .ok (.int 0))) (fun _ => .ok (.str [45]))))
  (fDropM (fDPop 3 (fOp gIx (fun ρ => getE ρ 9) (fun _ => .ok (.int 1)))))
  (fPut 3 (fun ρ => getE ρ 7) (fOp gIx (fun ρ => getE ρ 9) (fun _ => .ok (.int 1)))))))))
  fNext))))
  (fRet (fun ρ => getE ρ 4))))))
def F__law_order : List D → R D := runF 10 2 (b__law_order)
def b__law_state_after : Env → Out :=
  (fSeq (fAsg 2 (fOp gMul (fun _ => .ok (.str [46])) (fun ρ => getE ρ 0)))
  (fSeq (fFor (fIter (fun ρ => getE ρ 1)) (gtName 3)
  (fAsg 2 (fCallN F__law_moved (fCons (fun ρ => getE ρ 2) (fCons (fun ρ => getE ρ 3) fNil)))))
  (fRet (fun ρ => getE ρ 2))))
def F__law_state_after : List D → R D := runF 4 2 (b__law_state_after)
def b__law_closed : Env → Out :=
  (fSeq (fAsgF 3 (fLc (fIter (fun ρ => getE ρ 1)) (gtName 7) fYes (fLst fNil) [7]))
  (fSeq (fAsg 4 (fCB gList (fCons (fun ρ => getE ρ 2) fNil)))
  (fSeq (fFor (fIter (fun ρ => getE ρ 2)) (gtName 5)
  (fPut 3 (fOp gAdd (fOp gIx (fun ρ => getE ρ 3) (fun ρ => getE ρ 5)) (fLst (fCons (fOp gIx (fOp gIx (fun ρ => getE ρ 1) (fun ρ => getE ρ 5)) (fCB gLen (fCons (fOp gIx (fun ρ => getE ρ 3) (fun ρ => getE ρ 5)) fNil))) fNil))) (fun ρ => getE ρ 5)))
  (fSeq (fFor (fRng (fCons (fun ρ => scalR ((fCB gLen (fCons (fun ρ => getE ρ 3) fNil)) ρ)) fNil)) (gtName 5)
  (fSeq (fAsg 6 (fCallN F__law_ends (fCons (fCallN F__law_state_after (fCons (fun ρ => getE ρ 0) (fCons (fOp gIx (fun ρ => getE ρ 3) (fun ρ => getE ρ 5)) fNil))) fNil)))
  (fSeq (fPut 3 (fOp gAdd (fOp gIx (fun ρ => getE ρ 3) (fun ρ => getE ρ 5)) (fun ρ => getE ρ 6)) (fun ρ => getE ρ 5))
  (fAsg 4 (fOp gAdd (fun ρ => getE ρ 4) (fLc (fIter (fun ρ => getE ρ 6)) (gtName 8) fYes (fun ρ => getE ρ 5) [8]))))))
  (fRet (fTup (fCons (fun ρ => getE ρ 3) (fCons (fun ρ => getE ρ 4) fNil))))))))
def F__law_closed : List D → R D := runF 9 3 (b__law_closed)
def b__law_steps : Env → Out :=
  (fSeq (fAsgF 2 (fLc (fIter (fun ρ => getE ρ 0)) (gtName 5) fYes (fun _ => .ok (.int 0)) [5]))
  (fSeq (fAsgF 3 (fLst fNil))
  (fSeq (fFor (fIter (fun ρ => getE ρ 1)) (gtName 4)
  (fSeq (fApp 3 (fOp gIx (fOp gIx (fun ρ => getE ρ 0) (fun ρ => getE ρ 4)) (fOp gIx (fun ρ => getE ρ 2) (fun ρ => getE ρ 4))))
  (fPut 2 (fOp gAdd (fOp gIx (fun ρ => getE ρ 2) (fun ρ => getE ρ 4)) (fun _ => .ok (.int 1))) (fun ρ => getE ρ 4))))
  (fRet (fun ρ => getE ρ 3)))))
def F__law_steps : List D → R D := runF 6 2 (b__law_steps)
def b__law_locked : Env → Out :=
  (fSeq (fAsg 2 (fCallN F__law_steps (fCons (fun ρ => getE ρ 0) (fCons (fun ρ => getE ρ 1) fNil))))
  (fSeq (fAsgF 3 (fLst fNil))
  (fSeq (fFor (fRng (fCons (fun _ => .ok (.int 6)) fNil)) (gtName 4)
  (fSeq (fAsg 5 (fLc (fRng (fCons (fCB gLen (fCons (fun ρ => getE ρ 1) fNil)) fNil)) (gtName 6) (fB (fOp gEq (fOp gIx (fun ρ => getE ρ 2) (fun ρ => getE ρ 6)) (fOp gAdd (fun _ => .ok (.str [43])) (fCB gStr (fCons (fun ρ => getE ρ 4) fNil))))) (fOp gIx (fun ρ => getE ρ 1) (fun ρ => getE ρ 6)) [6]))
  (fIf (fB (fOp gNe (fun ρ => getE ρ 5) (fLst fNil)))
  (fApp 3 (fTup (fCons (fun ρ => getE ρ 4) (fCons (fCB gTuple (fCons (fun ρ => getE ρ 5) fNil)) fNil))))
  fNext)))
  (fRet (fun ρ => getE ρ 3)))))
def F__law_locked : List D → R D := runF 7 2 (b__law_locked)
def b__law_told (A : Cls) : Env → Out :=
  (fSeq (fAsg 2 (fLc (fIter (fun ρ => getE ρ 0)) (gtName 6) fYes (fCB gList (fCons (fun ρ => getE ρ 6) fNil)) [6]))
  (fSeq (fAsg 3 (fCB gList (fCons (fun ρ => getE ρ 1) fNil)))
  (fSeq (fAsg 4 (fun _ => .ok (.dk [] [])))
  (fSeq (fTryAs 5 (fun C => if C = A.Blocked then some true else none) (fun (x : XN) => R.bind ((fun (x : XN) => R.bind ((fun (_ : XN) => R.ok (D.str [98, 108, 111, 99, 107, 101, 100])) x) fun a => R.bind ((fun (x : XN) => R.bind ((fldX A.Blocked "place") x) fun a => R.bind ((fun (x : XN) => R.bind ((fldX A.Blocked "item") x) fun a => R.bind ((fun (_ : XN) => R.ok ([] : List D)) x) fun l => R.ok (a :: l)) x) fun l => R.ok (a :: l)) x) fun l => R.ok (a :: l)) x) fun l => lenOk l (R.ok (D.tup l)))
  (fAsg 4 (fCallN (F_outcome A) (fCons (fun ρ => getE ρ 2) (fCons (fun ρ => getE ρ 3) fNil)))))
  (fSeq (fIf (fOr (fNot (fB (fIsi "dict" (fun ρ => getE ρ 4)))) (fOr (fB (fOp gNe (fun ρ => getE ρ 2) (fun ρ => getE ρ 0))) (fB (fOp gNe (fun ρ => getE ρ 3) (fun ρ => getE ρ 1)))))
  (fRet (fun _ => .ok .non))
  fNext)
  (fRet (fLkE 4 (fLc (fKeys (fun ρ => getE ρ 4)) (gtName 7) fYes (fTup (fCons (fun ρ => getE ρ 7) (fCons (fOp gIx (fun ρ => getE ρ 4) (fun ρ => getE ρ 7)) fNil))) [7]))))))))
def F__law_told (A : Cls) : List D → R D := runF 8 2 (b__law_told A)
def b__law_fine (A : Cls) : Env → Out :=
  (fSeq (fAsg 2 (fCallN F__law_locked (fCons (fun ρ => getE ρ 0) (fCons (fun ρ => getE ρ 1) fNil))))
  (fSeq (fIf (fNot (fB (fCallN (F__law_same 4) (fCons (fCallN (F__law_told A) (fCons (fun ρ => getE ρ 0) (fCons (fun ρ => getE ρ 1) fNil))) (fCons (fun ρ => getE ρ 2) fNil)))))
  (fRet (fun _ => .ok (.bl false)))
  fNext)
  (fSeq (fAsg 3 (fCallN F__law_steps (fCons (fun ρ => getE ρ 0) (fCons (fun ρ => getE ρ 1) fNil))))
  (fSeq (fFor (fRng (fCons (fOp gMinus (fCB gLen (fCons (fun ρ => getE ρ 1) fNil)) (fun _ => .ok (.int 1))) fNil)) (gtName 4)
  (fIf (fB (fOp gNe (fOp gIx (fun ρ => getE ρ 1) (fun ρ => getE ρ 4)) (fOp gIx (fun ρ => getE ρ 1) (fOp gAdd (fun ρ => getE ρ 4) (fun _ => .ok (.int 1))))))
  (fSeq (fAsg 5 (fun ρ => getE ρ 2))
  (fSeq (fIf (fB (fOp gEq (fOp gIx (fOp gIx (fun ρ => getE ρ 3) (fun ρ => getE ρ 4)) (fun _ => .ok (.int 1))) (fOp gIx (fOp gIx (fun ρ => getE ρ 3) (fOp gAdd (fun ρ => getE ρ 4) (fun _ => .ok (.int 1)))) (fun _ => .ok (.int 1)))))
  (fAsg 5 (fTup (fCons (fun _ => .ok (.str [98, 108, 111, 99, 107, 101, 100])) (fCons (fun ρ => getE ρ 4) (fCons (fCB gInt (fCons (fOp gIx (fOp gIx (fun ρ => getE ρ 3) (fun ρ => getE ρ 4)) (fun _ => .ok (.int 1))) fNil)) fNil)))))
  fNext)
  (fSeq (fAsg 6 (fOp gAdd (fOp gAdd (fSl (fun ρ => getE ρ 1) foNone (foSome (fun ρ => getE ρ 4))) (fLst (fCons (fOp gIx (fun ρ => getE ρ 1) (fOp gAdd (fun ρ => getE ρ 4) (fun _ => .ok (.int 1)))) (fCons (fOp gIx (fun ρ => getE ρ 1) (fun ρ => getE ρ 4)) fNil)))) (fSl (fun ρ => getE ρ 1) (foSome (fOp gAdd (fun ρ => getE ρ 4) (fun _ => .ok (.int 2)))) foNone)))
  (fIf (fNot (fB (fCallN (F__law_same 4) (fCons (fCallN (F__law_told A) (fCons (fun ρ => getE ρ 0) (fCons (fun ρ => getE ρ 6) fNil))) (fCons (fun ρ => getE ρ 5) fNil)))))
  (fRet (fun _ => .ok (.bl false)))
  fNext))))
  fNext))
  (fRet (fun _ => .ok (.bl true)))))))
def F__law_fine (A : Cls) : List D → R D := runF 7 2 (b__law_fine A)
def b_law (A : Cls) : Env → Out :=
  (fSeq (fAsg 1 (fCallN F__law_numbers (fCons (fCallN F__law_cell (fCons (fun ρ => getE ρ 0) (fCons (fun _ => .ok (.int 0)) fNil))) (fCons (fun _ => .ok (.int 4)) (fCons (fun _ => .ok (.int 60)) fNil)))))
  (fSeq (fAsg 2 (fOp gIx (fLst (fCons (fun _ => .ok (.int 1)) (fCons (fun _ => .ok (.int 2)) (fCons (fun _ => .ok (.int 3)) (fCons (fun _ => .ok (.int 2)) (fCons (fun _ => .ok (.int 4)) (fCons (fun _ => .ok (.int 5)) (fCons (fun _ => .ok (.int 6)) (fCons (fun _ => .ok (.int 3)) (fCons (fun _ => .ok (.int 2)) (fCons (fun _ => .ok (.int 4)) (fCons (fun _ => .ok (.int 3)) (fCons (fun _ => .ok (.int 6)) fNil))))))))))))) (fOp gMod (fCB gInt (fCons (fOp gIx (fun ρ => getE ρ 1) (fun _ => .ok (.int 0))) fNil)) (fun _ => .ok (.int 12)))))
  (fSeq (fAsgF 3 (fLst fNil))
  (fSeq (fFor (fRng (fCons (fOp gAdd (fun _ => .ok (.int 2)) (fOp gMod (fCB gInt (fCons (fOp gIx (fun ρ => getE ρ 1) (fun _ => .ok (.int 1))) fNil)) (fun _ => .ok (.int 4)))) fNil)) (gtName 4)
  (fSeq (fAsg 7 (fCallN F__law_numbers (fCons (fCallN F__law_cell (fCons (fun ρ => getE ρ 0) (fCons (fOp gAdd (fun _ => .ok (.int 2)) (fun ρ => getE ρ 4)) fNil))) (fCons (fun _ => .ok (.int 13)) (fCons (fun _ => .ok (.int 12)) fNil)))))
  (fApp 3 (fCallN F__law_free (fCons (fun ρ => getE ρ 2) (fCons (fSl (fun ρ => getE ρ 7) foNone (foSome (fOp gIx (fun ρ => getE ρ 7) (fun _ => .ok (.int 12))))) fNil))))))
  (fSeq (fAsg 5 (fCallN F__law_order (fCons (fun ρ => getE ρ 3) (fCons (fCallN F__law_numbers (fCons (fCallN F__law_cell (fCons (fun ρ => getE ρ 0) (fCons (fun _ => .ok (.int 1)) fNil))) (fCons (fun _ => .ok (.int 60)) (fCons (fun _ => .ok (.int 60)) fNil)))) fNil))))
  (fSeq (fIf (fB (fOp gLt (fOp gIx (fun ρ => getE ρ 1) (fun _ => .ok (.int 2))) (fun _ => .ok (.int 20))))
  (fAsg 5 (fSl (fun ρ => getE ρ 5) foNone (foSome (fOp gMod (fCB gInt (fCons (fOp gIx (fun ρ => getE ρ 1) (fun _ => .ok (.int 3))) fNil)) (fOp gAdd (fCB gLen (fCons (fun ρ => getE ρ 5) fNil)) (fun _ => .ok (.int 1)))))))
  fNext)
  (fSeq (fAsg 6 (fCallN F__law_closed (fCons (fun ρ => getE ρ 2) (fCons (fun ρ => getE ρ 3) (fCons (fun ρ => getE ρ 5) fNil)))))
  (fRet (fCallN (F__law_fine A) (fCons (fOp gIx (fun ρ => getE ρ 6) (fun _ => .ok (.int 0))) (fCons (fOp gIx (fun ρ => getE ρ 6) (fun _ => .ok (.int 1))) fNil)))))))))))
def F_law (A : Cls) : List D → R D := runF 8 1 (b_law A)
end DL
set_option Elab.async false
set_option linter.all false
set_option maxRecDepth 100000
namespace DL
open PySem L2
abbrev top (i : Nat) : Stmt := PySem.Challenge.pw_lockrules_k65_neighbours_exchanged.main.body.getD i (.Pass ⟨0, 0, 0, 0⟩)
structure Txt (mg : Str → Option Value) : Prop where
  any : mg "any" = none
  bool : mg "bool" = none
  dict : mg "dict" = none
  enumerate : mg "enumerate" = none
  int : mg "int" = none
  isinstance : mg "isinstance" = none
  len : mg "len" = none
  list : mg "list" = none
  range : mg "range" = none
  str : mg "str" = none
  tuple : mg "tuple" = none
  K_DIGITS : ∃ t, mg "DIGITS" = some (.str (mkS [48, 49, 50, 51, 52, 53]) t)
  K_LARGEST : ∃ t, mg "LARGEST" = some (.int 6 t)

abbrev s_start : Stmt := top 12
theorem sc_start : FnScope ["size"] ["size"] (defScope s_start) := ⟨rfl, rfl, rfl, by decide +kernel, rfl, by decide +kernel, by decide +kernel⟩
theorem h_start {P : Program} {w : World} {K : PySem.W.Frag} {mg : Str → Option Value} {base : Heap} (T : Txt mg)   {f : Addr} {fd : FuncData} (Fn : Fun K "start" "start" s_start f fd) (m : mg "start" = some (.ref f)) (bd : L2.Binds K fd ["size"] []) : Has P w K mg base "start" 1 1 F_start := by
  have sc := sc_start
  refine ⟨f, fd, _, okD F_start Fn sc (fun cdv Ar outer s H E hr => ⟨b_start, ?_, (fun _ _ => .inr rfl)⟩), m, Fn.kp, bd⟩
  have tk := takesD (X := cxOf (L2.CX P w) P w K mg base ["size"] "start" (defScope s_start) f cdv Ar outer s H E) rfl rfl rfl rfl
  exact (pdb_cons (pds_if (ow := []) (ow' := []) (pdt_w (pdw_or (pdt_cmp op_lt gd_cmpI (pd_var (pv 0)) pd_int (nomark _)) (pdw_or1 (pdt_cmp op_gt gd_cmpI (pd_var (pv 0)) (pd_gint rfl T.K_LARGEST) (nomark _)))))
  (PDB.sub (pdb_one (pds_any (ow := []) (ow' := []))))
  (PDB.sub (pdb_nil (ow := []) (ow' := []))))
  (pdb_one (pds_ret (ow := []) (ow' := []) (pd_op op_mulD gd_mul (pd_str [46]) (pd_var (pv 0))))))
abbrev s_is_step : Stmt := top 13
theorem sc_is_step : FnScope ["size", "step"] ["size", "step"] (defScope s_is_step) := ⟨rfl, rfl, rfl, by decide +kernel, rfl, by decide +kernel, by decide +kernel⟩
theorem h_is_step {P : Program} {w : World} {K : PySem.W.Frag} {mg : Str → Option Value} {base : Heap} (T : Txt mg)   {f : Addr} {fd : FuncData} (Fn : Fun K "is_step" "is_step" s_is_step f fd) (m : mg "is_step" = some (.ref f)) (bd : L2.Binds K fd ["size", "step"] []) : Has P w K mg base "is_step" 1 2 F_is_step := by
  have sc := sc_is_step
  refine ⟨f, fd, _, okD F_is_step Fn sc (fun cdv Ar outer s H E hr => ⟨b_is_step, ?_, (fun _ _ => .inr rfl)⟩), m, Fn.kp, bd⟩
  have tk := takesD (X := cxOf (L2.CX P w) P w K mg base ["size", "step"] "is_step" (defScope s_is_step) f cdv Ar outer s H E) rfl rfl rfl rfl
  exact (pdb_one (pds_ret (ow := []) (ow' := []) (pd_and (pd_cmp (op_eqD hr.units) gd_eq (pd_callB cd_len call_lenA (by rfl) T.len boot_len (pda_cons (pd_var (pv 1)) pda_nil)) pd_int (nomark _)) (pd_and (pd_cmp (op_in5 (hu65 hr)) gd_in5 (pd_ixO 1 (hu1 hr) (pv 1) pd_int (fun _ _ => rfl)) (pd_str [43, 45]) (by rfl)) (pd_one (pd_cmp (op_in5 (hu65 hr)) gd_in5 (pd_ixO 1 (hu1 hr) (pv 1) pd_int (fun _ _ => rfl)) (pd_sl (pd_gstr [48, 49, 50, 51, 52, 53] rfl T.K_DIGITS) pdo_none (pdo_some (pd_var (pv 0)))) (by rfl)))))))
abbrev s_after : Stmt := top 14
theorem sc_after : FnScope ["state", "step", "item"] ["state", "step"] (defScope s_after) := ⟨rfl, rfl, rfl, by decide +kernel, rfl, by decide +kernel, by decide +kernel⟩
theorem h_after {P : Program} {w : World} {K : PySem.W.Frag} {mg : Str → Option Value} {base : Heap} (T : Txt mg) (C_is_step : Has P w K mg base "is_step" 1 2 F_is_step)  {f : Addr} {fd : FuncData} (Fn : Fun K "after" "after" s_after f fd) (m : mg "after" = some (.ref f)) (bd : L2.Binds K fd ["state", "step"] []) : Has P w K mg base "after" 2 2 F_after := by
  have sc := sc_after
  refine ⟨f, fd, _, okD F_after Fn sc (fun cdv Ar outer s H E hr => ⟨b_after, ?_, (fun _ _ => .inr rfl)⟩), m, Fn.kp, bd⟩
  have tk := takesD (X := cxOf (L2.CX P w) P w K mg base ["state", "step", "item"] "after" (defScope s_after) f cdv Ar outer s H E) rfl rfl rfl rfl
  exact (pdb_cons (pds_if (ow := []) (ow' := []) (pdt_not (pdt_val (pd_own C_is_step tk hr (show 1 ≤ 1 by decide) rfl (pda_cons (pd_callB cd_len call_lenA (by rfl) T.len boot_len (pda_cons (pd_var (pv 0)) pda_nil)) (pda_cons (pd_var (pv 1)) pda_nil)) (fCons_len (fCons_len (fNil_len rfl))))))
  (PDB.sub (pdb_one (pds_any (ow := []) (ow' := []))))
  (PDB.sub (pdb_nil (ow := []) (ow' := []))))
  (pdb_cons (pds_asg (ow := []) (ow' := []) (ps_set (i := 2) sc.nd rfl (Or.inl rfl) (pd_callTy cd_int call_intA (by rfl) T.int boot_int (pda_cons (pd_ixO 1 (hu1 hr) (pv 1) pd_int (fun _ _ => rfl)) pda_nil))))
  (pdb_cons (pds_if (ow := []) (ow' := []) (pdt_cmp (op_eqD hr.units) gd_eq (pd_ixO 1 (hu1 hr) (pv 1) pd_int (fun _ _ => rfl)) (pd_str [43]) (nomark _))
  (PDB.sub (pdb_cons (pds_if (ow := []) (ow' := []) (pdt_cmp (op_neD hr.units) gd_ne (pd_ixO 0 (hu1 hr) (pv 0) (pd_var (pv 2)) (fun _ _ => rfl)) (pd_str [46]) (nomark _))
  (PDB.sub (pdb_one (pds_any (ow := []) (ow' := []))))
  (PDB.sub (pdb_nil (ow := []) (ow' := []))))
  (pdb_one (pds_ret (ow := []) (ow' := []) (pd_op op_addD gd_add (pd_op op_addD gd_add (pd_slO 0 (pv 0) pdo_none (pdo_some (pd_var (pv 2)))) (pd_str [104])) (pd_slO 0 (pv 0) (pdo_some (pd_op op_addD gd_add (pd_var (pv 2)) pd_int)) pdo_none))))))
  (PDB.sub (pdb_nil (ow := []) (ow' := []))))
  (pdb_cons (pds_if (ow := []) (ow' := []) (pdt_cmp (op_neD hr.units) gd_ne (pd_ixO 0 (hu1 hr) (pv 0) (pd_var (pv 2)) (fun _ _ => rfl)) (pd_str [104]) (nomark _))
  (PDB.sub (pdb_one (pds_any (ow := []) (ow' := []))))
  (PDB.sub (pdb_nil (ow := []) (ow' := []))))
  (pdb_one (pds_ret (ow := []) (ow' := []) (pd_op op_addD gd_add (pd_op op_addD gd_add (pd_slO 0 (pv 0) pdo_none (pdo_some (pd_var (pv 2)))) (pd_str [114])) (pd_slO 0 (pv 0) (pdo_some (pd_op op_addD gd_add (pd_var (pv 2)) pd_int)) pdo_none))))))))
abbrev s_replay : Stmt := top 15
theorem sc_replay : FnScope ["size", "steps", "state", "step"] ["size", "steps"] (defScope s_replay) := ⟨rfl, rfl, rfl, by decide +kernel, rfl, by decide +kernel, by decide +kernel⟩
theorem h_replay {P : Program} {w : World} {K : PySem.W.Frag} {mg : Str → Option Value} {base : Heap} (T : Txt mg) (C_start : Has P w K mg base "start" 1 1 F_start) (C_after : Has P w K mg base "after" 2 2 F_after)  {f : Addr} {fd : FuncData} (Fn : Fun K "replay" "replay" s_replay f fd) (m : mg "replay" = some (.ref f)) (bd : L2.Binds K fd ["size", "steps"] []) : Has P w K mg base "replay" 3 2 F_replay := by
  have sc := sc_replay
  refine ⟨f, fd, _, okD F_replay Fn sc (fun cdv Ar outer s H E hr => ⟨b_replay, ?_, (fun _ _ => .inr rfl)⟩), m, Fn.kp, bd⟩
  have tk := takesD (X := cxOf (L2.CX P w) P w K mg base ["size", "steps", "state", "step"] "replay" (defScope s_replay) f cdv Ar outer s H E) rfl rfl rfl rfl
  exact (pdb_cons (pds_asg (ow := []) (ow' := []) (ps_set (i := 2) sc.nd rfl (Or.inl rfl) (pd_own C_start tk hr (show 1 ≤ 2 by decide) rfl (pda_cons (pd_var (pv 0)) pda_nil) (fCons_len (fNil_len rfl)))))
  (pdb_cons (pds_for (ow := []) (ow' := []) (lo := []) (passes_of rfl) rfl (pdi_seq (pd_var (pv 1))) (pg_name (i := 3) sc.nd rfl (Or.inl rfl)) tg_name
  (PDB.sub (pdb_one (pds_asg (ow := []) (ow' := []) (ps_set (i := 2) sc.nd rfl (Or.inl rfl) (pd_own C_after tk hr (show 2 ≤ 2 by decide) rfl (pda_cons (pd_var (pv 2)) (pda_cons (pd_var (pv 3)) pda_nil)) (fCons_len (fCons_len (fNil_len rfl)))))))))
  (pdb_one (pds_ret (ow := []) (ow' := []) (pd_var (pv 2))))))
abbrev s_check_programs : Stmt := top 17
theorem sc_check_programs : FnScope ["size", "programs", "index", "steps", "e", "state"] ["size", "programs"] (defScope s_check_programs) := ⟨rfl, rfl, rfl, by decide +kernel, rfl, by decide +kernel, by decide +kernel⟩
theorem h_check_programs {P : Program} {w : World} {K : PySem.W.Frag} {mg : Str → Option Value} {base : Heap} (T : Txt mg) (C_replay : Has P w K mg base "replay" 3 2 F_replay)  {f : Addr} {fd : FuncData} (Fn : Fun K "check_programs" "check_programs" s_check_programs f fd) (m : mg "check_programs" = some (.ref f)) (bd : L2.Binds K fd ["size", "programs"] []) : Has P w K mg base "check_programs" 4 2 F_check_programs := by
  have sc := sc_check_programs
  refine ⟨f, fd, _, okD F_check_programs Fn sc (fun cdv Ar outer s H E hr => ⟨b_check_programs, ?_, (fun _ _ => .inr rfl)⟩), m, Fn.kp, bd⟩
  have tk := takesD (X := cxOf (L2.CX P w) P w K mg base ["size", "programs", "index", "steps", "e", "state"] "check_programs" (defScope s_check_programs) f cdv Ar outer s H E) rfl rfl rfl rfl
  exact (pdb_one (pds_for (ow := []) (ow' := []) (lo := []) (passes_of rfl) rfl (pdi_enum rfl T.enumerate (pda_cons (pd_var (pv 1)) pda_nil)) (pg_tup rfl (pgs_cons (pg_name (i := 2) sc.nd rfl (Or.inl rfl)) (pgs_cons (pg_name (i := 3) sc.nd rfl (Or.inl rfl)) pgs_nil))) tg_pair
  (PDB.sub (pdb_cons (pds_tryN (ow := []) (ow' := []) (fun tk => PDB.sub (pdb_one (pds_asg (ow := []) (ow' := []) (ps_set (i := 5) sc.nd rfl (Or.inl rfl) (pd_own C_replay tk hr (show 3 ≤ 3 by decide) rfl (pda_cons (pd_var (pv 0)) (pda_cons (pd_var (pv 3)) pda_nil)) (fCons_len (fCons_len (fNil_len rfl)))))))))
  (pdb_one (pds_if (ow := []) (ow' := []) (pdt_cmp (op_in5 (hu65 hr)) gd_in5 (pd_str [104]) (pd_var (pv 5)) (by rfl))
  (PDB.sub (pdb_one (pds_any (ow := []) (ow' := []))))
  (PDB.sub (pdb_nil (ow := []) (ow' := [])))))))))
abbrev s_holds : Stmt := top 18
theorem sc_holds : FnScope ["steps", "many", "digit", "made"] ["steps", "many", "digit"] (defScope s_holds) := ⟨rfl, rfl, rfl, by decide +kernel, rfl, by decide +kernel, by decide +kernel⟩
theorem h_holds {P : Program} {w : World} {K : PySem.W.Frag} {mg : Str → Option Value} {base : Heap} (T : Txt mg)   {f : Addr} {fd : FuncData} (Fn : Fun K "holds" "holds" s_holds f fd) (m : mg "holds" = some (.ref f)) (bd : L2.Binds K fd ["steps", "many", "digit"] []) : Has P w K mg base "holds" 1 3 F_holds := by
  have sc := sc_holds
  refine ⟨f, fd, _, okD F_holds Fn sc (fun cdv Ar outer s H E hr => ⟨b_holds, ?_, (fun _ _ => .inr rfl)⟩), m, Fn.kp, bd⟩
  have tk := takesD (X := cxOf (L2.CX P w) P w K mg base ["steps", "many", "digit", "made"] "holds" (defScope s_holds) f cdv Ar outer s H E) rfl rfl rfl rfl
  exact (pdb_cons (pds_asg (ow := []) (ow' := []) (ps_set (i := 3) sc.nd rfl (Or.inl rfl) (pd_slO 0 (pv 0) pdo_none (pdo_some (pd_var (pv 1))))))
  (pdb_one (pds_ret (ow := []) (ow' := []) (pd_and (pd_cmp (op_in5 (hu65 hr)) gd_in5 (pd_op op_addD gd_add (pd_str [43]) (pd_var (pv 2))) (pd_var (pv 3)) (by rfl)) (pd_one (pd_cmp (op_nin5 (hu65 hr)) gd_in5 (pd_op op_addD gd_add (pd_str [45]) (pd_var (pv 2))) (pd_var (pv 3)) (by rfl)))))))
abbrev s_is_free : Stmt := top 19
theorem sc_is_free : FnScope ["programs", "places", "index", "step", "k"] ["programs", "places", "index"] (defScope s_is_free) := ⟨rfl, rfl, rfl, by decide +kernel, rfl, by decide +kernel, by decide +kernel⟩
theorem h_is_free {P : Program} {w : World} {K : PySem.W.Frag} {mg : Str → Option Value} {base : Heap} (T : Txt mg) (C_holds : Has P w K mg base "holds" 1 3 F_holds)  {f : Addr} {fd : FuncData} (Fn : Fun K "is_free" "is_free" s_is_free f fd) (m : mg "is_free" = some (.ref f)) (bd : L2.Binds K fd ["programs", "places", "index"] []) : Has P w K mg base "is_free" 2 3 F_is_free := by
  have sc := sc_is_free
  refine ⟨f, fd, _, okD F_is_free Fn sc (fun cdv Ar outer s H E hr => ⟨b_is_free, ?_, (fun _ _ => .inr rfl)⟩), m, Fn.kp, bd⟩
  have tk := takesD (X := cxOf (L2.CX P w) P w K mg base ["programs", "places", "index", "step", "k"] "is_free" (defScope s_is_free) f cdv Ar outer s H E) rfl rfl rfl rfl
  exact (pdb_cons (pds_asg (ow := []) (ow' := []) (ps_set (i := 3) sc.nd rfl (Or.inr rfl) (pd_ix (hu1 hr) (pd_ixO 0 (hu1 hr) (pv 0) (pd_var (pv 2)) (fun _ _ => rfl)) (pd_ixO 1 (hu1 hr) (pv 1) (pd_var (pv 2)) (fun _ _ => rfl)) (fun _ _ => rfl))))
  (pdb_cons (pds_if (ow := []) (ow' := []) (pdt_cmp (op_eqD hr.units) gd_eq (pd_ixO 3 (hu1 hr) (pv 3) pd_int (fun _ _ => rfl)) (pd_str [45]) (nomark _))
  (PDB.sub (pdb_one (pds_ret (ow := []) (ow' := []) pd_bl)))
  (PDB.sub (pdb_nil (ow := []) (ow' := []))))
  (pdb_one (pds_ret (ow := []) (ow' := []) (pd_not (pd_callB cd_any (cr_any rfl) (by rfl) T.any boot_any (pda_cons (PDF.pd (pdf_lc (own := [("k", 4)]) rfl sc.nd (pdi_range1 rfl T.range (pda_cons (pd_callB cd_len call_lenA (by rfl) T.len boot_len (pda_cons (pd_var (pv 0)) pda_nil)) pda_nil) (fCons_len (fNil_len rfl))) (blkOk_by (own := [("k", 4)]) (N := ["programs", "places", "index", "step", "k"]) (sc := (defScope s_is_free)) (by decide +kernel)) tg_name (fun _ _ _ _ _ => (pg_name (i := 4) sc.nd rfl (by first | exact Or.inl rfl | exact Or.inr rfl))) (fun _ _ _ _ _ => pdts_nil) (fun _ _ _ _ _ => (pd_own C_holds takes0 hr (show 1 ≤ 1 by decide) rfl (pda_cons (pd_ixO 0 (hu1 hr) (pv 0) (pd_var (pv 4)) (fun _ _ => rfl)) (pda_cons (pd_ixO 1 (hu1 hr) (pv 1) (pd_var (pv 4)) (fun _ _ => rfl)) (pda_cons (pd_ixO 3 (hu1 hr) (pv 3) pd_int (fun _ _ => rfl)) pda_nil))) (fCons_len (fCons_len (fCons_len (fNil_len rfl)))))))) pda_nil)))))))
abbrev s_outcome : Stmt := top 20
theorem sc_outcome : FnScope ["programs", "order", "places", "found", "place", "index", "step", "steps", "item", "k"] ["programs", "order"] (defScope s_outcome) := ⟨rfl, rfl, rfl, by decide +kernel, rfl, by decide +kernel, by decide +kernel⟩
theorem h_outcome {P : Program} {w : World} {K : PySem.W.Frag} {mg : Str → Option Value} {base : Heap} {A : Cls} (T : Txt mg) (C_check_programs : Has P w K mg base "check_programs" 4 2 F_check_programs) (C_is_free : Has P w K mg base "is_free" 2 3 F_is_free) (X_Blocked : HasX P w K mg base "Blocked" A.Blocked ["place", "item"]) {f : Addr} {fd : FuncData} (Fn : Fun K "outcome" "outcome" s_outcome f fd) (m : mg "outcome" = some (.ref f)) (bd : L2.Binds K fd ["programs", "order"] []) : Has P w K mg base "outcome" 5 2 (F_outcome A) := by
  have sc := sc_outcome
  refine ⟨f, fd, _, okD (F_outcome A) Fn sc (fun cdv Ar outer s H E hr => ⟨(b_outcome A), ?_, (fun _ _ => .inr rfl)⟩), m, Fn.kp, bd⟩
  have tk := takesD (X := cxOf (L2.CX P w) P w K mg base ["programs", "order", "places", "found", "place", "index", "step", "steps", "item", "k"] "outcome" (defScope s_outcome) f cdv Ar outer s H E) rfl rfl rfl rfl
  exact (pdb_cons (pds_drop (ow := []) (ow' := []) (ps_expr (pd_own C_check_programs tk hr (show 4 ≤ 4 by decide) rfl (pda_cons (pd_gint rfl T.K_LARGEST) (pda_cons (pd_var (pv 0)) pda_nil)) (fCons_len (fCons_len (fNil_len rfl))))))
  (pdb_cons (pds_asgF (ow := []) (ow' := [(2, 1)]) (ps_set (i := 2) sc.nd rfl (Or.inr rfl) (pdf_lc (own := [("steps", 7)]) rfl sc.nd (pdi_seq (pd_var (pv 0))) (blkOk_by (own := [("steps", 7)]) (N := ["programs", "order", "places", "found", "place", "index", "step", "steps", "item", "k"]) (sc := (defScope s_outcome)) (by decide +kernel)) tg_name (fun _ _ _ _ _ => (pg_name (i := 7) sc.nd rfl (by first | exact Or.inl rfl | exact Or.inr rfl))) (fun _ _ _ _ _ => pdts_nil) (fun _ _ _ _ _ => pd_int))))
  (pdb_cons (pds_asgF (ow := [(2, 1)]) (ow' := [(2, 1), (3, 1)]) (ps_set (i := 3) sc.nd rfl (Or.inr rfl) pdf_dk))
  (pdb_cons (pds_for (ow := [(2, 1), (3, 1)]) (ow' := []) (lo := [(2, 1), (3, 1)]) (passes_of rfl) rfl (pdi_enum rfl T.enumerate (pda_cons (pd_var (pv 1)) pda_nil)) (pg_tup rfl (pgs_cons (pg_name (i := 4) sc.nd rfl (Or.inl rfl)) (pgs_cons (pg_name (i := 5) sc.nd rfl (Or.inl rfl)) pgs_nil))) tg_pair
  (PDB.sub (pdb_cons (pds_if (ow := [(2, 1), (3, 1)]) (ow' := [(2, 1), (3, 1)]) (pdt_w (pdw_or (pdt_cmp op_lt gd_cmpI (pd_var (pv 5)) pd_int (nomark _)) (pdw_or (pdt_cmp op_ge gd_cmpI (pd_var (pv 5)) (pd_callB cd_len call_lenA (by rfl) T.len boot_len (pda_cons (pd_var (pv 0)) pda_nil)) (nomark _)) (pdw_or1 (pdt_cmp (op_eqD hr.units) gd_eq (pd_ixO 2 (hu1 hr) (pv 2) (pd_var (pv 5)) (fun _ _ => rfl)) (pd_callB cd_len call_lenA (by rfl) T.len boot_len (pda_cons (pd_ixO 0 (hu1 hr) (pv 0) (pd_var (pv 5)) (fun _ _ => rfl)) pda_nil)) (nomark _))))))
  (PDB.sub (pdb_one (pds_any (ow := []) (ow' := [(2, 1), (3, 1)]))))
  (PDB.sub (pdb_nil (ow := [(2, 1), (3, 1)]) (ow' := [(2, 1), (3, 1)]))))
  (pdb_cons (pds_asg (ow := [(2, 1), (3, 1)]) (ow' := [(2, 1), (3, 1)]) (ps_set (i := 6) sc.nd rfl (Or.inl rfl) (pd_ix (hu1 hr) (pd_ixO 0 (hu1 hr) (pv 0) (pd_var (pv 5)) (fun _ _ => rfl)) (pd_ixO 2 (hu1 hr) (pv 2) (pd_var (pv 5)) (fun _ _ => rfl)) (fun _ _ => rfl))))
  (pdb_cons (pds_if (ow := [(2, 1), (3, 1)]) (ow' := [(2, 1), (3, 1)]) (pdt_not (pdt_val (pd_scal (pd_own C_is_free tk hr (show 2 ≤ 4 by decide) rfl (pda_cons (pd_var (pv 0)) (pda_cons (pd_var (pv 2)) (pda_cons (pd_var (pv 5)) pda_nil))) (fCons_len (fCons_len (fCons_len (fNil_len rfl))))))))
  (PDB.sub (pdb_one (pds_raise (ow := []) (ow' := [(2, 1), (3, 1)]) (fs := ["place", "item"]) X_Blocked rfl tk (hr.mono (by decide)) rfl (pda_cons (pd_var (pv 4)) (pda_cons (pd_callTy cd_int call_intA (by rfl) T.int boot_int (pda_cons (pd_ixO 6 (hu1 hr) (pv 6) pd_int (fun _ _ => rfl)) pda_nil)) pda_nil)) (fCons_len (fCons_len (fNil_len rfl))))))
  (PDB.sub (pdb_nil (ow := [(2, 1), (3, 1)]) (ow' := [(2, 1), (3, 1)]))))
  (pdb_cons (pds_if (ow := [(2, 1), (3, 1)]) (ow' := [(2, 1), (3, 1)]) (pdt_cmp (op_eqD hr.units) gd_eq (pd_ixO 6 (hu1 hr) (pv 6) pd_int (fun _ _ => rfl)) (pd_str [43]) (nomark _))
  (PDB.sub (pdb_cons (pds_asg (ow := [(2, 1), (3, 1)]) (ow' := [(2, 1), (3, 1)]) (ps_set (i := 8) sc.nd rfl (Or.inl rfl) (pd_callTy cd_int call_intA (by rfl) T.int boot_int (pda_cons (pd_ixO 6 (hu1 hr) (pv 6) pd_int (fun _ _ => rfl)) pda_nil))))
  (pdb_one (pds_put (ow := [(2, 1), (3, 1)]) (ow' := [(2, 1), (3, 1)]) (ps_asg (pd_op op_addD gd_add (pd_dgetO 3 (hu1 hr) (pv 3) (pd_var (pv 8)) (pd_tup pda_nil)) (pd_tup (pda_cons (pd_var (pv 5)) pda_nil))) (pg_sub (pv 3) (pd_var (pv 8)) (set_all (hu1 hr))))))))
  (PDB.sub (pdb_nil (ow := [(2, 1), (3, 1)]) (ow' := [(2, 1), (3, 1)]))))
  (pdb_one (pds_augS (ow := [(2, 1), (3, 1)]) (ow' := [(2, 1), (3, 1)]) (k := 2) (ps_augS (pv 2) (pd_var (pv 5)) pg_lst1 pd_int ip_add set_list)))))))))
  (pdb_cons (pds_if (ow := []) (ow' := []) (pdt_val (pd_callB cd_any (cr_any rfl) (by rfl) T.any boot_any (pda_cons (PDF.pd (pdf_lc (own := [("k", 9)]) rfl sc.nd (pdi_range1 rfl T.range (pda_cons (pd_callB cd_len call_lenA (by rfl) T.len boot_len (pda_cons (pd_var (pv 0)) pda_nil)) pda_nil) (fCons_len (fNil_len rfl))) (blkOk_by (own := [("k", 9)]) (N := ["programs", "order", "places", "found", "place", "index", "step", "steps", "item", "k"]) (sc := (defScope s_outcome)) (by decide +kernel)) tg_name (fun _ _ _ _ _ => (pg_name (i := 9) sc.nd rfl (by first | exact Or.inl rfl | exact Or.inr rfl))) (fun _ _ _ _ _ => pdts_nil) (fun _ _ _ _ _ => (pd_cmp op_lt gd_cmpI (pd_ixO 2 (hu1 hr) (pv 2) (pd_var (pv 9)) (fun _ _ => rfl)) (pd_callB cd_len call_lenA (by rfl) T.len boot_len (pda_cons (pd_ixO 0 (hu1 hr) (pv 0) (pd_var (pv 9)) (fun _ _ => rfl)) pda_nil)) (nomark _))))) pda_nil)))
  (PDB.sub (pdb_one (pds_any (ow := []) (ow' := []))))
  (PDB.sub (pdb_nil (ow := []) (ow' := []))))
  (pdb_one (pds_ret (ow := []) (ow' := []) (PDF.pd (pdf_dc (own := [("item", 8)]) rfl sc.nd (pdi_range1 rfl T.range (pda_cons (pd_gint rfl T.K_LARGEST) pda_nil) (fCons_len (fNil_len rfl))) (blkOk_by (own := [("item", 8)]) (N := ["programs", "order", "places", "found", "place", "index", "step", "steps", "item", "k"]) (sc := (defScope s_outcome)) (by decide +kernel)) tg_name (fun _ _ _ _ _ => (pg_name (i := 8) sc.nd rfl (by first | exact Or.inl rfl | exact Or.inr rfl))) (fun _ _ _ _ _ => (pdts_one (pdt_cmp (op_in5 (hu65 hr)) gd_in5 (pd_var (pv 8)) (pd_var (pv 3)) (by rfl)))) (fun _ _ _ _ _ => (pd_var (pv 8))) (fun _ _ _ _ _ => (pd_ixO 3 (hu1 hr) (pv 3) (pd_var (pv 8)) (fun _ _ => rfl))))))))))))
abbrev s__law_cell : Stmt := top 22
theorem sc__law_cell : FnScope ["script", "k"] ["script", "k"] (defScope s__law_cell) := ⟨rfl, rfl, rfl, by decide +kernel, rfl, by decide +kernel, by decide +kernel⟩
theorem h__law_cell {P : Program} {w : World} {K : PySem.W.Frag} {mg : Str → Option Value} {base : Heap} (T : Txt mg)   {f : Addr} {fd : FuncData} (Fn : Fun K "_law_cell" "_law_cell" s__law_cell f fd) (m : mg "_law_cell" = some (.ref f)) (bd : L2.Binds K fd ["script", "k"] []) : Has P w K mg base "_law_cell" 1 2 F__law_cell := by
  have sc := sc__law_cell
  refine ⟨f, fd, _, okD F__law_cell Fn sc (fun cdv Ar outer s H E hr => ⟨b__law_cell, ?_, (fun _ _ => .inr rfl)⟩), m, Fn.kp, bd⟩
  have tk := takesD (X := cxOf (L2.CX P w) P w K mg base ["script", "k"] "_law_cell" (defScope s__law_cell) f cdv Ar outer s H E) rfl rfl rfl rfl
  exact (pdb_cons (pds_if (ow := []) (ow' := []) (pdt_cmp op_lt gd_cmpI (pd_var (pv 1)) (pd_callB cd_len call_lenA (by rfl) T.len boot_len (pda_cons (pd_var (pv 0)) pda_nil)) (nomark _))
  (PDB.sub (pdb_one (pds_ret (ow := []) (ow' := []) (pd_ixO 0 (hu1 hr) (pv 0) (pd_var (pv 1)) (fun _ _ => rfl)))))
  (PDB.sub (pdb_nil (ow := []) (ow' := []))))
  (pdb_one (pds_ret (ow := []) (ow' := []) pd_int)))
abbrev s__law_numbers : Stmt := top 23
theorem sc__law_numbers : FnScope ["cell", "many", "limit", "left", "mixed", "row", "k"] ["cell", "many", "limit"] (defScope s__law_numbers) := ⟨rfl, rfl, rfl, by decide +kernel, rfl, by decide +kernel, by decide +kernel⟩
theorem h__law_numbers {P : Program} {w : World} {K : PySem.W.Frag} {mg : Str → Option Value} {base : Heap} (T : Txt mg)   {f : Addr} {fd : FuncData} (Fn : Fun K "_law_numbers" "_law_numbers" s__law_numbers f fd) (m : mg "_law_numbers" = some (.ref f)) (bd : L2.Binds K fd ["cell", "many", "limit"] []) : Has P w K mg base "_law_numbers" 1 3 F__law_numbers := by
  have sc := sc__law_numbers
  refine ⟨f, fd, _, okD F__law_numbers Fn sc (fun cdv Ar outer s H E hr => ⟨b__law_numbers, ?_, (fun _ _ => .inr rfl)⟩), m, Fn.kp, bd⟩
  have tk := takesD (X := cxOf (L2.CX P w) P w K mg base ["cell", "many", "limit", "left", "mixed", "row", "k"] "_law_numbers" (defScope s__law_numbers) f cdv Ar outer s H E) rfl rfl rfl rfl
  exact (pdb_cons (pds_asg (ow := []) (ow' := []) (ps_set (i := 3) sc.nd rfl (Or.inl rfl) pd_int))
  (pdb_cons (pds_if (ow := []) (ow' := []) (pdt_cmp op_ge gd_cmpI (pd_var (pv 0)) (pd_op op_pow gd_pow pd_int pd_int) (nomark _))
  (PDB.sub (pdb_one (pds_asg (ow := []) (ow' := []) (ps_set (i := 3) sc.nd rfl (Or.inl rfl) (pd_op op_sub gd_sub (pd_var (pv 0)) (pd_op op_pow gd_pow pd_int pd_int))))))
  (PDB.sub (pdb_nil (ow := []) (ow' := []))))
  (pdb_cons (pds_asg (ow := []) (ow' := []) (ps_set (i := 4) sc.nd rfl (Or.inl rfl) (pd_op op_mod gd_mod (pd_callTy cd_int call_intA (by rfl) T.int boot_int (pda_cons (pd_var (pv 0)) pda_nil)) pd_int)))
  (pdb_cons (pds_asgF (ow := []) (ow' := [(5, 1)]) (ps_set (i := 5) sc.nd rfl (Or.inl rfl) (pdf_lst pda_nil)))
  (pdb_cons (pds_for (ow := [(5, 1)]) (ow' := []) (lo := [(5, 1)]) (passes_of rfl) rfl (pdi_range1 rfl T.range (pda_cons (pd_var (pv 1)) pda_nil) (fCons_len (fNil_len rfl))) (pg_name (i := 6) sc.nd rfl (Or.inl rfl)) tg_name
  (PDB.sub (pdb_cons (pds_asg (ow := [(5, 1)]) (ow' := [(5, 1)]) (ps_set (i := 4) sc.nd rfl (Or.inl rfl) (pd_op op_mod gd_mod (pd_callTy cd_int call_intA (by rfl) T.int boot_int (pda_cons (pd_op op_addD gd_add (pd_op op_addD gd_add (pd_op op_mulD gd_mul (pd_var (pv 4)) pd_int) (pd_op op_mulD gd_mul pd_int (pd_var (pv 6)))) pd_int) pda_nil)) pd_int)))
  (pdb_one (pds_if (ow := [(5, 1)]) (ow' := [(5, 1)]) (pdt_cmp op_gt gd_cmpI (pd_var (pv 3)) pd_int (nomark _))
  (PDB.sub (pdb_cons (pds_app (ow := [(5, 1)]) (ow' := [(5, 1)]) (ps_expr (pe_bm PySem.F.plainAttrs_list PySem.F.slot_list_append PySem.F.type_list_append mt_append (pv 5) (pa_cons (pd_op op_mod gd_mod (pd_callTy cd_int call_intA (by rfl) T.int boot_int (pda_cons (pd_var (pv 3)) pda_nil)) (pd_var (pv 2))) pa_nil))))
  (pdb_one (pds_asg (ow := [(5, 1)]) (ow' := [(5, 1)]) (ps_set (i := 3) sc.nd rfl (Or.inl rfl) (pd_op op_fdiv gd_div (pd_var (pv 3)) (pd_var (pv 2))))))))
  (PDB.sub (pdb_one (pds_app (ow := [(5, 1)]) (ow' := [(5, 1)]) (ps_expr (pe_bm PySem.F.plainAttrs_list PySem.F.slot_list_append PySem.F.type_list_append mt_append (pv 5) (pa_cons (pd_op op_mod gd_mod (pd_op op_fdiv gd_div (pd_var (pv 4)) pd_int) (pd_var (pv 2))) pa_nil)))))))))))
  (pdb_one (pds_ret (ow := []) (ow' := []) (pd_var (pv 5)))))))))
abbrev s__law_same : Stmt := top 24
theorem sc__law_same : FnScope ["actual", "due", "k"] ["actual", "due"] (defScope s__law_same) := ⟨rfl, rfl, rfl, by decide +kernel, rfl, by decide +kernel, by decide +kernel⟩
theorem h__law_same {P : Program} {w : World} {K : PySem.W.Frag} {mg : Str → Option Value} {base : Heap} {k n : Nat} (T : Txt mg) (C__law_same : Has P w K mg base "_law_same" k 2 (F__law_same n))  {f : Addr} {fd : FuncData} (Fn : Fun K "_law_same" "_law_same" s__law_same f fd) (m : mg "_law_same" = some (.ref f)) (bd : L2.Binds K fd ["actual", "due"] []) : Has P w K mg base "_law_same" (k + 1) 2 (F__law_same (n + 1)) := by
  have sc := sc__law_same
  refine ⟨f, fd, _, okD (F__law_same (n + 1)) Fn sc (fun cdv Ar outer s H E hr => ⟨(b__law_same (F__law_same n)), ?_, (fun _ _ => .inr rfl)⟩), m, Fn.kp, bd⟩
  have tk := takesD (X := cxOf (L2.CX P w) P w K mg base ["actual", "due", "k"] "_law_same" (defScope s__law_same) f cdv Ar outer s H E) rfl rfl rfl rfl
  exact (pdb_cons (pds_if (ow := []) (ow' := []) (pdt_cmp op_isN gd_isN (pd_var (pv 1)) pd_non (nomark _))
  (PDB.sub (pdb_one (pds_ret (ow := []) (ow' := []) (pd_cmp op_isN gd_isN (pd_var (pv 0)) pd_non (nomark _)))))
  (PDB.sub (pdb_nil (ow := []) (ow' := []))))
  (pdb_cons (pds_if (ow := []) (ow' := []) (pdt_val (pd_isi rfl T.isinstance boot_isinstance rfl T.bool boot_bool (pd_var (pv 1))))
  (PDB.sub (pdb_one (pds_ret (ow := []) (ow' := []) (pd_and (pd_isi rfl T.isinstance boot_isinstance rfl T.bool boot_bool (pd_var (pv 0))) (pd_one (pd_cmp (op_eqD hr.units) gd_eq (pd_var (pv 0)) (pd_var (pv 1)) (nomark _)))))))
  (PDB.sub (pdb_nil (ow := []) (ow' := []))))
  (pdb_cons (pds_if (ow := []) (ow' := []) (pdt_val (pd_isi rfl T.isinstance boot_isinstance rfl T.int boot_int (pd_var (pv 1))))
  (PDB.sub (pdb_one (pds_ret (ow := []) (ow' := []) (pd_and (pd_isi rfl T.isinstance boot_isinstance rfl T.int boot_int (pd_var (pv 0))) (pd_and (pd_not (pd_isi rfl T.isinstance boot_isinstance rfl T.bool boot_bool (pd_var (pv 0)))) (pd_one (pd_cmp (op_eqD hr.units) gd_eq (pd_var (pv 0)) (pd_var (pv 1)) (nomark _))))))))
  (PDB.sub (pdb_nil (ow := []) (ow' := []))))
  (pdb_cons (pds_if (ow := []) (ow' := []) (pdt_val (pd_isi rfl T.isinstance boot_isinstance rfl T.str boot_str (pd_var (pv 1))))
  (PDB.sub (pdb_one (pds_ret (ow := []) (ow' := []) (pd_and (pd_isi rfl T.isinstance boot_isinstance rfl T.str boot_str (pd_var (pv 0))) (pd_one (pd_cmp (op_eqD hr.units) gd_eq (pd_var (pv 0)) (pd_var (pv 1)) (nomark _)))))))
  (PDB.sub (pdb_nil (ow := []) (ow' := []))))
  (pdb_cons (pds_if (ow := []) (ow' := []) (pdt_w (pdw_and (pdt_val (pd_isi rfl T.isinstance boot_isinstance rfl T.list boot_list (pd_var (pv 1)))) (pdw_and1 (pdt_not (pdt_val (pd_isi rfl T.isinstance boot_isinstance rfl T.list boot_list (pd_var (pv 0))))))))
  (PDB.sub (pdb_one (pds_ret (ow := []) (ow' := []) pd_bl)))
  (PDB.sub (pdb_nil (ow := []) (ow' := []))))
  (pdb_cons (pds_if (ow := []) (ow' := []) (pdt_w (pdw_and (pdt_val (pd_isi rfl T.isinstance boot_isinstance rfl T.tuple boot_tuple (pd_var (pv 1)))) (pdw_and1 (pdt_not (pdt_val (pd_isi rfl T.isinstance boot_isinstance rfl T.tuple boot_tuple (pd_var (pv 0))))))))
  (PDB.sub (pdb_one (pds_ret (ow := []) (ow' := []) pd_bl)))
  (PDB.sub (pdb_nil (ow := []) (ow' := []))))
  (pdb_cons (pds_if (ow := []) (ow' := []) (pdt_cmp (op_neD hr.units) gd_ne (pd_callB cd_len call_lenA (by rfl) T.len boot_len (pda_cons (pd_var (pv 0)) pda_nil)) (pd_callB cd_len call_lenA (by rfl) T.len boot_len (pda_cons (pd_var (pv 1)) pda_nil)) (nomark _))
  (PDB.sub (pdb_one (pds_ret (ow := []) (ow' := []) pd_bl)))
  (PDB.sub (pdb_nil (ow := []) (ow' := []))))
  (pdb_cons (pds_for (ow := []) (ow' := []) (lo := []) (passes_of rfl) rfl (pdi_range1 rfl T.range (pda_cons (pd_callB cd_len call_lenA (by rfl) T.len boot_len (pda_cons (pd_var (pv 1)) pda_nil)) pda_nil) (fCons_len (fNil_len rfl))) (pg_name (i := 2) sc.nd rfl (Or.inl rfl)) tg_name
  (PDB.sub (pdb_one (pds_if (ow := []) (ow' := []) (pdt_not (pdt_val (pd_own C__law_same tk hr (Nat.le_refl _) rfl (pda_cons (pd_ixO 0 (hu1 hr) (pv 0) (pd_var (pv 2)) (fun _ _ => rfl)) (pda_cons (pd_ixO 1 (hu1 hr) (pv 1) (pd_var (pv 2)) (fun _ _ => rfl)) pda_nil)) (fCons_len (fCons_len (fNil_len rfl))))))
  (PDB.sub (pdb_one (pds_ret (ow := []) (ow' := []) pd_bl)))
  (PDB.sub (pdb_nil (ow := []) (ow' := [])))))))
  (pdb_one (pds_ret (ow := []) (ow' := []) pd_bl))))))))))
abbrev s__law_moved : Stmt := top 25
theorem sc__law_moved : FnScope ["state", "step", "item", "sign"] ["state", "step"] (defScope s__law_moved) := ⟨rfl, rfl, rfl, by decide +kernel, rfl, by decide +kernel, by decide +kernel⟩
theorem h__law_moved {P : Program} {w : World} {K : PySem.W.Frag} {mg : Str → Option Value} {base : Heap} (T : Txt mg)   {f : Addr} {fd : FuncData} (Fn : Fun K "_law_moved" "_law_moved" s__law_moved f fd) (m : mg "_law_moved" = some (.ref f)) (bd : L2.Binds K fd ["state", "step"] []) : Has P w K mg base "_law_moved" 1 2 F__law_moved := by
  have sc := sc__law_moved
  refine ⟨f, fd, _, okD F__law_moved Fn sc (fun cdv Ar outer s H E hr => ⟨b__law_moved, ?_, (fun _ _ => .inr rfl)⟩), m, Fn.kp, bd⟩
  have tk := takesD (X := cxOf (L2.CX P w) P w K mg base ["state", "step", "item", "sign"] "_law_moved" (defScope s__law_moved) f cdv Ar outer s H E) rfl rfl rfl rfl
  exact (pdb_cons (pds_asg (ow := []) (ow' := []) (ps_set (i := 2) sc.nd rfl (Or.inl rfl) (pd_callTy cd_int call_intA (by rfl) T.int boot_int (pda_cons (pd_ixO 1 (hu1 hr) (pv 1) pd_int (fun _ _ => rfl)) pda_nil))))
  (pdb_cons (pds_asg (ow := []) (ow' := []) (ps_set (i := 3) sc.nd rfl (Or.inl rfl) (pd_str [104])))
  (pdb_cons (pds_if (ow := []) (ow' := []) (pdt_cmp (op_eqD hr.units) gd_eq (pd_ixO 1 (hu1 hr) (pv 1) pd_int (fun _ _ => rfl)) (pd_str [45]) (nomark _))
  (PDB.sub (pdb_one (pds_asg (ow := []) (ow' := []) (ps_set (i := 3) sc.nd rfl (Or.inl rfl) (pd_str [114])))))
  (PDB.sub (pdb_nil (ow := []) (ow' := []))))
  (pdb_one (pds_ret (ow := []) (ow' := []) (pd_op op_addD gd_add (pd_op op_addD gd_add (pd_slO 0 (pv 0) pdo_none (pdo_some (pd_var (pv 2)))) (pd_var (pv 3))) (pd_slO 0 (pv 0) (pdo_some (pd_op op_addD gd_add (pd_var (pv 2)) pd_int)) pdo_none)))))))
abbrev s__law_ends : Stmt := top 26
theorem sc__law_ends : FnScope ["state", "item"] ["state"] (defScope s__law_ends) := ⟨rfl, rfl, rfl, by decide +kernel, rfl, by decide +kernel, by decide +kernel⟩
theorem h__law_ends {P : Program} {w : World} {K : PySem.W.Frag} {mg : Str → Option Value} {base : Heap} (T : Txt mg)   {f : Addr} {fd : FuncData} (Fn : Fun K "_law_ends" "_law_ends" s__law_ends f fd) (m : mg "_law_ends" = some (.ref f)) (bd : L2.Binds K fd ["state"] []) : Has P w K mg base "_law_ends" 1 1 F__law_ends := by
  have sc := sc__law_ends
  refine ⟨f, fd, _, okD F__law_ends Fn sc (fun cdv Ar outer s H E hr => ⟨b__law_ends, ?_, (fun _ _ => .inr rfl)⟩), m, Fn.kp, bd⟩
  have tk := takesD (X := cxOf (L2.CX P w) P w K mg base ["state", "item"] "_law_ends" (defScope s__law_ends) f cdv Ar outer s H E) rfl rfl rfl rfl
  exact (pdb_one (pds_ret (ow := []) (ow' := []) (PDF.pd (pdf_lc (own := [("item", 1)]) rfl sc.nd (pdi_range1 rfl T.range (pda_cons (pd_callB cd_len call_lenA (by rfl) T.len boot_len (pda_cons (pd_var (pv 0)) pda_nil)) pda_nil) (fCons_len (fNil_len rfl))) (blkOk_by (own := [("item", 1)]) (N := ["state", "item"]) (sc := (defScope s__law_ends)) (by decide +kernel)) tg_name (fun _ _ _ _ _ => (pg_name (i := 1) sc.nd rfl (by first | exact Or.inl rfl | exact Or.inr rfl))) (fun _ _ _ _ _ => (pdts_one (pdt_cmp (op_eqD hr.units) gd_eq (pd_ixO 0 (hu1 hr) (pv 0) (pd_var (pv 1)) (fun _ _ => rfl)) (pd_str [104]) (nomark _)))) (fun _ _ _ _ _ => (pd_op op_addD gd_add (pd_str [45]) (pd_callTy cd_str call_strA (by rfl) T.str boot_str (pda_cons (pd_var (pv 1)) pda_nil))))))))
abbrev s__law_free : Stmt := top 27
theorem sc__law_free : FnScope ["size", "numbers", "state", "steps", "number", "moves", "item"] ["size", "numbers"] (defScope s__law_free) := ⟨rfl, rfl, rfl, by decide +kernel, rfl, by decide +kernel, by decide +kernel⟩
theorem h__law_free {P : Program} {w : World} {K : PySem.W.Frag} {mg : Str → Option Value} {base : Heap} (T : Txt mg) (C__law_moved : Has P w K mg base "_law_moved" 1 2 F__law_moved) (C__law_ends : Has P w K mg base "_law_ends" 1 1 F__law_ends)  {f : Addr} {fd : FuncData} (Fn : Fun K "_law_free" "_law_free" s__law_free f fd) (m : mg "_law_free" = some (.ref f)) (bd : L2.Binds K fd ["size", "numbers"] []) : Has P w K mg base "_law_free" 2 2 F__law_free := by
  have sc := sc__law_free
  refine ⟨f, fd, _, okD F__law_free Fn sc (fun cdv Ar outer s H E hr => ⟨b__law_free, ?_, (fun _ _ => .inr rfl)⟩), m, Fn.kp, bd⟩
  have tk := takesD (X := cxOf (L2.CX P w) P w K mg base ["size", "numbers", "state", "steps", "number", "moves", "item"] "_law_free" (defScope s__law_free) f cdv Ar outer s H E) rfl rfl rfl rfl
  exact (pdb_cons (pds_asg (ow := []) (ow' := []) (ps_set (i := 2) sc.nd rfl (Or.inr rfl) (pd_op op_mulD gd_mul (pd_str [46]) (pd_var (pv 0)))))
  (pdb_cons (pds_asgF (ow := []) (ow' := [(3, 1)]) (ps_set (i := 3) sc.nd rfl (Or.inl rfl) (pdf_lst pda_nil)))
  (pdb_cons (pds_for (ow := [(3, 1)]) (ow' := []) (lo := [(3, 1)]) (passes_of rfl) rfl (pdi_seq (pd_var (pv 1))) (pg_name (i := 4) sc.nd rfl (Or.inl rfl)) tg_name
  (PDB.sub (pdb_cons (pds_asgFS (ow := [(3, 1)]) (ow' := [(3, 1)]) (ps_setLcD (i := 5) (own := [("item", 6)]) rfl sc.nd rfl rfl (sw_true rfl rfl rfl (by decide +kernel)) (pdi_range1 rfl T.range (pda_cons (pd_var (pv 0)) pda_nil) (fCons_len (fNil_len rfl))) (blkOk_by (own := [("item", 6)]) (N := ["size", "numbers", "state", "steps", "number", "moves", "item"]) (sc := (defScope s__law_free)) (by decide +kernel)) tg_name (fun _ _ _ _ _ => (pg_name (i := 6) sc.nd rfl (by first | exact Or.inl rfl | exact Or.inr rfl))) (fun _ _ _ _ _ => (pdts_one (pdt_cmp (op_eqD hr.units) gd_eq (pd_ixO 2 (hu1 hr) (pv 2) (pd_var (pv 6)) (fun _ _ => rfl)) (pd_str [46]) (nomark _)))) (fun _ _ _ _ _ => (pd_op op_addD gd_add (pd_str [43]) (pd_callTy cd_str call_strA (by rfl) T.str boot_str (pda_cons (pd_var (pv 6)) pda_nil))))))
  (pdb_cons (pds_asg (ow := [(3, 1)]) (ow' := [(3, 1)]) (ps_set (i := 5) sc.nd rfl (Or.inl rfl) (pd_op op_addD gd_add (pd_var (pv 5)) (PDF.pd (pdf_lc (own := [("item", 6)]) rfl sc.nd (pdi_range1 rfl T.range (pda_cons (pd_var (pv 0)) pda_nil) (fCons_len (fNil_len rfl))) (blkOk_by (own := [("item", 6)]) (N := ["size", "numbers", "state", "steps", "number", "moves", "item"]) (sc := (defScope s__law_free)) (by decide +kernel)) tg_name (fun _ _ _ _ _ => (pg_name (i := 6) sc.nd rfl (by first | exact Or.inl rfl | exact Or.inr rfl))) (fun _ _ _ _ _ => (pdts_one (pdt_cmp (op_eqD hr.units) gd_eq (pd_ixO 2 (hu1 hr) (pv 2) (pd_var (pv 6)) (fun _ _ => rfl)) (pd_str [104]) (nomark _)))) (fun _ _ _ _ _ => (pd_op op_addD gd_add (pd_str [45]) (pd_callTy cd_str call_strA (by rfl) T.str boot_str (pda_cons (pd_var (pv 6)) pda_nil)))))))))
  (pdb_one (pds_if (ow := [(3, 1)]) (ow' := [(3, 1)]) (pdt_cmp (op_neD hr.units) gd_ne (pd_var (pv 5)) (PDF.pd (pdf_lst pda_nil)) (nomark _))
  (PDB.sub (pdb_cons (pds_app (ow := [(3, 1)]) (ow' := [(3, 1)]) (ps_expr (pe_bm PySem.F.plainAttrs_list PySem.F.slot_list_append PySem.F.type_list_append mt_append (pv 3) (pa_cons (pd_ixO 5 (hu1 hr) (pv 5) (pd_op op_mod gd_mod (pd_callTy cd_int call_intA (by rfl) T.int boot_int (pda_cons (pd_var (pv 4)) pda_nil)) (pd_callB cd_len call_lenA (by rfl) T.len boot_len (pda_cons (pd_var (pv 5)) pda_nil))) (fun _ _ => rfl)) pa_nil))))
  (pdb_one (pds_asg (ow := [(3, 1)]) (ow' := [(3, 1)]) (ps_set (i := 2) sc.nd rfl (Or.inr rfl) (pd_own C__law_moved tk hr (show 1 ≤ 1 by decide) rfl (pda_cons (pd_var (pv 2)) (pda_cons (pd_ixO 3 (hu1 hr) (pv 3) (pd_un un_neg gd_neg pd_int) (fun _ _ => rfl)) pda_nil)) (fCons_len (fCons_len (fNil_len rfl)))))))))
  (PDB.sub (pdb_nil (ow := [(3, 1)]) (ow' := [(3, 1)])))))))))
  (pdb_one (pds_ret (ow := []) (ow' := []) (pd_op op_addD gd_add (pd_var (pv 3)) (pd_own C__law_ends tk hr (show 1 ≤ 1 by decide) rfl (pda_cons (pd_var (pv 2)) pda_nil) (fCons_len (fNil_len rfl)))))))))
abbrev s__law_order : Stmt := top 28
theorem sc__law_order : FnScope ["programs", "numbers", "places", "holders", "order", "number", "ready", "index", "steps", "step"] ["programs", "numbers"] (defScope s__law_order) := ⟨rfl, rfl, rfl, by decide +kernel, rfl, by decide +kernel, by decide +kernel⟩
theorem h__law_order {P : Program} {w : World} {K : PySem.W.Frag} {mg : Str → Option Value} {base : Heap} (T : Txt mg)   {f : Addr} {fd : FuncData} (Fn : Fun K "_law_order" "_law_order" s__law_order f fd) (m : mg "_law_order" = some (.ref f)) (bd : L2.Binds K fd ["programs", "numbers"] []) : Has P w K mg base "_law_order" 1 2 F__law_order := by
  have sc := sc__law_order
  refine ⟨f, fd, _, okD F__law_order Fn sc (fun cdv Ar outer s H E hr => ⟨b__law_order, ?_, (fun _ _ => .inr rfl)⟩), m, Fn.kp, bd⟩
  have tk := takesD (X := cxOf (L2.CX P w) P w K mg base ["programs", "numbers", "places", "holders", "order", "number", "ready", "index", "steps", "step"] "_law_order" (defScope s__law_order) f cdv Ar outer s H E) rfl rfl rfl rfl
  exact (pdb_cons (pds_asgF (ow := []) (ow' := [(2, 1)]) (ps_setLcD (i := 2) (own := [("steps", 8)]) rfl sc.nd rfl rfl (sw_true rfl rfl rfl (by decide +kernel)) (pdi_seq (pd_var (pv 0))) (blkOk_by (own := [("steps", 8)]) (N := ["programs", "numbers", "places", "holders", "order", "number", "ready", "index", "steps", "step"]) (sc := (defScope s__law_order)) (by decide +kernel)) tg_name (fun _ _ _ _ _ => (pg_name (i := 8) sc.nd rfl (by first | exact Or.inl rfl | exact Or.inr rfl))) (fun _ _ _ _ _ => pdts_nil) (fun _ _ _ _ _ => pd_int)))
  (pdb_cons (pds_asgF (ow := [(2, 1)]) (ow' := [(2, 1), (3, 1)]) (ps_set (i := 3) sc.nd rfl (Or.inl rfl) pdf_dk))
  (pdb_cons (pds_asgF (ow := [(2, 1), (3, 1)]) (ow' := [(2, 1), (3, 1), (4, 1)]) (ps_set (i := 4) sc.nd rfl (Or.inl rfl) (pdf_lst pda_nil)))
  (pdb_cons (pds_for (ow := [(2, 1), (3, 1), (4, 1)]) (ow' := []) (lo := [(2, 1), (3, 1), (4, 1)]) (passes_of rfl) rfl (pdi_seq (pd_var (pv 1))) (pg_name (i := 5) sc.nd rfl (Or.inl rfl)) tg_name
  (PDB.sub (pdb_cons (pds_asgF (ow := [(2, 1), (3, 1), (4, 1)]) (ow' := [(2, 1), (3, 1), (4, 1), (6, 1)]) (ps_set (i := 6) sc.nd rfl (Or.inl rfl) (pdf_lst pda_nil)))
  (pdb_cons (pds_for (ow := [(2, 1), (3, 1), (4, 1), (6, 1)]) (ow' := [(2, 1), (3, 1), (4, 1)]) (lo := [(2, 1), (3, 1), (4, 1), (6, 1)]) (passes_of rfl) rfl (pdi_range1 rfl T.range (pda_cons (pd_callB cd_len call_lenA (by rfl) T.len boot_len (pda_cons (pd_var (pv 0)) pda_nil)) pda_nil) (fCons_len (fNil_len rfl))) (pg_name (i := 7) sc.nd rfl (Or.inl rfl)) tg_name
  (PDB.sub (pdb_one (pds_if (ow := [(2, 1), (3, 1), (4, 1), (6, 1)]) (ow' := [(2, 1), (3, 1), (4, 1), (6, 1)]) (pdt_cmp op_lt gd_cmpI (pd_ixO 2 (hu1 hr) (pv 2) (pd_var (pv 7)) (fun _ _ => rfl)) (pd_callB cd_len call_lenA (by rfl) T.len boot_len (pda_cons (pd_ixO 0 (hu1 hr) (pv 0) (pd_var (pv 7)) (fun _ _ => rfl)) pda_nil)) (nomark _))
  (PDB.sub (pdb_cons (pds_asg (ow := [(2, 1), (3, 1), (4, 1), (6, 1)]) (ow' := [(2, 1), (3, 1), (4, 1), (6, 1)]) (ps_set (i := 9) sc.nd rfl (Or.inl rfl) (pd_ix (hu1 hr) (pd_ixO 0 (hu1 hr) (pv 0) (pd_var (pv 7)) (fun _ _ => rfl)) (pd_ixO 2 (hu1 hr) (pv 2) (pd_var (pv 7)) (fun _ _ => rfl)) (fun _ _ => rfl))))
  (pdb_one (pds_if (ow := [(2, 1), (3, 1), (4, 1), (6, 1)]) (ow' := [(2, 1), (3, 1), (4, 1), (6, 1)]) (pdt_w (pdw_or (pdt_cmp (op_eqD hr.units) gd_eq (pd_ixO 9 (hu1 hr) (pv 9) pd_int (fun _ _ => rfl)) (pd_str [45]) (nomark _)) (pdw_or1 (pdt_cmp (op_nin5 (hu65 hr)) gd_in5 (pd_ixO 9 (hu1 hr) (pv 9) pd_int (fun _ _ => rfl)) (pd_var (pv 3)) (by rfl)))))
  (PDB.sub (pdb_one (pds_app (ow := [(2, 1), (3, 1), (4, 1), (6, 1)]) (ow' := [(2, 1), (3, 1), (4, 1), (6, 1)]) (ps_expr (pe_bm PySem.F.plainAttrs_list PySem.F.slot_list_append PySem.F.type_list_append mt_append (pv 6) (pa_cons (pd_var (pv 7)) pa_nil))))))
  (PDB.sub (pdb_nil (ow := [(2, 1), (3, 1), (4, 1), (6, 1)]) (ow' := [(2, 1), (3, 1), (4, 1), (6, 1)])))))))
  (PDB.sub (pdb_nil (ow := [(2, 1), (3, 1), (4, 1), (6, 1)]) (ow' := [(2, 1), (3, 1), (4, 1), (6, 1)])))))))
  (pdb_one (pds_if (ow := [(2, 1), (3, 1), (4, 1)]) (ow' := [(2, 1), (3, 1), (4, 1)]) (pdt_cmp (op_neD hr.units) gd_ne (pd_var (pv 6)) (PDF.pd (pdf_lst pda_nil)) (nomark _))
  (PDB.sub (pdb_cons (pds_asg (ow := [(2, 1), (3, 1), (4, 1)]) (ow' := [(2, 1), (3, 1), (4, 1)]) (ps_set (i := 7) sc.nd rfl (Or.inl rfl) (pd_ixO 6 (hu1 hr) (pv 6) (pd_op op_mod gd_mod (pd_callTy cd_int call_intA (by rfl) T.int boot_int (pda_cons (pd_var (pv 5)) pda_nil)) (pd_callB cd_len call_lenA (by rfl) T.len boot_len (pda_cons (pd_var (pv 6)) pda_nil))) (fun _ _ => rfl))))
  (pdb_cons (pds_asg (ow := [(2, 1), (3, 1), (4, 1)]) (ow' := [(2, 1), (3, 1), (4, 1)]) (ps_set (i := 9) sc.nd rfl (Or.inl rfl) (pd_ix (hu1 hr) (pd_ixO 0 (hu1 hr) (pv 0) (pd_var (pv 7)) (fun _ _ => rfl)) (pd_ixO 2 (hu1 hr) (pv 2) (pd_var (pv 7)) (fun _ _ => rfl)) (fun _ _ => rfl))))
  (pdb_cons (pds_put (ow := [(2, 1), (3, 1), (4, 1)]) (ow' := [(2, 1), (3, 1), (4, 1)]) (ps_asg (pd_op op_addD gd_add (pd_ixO 2 (hu1 hr) (pv 2) (pd_var (pv 7)) (fun _ _ => rfl)) pd_int) (pg_sub (pv 2) (pd_var (pv 7)) (set_all (hu1 hr)))))
  (pdb_cons (pds_app (ow := [(2, 1), (3, 1), (4, 1)]) (ow' := [(2, 1), (3, 1), (4, 1)]) (ps_expr (pe_bm PySem.F.plainAttrs_list PySem.F.slot_list_append PySem.F.type_list_append mt_append (pv 4) (pa_cons (pd_var (pv 7)) pa_nil))))
  (pdb_one (pds_if (ow := [(2, 1), (3, 1), (4, 1)]) (ow' := [(2, 1), (3, 1), (4, 1)]) (pdt_cmp (op_eqD hr.units) gd_eq (pd_ixO 9 (hu1 hr) (pv 9) pd_int (fun _ _ => rfl)) (pd_str [45]) (nomark _))
  (PDB.sub (pdb_one (pds_dropM (ow := [(2, 1), (3, 1), (4, 1)]) (ow' := [(2, 1), (3, 1), (4, 1)]) (ps_expr (pdm_dpop 3 (pv 3) (pd_ixO 9 (hu1 hr) (pv 9) pd_int (fun _ _ => rfl)))))))
  (PDB.sub (pdb_one (pds_put (ow := [(2, 1), (3, 1), (4, 1)]) (ow' := [(2, 1), (3, 1), (4, 1)]) (ps_asg (pd_var (pv 7)) (pg_sub (pv 3) (pd_ixO 9 (hu1 hr) (pv 9) pd_int (fun _ _ => rfl)) (set_all (hu1 hr))))))))))))))
  (PDB.sub (pdb_nil (ow := [(2, 1), (3, 1), (4, 1)]) (ow' := [(2, 1), (3, 1), (4, 1)])))))))))
  (pdb_one (pds_ret (ow := []) (ow' := []) (pd_var (pv 4))))))))
abbrev s__law_state_after : Stmt := top 29
theorem sc__law_state_after : FnScope ["size", "steps", "state", "step"] ["size", "steps"] (defScope s__law_state_after) := ⟨rfl, rfl, rfl, by decide +kernel, rfl, by decide +kernel, by decide +kernel⟩
theorem h__law_state_after {P : Program} {w : World} {K : PySem.W.Frag} {mg : Str → Option Value} {base : Heap} (T : Txt mg) (C__law_moved : Has P w K mg base "_law_moved" 1 2 F__law_moved)  {f : Addr} {fd : FuncData} (Fn : Fun K "_law_state_after" "_law_state_after" s__law_state_after f fd) (m : mg "_law_state_after" = some (.ref f)) (bd : L2.Binds K fd ["size", "steps"] []) : Has P w K mg base "_law_state_after" 2 2 F__law_state_after := by
  have sc := sc__law_state_after
  refine ⟨f, fd, _, okD F__law_state_after Fn sc (fun cdv Ar outer s H E hr => ⟨b__law_state_after, ?_, (fun _ _ => .inr rfl)⟩), m, Fn.kp, bd⟩
  have tk := takesD (X := cxOf (L2.CX P w) P w K mg base ["size", "steps", "state", "step"] "_law_state_after" (defScope s__law_state_after) f cdv Ar outer s H E) rfl rfl rfl rfl
  exact (pdb_cons (pds_asg (ow := []) (ow' := []) (ps_set (i := 2) sc.nd rfl (Or.inl rfl) (pd_op op_mulD gd_mul (pd_str [46]) (pd_var (pv 0)))))
  (pdb_cons (pds_for (ow := []) (ow' := []) (lo := []) (passes_of rfl) rfl (pdi_seq (pd_var (pv 1))) (pg_name (i := 3) sc.nd rfl (Or.inl rfl)) tg_name
  (PDB.sub (pdb_one (pds_asg (ow := []) (ow' := []) (ps_set (i := 2) sc.nd rfl (Or.inl rfl) (pd_own C__law_moved tk hr (show 1 ≤ 1 by decide) rfl (pda_cons (pd_var (pv 2)) (pda_cons (pd_var (pv 3)) pda_nil)) (fCons_len (fCons_len (fNil_len rfl)))))))))
  (pdb_one (pds_ret (ow := []) (ow' := []) (pd_var (pv 2))))))
abbrev s__law_closed : Stmt := top 30
theorem sc__law_closed : FnScope ["size", "programs", "order", "made", "whole", "index", "ends", "steps", "step"] ["size", "programs", "order"] (defScope s__law_closed) := ⟨rfl, rfl, rfl, by decide +kernel, rfl, by decide +kernel, by decide +kernel⟩
theorem h__law_closed {P : Program} {w : World} {K : PySem.W.Frag} {mg : Str → Option Value} {base : Heap} (T : Txt mg) (C__law_state_after : Has P w K mg base "_law_state_after" 2 2 F__law_state_after) (C__law_ends : Has P w K mg base "_law_ends" 1 1 F__law_ends)  {f : Addr} {fd : FuncData} (Fn : Fun K "_law_closed" "_law_closed" s__law_closed f fd) (m : mg "_law_closed" = some (.ref f)) (bd : L2.Binds K fd ["size", "programs", "order"] []) : Has P w K mg base "_law_closed" 3 3 F__law_closed := by
  have sc := sc__law_closed
  refine ⟨f, fd, _, okD F__law_closed Fn sc (fun cdv Ar outer s H E hr => ⟨b__law_closed, ?_, (fun _ _ => .inr rfl)⟩), m, Fn.kp, bd⟩
  have tk := takesD (X := cxOf (L2.CX P w) P w K mg base ["size", "programs", "order", "made", "whole", "index", "ends", "steps", "step"] "_law_closed" (defScope s__law_closed) f cdv Ar outer s H E) rfl rfl rfl rfl
  exact (pdb_cons (pds_asgF (ow := []) (ow' := [(3, 1)]) (ps_setLcD (i := 3) (own := [("steps", 7)]) rfl sc.nd rfl rfl (sw_true rfl rfl rfl (by decide +kernel)) (pdi_seq (pd_var (pv 1))) (blkOk_by (own := [("steps", 7)]) (N := ["size", "programs", "order", "made", "whole", "index", "ends", "steps", "step"]) (sc := (defScope s__law_closed)) (by decide +kernel)) tg_name (fun _ _ _ _ _ => (pg_name (i := 7) sc.nd rfl (by first | exact Or.inl rfl | exact Or.inr rfl))) (fun _ _ _ _ _ => pdts_nil) (fun _ _ _ _ _ => (PDF.pd (pdf_lst pda_nil)))))
  (pdb_cons (pds_asg (ow := [(3, 1)]) (ow' := [(3, 1)]) (ps_set (i := 4) sc.nd rfl (Or.inl rfl) (PDF.pd (pdf_list (by rfl) T.list boot_list (pda_cons (pd_var (pv 2)) pda_nil)))))
  (pdb_cons (pds_for (ow := [(3, 1)]) (ow' := [(3, 1)]) (lo := [(3, 1)]) (passes_of rfl) rfl (pdi_seq (pd_var (pv 2))) (pg_name (i := 5) sc.nd rfl (Or.inr rfl)) tg_name
  (PDB.sub (pdb_one (pds_put (ow := [(3, 1)]) (ow' := [(3, 1)]) (ps_asg (pd_op op_addD gd_add (pd_ixO 3 (hu1 hr) (pv 3) (pd_var (pv 5)) (fun _ _ => rfl)) (PDF.pd (pdf_lst (pda_cons (pd_ix (hu1 hr) (pd_ixO 1 (hu1 hr) (pv 1) (pd_var (pv 5)) (fun _ _ => rfl)) (pd_callB cd_len call_lenA (by rfl) T.len boot_len (pda_cons (pd_ixO 3 (hu1 hr) (pv 3) (pd_var (pv 5)) (fun _ _ => rfl)) pda_nil)) (fun _ _ => rfl)) pda_nil)))) (pg_sub (pv 3) (pd_var (pv 5)) (set_all (hu1 hr))))))))
  (pdb_cons (pds_for (ow := [(3, 1)]) (ow' := []) (lo := [(3, 1)]) (passes_of rfl) rfl (pdi_range1 rfl T.range (pda_cons (pd_scal (pd_callB cd_len call_lenA (by rfl) T.len boot_len (pda_cons (pd_var (pv 3)) pda_nil))) pda_nil) (fCons_len (fNil_len rfl))) (pg_name (i := 5) sc.nd rfl (Or.inr rfl)) tg_name
  (PDB.sub (pdb_cons (pds_asg (ow := [(3, 1)]) (ow' := [(3, 1)]) (ps_set (i := 6) sc.nd rfl (Or.inl rfl) (pd_own C__law_ends tk hr (show 1 ≤ 2 by decide) rfl (pda_cons (pd_own C__law_state_after tk hr (show 2 ≤ 2 by decide) rfl (pda_cons (pd_var (pv 0)) (pda_cons (pd_ixO 3 (hu1 hr) (pv 3) (pd_var (pv 5)) (fun _ _ => rfl)) pda_nil)) (fCons_len (fCons_len (fNil_len rfl)))) pda_nil) (fCons_len (fNil_len rfl)))))
  (pdb_cons (pds_put (ow := [(3, 1)]) (ow' := [(3, 1)]) (ps_asg (pd_op op_addD gd_add (pd_ixO 3 (hu1 hr) (pv 3) (pd_var (pv 5)) (fun _ _ => rfl)) (pd_var (pv 6))) (pg_sub (pv 3) (pd_var (pv 5)) (set_all (hu1 hr)))))
  (pdb_one (pds_asg (ow := [(3, 1)]) (ow' := [(3, 1)]) (ps_set (i := 4) sc.nd rfl (Or.inl rfl) (pd_op op_addD gd_add (pd_var (pv 4)) (PDF.pd (pdf_lc (own := [("step", 8)]) rfl sc.nd (pdi_seq (pd_var (pv 6))) (blkOk_by (own := [("step", 8)]) (N := ["size", "programs", "order", "made", "whole", "index", "ends", "steps", "step"]) (sc := (defScope s__law_closed)) (by decide +kernel)) tg_name (fun _ _ _ _ _ => (pg_name (i := 8) sc.nd rfl (by first | exact Or.inl rfl | exact Or.inr rfl))) (fun _ _ _ _ _ => pdts_nil) (fun _ _ _ _ _ => (pd_var (pv 5)))))))))))))
  (pdb_one (pds_ret (ow := []) (ow' := []) (pd_tup (pda_cons (pd_var (pv 3)) (pda_cons (pd_var (pv 4)) pda_nil)))))))))
abbrev s__law_steps : Stmt := top 31
theorem sc__law_steps : FnScope ["programs", "order", "places", "rows", "index", "steps"] ["programs", "order"] (defScope s__law_steps) := ⟨rfl, rfl, rfl, by decide +kernel, rfl, by decide +kernel, by decide +kernel⟩
theorem h__law_steps {P : Program} {w : World} {K : PySem.W.Frag} {mg : Str → Option Value} {base : Heap} (T : Txt mg)   {f : Addr} {fd : FuncData} (Fn : Fun K "_law_steps" "_law_steps" s__law_steps f fd) (m : mg "_law_steps" = some (.ref f)) (bd : L2.Binds K fd ["programs", "order"] []) : Has P w K mg base "_law_steps" 1 2 F__law_steps := by
  have sc := sc__law_steps
  refine ⟨f, fd, _, okD F__law_steps Fn sc (fun cdv Ar outer s H E hr => ⟨b__law_steps, ?_, (fun _ _ => .inr rfl)⟩), m, Fn.kp, bd⟩
  have tk := takesD (X := cxOf (L2.CX P w) P w K mg base ["programs", "order", "places", "rows", "index", "steps"] "_law_steps" (defScope s__law_steps) f cdv Ar outer s H E) rfl rfl rfl rfl
  exact (pdb_cons (pds_asgF (ow := []) (ow' := [(2, 1)]) (ps_setLcD (i := 2) (own := [("steps", 5)]) rfl sc.nd rfl rfl (sw_true rfl rfl rfl (by decide +kernel)) (pdi_seq (pd_var (pv 0))) (blkOk_by (own := [("steps", 5)]) (N := ["programs", "order", "places", "rows", "index", "steps"]) (sc := (defScope s__law_steps)) (by decide +kernel)) tg_name (fun _ _ _ _ _ => (pg_name (i := 5) sc.nd rfl (by first | exact Or.inl rfl | exact Or.inr rfl))) (fun _ _ _ _ _ => pdts_nil) (fun _ _ _ _ _ => pd_int)))
  (pdb_cons (pds_asgF (ow := [(2, 1)]) (ow' := [(2, 1), (3, 1)]) (ps_set (i := 3) sc.nd rfl (Or.inl rfl) (pdf_lst pda_nil)))
  (pdb_cons (pds_for (ow := [(2, 1), (3, 1)]) (ow' := []) (lo := [(2, 1), (3, 1)]) (passes_of rfl) rfl (pdi_seq (pd_var (pv 1))) (pg_name (i := 4) sc.nd rfl (Or.inl rfl)) tg_name
  (PDB.sub (pdb_cons (pds_app (ow := [(2, 1), (3, 1)]) (ow' := [(2, 1), (3, 1)]) (ps_expr (pe_bm PySem.F.plainAttrs_list PySem.F.slot_list_append PySem.F.type_list_append mt_append (pv 3) (pa_cons (pd_ix (hu1 hr) (pd_ixO 0 (hu1 hr) (pv 0) (pd_var (pv 4)) (fun _ _ => rfl)) (pd_ixO 2 (hu1 hr) (pv 2) (pd_var (pv 4)) (fun _ _ => rfl)) (fun _ _ => rfl)) pa_nil))))
  (pdb_one (pds_put (ow := [(2, 1), (3, 1)]) (ow' := [(2, 1), (3, 1)]) (ps_asg (pd_op op_addD gd_add (pd_ixO 2 (hu1 hr) (pv 2) (pd_var (pv 4)) (fun _ _ => rfl)) pd_int) (pg_sub (pv 2) (pd_var (pv 4)) (set_all (hu1 hr)))))))))
  (pdb_one (pds_ret (ow := []) (ow' := []) (pd_var (pv 3)))))))
abbrev s__law_locked : Stmt := top 32
theorem sc__law_locked : FnScope ["programs", "order", "steps", "rows", "item", "row", "k"] ["programs", "order"] (defScope s__law_locked) := ⟨rfl, rfl, rfl, by decide +kernel, rfl, by decide +kernel, by decide +kernel⟩
theorem h__law_locked {P : Program} {w : World} {K : PySem.W.Frag} {mg : Str → Option Value} {base : Heap} (T : Txt mg) (C__law_steps : Has P w K mg base "_law_steps" 1 2 F__law_steps)  {f : Addr} {fd : FuncData} (Fn : Fun K "_law_locked" "_law_locked" s__law_locked f fd) (m : mg "_law_locked" = some (.ref f)) (bd : L2.Binds K fd ["programs", "order"] []) : Has P w K mg base "_law_locked" 2 2 F__law_locked := by
  have sc := sc__law_locked
  refine ⟨f, fd, _, okD F__law_locked Fn sc (fun cdv Ar outer s H E hr => ⟨b__law_locked, ?_, (fun _ _ => .inr rfl)⟩), m, Fn.kp, bd⟩
  have tk := takesD (X := cxOf (L2.CX P w) P w K mg base ["programs", "order", "steps", "rows", "item", "row", "k"] "_law_locked" (defScope s__law_locked) f cdv Ar outer s H E) rfl rfl rfl rfl
  exact (pdb_cons (pds_asg (ow := []) (ow' := []) (ps_set (i := 2) sc.nd rfl (Or.inr rfl) (pd_own C__law_steps tk hr (show 1 ≤ 1 by decide) rfl (pda_cons (pd_var (pv 0)) (pda_cons (pd_var (pv 1)) pda_nil)) (fCons_len (fCons_len (fNil_len rfl))))))
  (pdb_cons (pds_asgF (ow := []) (ow' := [(3, 1)]) (ps_set (i := 3) sc.nd rfl (Or.inl rfl) (pdf_lst pda_nil)))
  (pdb_cons (pds_for (ow := [(3, 1)]) (ow' := []) (lo := [(3, 1)]) (passes_of rfl) rfl (pdi_range1 rfl T.range (pda_cons pd_int pda_nil) (fCons_len (fNil_len rfl))) (pg_name (i := 4) sc.nd rfl (Or.inr rfl)) tg_name
  (PDB.sub (pdb_cons (pds_asgFS (ow := [(3, 1)]) (ow' := [(3, 1)]) (ps_setLcD (i := 5) (own := [("k", 6)]) rfl sc.nd rfl rfl (sw_true rfl rfl rfl (by decide +kernel)) (pdi_range1 rfl T.range (pda_cons (pd_callB cd_len call_lenA (by rfl) T.len boot_len (pda_cons (pd_var (pv 1)) pda_nil)) pda_nil) (fCons_len (fNil_len rfl))) (blkOk_by (own := [("k", 6)]) (N := ["programs", "order", "steps", "rows", "item", "row", "k"]) (sc := (defScope s__law_locked)) (by decide +kernel)) tg_name (fun _ _ _ _ _ => (pg_name (i := 6) sc.nd rfl (by first | exact Or.inl rfl | exact Or.inr rfl))) (fun _ _ _ _ _ => (pdts_one (pdt_cmp (op_eqD hr.units) gd_eq (pd_ixO 2 (hu1 hr) (pv 2) (pd_var (pv 6)) (fun _ _ => rfl)) (pd_op op_addD gd_add (pd_str [43]) (pd_callTy cd_str call_strA (by rfl) T.str boot_str (pda_cons (pd_var (pv 4)) pda_nil))) (nomark _)))) (fun _ _ _ _ _ => (pd_ixO 1 (hu1 hr) (pv 1) (pd_var (pv 6)) (fun _ _ => rfl)))))
  (pdb_one (pds_if (ow := [(3, 1)]) (ow' := [(3, 1)]) (pdt_cmp (op_neD hr.units) gd_ne (pd_var (pv 5)) (PDF.pd (pdf_lst pda_nil)) (nomark _))
  (PDB.sub (pdb_one (pds_app (ow := [(3, 1)]) (ow' := [(3, 1)]) (ps_expr (pe_bm PySem.F.plainAttrs_list PySem.F.slot_list_append PySem.F.type_list_append mt_append (pv 3) (pa_cons (pd_tup (pda_cons (pd_var (pv 4)) (pda_cons (pd_callTy cd_tuple call_tuple_of (by rfl) T.tuple boot_tuple (pda_cons (pd_var (pv 5)) pda_nil)) pda_nil))) pa_nil))))))
  (PDB.sub (pdb_nil (ow := [(3, 1)]) (ow' := [(3, 1)]))))))))
  (pdb_one (pds_ret (ow := []) (ow' := []) (pd_var (pv 3)))))))
abbrev s__law_told : Stmt := top 33
theorem sc__law_told : FnScope ["programs", "order", "given", "row", "told", "e", "steps", "item"] ["programs", "order"] (defScope s__law_told) := ⟨rfl, rfl, rfl, by decide +kernel, rfl, by decide +kernel, by decide +kernel⟩
theorem h__law_told {P : Program} {w : World} {K : PySem.W.Frag} {mg : Str → Option Value} {base : Heap} {A : Cls} (T : Txt mg) (C_outcome : Has P w K mg base "outcome" 5 2 (F_outcome A)) (X_Blocked : HasX P w K mg base "Blocked" A.Blocked ["place", "item"]) (E_Blocked_Blocked : PySem.W.exmOne K (.ref A.Blocked) (.ref A.Blocked) = some true) (T_Blocked : XfC K A.Blocked) (NO_Blocked_item : PySem.W.findIn K (.ref A.Blocked) "item" = some none) (NO_Blocked_place : PySem.W.findIn K (.ref A.Blocked) "place" = some none) {f : Addr} {fd : FuncData} (Fn : Fun K "_law_told" "_law_told" s__law_told f fd) (m : mg "_law_told" = some (.ref f)) (bd : L2.Binds K fd ["programs", "order"] []) : Has P w K mg base "_law_told" 6 2 (F__law_told A) := by
  have sc := sc__law_told
  refine ⟨f, fd, _, okD (F__law_told A) Fn sc (fun cdv Ar outer s H E hr => ⟨(b__law_told A), ?_, (fun _ _ => .inr rfl)⟩), m, Fn.kp, bd⟩
  have tk := takesD (X := cxOf (L2.CX P w) P w K mg base ["programs", "order", "given", "row", "told", "e", "steps", "item"] "_law_told" (defScope s__law_told) f cdv Ar outer s H E) rfl rfl rfl rfl
  exact (pdb_cons (pds_asgFS (ow := []) (ow' := []) (ps_setLcD (i := 2) (own := [("steps", 6)]) rfl sc.nd rfl rfl (sw_true rfl rfl rfl (by decide +kernel)) (pdi_seq (pd_var (pv 0))) (blkOk_by (own := [("steps", 6)]) (N := ["programs", "order", "given", "row", "told", "e", "steps", "item"]) (sc := (defScope s__law_told)) (by decide +kernel)) tg_name (fun _ _ _ _ _ => (pg_name (i := 6) sc.nd rfl (by first | exact Or.inl rfl | exact Or.inr rfl))) (fun _ _ _ _ _ => pdts_nil) (fun _ _ _ _ _ => (PDF.pd (pdf_list (by rfl) T.list boot_list (pda_cons (pd_var (pv 6)) pda_nil))))))
  (pdb_cons (pds_asg (ow := []) (ow' := []) (ps_set (i := 3) sc.nd rfl (Or.inl rfl) (PDF.pd (pdf_list (by rfl) T.list boot_list (pda_cons (pd_var (pv 1)) pda_nil)))))
  (pdb_cons (pds_asg (ow := []) (ow' := []) (ps_set (i := 4) sc.nd rfl (Or.inr rfl) (PDF.pd pdf_dk)))
  (pdb_cons (pds_tryAs (ow := []) (ow' := []) 5 rfl rfl sc.nd rfl rfl ⟨rfl, by decide, .inl X_Blocked.2.1⟩ tk (exm_cons E_Blocked_Blocked exm_nil) (fun W pn xe tk po => PDB.sub (pdb_one (pds_asg (ow := []) (ow' := []) (ps_set (i := 4) sc.nd rfl (Or.inr rfl) (pd_own C_outcome tk hr (show 5 ≤ 5 by decide) rfl (pda_cons (pd_var (pv 2)) (pda_cons (pd_var (pv 3)) pda_nil)) (fCons_len (fCons_len (fNil_len rfl))))))))
  (px_tup (pxa_cons (px_str [98, 108, 111, 99, 107, 101, 100]) (pxa_cons (px_fld T_Blocked NO_Blocked_place rfl (.inl rfl)) (pxa_cons (px_fld T_Blocked NO_Blocked_item rfl (.inl rfl)) pxa_nil)))))
  (pdb_cons (pds_if (ow := []) (ow' := []) (pdt_w (pdw_or (pdt_not (pdt_val (pd_isi rfl T.isinstance boot_isinstance rfl T.dict boot_dict (pd_var (pv 4))))) (pdw_or (pdt_cmp (op_neD hr.units) gd_ne (pd_var (pv 2)) (pd_var (pv 0)) (nomark _)) (pdw_or1 (pdt_cmp (op_neD hr.units) gd_ne (pd_var (pv 3)) (pd_var (pv 1)) (nomark _))))))
  (PDB.sub (pdb_one (pds_ret (ow := []) (ow' := []) pd_non)))
  (PDB.sub (pdb_nil (ow := []) (ow' := []))))
  (pdb_one (pds_ret (ow := []) (ow' := []) (PDF.pd (pdf_lk 4 (pdf_lc (own := [("item", 7)]) rfl sc.nd (pdi_keys (pd_var (pv 4))) (blkOk_by (own := [("item", 7)]) (N := ["programs", "order", "given", "row", "told", "e", "steps", "item"]) (sc := (defScope s__law_told)) (by decide +kernel)) tg_name (fun _ _ _ _ _ => (pg_name (i := 7) sc.nd rfl (by first | exact Or.inl rfl | exact Or.inr rfl))) (fun _ _ _ _ _ => pdts_nil) (fun _ _ _ _ _ => (pd_tup (pda_cons (pd_var (pv 7)) (pda_cons (pd_ixO 4 (hu1 hr) (pv 4) (pd_var (pv 7)) (fun _ _ => rfl)) pda_nil))))))))))))))
abbrev s__law_fine : Stmt := top 34
theorem sc__law_fine : FnScope ["programs", "order", "due", "steps", "k", "asked", "row"] ["programs", "order"] (defScope s__law_fine) := ⟨rfl, rfl, rfl, by decide +kernel, rfl, by decide +kernel, by decide +kernel⟩
theorem h__law_fine {P : Program} {w : World} {K : PySem.W.Frag} {mg : Str → Option Value} {base : Heap} {A : Cls} (T : Txt mg) (C__law_locked : Has P w K mg base "_law_locked" 2 2 F__law_locked) (C__law_told : Has P w K mg base "_law_told" 6 2 (F__law_told A)) (C__law_same : Has P w K mg base "_law_same" 4 2 (F__law_same 4)) (C__law_steps : Has P w K mg base "_law_steps" 1 2 F__law_steps)  {f : Addr} {fd : FuncData} (Fn : Fun K "_law_fine" "_law_fine" s__law_fine f fd) (m : mg "_law_fine" = some (.ref f)) (bd : L2.Binds K fd ["programs", "order"] []) : Has P w K mg base "_law_fine" 7 2 (F__law_fine A) := by
  have sc := sc__law_fine
  refine ⟨f, fd, _, okD (F__law_fine A) Fn sc (fun cdv Ar outer s H E hr => ⟨(b__law_fine A), ?_, (fun _ _ => .inr rfl)⟩), m, Fn.kp, bd⟩
  have tk := takesD (X := cxOf (L2.CX P w) P w K mg base ["programs", "order", "due", "steps", "k", "asked", "row"] "_law_fine" (defScope s__law_fine) f cdv Ar outer s H E) rfl rfl rfl rfl
  exact (pdb_cons (pds_asg (ow := []) (ow' := []) (ps_set (i := 2) sc.nd rfl (Or.inl rfl) (pd_own C__law_locked tk hr (show 2 ≤ 6 by decide) rfl (pda_cons (pd_var (pv 0)) (pda_cons (pd_var (pv 1)) pda_nil)) (fCons_len (fCons_len (fNil_len rfl))))))
  (pdb_cons (pds_if (ow := []) (ow' := []) (pdt_not (pdt_val (pd_own C__law_same tk hr (show 4 ≤ 6 by decide) rfl (pda_cons (pd_own C__law_told tk hr (show 6 ≤ 6 by decide) rfl (pda_cons (pd_var (pv 0)) (pda_cons (pd_var (pv 1)) pda_nil)) (fCons_len (fCons_len (fNil_len rfl)))) (pda_cons (pd_var (pv 2)) pda_nil)) (fCons_len (fCons_len (fNil_len rfl))))))
  (PDB.sub (pdb_one (pds_ret (ow := []) (ow' := []) pd_bl)))
  (PDB.sub (pdb_nil (ow := []) (ow' := []))))
  (pdb_cons (pds_asg (ow := []) (ow' := []) (ps_set (i := 3) sc.nd rfl (Or.inl rfl) (pd_own C__law_steps tk hr (show 1 ≤ 6 by decide) rfl (pda_cons (pd_var (pv 0)) (pda_cons (pd_var (pv 1)) pda_nil)) (fCons_len (fCons_len (fNil_len rfl))))))
  (pdb_cons (pds_for (ow := []) (ow' := []) (lo := []) (passes_of rfl) rfl (pdi_range1 rfl T.range (pda_cons (pd_op op_sub gd_sub (pd_callB cd_len call_lenA (by rfl) T.len boot_len (pda_cons (pd_var (pv 1)) pda_nil)) pd_int) pda_nil) (fCons_len (fNil_len rfl))) (pg_name (i := 4) sc.nd rfl (Or.inl rfl)) tg_name
  (PDB.sub (pdb_one (pds_if (ow := []) (ow' := []) (pdt_cmp (op_neD hr.units) gd_ne (pd_ixO 1 (hu1 hr) (pv 1) (pd_var (pv 4)) (fun _ _ => rfl)) (pd_ixO 1 (hu1 hr) (pv 1) (pd_op op_addD gd_add (pd_var (pv 4)) pd_int) (fun _ _ => rfl)) (nomark _))
  (PDB.sub (pdb_cons (pds_asg (ow := []) (ow' := []) (ps_set (i := 5) sc.nd rfl (Or.inl rfl) (pd_var (pv 2))))
  (pdb_cons (pds_if (ow := []) (ow' := []) (pdt_cmp (op_eqD hr.units) gd_eq (pd_ix (hu1 hr) (pd_ixO 3 (hu1 hr) (pv 3) (pd_var (pv 4)) (fun _ _ => rfl)) pd_int (fun _ _ => rfl)) (pd_ix (hu1 hr) (pd_ixO 3 (hu1 hr) (pv 3) (pd_op op_addD gd_add (pd_var (pv 4)) pd_int) (fun _ _ => rfl)) pd_int (fun _ _ => rfl)) (nomark _))
  (PDB.sub (pdb_one (pds_asg (ow := []) (ow' := []) (ps_set (i := 5) sc.nd rfl (Or.inl rfl) (pd_tup (pda_cons (pd_str [98, 108, 111, 99, 107, 101, 100]) (pda_cons (pd_var (pv 4)) (pda_cons (pd_callTy cd_int call_intA (by rfl) T.int boot_int (pda_cons (pd_ix (hu1 hr) (pd_ixO 3 (hu1 hr) (pv 3) (pd_var (pv 4)) (fun _ _ => rfl)) pd_int (fun _ _ => rfl)) pda_nil)) pda_nil))))))))
  (PDB.sub (pdb_nil (ow := []) (ow' := []))))
  (pdb_cons (pds_asg (ow := []) (ow' := []) (ps_set (i := 6) sc.nd rfl (Or.inl rfl) (pd_op op_addD gd_add (pd_op op_addD gd_add (pd_slO 1 (pv 1) pdo_none (pdo_some (pd_var (pv 4)))) (PDF.pd (pdf_lst (pda_cons (pd_ixO 1 (hu1 hr) (pv 1) (pd_op op_addD gd_add (pd_var (pv 4)) pd_int) (fun _ _ => rfl)) (pda_cons (pd_ixO 1 (hu1 hr) (pv 1) (pd_var (pv 4)) (fun _ _ => rfl)) pda_nil))))) (pd_slO 1 (pv 1) (pdo_some (pd_op op_addD gd_add (pd_var (pv 4)) pd_int)) pdo_none))))
  (pdb_one (pds_if (ow := []) (ow' := []) (pdt_not (pdt_val (pd_own C__law_same tk hr (show 4 ≤ 6 by decide) rfl (pda_cons (pd_own C__law_told tk hr (show 6 ≤ 6 by decide) rfl (pda_cons (pd_var (pv 0)) (pda_cons (pd_var (pv 6)) pda_nil)) (fCons_len (fCons_len (fNil_len rfl)))) (pda_cons (pd_var (pv 5)) pda_nil)) (fCons_len (fCons_len (fNil_len rfl))))))
  (PDB.sub (pdb_one (pds_ret (ow := []) (ow' := []) pd_bl)))
  (PDB.sub (pdb_nil (ow := []) (ow' := [])))))))))
  (PDB.sub (pdb_nil (ow := []) (ow' := [])))))))
  (pdb_one (pds_ret (ow := []) (ow' := []) pd_bl))))))
abbrev s_law : Stmt := top 35
theorem sc_law : FnScope ["script", "plan", "size", "programs", "index", "order", "closed", "numbers"] ["script"] (defScope s_law) := ⟨rfl, rfl, rfl, by decide +kernel, rfl, by decide +kernel, by decide +kernel⟩
theorem h_law {P : Program} {w : World} {K : PySem.W.Frag} {mg : Str → Option Value} {base : Heap} {A : Cls} (T : Txt mg) (C__law_cell : Has P w K mg base "_law_cell" 1 2 F__law_cell) (C__law_numbers : Has P w K mg base "_law_numbers" 1 3 F__law_numbers) (C__law_free : Has P w K mg base "_law_free" 2 2 F__law_free) (C__law_order : Has P w K mg base "_law_order" 1 2 F__law_order) (C__law_closed : Has P w K mg base "_law_closed" 3 3 F__law_closed) (C__law_fine : Has P w K mg base "_law_fine" 7 2 (F__law_fine A))  {f : Addr} {fd : FuncData} (Fn : Fun K "law" "law" s_law f fd) : FnOk P w K mg base (L2.CX P w) 8 f fd ["script"] (spD K 1 (F_law A)) := by
  have sc := sc_law
  refine okD (F_law A) Fn sc (fun cdv Ar outer s H E hr => ⟨(b_law A), ?_, (fun _ _ => .inr rfl)⟩)
  have tk := takesD (X := cxOf (L2.CX P w) P w K mg base ["script", "plan", "size", "programs", "index", "order", "closed", "numbers"] "law" (defScope s_law) f cdv Ar outer s H E) rfl rfl rfl rfl
  exact (pdb_cons (pds_asg (ow := []) (ow' := []) (ps_set (i := 1) sc.nd rfl (Or.inl rfl) (pd_own C__law_numbers tk hr (show 1 ≤ 7 by decide) rfl (pda_cons (pd_own C__law_cell tk hr (show 1 ≤ 7 by decide) rfl (pda_cons (pd_var (pv 0)) (pda_cons pd_int pda_nil)) (fCons_len (fCons_len (fNil_len rfl)))) (pda_cons pd_int (pda_cons pd_int pda_nil))) (fCons_len (fCons_len (fCons_len (fNil_len rfl)))))))
  (pdb_cons (pds_asg (ow := []) (ow' := []) (ps_set (i := 2) sc.nd rfl (Or.inl rfl) (pd_ix (hu1 hr) (PDF.pd (pdf_lst (pda_cons pd_int (pda_cons pd_int (pda_cons pd_int (pda_cons pd_int (pda_cons pd_int (pda_cons pd_int (pda_cons pd_int (pda_cons pd_int (pda_cons pd_int (pda_cons pd_int (pda_cons pd_int (pda_cons pd_int pda_nil)))))))))))))) (pd_op op_mod gd_mod (pd_callTy cd_int call_intA (by rfl) T.int boot_int (pda_cons (pd_ixO 1 (hu1 hr) (pv 1) pd_int (fun _ _ => rfl)) pda_nil)) pd_int) (fun _ _ => rfl))))
  (pdb_cons (pds_asgF (ow := []) (ow' := [(3, 1)]) (ps_set (i := 3) sc.nd rfl (Or.inl rfl) (pdf_lst pda_nil)))
  (pdb_cons (pds_for (ow := [(3, 1)]) (ow' := []) (lo := [(3, 1)]) (passes_of rfl) rfl (pdi_range1 rfl T.range (pda_cons (pd_op op_addD gd_add pd_int (pd_op op_mod gd_mod (pd_callTy cd_int call_intA (by rfl) T.int boot_int (pda_cons (pd_ixO 1 (hu1 hr) (pv 1) pd_int (fun _ _ => rfl)) pda_nil)) pd_int)) pda_nil) (fCons_len (fNil_len rfl))) (pg_name (i := 4) sc.nd rfl (Or.inl rfl)) tg_name
  (PDB.sub (pdb_cons (pds_asg (ow := [(3, 1)]) (ow' := [(3, 1)]) (ps_set (i := 7) sc.nd rfl (Or.inl rfl) (pd_own C__law_numbers tk hr (show 1 ≤ 7 by decide) rfl (pda_cons (pd_own C__law_cell tk hr (show 1 ≤ 7 by decide) rfl (pda_cons (pd_var (pv 0)) (pda_cons (pd_op op_addD gd_add pd_int (pd_var (pv 4))) pda_nil)) (fCons_len (fCons_len (fNil_len rfl)))) (pda_cons pd_int (pda_cons pd_int pda_nil))) (fCons_len (fCons_len (fCons_len (fNil_len rfl)))))))
  (pdb_one (pds_app (ow := [(3, 1)]) (ow' := [(3, 1)]) (ps_expr (pe_bm PySem.F.plainAttrs_list PySem.F.slot_list_append PySem.F.type_list_append mt_append (pv 3) (pa_cons (pd_own C__law_free tk hr (show 2 ≤ 7 by decide) rfl (pda_cons (pd_var (pv 2)) (pda_cons (pd_slO 7 (pv 7) pdo_none (pdo_some (pd_ixO 7 (hu1 hr) (pv 7) pd_int (fun _ _ => rfl)))) pda_nil)) (fCons_len (fCons_len (fNil_len rfl)))) pa_nil))))))))
  (pdb_cons (pds_asg (ow := []) (ow' := []) (ps_set (i := 5) sc.nd rfl (Or.inl rfl) (pd_own C__law_order tk hr (show 1 ≤ 7 by decide) rfl (pda_cons (pd_var (pv 3)) (pda_cons (pd_own C__law_numbers tk hr (show 1 ≤ 7 by decide) rfl (pda_cons (pd_own C__law_cell tk hr (show 1 ≤ 7 by decide) rfl (pda_cons (pd_var (pv 0)) (pda_cons pd_int pda_nil)) (fCons_len (fCons_len (fNil_len rfl)))) (pda_cons pd_int (pda_cons pd_int pda_nil))) (fCons_len (fCons_len (fCons_len (fNil_len rfl))))) pda_nil)) (fCons_len (fCons_len (fNil_len rfl))))))
  (pdb_cons (pds_if (ow := []) (ow' := []) (pdt_cmp op_lt gd_cmpI (pd_ixO 1 (hu1 hr) (pv 1) pd_int (fun _ _ => rfl)) pd_int (nomark _))
  (PDB.sub (pdb_one (pds_asg (ow := []) (ow' := []) (ps_set (i := 5) sc.nd rfl (Or.inl rfl) (pd_slO 5 (pv 5) pdo_none (pdo_some (pd_op op_mod gd_mod (pd_callTy cd_int call_intA (by rfl) T.int boot_int (pda_cons (pd_ixO 1 (hu1 hr) (pv 1) pd_int (fun _ _ => rfl)) pda_nil)) (pd_op op_addD gd_add (pd_callB cd_len call_lenA (by rfl) T.len boot_len (pda_cons (pd_var (pv 5)) pda_nil)) pd_int))))))))
  (PDB.sub (pdb_nil (ow := []) (ow' := []))))
  (pdb_cons (pds_asg (ow := []) (ow' := []) (ps_set (i := 6) sc.nd rfl (Or.inl rfl) (pd_own C__law_closed tk hr (show 3 ≤ 7 by decide) rfl (pda_cons (pd_var (pv 2)) (pda_cons (pd_var (pv 3)) (pda_cons (pd_var (pv 5)) pda_nil))) (fCons_len (fCons_len (fCons_len (fNil_len rfl)))))))
  (pdb_one (pds_ret (ow := []) (ow' := []) (pd_own C__law_fine tk hr (show 7 ≤ 7 by decide) rfl (pda_cons (pd_ixO 6 (hu1 hr) (pv 6) pd_int (fun _ _ => rfl)) (pda_cons (pd_ixO 6 (hu1 hr) (pv 6) pd_int (fun _ _ => rfl)) pda_nil)) (fCons_len (fCons_len (fNil_len rfl)))))))))))))
end DL
set_option Elab.async false
set_option linter.all false
set_option maxRecDepth 100000
namespace DL
open PySem L2

/-! ### loops and comprehensions, by what they keep -/
theorem forL_pre {α : Type} {ft : D → Env → Option Env} {fb : Env → Out} (enc : α → D) (I : List α → Env → Prop) (xs : List α) (rest : List D)
    (h : ∀ pre x post ρ, xs = pre ++ x :: post → I pre ρ → ∃ ρ1, ft (enc x) ρ = some ρ1 ∧ ∃ ρ2, (fb ρ1 = .nx ρ2 ∨ fb ρ1 = .ct ρ2) ∧ I (pre ++ [x]) ρ2) :
    ∀ ρ, I [] ρ → ∃ ρ', I xs ρ' ∧ forL ft fb (xs.map enc ++ rest) ρ = forL ft fb rest ρ' := by
  have key : ∀ (post pre : List α), xs = pre ++ post → ∀ ρ, I pre ρ → ∃ ρ', I xs ρ' ∧ forL ft fb (post.map enc ++ rest) ρ = forL ft fb rest ρ' := by
    intro post
    induction post with
    | nil =>
      intro pre e ρ i
      rw [List.append_nil] at e
      exact ⟨ρ, by rw [e]; exact i, rfl⟩
    | cons x post ih =>
      intro pre e ρ i
      obtain ⟨ρ1, h1, ρ2, h2, i2⟩ := h pre x post ρ e i
      obtain ⟨ρ', i', q⟩ := ih (pre ++ [x]) (by rw [e, List.append_assoc]; rfl) ρ2 i2
      refine ⟨ρ', i', ?_⟩
      rw [List.map_cons, List.cons_append, forL_cons, h1]
      rcases h2 with h2 | h2
      · show (match fb ρ1 with | .nx ρ2 => _ | .ct ρ2 => _ | .bk ρ2 => _ | o => o) = _
        rw [h2]
        exact q
      · show (match fb ρ1 with | .nx ρ2 => _ | .ct ρ2 => _ | .bk ρ2 => _ | o => o) = _
        rw [h2]
        exact q
  exact fun ρ i => key xs [] rfl ρ i
theorem forL_all {α : Type} {ft : D → Env → Option Env} {fb : Env → Out} (enc : α → D) (I : List α → Env → Prop) (xs : List α)
    (h : ∀ pre x post ρ, xs = pre ++ x :: post → I pre ρ → ∃ ρ1, ft (enc x) ρ = some ρ1 ∧ ∃ ρ2, (fb ρ1 = .nx ρ2 ∨ fb ρ1 = .ct ρ2) ∧ I (pre ++ [x]) ρ2) (ρ : Env) (i : I [] ρ) : ∃ ρ', I xs ρ' ∧ forL ft fb (xs.map enc) ρ = .nx ρ' := by
  obtain ⟨ρ', i', e⟩ := forL_pre enc I xs [] h ρ i
  rw [List.append_nil] at e
  exact ⟨ρ', i', e⟩
theorem compL_map {α : Type} {ft : D → Env → Option Env} {tt : Env → R Bool} {fe : Env → R D} {ρ : Env} (enc : α → D) (p : α → Bool) (f : α → D) : ∀ (xs : List α), (∀ x ∈ xs, ∃ ρ1, ft (enc x) ρ = some ρ1 ∧ tt ρ1 = .ok (p x) ∧ (p x = true → fe ρ1 = .ok (f x))) →
    compL ft tt fe ρ (xs.map enc) = some ((xs.filter p).map f)
  | [], _ => rfl
  | x :: xs, h => by
    obtain ⟨ρ1, h1, h2, h3⟩ := h x List.mem_cons_self
    have ih := compL_map enc p f xs fun y hy => h y (List.mem_cons_of_mem _ hy)
    rw [List.map_cons]
    unfold compL
    rw [h1, Option.bind_some, h2]
    cases q : p x with
    | true =>
      rw [List.filter_cons_of_pos q, s_toO_ok, Option.bind_some, if_pos rfl, h3 q, s_toO_ok, Option.bind_some, ih]
      rfl
    | false =>
      rw [List.filter_cons_of_neg (by rw [q]; exact Bool.false_ne_true), s_toO_ok, Option.bind_some, if_neg Bool.false_ne_true, ih]
/-! ### texts of steps and states -/
abbrev Step := Bool × Nat
def stL (s : Step) : List Nat := [if s.1 then 43 else 45, 48 + s.2]
def stD (s : Step) : D := .str (stL s)
def natD (n : Nat) : D := .int n
theorem dig {n : Nat} (h : n < 10) : gInt [.str [48 + n]] = some (.int n) := by
  rw [int_dig ⟨by omega, by omega⟩]
  congr 2
  omega
theorem sdig {n : Nat} (h : n < 10) : gStr [.int n] = some (.str [48 + n]) := by
  rw [str_dig ⟨by omega, by omega⟩]
  congr 3
  omega
theorem ixS {x : List Nat} {n c : Nat} (h : x.length ≤ 1000) (e : x[n]? = some c) : gIx (.str x) (.int n) = some (.str [c]) := by
  rw [ix_str (by rw [size_eq]; omega), atI_get? (by omega)]
  simp [e]
theorem ixL {x : List D} {n : Nat} : gIx (.lst x) (.int n) = x[n]? := by
  show atI x n = _
  rw [atI_get? (by omega)]
  simp
theorem addS {a b : List Nat} (h : a.length + b.length ≤ 1000) : gAdd (.str a) (.str b) = some (.str (a ++ b)) := add_str (by rw [size_eq]; omega)
theorem mkS_inj2 {a b : List Nat} (h : mkS a = mkS b) : a = b := mkS_inj h
theorem deq_str {a b : List Nat} : deq (.str a) (.str b) = decide (a = b) := by
  show (mkS a == mkS b) = _
  by_cases h : a = b
  · subst h
    simp
  · rw [decide_eq_false h]
    have : mkS a ≠ mkS b := fun z => h (mkS_inj2 z)
    simpa using this
theorem deq_int {a b : Int} : deq (.int a) (.int b) = decide (a = b) := by
  show (a == b) = _
  by_cases h : a = b
  · subst h; simp
  · rw [decide_eq_false h]; simpa using h
@[simp] theorem eqS {a b : List Nat} : gEq (.str a) (.str b) = some (.bl (decide (a = b))) := by
  unfold gEq
  rw [if_pos ⟨rfl, rfl⟩, deq_str]
@[simp] theorem neS {a b : List Nat} : gNe (.str a) (.str b) = some (.bl (!decide (a = b))) := by
  unfold gNe
  rw [if_pos ⟨rfl, rfl⟩, deq_str]
@[simp] theorem eqI {a b : Int} : gEq (.int a) (.int b) = some (.bl (decide (a = b))) := by
  unfold gEq
  rw [if_pos ⟨rfl, rfl⟩, deq_int]
@[simp] theorem neI {a b : Int} : gNe (.int a) (.int b) = some (.bl (!decide (a = b))) := by
  unfold gNe
  rw [if_pos ⟨rfl, rfl⟩, deq_int]
/-! ### a step made -/
def moved (st : List Nat) (s : Step) : List Nat := st.set s.2 (if s.1 then 104 else 114)
theorem cut_take {α : Type} {xs : List α} {n : Nat} (h : n ≤ xs.length) : cutG xs none (some (n : Int)) = xs.take n := by
  unfold cutG
  rw [HT.sIx_nat, HT.sIx_none, Nat.min_eq_left h]
  rfl
theorem cut_drop {α : Type} {xs : List α} {n : Nat} (h : n ≤ xs.length) : cutG xs (some (n : Int)) none = xs.drop n := by
  unfold cutG
  rw [HT.sIx_nat, HT.sIx_none, Nat.min_eq_left h]
  exact List.take_of_length_le (by rw [List.length_drop]; omega)
theorem F_moved {st : List Nat} {s : Step} (h : s.2 < st.length) (h6 : st.length ≤ 6) : F__law_moved [.str st, stD s] = .ok (.str (moved st s)) := by
  obtain ⟨b, i⟩ := s
  have h : i < st.length := h
  have d1 : gIx (.str (stL (b, i))) (.int 1) = some (.str [48 + i]) := ixS (n := 1) (by simp [stL]) rfl
  have d0 : gIx (.str (stL (b, i))) (.int 0) = some (.str [if b then 43 else 45]) := ixS (n := 0) (by simp [stL]) rfl
  have c1 : gSl none (some (i : Int)) (.str st) = some (.str (st.take i)) := by rw [sl_str (by rw [size_eq]; omega), cut_take (by omega)]
  have c2 : gSl (some ((i : Int) + 1)) none (.str st) = some (.str (st.drop (i + 1))) := by
    rw [sl_str (by rw [size_eq]; omega)]
    have := cut_drop (xs := st) (n := i + 1) (by omega)
    rw [← this]
    rfl
  have hs : st.set i (if b then 104 else 114) = st.take i ++ (if b then 104 else 114) :: st.drop (i + 1) := List.set_eq_take_append_cons_drop.trans (by simp [h])
  unfold F__law_moved runF b__law_moved stD moved
  cases b
  · simp [d1, d0, c1, c2, dig (show i < 10 by omega)]
    rw [addS (by simp; omega)]
    simp
    rw [addS (by simp; omega)]
    simpa using hs.symm
  · simp [d1, d0, c1, c2, dig (show i < 10 by omega)]
    rw [addS (by simp; omega)]
    simp
    rw [addS (by simp; omega)]
    simpa using hs.symm
/-! ### how a body runs -/
def wpX (N : Env → Prop) (T : Out → Prop) : Out → Prop
  | .nx ρ => N ρ
  | o => T o
structure wpO (N : Env → Prop) (T : Out → Prop) (o : Out) : Prop where
  go : wpX N T o
section
variable {N : Env → Prop} {T : Out → Prop} {ρ : Env} {f g : Env → Out} {fe : Env → R D} {d : D} {i : Nat} {c : Env → R Bool}
theorem wp_seq (h : wpO (fun ρ' => wpO N T (g ρ')) T (f ρ)) : wpO N T (fSeq f g ρ) := by
  obtain ⟨h⟩ := h
  rw [s_fSeq]
  cases q : f ρ <;> rw [q] at h <;> first | exact h | exact ⟨h⟩
theorem wp_asg (e : fe ρ = .ok d) (h : N (ρ.set i (some d))) : wpO N T (fAsg i fe ρ) := by
  rw [s_fAsg, e]
  exact ⟨h⟩
theorem wp_asgF (e : fe ρ = .ok d) (hi : i < ρ.length) (h : N (ρ.set i (some d))) : wpO N T (fAsgF i fe ρ) := by
  rw [s_fAsgF, e, if_pos hi]
  exact ⟨h⟩
theorem wp_ret (e : fe ρ = .ok d) (h : T (.rt d)) : wpO N T (fRet fe ρ) := by
  rw [s_fRet, e]
  exact ⟨h⟩
theorem wp_next (h : N ρ) : wpO N T (fNext ρ) := ⟨h⟩
theorem wp_if {b : Bool} (e : c ρ = .ok b) (h1 : b = true → wpO N T (f ρ)) (h2 : b = false → wpO N T (g ρ)) : wpO N T (fIf c f g ρ) := by
  rw [s_fIf, e, s_stE_ok]
  cases b with
  | true => rw [if_pos rfl]; exact h1 rfl
  | false => rw [if_neg Bool.false_ne_true]; exact h2 rfl
theorem wp_drop (e : fe ρ = .ok d) (h : N ρ) : wpO N T (fDrop fe ρ) := by
  rw [s_fDrop, e]
  exact ⟨h⟩
theorem wp_app {ds : List D} (hi : ρ[i]? = some (some (.lst ds))) (e : fe ρ = .ok d) (hz : ds.length < 1000000) (h : N (ρ.set i (some (.lst (ds ++ [d]))))) : wpO N T (fApp i fe ρ) := by
  unfold fApp
  rw [hi]
  show wpO N T (stE (fe ρ) ρ fun d => if ds.length < sizeLine then .nx (ρ.set i (some (.lst (ds ++ [d])))) else .stuck)
  rw [e, s_stE_ok, if_pos (by rw [size_eq]; omega)]
  exact ⟨h⟩
theorem wp_for {α : Type} (enc : α → D) (I : List α → Env → Prop) {xs : List α} {fi : Env → R (List D)} {ft : D → Env → Option Env} {fb : Env → Out} (e : fi ρ = .ok (xs.map enc)) (h0 : I [] ρ)
    (h : ∀ pre x post ρ1, xs = pre ++ x :: post → I pre ρ1 → ∃ ρ2, ft (enc x) ρ1 = some ρ2 ∧ wpO (I (pre ++ [x])) (fun o => match o with | .ct ρ3 => I (pre ++ [x]) ρ3 | .bk ρ3 => N ρ3 | o => T o) (fb ρ2))
    (hN : ∀ ρ', I xs ρ' → N ρ') : wpO N T (fFor fi ft fb ρ) := by
  rw [s_fFor, e, s_stE_ok]
  have key : ∀ (post pre : List α), xs = pre ++ post → ∀ ρ, I pre ρ → wpO N T (forL ft fb (post.map enc) ρ) := by
    intro post
    induction post with
    | nil =>
      intro pre q ρ i
      rw [List.append_nil] at q
      exact ⟨hN ρ (by rw [q]; exact i)⟩
    | cons x post ih =>
      intro pre q ρ i
      obtain ⟨ρ2, h1, h2⟩ := h pre x post ρ q i
      obtain ⟨h2⟩ := h2
      rw [List.map_cons, forL_cons, h1]
      show wpO N T (match fb ρ2 with | .nx ρ2 => _ | .ct ρ2 => _ | .bk ρ2 => _ | o => o)
      have ih' := ih (pre ++ [x]) (by rw [q, List.append_assoc]; rfl)
      cases z : fb ρ2 <;> rw [z] at h2
      · exact ih' _ h2
      · exact ⟨h2⟩
      · exact ⟨h2⟩
      · exact ih' _ h2
      · exact ⟨h2⟩
      · exact ⟨h2⟩
  exact key xs [] rfl ρ h0
theorem run_wp {P : R D → Prop} {N n : Nat} {b : Env → Out} {ds : List D} (h : wpO (fun _ => P (.ok .non)) (fun o => match o with | .rt d => P (.ok d) | .exc x _ => P (.exc x) | _ => False) (b (ds.map some ++ List.replicate (N - n) none))) : P (runF N n b ds) := by
  obtain ⟨h⟩ := h
  unfold runF
  cases z : b (ds.map some ++ List.replicate (N - n) none) <;> rw [z] at h <;> first | exact h | exact h.elim
end

/-! ### what is made of an item -/
def proj (pr : List Step) (i : Nat) : List Bool := (pr.filter fun s => s.2 == i).map (·.1)
def chr : List Bool → Nat
  | [] => 46
  | [true] => 104
  | _ => 114
def stOf (n : Nat) (pr : List Step) : List Nat := (List.range n).map fun i => chr (proj pr i)
def okI (l : List Bool) : Prop := l = [] ∨ l = [true] ∨ l = [true, false]
def okP (pr : List Step) : Prop := ∀ i, okI (proj pr i)
def inR (n : Nat) (pr : List Step) : Prop := ∀ s ∈ pr, s.2 < n
def fullP (pr : List Step) : Prop := ∀ i, proj pr i = [] ∨ proj pr i = [true, false]
theorem proj_app {a b : List Step} {i : Nat} : proj (a ++ b) i = proj a i ++ proj b i := by
  unfold proj
  rw [List.filter_append, List.map_append]
theorem proj_one {s : Step} {i : Nat} : proj [s] i = if s.2 = i then [s.1] else [] := by
  unfold proj
  by_cases h : s.2 = i
  · rw [if_pos h, List.filter_cons_of_pos (by simpa using h)]
    rfl
  · rw [if_neg h, List.filter_cons_of_neg (by simpa using h)]
    rfl
theorem stOf_len {n : Nat} {pr : List Step} : (stOf n pr).length = n := by unfold stOf; simp
theorem stOf_get {n i : Nat} {pr : List Step} (h : i < n) : (stOf n pr)[i]? = some (chr (proj pr i)) := by unfold stOf; simp [h]
theorem okP_nil : okP [] := fun _ => .inl rfl
theorem chr_free {l : List Bool} (h : okI l) : chr l = 46 ↔ l = [] := by
  rcases h with h | h | h <;> subst h <;> simp [chr]
theorem chr_held {l : List Bool} (h : okI l) : chr l = 104 ↔ l = [true] := by
  rcases h with h | h | h <;> subst h <;> simp [chr]
theorem okP_pre {a b : List Step} (h : okP (a ++ b)) : okP a := fun i => by
  have := h i
  rw [proj_app] at this
  rcases this with q | q | q
  · exact .inl (List.append_eq_nil_iff.mp q).1
  · match hp : proj a i, q with
    | [], _ => exact .inl rfl
    | [x], q => simp at q; exact .inr (.inl (by rw [q.1]))
    | x :: y :: r, q => simp at q
  · match hp : proj a i, q with
    | [], _ => exact .inl rfl
    | [x], q => simp at q; exact .inr (.inl (by rw [q.1]))
    | [x, y], q => simp at q; exact .inr (.inr (by rw [q.1, q.2.1]))
    | x :: y :: z :: r, q => simp at q
/-- a step that may be made -/
theorem okP_snoc {pr : List Step} {s : Step} (h : okP pr) : okP (pr ++ [s]) ↔ proj pr s.2 = if s.1 = true then [] else [true] := by
  constructor
  · intro k
    have q := k s.2
    rw [proj_app, proj_one, if_pos rfl] at q
    obtain ⟨b, i⟩ := s
    rcases h i with z | z | z <;> rw [z] at q ⊢ <;> cases b <;> first | rfl | (rcases q with q | q | q <;> cases q)
  · intro k i
    rw [proj_app, proj_one]
    by_cases e : s.2 = i
    · subst e
      rw [k, if_pos rfl]
      obtain ⟨b, i⟩ := s
      cases b
      · exact .inr (.inr rfl)
      · exact .inr (.inl rfl)
    · rw [if_neg e, List.append_nil]
      exact h i
theorem moved_stOf {n : Nat} {pr : List Step} {s : Step} (h : okP pr) (k : okP (pr ++ [s])) (hn : s.2 < n) : moved (stOf n pr) s = stOf n (pr ++ [s]) := by
  have q := (okP_snoc h).mp k
  refine List.ext_getElem? fun i => ?_
  unfold moved
  by_cases hi : i < n
  · rw [stOf_get hi, proj_app, proj_one]
    by_cases e : s.2 = i
    · subst e
      rw [List.getElem?_set_self (by rw [stOf_len]; exact hi), if_pos rfl, q]
      obtain ⟨b, i⟩ := s
      cases b <;> rfl
    · rw [List.getElem?_set_ne e, if_neg e, List.append_nil, stOf_get hi]
  · rw [List.getElem?_eq_none (by rw [List.length_set, stOf_len]; omega), List.getElem?_eq_none (by rw [stOf_len]; omega)]
end DL
set_option Elab.async false
set_option linter.all false
set_option maxRecDepth 100000
namespace DL
open PySem L2

theorem rngN {n : Nat} (h : n < 1000000) : gRng [.int (n : Int)] = some ((List.range n).map natD) := by
  rw [rng1 (by omega)]
  simp [natD]
theorem lenS {x : List Nat} (h : x.length ≤ 1000) : gLen [.str x] = some (.int x.length) := len_str (by rw [size_eq]; omega)
theorem addL {a b : List D} (h : a.length + b.length ≤ 1000000) : gAdd (.lst a) (.lst b) = some (.lst (a ++ b)) := add_lst (by rw [size_eq]; omega)
theorem lenOkM {α : Type} {l : List α} {r : R D} (h : l.length ≤ 1000000) : lenOk l r = r := lenOk_le (by rw [size_eq]; omega)
theorem lc_fin {ys : List D} (h : ys.length ≤ 1000000) : ((R.ofO (some ys)).bind fun ys => lenOk ys (.ok (.lst ys))) = .ok (.lst ys) := by
  rw [s_ofO_some, s_bind_ok, lenOkM h]
theorem okI_dec (l : List Bool) : okI l ∨ ¬ okI l := Classical.em _
/-- the items of a state of this kind -/
def itemsAt (n : Nat) (pr : List Step) (l : List Bool) : List Nat := (List.range n).filter fun i => proj pr i == l
theorem items_len {n : Nat} {pr : List Step} {l : List Bool} : (itemsAt n pr l).length ≤ n := by
  have := List.length_filter_le (fun i => proj pr i == l) (List.range n)
  rw [List.length_range] at this
  exact this
def endsOf (n : Nat) (pr : List Step) : List Step := (itemsAt n pr [true]).map fun i => (false, i)
theorem steps_lc {n : Nat} {pr : List Step} (h6 : n ≤ 6) (ok : okP pr) {ρ : Env} {k : Nat} {c : Nat} {l : List Bool} {b : Bool} {e : Env → R D} (hc : ∀ l', okI l' → (chr l' = c ↔ l' = l)) (hs : ∀ i : Nat, e (ρ.set k (some (.int i))) = .ok (.str (stOf n pr)))
    (hk : ∀ i : Nat, getE (ρ.set k (some (.int i))) k = .ok (.int i)) :
    compL (gtName k) (fB (fOp gEq (fOp gIx e (fun ρ => getE ρ k)) (fun _ => .ok (.str [c])))) (fOp gAdd (fun _ => .ok (.str [if b then 43 else 45])) (fCB gStr (fCons (fun ρ => getE ρ k) fNil))) ρ ((List.range n).map natD) = some (((itemsAt n pr l).map fun i => (b, i)).map stD) := by
  rw [compL_map natD (fun i => proj pr i == l) (fun i => stD (b, i))]
  · unfold itemsAt
    rw [List.map_map]
    rfl
  · intro i hi
    have hi : i < n := List.mem_range.mp hi
    refine ⟨_, rfl, ?_, fun _ => ?_⟩
    · show fB _ (ρ.set k (some (.int i))) = _
      simp [hs, hk, ixS (x := stOf n pr) (n := i) (by rw [stOf_len]; omega) (stOf_get hi)]
      have hq := hc _ (ok i)
      by_cases q : proj pr i = l
      · have q2 : chr l = c := by rw [← q]; exact hq.mpr q
        simp [q, q2]
      · have : ¬ chr (proj pr i) = c := fun z => q (hq.mp z)
        simp [this, q]
    · show fOp _ _ _ (ρ.set k (some (.int i))) = _
      simp [hk, sdig (show i < 10 by omega), addS (a := [if b = true then 43 else 45]) (b := [48 + i]) (by simp)]
      rfl
theorem F_ends {n : Nat} {pr : List Step} (h6 : n ≤ 6) (ok : okP pr) : F__law_ends [.str (stOf n pr)] = .ok (.lst ((endsOf n pr).map stD)) := by
  unfold F__law_ends
  refine run_wp (P := fun r => r = .ok (.lst ((endsOf n pr).map stD))) ?_
  refine wp_ret (d := .lst ((endsOf n pr).map stD)) ?_ rfl
  have c := steps_lc (ρ := [some (.str (stOf n pr)), none]) (k := 1) (c := 104) (l := [true]) (b := false) (e := fun ρ => getE ρ 0) h6 ok (fun l h => chr_held h) (fun i => rfl) (fun i => rfl)
  have hl : ((endsOf n pr).map stD).length ≤ 1000000 := by
    unfold endsOf itemsAt
    rw [List.length_map, List.length_map]
    have := List.length_filter_le (fun i => proj pr i == [true]) (List.range n)
    rw [List.length_range] at this
    omega
  simp [lenS (x := stOf n pr) (by rw [stOf_len]; omega), stOf_len, rngN (show n < 1000000 by omega)]
  simp at c
  rw [c, lc_fin (by rw [List.length_map]; have := items_len (n := n) (pr := pr) (l := [true]); omega)]
  unfold endsOf
  rw [List.map_map]
/-- the releases of all that is held -/
theorem proj_map {b : Bool} {i : Nat} : ∀ {xs : List Nat}, xs.Nodup → proj (xs.map fun i => (b, i)) i = if i ∈ xs then [b] else []
  | [], _ => rfl
  | x :: xs, h => by
    rw [List.nodup_cons] at h
    have ih := proj_map (b := b) (i := i) h.2
    rw [List.map_cons, show (b, x) :: xs.map (fun i => (b, i)) = [(b, x)] ++ xs.map (fun i => (b, i)) from rfl, proj_app, proj_one, ih]
    by_cases e : x = i
    · subst e
      rw [if_pos rfl, if_neg h.1, if_pos List.mem_cons_self]
      rfl
    · rw [if_neg e, List.nil_append]
      by_cases m : i ∈ xs
      · rw [if_pos m, if_pos (List.mem_cons_of_mem _ m)]
      · rw [if_neg m, if_neg fun z => (List.mem_cons.mp z).elim (fun z => e z.symm) m]
theorem items_nd {n : Nat} {pr : List Step} {l : List Bool} : (itemsAt n pr l).Nodup := (List.nodup_range).filter _
theorem mem_items {n i : Nat} {pr : List Step} {l : List Bool} : i ∈ itemsAt n pr l ↔ i < n ∧ proj pr i = l := by
  unfold itemsAt
  rw [List.mem_filter, List.mem_range]
  simp
theorem proj_out {n i : Nat} {pr : List Step} (h : inR n pr) (hi : n ≤ i) : proj pr i = [] := by
  unfold proj
  rw [List.filter_eq_nil_iff.mpr]
  · rfl
  · intro s hs
    have := h s hs
    simp
    omega
theorem ends_full {n : Nat} {pr : List Step} (ok : okP pr) (r : inR n pr) : fullP (pr ++ endsOf n pr) ∧ okP (pr ++ endsOf n pr) ∧ inR n (pr ++ endsOf n pr) := by
  have key : ∀ i, proj (pr ++ endsOf n pr) i = if proj pr i = [true] then [true, false] else proj pr i := fun i => by
    rw [proj_app]
    unfold endsOf
    rw [proj_map items_nd]
    by_cases h : proj pr i = [true]
    · have hi : i < n := by
        by_cases hi : i < n
        · exact hi
        · rw [proj_out r (by omega)] at h
          cases h
      rw [if_pos (mem_items.mpr ⟨hi, h⟩), if_pos h, h]
      rfl
    · rw [if_neg fun z => h (mem_items.mp z).2, if_neg h, List.append_nil]
  have full : fullP (pr ++ endsOf n pr) := fun i => by
    rw [key i]
    by_cases h : proj pr i = [true]
    · rw [if_pos h]; exact .inr rfl
    · rw [if_neg h]
      rcases ok i with z | z | z
      · exact .inl z
      · exact absurd z h
      · exact .inr z
  refine ⟨full, fun i => (full i).elim .inl fun z => .inr (.inr z), fun s hs => ?_⟩
  rcases List.mem_append.mp hs with h | h
  · exact r s h
  · obtain ⟨i, hi, rfl⟩ := List.mem_map.mp h
    exact (mem_items.mp hi).1
theorem ends_len {n : Nat} {pr : List Step} : (endsOf n pr).length ≤ n := by
  unfold endsOf itemsAt
  rw [List.length_map]
  have := List.length_filter_le (fun i => proj pr i == [true]) (List.range n)
  rw [List.length_range] at this
  exact this
/-! ### a program by free choices -/
def movesOf (n : Nat) (pr : List Step) : List Step := ((itemsAt n pr []).map fun i => (true, i)) ++ (itemsAt n pr [true]).map fun i => (false, i)
theorem moves_ok {n : Nat} {pr : List Step} {s : Step} (ok : okP pr) (h : s ∈ movesOf n pr) : okP (pr ++ [s]) ∧ s.2 < n := by
  rcases List.mem_append.mp h with h | h
  · obtain ⟨i, hi, rfl⟩ := List.mem_map.mp h
    exact ⟨(okP_snoc ok).mpr (mem_items.mp hi).2, (mem_items.mp hi).1⟩
  · obtain ⟨i, hi, rfl⟩ := List.mem_map.mp h
    exact ⟨(okP_snoc ok).mpr (mem_items.mp hi).2, (mem_items.mp hi).1⟩
theorem ixMod {xs : List D} {m : Int} (h : xs ≠ []) : ∃ k : Nat, k < xs.length ∧ gMod (.int m) (.int xs.length) = some (.int (k : Int)) := by
  have hp : (0 : Int) < xs.length := by
    have := List.length_pos_iff.mpr h
    omega
  have h1 := Int.emod_nonneg m (show (xs.length : Int) ≠ 0 by omega)
  have h2 := Int.emod_lt_of_pos m hp
  refine ⟨(m % xs.length).toNat, by omega, ?_⟩
  rw [mod_int hp]
  congr 2
  omega
theorem mulDots {n : Nat} (h : n ≤ 6) : gMul (.str [46]) (.int (n : Int)) = some (.str (stOf n [])) := by
  match n, h with
  | 0, _ => rfl
  | 1, _ => rfl
  | 2, _ => rfl
  | 3, _ => rfl
  | 4, _ => rfl
  | 5, _ => rfl
  | 6, _ => rfl
theorem strs_data {xs : List Step} {n : Nat} : isDataL n (xs.map stD) = true := by
  rw [isDataL_all, List.all_eq_true]
  intro d hd
  obtain ⟨s, _, rfl⟩ := List.mem_map.mp hd
  cases n <;> rfl
theorem neNil {xs : List Step} : gNe (.lst (xs.map stD)) (.lst []) = some (.bl (!decide (xs = []))) := by
  unfold gNe
  rw [if_pos ⟨strs_data, rfl⟩]
  cases xs with
  | nil => simp [deq, D.pd, D.pdL, PyData.eqv, PyData.eqvAll]
  | cons x xs => simp [deq, D.pd, D.pdL, PyData.eqv, PyData.eqvAll]
theorem atLast {xs : List D} {d : D} : atI (xs ++ [d]) (-1) = some d := by
  unfold atI ixN
  rw [if_neg (by decide), List.length_append, List.length_singleton, if_pos (by omega)]
  show (xs ++ [d])[((-1 : Int) + ((xs.length + 1 : Nat) : Int)).toNat]? = _
  rw [show ((-1 : Int) + ((xs.length + 1 : Nat) : Int)).toNat = xs.length by omega]
  simp
theorem ixLast {xs : List D} {d : D} : gIx (.lst (xs ++ [d])) (.int (-1)) = some d := by
  show atI (xs ++ [d]) (-1) = _
  unfold atI ixN
  rw [if_neg (by decide), List.length_append, List.length_singleton, if_pos (by omega)]
  show (xs ++ [d])[((-1 : Int) + ((xs.length + 1 : Nat) : Int)).toNat]? = _
  rw [show ((-1 : Int) + ((xs.length + 1 : Nat) : Int)).toNat = xs.length by omega]
  simp
theorem F_free {n : Nat} (h6 : n ≤ 6) {ns : List Int} (hn : ns.length ≤ 100) : ∃ pr, F__law_free [.int n, .lst (ns.map .int)] = .ok (.lst (pr.map stD)) ∧ fullP pr ∧ okP pr ∧ inR n pr ∧ pr.length ≤ ns.length + n := by
  unfold F__law_free
  refine run_wp (P := fun r => ∃ pr, r = .ok (.lst (pr.map stD)) ∧ fullP pr ∧ okP pr ∧ inR n pr ∧ pr.length ≤ ns.length + n) ?_
  refine wp_seq (wp_asg (d := .str (stOf n [])) (by simp [mulDots h6]) ?_)
  refine wp_seq (wp_asgF (d := .lst []) (by simp) (by simp) ?_)
  refine wp_seq (wp_for D.int (fun pre ρ => ∃ (pr : List Step) (x4 x5 x6 : Option D), ρ = [some (.int n), some (.lst (ns.map .int)), some (.str (stOf n pr)), some (.lst (pr.map stD)), x4, x5, x6] ∧ okP pr ∧ inR n pr ∧ pr.length ≤ pre.length) (xs := ns) (by simp) ⟨[], none, none, none, rfl, okP_nil, fun _ h => (List.not_mem_nil h).elim, Nat.zero_le _⟩ ?_ ?_)
  · rintro pre x post ρ e ⟨pr, x4, x5, x6, rfl, ok, r, hl⟩
    have hpl : pre.length < 100 := by
      have := congrArg List.length e
      simp at this
      omega
    refine ⟨[some (.int n), some (.lst (ns.map .int)), some (.str (stOf n pr)), some (.lst (pr.map stD)), some (.int x), x5, x6], rfl, ?_⟩
    have l1 := items_len (n := n) (pr := pr) (l := [])
    have l2 := items_len (n := n) (pr := pr) (l := [true])
    refine wp_seq (wp_asg (d := D.lst (((itemsAt n pr []).map fun i => ((true, i) : Step)).map stD)) ?_ ?_)
    · have c := steps_lc (ρ := [some (.int n), some (.lst (ns.map .int)), some (.str (stOf n pr)), some (.lst (pr.map stD)), some (.int x), x5, none]) (k := 6) (c := 46) (l := []) (b := true) (e := fun ρ => getE ρ 2) h6 ok (fun l h => chr_free h) (fun i => rfl) (fun i => rfl)
      simp [rngN (show n < 1000000 by omega)]
      simp at c
      rw [c, lc_fin (by rw [List.length_map]; omega)]
    refine wp_seq (wp_asg (d := .lst ((movesOf n pr).map stD)) ?_ ?_)
    · have c := steps_lc (ρ := [some (.int n), some (.lst (ns.map .int)), some (.str (stOf n pr)), some (.lst (pr.map stD)), some (.int x), some (.lst (((itemsAt n pr []).map fun i => (true, i)).map stD)), none]) (k := 6) (c := 104) (l := [true]) (b := false) (e := fun ρ => getE ρ 2) h6 ok (fun l h => chr_held h) (fun i => rfl) (fun i => rfl)
      simp [rngN (show n < 1000000 by omega)]
      simp at c
      rw [c, lc_fin (by rw [List.length_map]; omega), s_bind_ok, addL (by rw [List.length_map, List.length_map]; omega)]
      unfold movesOf
      simp
    refine wp_if (b := !decide (movesOf n pr = [])) ?_ (fun hb => ?_) fun hb => ?_
    · have := neNil (xs := movesOf n pr)
      simp [this]
    · have hne : movesOf n pr ≠ [] := by simpa using hb
      obtain ⟨k, hk, hm⟩ := ixMod (xs := (movesOf n pr).map stD) (m := x) (by simpa using hne)
      rw [List.length_map] at hk
      have hs := List.getElem?_eq_getElem hk
      generalize (movesOf n pr)[k] = s at hs
      obtain ⟨ok2, hs2⟩ := moves_ok ok (List.mem_of_getElem? hs)
      refine wp_seq (wp_app (ds := pr.map stD) (d := stD s) rfl ?_ (by rw [List.length_map]; omega) ?_)
      · have hix : gIx (.lst ((movesOf n pr).map stD)) (.int (k : Int)) = some (stD s) := by
          rw [ixL, List.getElem?_map, hs]
          rfl
        rw [List.length_map] at hm
        simp [hm, hix]
      · refine wp_asg (d := .str (stOf n (pr ++ [s]))) ?_ ?_
        · have hF := F_moved (st := stOf n pr) (s := s) (by rw [stOf_len]; exact hs2) (by rw [stOf_len]; exact h6)
          rw [moved_stOf ok ok2 hs2] at hF
          simp [atLast, hF]
        · refine ⟨pr ++ [s], some (.int x), some (.lst ((movesOf n pr).map stD)), x6, ?_, ok2, fun t ht => ?_, ?_⟩
          · simp
          · rcases List.mem_append.mp ht with q | q
            · exact r t q
            · rw [List.mem_singleton.mp q]
              exact hs2
          · rw [List.length_append, List.length_append]
            exact Nat.add_le_add_right hl 1
    · refine wp_next ⟨pr, some (.int x), some (.lst ((movesOf n pr).map stD)), x6, rfl, ok, r, ?_⟩
      rw [List.length_append]
      omega
  · rintro ρ ⟨pr, x4, x5, x6, rfl, ok, r, hl⟩
    obtain ⟨f1, f2, f3⟩ := ends_full ok r
    refine wp_ret (d := .lst ((pr ++ endsOf n pr).map stD)) ?_ ⟨_, rfl, f1, f2, f3, ?_⟩
    · have el := ends_len (n := n) (pr := pr)
      simp [F_ends h6 ok]
      rw [addL (by simp; omega)]
      rfl
    · have el := ends_len (n := n) (pr := pr)
      rw [List.length_append]
      omega
end DL
set_option Elab.async false
set_option linter.all false
set_option maxRecDepth 100000
namespace DL
open PySem L2

theorem F_state_after {n : Nat} (h6 : n ≤ 6) {pr : List Step} (ok : okP pr) (r : inR n pr) : F__law_state_after [.int n, .lst (pr.map stD)] = .ok (.str (stOf n pr)) := by
  unfold F__law_state_after
  refine run_wp (P := fun r => r = .ok (.str (stOf n pr))) ?_
  refine wp_seq (wp_asg (d := .str (stOf n [])) (by simp [mulDots h6]) ?_)
  refine wp_seq (wp_for stD (fun pre ρ => ∃ x3 : Option D, ρ = [some (.int n), some (.lst (pr.map stD)), some (.str (stOf n pre)), x3]) (xs := pr) (by simp) ⟨none, rfl⟩ ?_ ?_)
  · rintro pre x post ρ e ⟨x3, rfl⟩
    refine ⟨_, rfl, ?_⟩
    have okx : okP (pre ++ [x]) := okP_pre (b := post) (by rw [List.append_assoc]; rw [e] at ok; exact ok)
    have hx : x.2 < n := r x (by rw [e]; simp)
    have hF := F_moved (st := stOf n pre) (s := x) (by rw [stOf_len]; exact hx) (by rw [stOf_len]; exact h6)
    rw [moved_stOf (okP_pre okx) okx hx] at hF
    exact wp_asg (d := .str (stOf n (pre ++ [x]))) (by simp [hF]) ⟨some (stD x), rfl⟩
  · rintro ρ ⟨x3, rfl⟩
    exact wp_ret (d := .str (stOf n pr)) (by simp) rfl

/-! ### orders -/
abbrev Progs := List (List Step)
def progsD (ps : Progs) : D := .lst (ps.map fun p => .lst (p.map stD))
def heldBy (pre : List Step) (d : Nat) : Prop := proj pre d = [true]
def nextS (ps : Progs) (o : List Nat) (p : Nat) : Option Step := (ps[p]?).bind fun pr => pr[o.count p]?
def doneP (ps : Progs) (o : List Nat) (p : Nat) : List Step := (ps.getD p []).take (o.count p)
def isFree (ps : Progs) (o : List Nat) (d : Nat) : Prop := ∀ p, p < ps.length → ¬ heldBy (doneP ps o p) d
def may (ps : Progs) (o : List Nat) (p : Nat) : Prop := ∃ s, nextS ps o p = some s ∧ (s.1 = true → isFree ps o s.2)
/-- each step is a legal one -/
def legal (ps : Progs) (o : List Nat) : Prop := ∀ a p b, o = a ++ p :: b → may ps a p
theorem legal_nil {ps : Progs} : legal ps [] := fun a p b h => by simp at h
theorem legal_pre {ps : Progs} {a b : List Nat} (h : legal ps (a ++ b)) : legal ps a := fun x p y e => h x p (y ++ b) (by rw [e]; simp)
theorem legal_snoc {ps : Progs} {o : List Nat} {p : Nat} : legal ps (o ++ [p]) ↔ legal ps o ∧ may ps o p := by
  constructor
  · exact fun h => ⟨legal_pre h, h o p [] rfl⟩
  · rintro ⟨h, m⟩ a q b e
    rcases List.eq_nil_or_concat b with z | ⟨b', y, z⟩
    · subst z
      have := List.append_inj' e (by simp)
      obtain ⟨e1, e2⟩ := this
      cases e2
      rw [← e1]
      exact m
    · subst z
      rw [List.concat_eq_append, show a ++ q :: (b' ++ [y]) = (a ++ q :: b') ++ [y] by simp] at e
      have := List.append_inj' e rfl
      exact h a q b' this.1
theorem count_snoc {o : List Nat} {p q : Nat} : (o ++ [p]).count q = o.count q + if p = q then 1 else 0 := by
  rw [List.count_append]
  by_cases h : p = q
  · subst h; simp
  · rw [if_neg h]; simp [h]
theorem next_some {ps : Progs} {o : List Nat} {p : Nat} {s : Step} (h : nextS ps o p = some s) : ∃ pr, ps[p]? = some pr ∧ pr[o.count p]? = some s ∧ p < ps.length ∧ doneP ps (o ++ [p]) p = doneP ps o p ++ [s] := by
  obtain ⟨pr, h1, h2⟩ := Option.bind_eq_some_iff.mp h
  refine ⟨pr, h1, h2, (List.getElem?_eq_some_iff.mp h1).1, ?_⟩
  unfold doneP
  rw [count_snoc, if_pos rfl, List.getD_eq_getElem?_getD, h1]
  show pr.take (o.count p + 1) = pr.take (o.count p) ++ [s]
  rw [List.take_add_one, h2]
  rfl
theorem done_ne {ps : Progs} {o : List Nat} {p q : Nat} (h : p ≠ q) : doneP ps (o ++ [p]) q = doneP ps o q := by
  unfold doneP
  rw [count_snoc, if_neg h, Nat.add_zero]
theorem done_ok {ps : Progs} (ok : ∀ pr ∈ ps, okP pr) (o : List Nat) (p : Nat) : okP (doneP ps o p) := by
  unfold doneP
  rw [List.getD_eq_getElem?_getD]
  cases h : ps[p]? with
  | none => exact fun i => by simp; exact .inl rfl
  | some pr =>
    refine okP_pre (b := pr.drop (o.count p)) ?_
    show okP (pr.take _ ++ pr.drop _)
    rw [List.take_append_drop]
    exact ok pr (List.mem_of_getElem? h)
/-- an item is held once -/
theorem one_holds {ps : Progs} (ok : ∀ pr ∈ ps, okP pr) (o : List Nat) : legal ps o → ∀ d p q, p < ps.length → q < ps.length → heldBy (doneP ps o p) d → heldBy (doneP ps o q) d → p = q := by
  suffices H : ∀ r : List Nat, legal ps r.reverse → ∀ d p q, p < ps.length → q < ps.length → heldBy (doneP ps r.reverse p) d → heldBy (doneP ps r.reverse q) d → p = q by
    have := H o.reverse
    rw [List.reverse_reverse] at this
    exact this
  intro r
  induction r with
  | nil =>
    intro _ d p q _ _ h
    unfold heldBy doneP at h
    simp at h
    cases h
  | cons x r ih =>
    rw [List.reverse_cons]
    intro hl d p q hp hq h1 h2
    obtain ⟨hl0, s, hs, hf⟩ := legal_snoc.mp hl
    obtain ⟨pr, e1, e2, hx, e3⟩ := next_some hs
    have okx := done_ok ok (r.reverse ++ [x]) x
    rw [e3] at okx
    have pj := (okP_snoc (okP_pre okx)).mp okx
    -- a step of x on another item, or its lock of d
    have key : ∀ y, y < ps.length → heldBy (doneP ps (r.reverse ++ [x]) y) d → heldBy (doneP ps r.reverse y) d ∨ (y = x ∧ s = (true, d)) := fun y hy h => by
      by_cases e : x = y
      · subst e
        unfold heldBy at h ⊢
        rw [e3, proj_app, proj_one] at h
        by_cases ed : s.2 = d
        · rw [if_pos ed] at h
          right
          refine ⟨rfl, ?_⟩
          obtain ⟨b, i⟩ := s
          have ed : i = d := ed
          subst ed
          have pj : proj (doneP ps r.reverse x) i = if b = true then [] else [true] := pj
          cases b
          · rw [pj] at h
            cases h
          · rfl
        · rw [if_neg ed, List.append_nil] at h
          exact .inl h
      · rw [done_ne e] at h
        exact .inl h
    rcases key p hp h1 with k1 | ⟨k1, k2⟩ <;> rcases key q hq h2 with m1 | ⟨m1, m2⟩
    · exact ih hl0 d p q hp hq k1 m1
    · rw [m2] at hf
      exact absurd k1 (hf rfl p hp)
    · rw [k2] at hf
      exact absurd m1 (hf rfl q hq)
    · rw [k1, m1]
end DL
set_option Elab.async false
set_option linter.all false
set_option maxRecDepth 100000
namespace DL
open PySem L2

/-! ### dicts, typed -/
structure Dic (ks : List Key) (vs : List D) : Prop where
  nd : ks.Nodup
  len : ks.length = vs.length
theorem look_put {x y : Key} {v : D} : ∀ {ks : List Key} {vs : List D}, ks.length = vs.length → lookD (putKD ks vs x v).1 (putKD ks vs x v).2 y = if x = y then some v else lookD ks vs y
  | [], [], _ => by
    show (if x = y then some v else lookD [] [] y) = _
    rfl
  | [], _ :: _, h => by cases h
  | _ :: _, [], h => by cases h
  | k :: ks, d :: vs, h => by
    unfold putKD
    by_cases e : k = x
    · rw [if_pos e]
      show (if k = y then some v else lookD ks vs y) = if x = y then some v else if k = y then some d else lookD ks vs y
      subst e
      by_cases q : k = y
      · rw [if_pos q, if_pos q]
      · rw [if_neg q, if_neg q, if_neg q]
    · rw [if_neg e]
      show (if k = y then some d else lookD (putKD ks vs x v).1 (putKD ks vs x v).2 y) = if x = y then some v else if k = y then some d else lookD ks vs y
      rw [look_put (by simpa using h)]
      by_cases q : k = y
      · rw [if_pos q, if_pos q, if_neg fun z => e (q.trans z.symm)]
      · rw [if_neg q, if_neg q]
theorem put_len {x : Key} {v : D} : ∀ {ks : List Key} {vs : List D}, ks.length = vs.length → (putKD ks vs x v).1.length = (putKD ks vs x v).2.length ∧ (putKD ks vs x v).1.length ≤ ks.length + 1
  | [], [], _ => ⟨rfl, Nat.le_refl _⟩
  | [], _ :: _, h => by cases h
  | _ :: _, [], h => by cases h
  | k :: ks, d :: vs, h => by
    unfold putKD
    by_cases e : k = x
    · rw [if_pos e]
      exact ⟨by simpa using h, by simp⟩
    · rw [if_neg e]
      obtain ⟨a, b⟩ := put_len (x := x) (v := v) (ks := ks) (vs := vs) (by simpa using h)
      exact ⟨by simp [a], by simp only [List.length_cons]; omega⟩
theorem put_nd {x : Key} {v : D} {ks : List Key} {vs : List D} (h : Dic ks vs) : Dic (putKD ks vs x v).1 (putKD ks vs x v).2 := by
  refine ⟨?_, (put_len h.len).1⟩
  rw [putKD_keys h.len]
  split
  · exact h.nd
  · rename_i m
    exact List.nodup_append.mpr ⟨h.nd, by simp, fun a ha b hb => by rw [List.mem_singleton.mp hb]; exact fun z => m (z ▸ ha)⟩
theorem look_out {x : Key} : ∀ {ks : List Key} {vs : List D}, x ∉ ks → lookD ks vs x = none
  | [], [], _ => rfl
  | [], _ :: _, _ => rfl
  | _ :: _, [], _ => rfl
  | k :: ks, d :: vs, h => by
    show (if k = x then some d else lookD ks vs x) = none
    rw [if_neg fun z => h (by rw [z]; exact List.mem_cons_self)]
    exact look_out fun z => h (List.mem_cons_of_mem _ z)
theorem drop_all {x : Key} : ∀ {ks : List Key} {vs : List D}, Dic ks vs → Dic (dropKD ks vs x).1 (dropKD ks vs x).2 ∧ (dropKD ks vs x).1.length ≤ ks.length ∧ (∀ y, y ∈ (dropKD ks vs x).1 → y ∈ ks ∧ y ≠ x) ∧ ∀ y, lookD (dropKD ks vs x).1 (dropKD ks vs x).2 y = if x = y then none else lookD ks vs y
  | [], [], _ => by
    refine ⟨⟨List.nodup_nil, rfl⟩, Nat.le_refl _, fun y h => (List.not_mem_nil h).elim, fun y => ?_⟩
    show (none : Option D) = if x = y then none else none
    split <;> rfl
  | [], _ :: _, h => by cases h.len
  | _ :: _, [], h => by cases h.len
  | k :: ks, d :: vs, h => by
    have nd := h.nd
    rw [List.nodup_cons] at nd
    obtain ⟨d1, d2, d3, d4⟩ := drop_all (x := x) (ks := ks) (vs := vs) ⟨nd.2, by simpa using h.len⟩
    unfold dropKD
    by_cases e : k = x
    · simp only [e, if_true]
      refine ⟨d1, by rw [List.length_cons]; omega, fun y hy => ⟨List.mem_cons_of_mem _ (d3 y hy).1, (d3 y hy).2⟩, fun y => ?_⟩
      rw [d4 y]
      show _ = if x = y then none else if x = y then some d else lookD ks vs y
      by_cases q : x = y
      · rw [if_pos q, if_pos q]
      · rw [if_neg q, if_neg q, if_neg q]
    · simp only [e, if_false]
      refine ⟨⟨List.nodup_cons.mpr ⟨fun z => nd.1 (d3 k z).1, d1.nd⟩, by simp [d1.len]⟩, by rw [List.length_cons, List.length_cons]; omega, fun y hy => ?_, fun y => ?_⟩
      · rcases List.mem_cons.mp hy with z | z
        · rw [z]
          exact ⟨List.mem_cons_self, e⟩
        · exact ⟨List.mem_cons_of_mem _ (d3 y z).1, (d3 y z).2⟩
      · show (if k = y then some d else lookD (dropKD ks vs x).1 (dropKD ks vs x).2 y) = if x = y then none else if k = y then some d else lookD ks vs y
        rw [d4 y]
        by_cases q : k = y
        · rw [if_pos q, if_pos q, if_neg fun z => e (q.trans z.symm)]
        · rw [if_neg q, if_neg q]
/-! ### an order by free choices -/
def kd (d : Nat) : Key := .inr (mkS [48 + d])
theorem kd_inj {a b : Nat} (h : kd a = kd b) : a = b := by
  have := mkS_inj (Sum.inr.inj h)
  simp at this
  exact this
def placesD (ps : Progs) (o : List Nat) : List D := (List.range ps.length).map fun p => natD (o.count p)
structure OkPs (ps : Progs) : Prop where
  ok : ∀ pr ∈ ps, okP pr
  r : ∀ pr ∈ ps, inR 6 pr
  len : ps.length ≤ 100
  short : ∀ pr ∈ ps, pr.length ≤ 1000
/-- the dict of holders tells what is held -/
structure Holds (ps : Progs) (o : List Nat) (ks : List Key) (vs : List D) : Prop where
  dic : Dic ks vs
  small : ks.length ≤ o.length
  at_ : ∀ d, (lookD ks vs (kd d)).isSome = true ↔ ∃ p, p < ps.length ∧ heldBy (doneP ps o p) d
theorem holds_nil {ps : Progs} : Holds ps [] [] [] := by
  refine ⟨⟨List.nodup_nil, rfl⟩, Nat.le_refl _, fun d => ⟨fun h => (by cases h), fun ⟨p, _, h⟩ => ?_⟩⟩
  unfold heldBy doneP at h
  simp at h
  cases h
theorem free_of {ps : Progs} {o : List Nat} {ks : List Key} {vs : List D} (H : Holds ps o ks vs) (d : Nat) : lookD ks vs (kd d) = none ↔ isFree ps o d := by
  have := H.at_ d
  constructor
  · intro h p hp hh
    rw [h] at this
    have := this.mpr ⟨p, hp, hh⟩
    cases this
  · intro h
    cases q : lookD ks vs (kd d) with
    | none => rfl
    | some v =>
      rw [q] at this
      obtain ⟨p, hp, hh⟩ := this.mp rfl
      exact absurd hh (h p hp)
/-- what is held behind one more step -/
theorem held_snoc {ps : Progs} (P : OkPs ps) {o : List Nat} {p : Nat} {s : Step} (hs : nextS ps o p = some s) (d q : Nat) : heldBy (doneP ps (o ++ [p]) q) d ↔ if q = p ∧ s.2 = d then s.1 = true else heldBy (doneP ps o q) d := by
  obtain ⟨pr, e1, e2, hx, e3⟩ := next_some hs
  have okx := done_ok P.ok (o ++ [p]) p
  rw [e3] at okx
  have pj := (okP_snoc (okP_pre okx)).mp okx
  by_cases e : p = q
  · subst e
    unfold heldBy
    rw [e3, proj_app, proj_one]
    by_cases ed : s.2 = d
    · subst ed
      rw [if_pos rfl, if_pos ⟨rfl, rfl⟩, pj]
      obtain ⟨b, i⟩ := s
      cases b <;> simp
    · rw [if_neg ed, List.append_nil, if_neg fun z => ed z.2]
  · rw [done_ne e, if_neg fun z => e z.1.symm]
theorem holds_lock {ps : Progs} (P : OkPs ps) {o : List Nat} {p d : Nat} {ks : List Key} {vs : List D} {v : D} (H : Holds ps o ks vs) (hs : nextS ps o p = some (true, d)) : Holds ps (o ++ [p]) (putKD ks vs (kd d) v).1 (putKD ks vs (kd d) v).2 := by
  obtain ⟨pr, e1, e2, hx, e3⟩ := next_some hs
  refine ⟨put_nd H.dic, ?_, fun d' => ?_⟩
  · have := (put_len (x := kd d) (v := v) H.dic.len).2
    have := H.small
    rw [List.length_append, List.length_singleton]
    omega
  · rw [look_put H.dic.len]
    by_cases e : kd d = kd d'
    · rw [if_pos e]
      have := kd_inj e
      subst this
      exact ⟨fun _ => ⟨p, hx, (held_snoc P hs d p).mpr (by rw [if_pos ⟨rfl, rfl⟩])⟩, fun _ => rfl⟩
    · rw [if_neg e, H.at_ d']
      have ne : d ≠ d' := fun z => e (by rw [z])
      constructor
      · rintro ⟨q, h1, h2⟩
        exact ⟨q, h1, (held_snoc P hs d' q).mpr (by rw [if_neg fun z => ne z.2]; exact h2)⟩
      · rintro ⟨q, h1, h2⟩
        have := (held_snoc P hs d' q).mp h2
        rw [if_neg fun z => ne z.2] at this
        exact ⟨q, h1, this⟩
theorem holds_release {ps : Progs} (P : OkPs ps) {o : List Nat} {p d : Nat} {ks : List Key} {vs : List D} (hl : legal ps o) (H : Holds ps o ks vs) (hs : nextS ps o p = some (false, d)) : Holds ps (o ++ [p]) (dropKD ks vs (kd d)).1 (dropKD ks vs (kd d)).2 ∧ ∃ v, lookD ks vs (kd d) = some v := by
  obtain ⟨pr, e1, e2, hx, e3⟩ := next_some hs
  have okx := done_ok P.ok (o ++ [p]) p
  rw [e3] at okx
  have pj : proj (doneP ps o p) d = [true] := (okP_snoc (okP_pre okx)).mp okx
  obtain ⟨d1, d2, d3, d4⟩ := drop_all (x := kd d) H.dic
  refine ⟨⟨d1, ?_, fun d' => ?_⟩, ?_⟩
  · have := H.small
    rw [List.length_append, List.length_singleton]
    omega
  · rw [d4]
    by_cases e : kd d = kd d'
    · rw [if_pos e]
      have := kd_inj e
      subst this
      refine ⟨fun h => (by cases h), fun ⟨q, h1, h2⟩ => ?_⟩
      have := (held_snoc P hs d q).mp h2
      by_cases e : q = p
      · rw [if_pos ⟨e, rfl⟩] at this
        cases this
      · rw [if_neg fun z => e z.1] at this
        exact absurd (one_holds P.ok o hl d q p h1 hx this pj) e
    · rw [if_neg e, H.at_ d']
      have ne : d ≠ d' := fun z => e (by rw [z])
      constructor
      · rintro ⟨q, h1, h2⟩
        exact ⟨q, h1, (held_snoc P hs d' q).mpr (by rw [if_neg fun z => ne z.2]; exact h2)⟩
      · rintro ⟨q, h1, h2⟩
        have := (held_snoc P hs d' q).mp h2
        rw [if_neg fun z => ne z.2] at this
        exact ⟨q, h1, this⟩
  · have := (H.at_ d).mpr ⟨p, hx, pj⟩
    cases q : lookD ks vs (kd d) with
    | none => rw [q] at this; cases this
    | some v => exact ⟨v, rfl⟩
theorem places_get {ps : Progs} {o : List Nat} {p : Nat} (h : p < ps.length) : atI (placesD ps o) (p : Int) = some (natD (o.count p)) := by
  rw [atI_get? (by omega)]
  unfold placesD
  simp [h]
theorem places_put {ps : Progs} {o : List Nat} {p : Nat} (h : p < ps.length) : (placesD ps o).set p (natD (o.count p + 1)) = placesD ps (o ++ [p]) := by
  refine List.ext_getElem? fun i => ?_
  unfold placesD
  by_cases hi : i < ps.length
  · by_cases e : p = i
    · subst e
      rw [List.getElem?_set_self (by simpa using hi)]
      simp [hi]
    · rw [List.getElem?_set_ne e]
      simp [hi, count_snoc, e]
  · rw [List.getElem?_eq_none (by simp; omega), List.getElem?_eq_none (by simp; omega)]
theorem prog_get {ps : Progs} {p : Nat} {pr : List Step} (h : ps[p]? = some pr) : atI (ps.map fun p => D.lst (p.map stD)) (p : Int) = some (.lst (pr.map stD)) := by
  rw [atI_get? (by omega)]
  simp [h]
theorem step_get {pr : List Step} {n : Nat} {s : Step} (h : pr[n]? = some s) : atI (pr.map stD) (n : Int) = some (stD s) := by
  rw [atI_get? (by omega)]
  simp [h]
end DL
set_option Elab.async false
set_option linter.all false
set_option maxRecDepth 100000
namespace DL
open PySem L2
section
variable {N : Env → Prop} {T : Out → Prop} {ρ : Env} {fe fi : Env → R D} {d : D} {k : Nat}
theorem wp_putL {ds : List D} {j : Nat} (hk : ρ[k]? = some (some (.lst ds))) (e : fe ρ = .ok d) (ei : fi ρ = .ok (.int (j : Int))) (hj : j < ds.length) (h : N (ρ.set k (some (.lst (ds.set j d))))) : wpO N T (fPut k fe fi ρ) := by
  unfold fPut
  rw [e, s_stE_ok]
  show wpO N T (match ρ[k]? with | some (some c) => if isTop c = true then stE (fi ρ) ρ fun a => (match putD c a d with | some c' => .nx (ρ.set k (some c')) | none => .stuck) else .stuck | _ => .stuck)
  rw [hk]
  show wpO N T (if isTop (.lst ds) = true then stE (fi ρ) ρ fun a => (match putD (.lst ds) a d with | some c' => .nx (ρ.set k (some c')) | none => .stuck) else .stuck)
  rw [if_pos (show isTop (.lst ds) = true from rfl), ei, s_stE_ok]
  have : putD (.lst ds) (.int (j : Int)) d = some (.lst (ds.set j d)) := by
    show (ixN ds.length (j : Int)).map (fun j => D.lst (ds.set j d)) = _
    unfold ixN
    rw [if_pos (by omega), if_pos (by omega)]
    simp
  rw [this]
  exact ⟨h⟩
theorem wp_putK {ks : List Key} {vs : List D} {a : D} {x : Key} (hk : ρ[k]? = some (some (.dk ks vs))) (e : fe ρ = .ok d) (ei : fi ρ = .ok a) (hx : keyOf a = some x) (dc : Dic ks vs) (hz : ks.length < 1000000) (h : N (ρ.set k (some (.dk (putKD ks vs x d).1 (putKD ks vs x d).2)))) : wpO N T (fPut k fe fi ρ) := by
  unfold fPut
  rw [e, s_stE_ok]
  show wpO N T (match ρ[k]? with | some (some c) => if isTop c = true then stE (fi ρ) ρ fun a => (match putD c a d with | some c' => .nx (ρ.set k (some c')) | none => .stuck) else .stuck | _ => .stuck)
  rw [hk]
  show wpO N T (if isTop (.dk ks vs) = true then stE (fi ρ) ρ fun a => (match putD (.dk ks vs) a d with | some c' => .nx (ρ.set k (some c')) | none => .stuck) else .stuck)
  rw [if_pos (show isTop (.dk ks vs) = true from rfl), ei, s_stE_ok]
  have : putD (.dk ks vs) a d = some (.dk (putKD ks vs x d).1 (putKD ks vs x d).2) := by
    show (keyOf a).bind _ = _
    rw [hx, Option.bind_some, if_pos ⟨by rw [size_eq]; omega, dc.len, dc.nd⟩]
  rw [this]
  exact ⟨h⟩
theorem wp_dpop {ks : List Key} {vs : List D} {a v : D} {x : Key} (hk : ρ[k]? = some (some (.dk ks vs))) (e : fe ρ = .ok a) (hx : keyOf a = some x) (hv : lookD ks vs x = some v) (h : N (ρ.set k (some (.dk (dropKD ks vs x).1 (dropKD ks vs x).2)))) : wpO N T (fDropM (fDPop k fe) ρ) := by
  rw [s_fDropM]
  unfold fDPop
  rw [hk]
  show wpO N T (stM ((fe ρ).bind fun a => (match keyOf a with | some k2 => (match lookD ks vs k2 with | some d => let r := dropKD ks vs k2; .ok (d, ρ.set k (some (.dk r.1 r.2))) | none => .stuck) | none => .stuck)) ρ fun _ ρ' => .nx ρ')
  rw [e, s_bind_ok, hx]
  show wpO N T (stM (match lookD ks vs x with | some d => let r := dropKD ks vs x; .ok (d, ρ.set k (some (.dk r.1 r.2))) | none => .stuck) ρ fun _ ρ' => .nx ρ')
  rw [hv]
  exact ⟨h⟩
end
theorem lst_ne {xs : List Nat} : gNe (.lst (xs.map natD)) (.lst []) = some (.bl (!decide (xs = []))) := by
  have hd : isDataL 59 (xs.map natD) = true := by
    rw [isDataL_all, List.all_eq_true]
    intro d hd
    obtain ⟨s, _, rfl⟩ := List.mem_map.mp hd
    rfl
  unfold gNe
  rw [if_pos ⟨hd, rfl⟩]
  cases xs with
  | nil => simp [deq, D.pd, D.pdL, PyData.eqv, PyData.eqvAll]
  | cons x xs => simp [deq, D.pd, D.pdL, PyData.eqv, PyData.eqvAll]
theorem ftrue {α : Type} {l : List α} : l.filter (fun _ => true) = l := List.filter_eq_self.mpr (by simp)
theorem zeros {ps : Progs} : ps.map (fun _ => D.int 0) = placesD ps [] := by
  unfold placesD natD
  refine List.ext_getElem? fun i => ?_
  by_cases h : i < ps.length
  · simp [h]
  · rw [List.getElem?_eq_none (by simp; omega), List.getElem?_eq_none (by simp; omega)]
theorem next_lt {ps : Progs} {o : List Nat} {p : Nat} {pr : List Step} (h : ps[p]? = some pr) : (∃ s, nextS ps o p = some s) ↔ o.count p < pr.length := by
  unfold nextS
  rw [h, Option.bind_some]
  constructor
  · rintro ⟨s, e⟩
    exact (List.getElem?_eq_some_iff.mp e).1
  · intro e
    exact ⟨_, List.getElem?_eq_getElem e⟩
open Classical in
theorem F_order {ps : Progs} (P : OkPs ps) {ns : List Int} (hn : ns.length ≤ 1000) : ∃ o, F__law_order [progsD ps, .lst (ns.map .int)] = .ok (.lst (o.map natD)) ∧ legal ps o ∧ o.length ≤ ns.length := by
  unfold F__law_order
  have hlen := P.len
  refine run_wp (P := fun r => ∃ o, r = .ok (.lst (o.map natD)) ∧ legal ps o ∧ o.length ≤ ns.length) ?_
  refine wp_seq (wp_asgF (d := .lst (placesD ps [])) ?_ (by simp) ?_)
  · have c := compL_map (ft := gtName 8) (tt := fYes) (fe := fun _ => .ok (.int 0)) (ρ := [some (progsD ps), some (.lst (ns.map .int)), none, none, none, none, none, none, none, none]) (fun p : List Step => D.lst (p.map stD)) (fun _ => true) (fun _ => D.int 0) ps (fun x _ => ⟨_, rfl, rfl, fun _ => rfl⟩)
    rw [ftrue, zeros] at c
    simp [progsD] at c ⊢
    rw [c, lc_fin (by unfold placesD; simp; omega)]
  refine wp_seq (wp_asgF (d := .dk [] []) rfl (by simp) ?_)
  refine wp_seq (wp_asgF (d := .lst []) (by simp) (by simp) ?_)
  refine wp_seq (wp_for D.int (fun pre ρ => ∃ (o : List Nat) (ks : List Key) (vs : List D) (x5 x6 x7 x8 x9 : Option D), ρ = [some (progsD ps), some (.lst (ns.map .int)), some (.lst (placesD ps o)), some (.dk ks vs), some (.lst (o.map natD)), x5, x6, x7, x8, x9] ∧ legal ps o ∧ Holds ps o ks vs ∧ o.length ≤ pre.length) (xs := ns) (by simp)
    ⟨[], [], [], none, none, none, none, none, rfl, legal_nil, holds_nil, Nat.le_refl _⟩ ?_ ?_)
  · rintro pre x post ρ e ⟨o, ks, vs, x5, x6, x7, x8, x9, rfl, hl, H, hol⟩
    have hpl : o.length < 1000 := by
      have := congrArg List.length e
      simp at this
      omega
    refine ⟨_, rfl, ?_⟩
    refine wp_seq (wp_asgF (d := .lst []) (by simp) (by simp) ?_)
    refine wp_seq (wp_for natD (fun pre2 ρ => ∃ (x7 x8 x9 : Option D), ρ = [some (progsD ps), some (.lst (ns.map .int)), some (.lst (placesD ps o)), some (.dk ks vs), some (.lst (o.map natD)), some (.int x), some (.lst ((pre2.filter fun p => decide (may ps o p)).map natD)), x7, x8, x9]) (xs := List.range ps.length) ?_ ⟨x7, x8, x9, rfl⟩ ?_ ?_)
    · simp [progsD, rngN (show ps.length < 1000000 by omega)]
    · rintro pre2 p post2 ρ e2 ⟨x7, x8, x9, rfl⟩
      have hp : p < ps.length := by
        have : p ∈ List.range ps.length := by rw [e2]; simp
        exact List.mem_range.mp this
      obtain ⟨pr, hpr⟩ : ∃ pr, ps[p]? = some pr := ⟨_, List.getElem?_eq_getElem hp⟩
      have g1 := prog_get hpr
      have g2 := places_get (o := o) hp
      refine ⟨_, rfl, ?_⟩
      have hlp : gLt (natD (o.count p)) (.int (pr.length : Int)) = some (.bl (decide (o.count p < pr.length))) := by
        show gCmpI _ (.int _) (.int _) = _
        rw [s_cmpI]
        congr 2
        exact decide_eq_decide.mpr (by omega)
      have fin : ∀ x8 x9 : Option D, (decide (may ps o p) = false) → (fun ρ => ∃ (x7 x8 x9 : Option D), ρ = [some (progsD ps), some (.lst (ns.map .int)), some (.lst (placesD ps o)), some (.dk ks vs), some (.lst (o.map natD)), some (.int x), some (.lst (((pre2 ++ [p]).filter fun p => decide (may ps o p)).map natD)), x7, x8, x9])
          [some (progsD ps), some (.lst (ns.map .int)), some (.lst (placesD ps o)), some (.dk ks vs), some (.lst (o.map natD)), some (.int x), some (.lst ((pre2.filter fun p => decide (may ps o p)).map natD)), some (natD p), x8, x9] := fun x8 x9 h => by
        refine ⟨some (natD p), x8, x9, ?_⟩
        rw [List.filter_append, List.filter_cons_of_neg (by rw [h]; exact Bool.false_ne_true), List.filter_nil, List.append_nil]
      refine wp_if (b := decide (o.count p < pr.length)) ?_ (fun hb => ?_) fun hb => ?_
      · have q : atI (List.map (fun p => D.lst (List.map stD p)) ps) (p : Int) = some (.lst (pr.map stD)) := g1
        simp [progsD, natD, g1, g2] at hlp ⊢
      · have hc : o.count p < pr.length := of_decide_eq_true hb
        obtain ⟨s, hs⟩ := (next_lt (o := o) hpr).mpr hc
        obtain ⟨pr', e1, e2', _, _⟩ := next_some hs
        rw [hpr] at e1
        cases e1
        have g3 := step_get e2'
        refine wp_seq (wp_asg (d := stD s) ?_ ?_)
        · simp [progsD, natD, g1, g2, g3] at g1 g2 g3 ⊢
        obtain ⟨b, i⟩ := s
        have hi6 : i < 6 := P.r pr (List.mem_of_getElem? hpr) (b, i) (List.mem_of_getElem? e2')
        have d1 : gIx (stD (b, i)) (.int 1) = some (.str [48 + i]) := ixS (n := 1) (by simp [stL]) rfl
        have d0 : gIx (stD (b, i)) (.int 0) = some (.str [if b then 43 else 45]) := ixS (n := 0) (by simp [stL]) rfl
        have hin : gIn5 true (.str [48 + i]) (.dk ks vs) = some (.bl (decide (isFree ps o i))) := by
          have e0 : gIn5 true (.str [48 + i]) (.dk ks vs) = some (.bl (!(lookD ks vs (kd i)).isSome)) := rfl
          rw [e0]
          congr 2
          have := free_of H i
          by_cases q : isFree ps o i
          · rw [this.mpr q, decide_eq_true q]
            rfl
          · rw [decide_eq_false q]
            cases z : lookD ks vs (kd i) with
            | none => exact absurd (this.mp z) q
            | some v => rfl
        have hmay : decide (may ps o p) = (!b || decide (isFree ps o i)) := by
          cases b
          · exact decide_eq_true ⟨_, hs, fun z => by cases z⟩
          · by_cases q : isFree ps o i
            · rw [decide_eq_true q]
              exact decide_eq_true ⟨_, hs, fun _ => q⟩
            · rw [decide_eq_false q]
              refine decide_eq_false fun ⟨s, h1, h2⟩ => ?_
              rw [hs] at h1
              cases h1
              exact q (h2 rfl)
        refine wp_if (b := !b || decide (isFree ps o i)) ?_ (fun hq => ?_) fun hq => ?_
        · cases b
          · simp [d0]
          · simp [d0, d1, hin]
        · refine wp_app (ds := (pre2.filter fun p => decide (may ps o p)).map natD) (d := natD p) rfl rfl ?_ ⟨some (natD p), x8, some (stD (b, i)), ?_⟩
          · have h1 := List.length_filter_le (fun p => decide (may ps o p)) pre2
            have h2 := congrArg List.length e2
            rw [List.length_map]
            simp at h2
            omega
          · rw [List.filter_append, List.filter_cons_of_pos (by rw [hmay]; exact hq), List.filter_nil, List.map_append]
            rfl
        · exact wp_next (fin x8 (some (stD (b, i))) (by rw [hmay]; exact hq))
      · refine wp_next (fin x8 x9 ?_)
        refine decide_eq_false fun ⟨s, hs, _⟩ => ?_
        have := (next_lt (o := o) hpr).mp ⟨s, hs⟩
        rw [decide_eq_true this] at hb
        cases hb
    · rintro ρ ⟨x7, x8, x9, rfl⟩
      generalize hrd : (List.range ps.length).filter (fun p => decide (may ps o p)) = rd
      refine wp_if (b := !decide (rd = [])) ?_ (fun hb => ?_) fun hb => ?_
      · have := lst_ne (xs := rd)
        simp [this]
      · have hne : rd ≠ [] := by simpa using hb
        obtain ⟨k, hk, hm⟩ := ixMod (xs := rd.map natD) (m := x) (by simpa using hne)
        rw [List.length_map] at hk hm
        have hs := List.getElem?_eq_getElem hk
        generalize rd[k] = p at hs
        have hpm : p ∈ (List.range ps.length).filter (fun p => decide (may ps o p)) := by
          rw [hrd]
          exact List.mem_of_getElem? hs
        rw [List.mem_filter, List.mem_range] at hpm
        have hp := hpm.1
        have hmay : may ps o p := of_decide_eq_true hpm.2
        obtain ⟨⟨b, i⟩, hn1, hn2⟩ := hmay
        obtain ⟨pr, e1, e2, _, _⟩ := next_some hn1
        have hi6 : i < 6 := P.r pr (List.mem_of_getElem? e1) (b, i) (List.mem_of_getElem? e2)
        have d1 : gIx (stD (b, i)) (.int 1) = some (.str [48 + i]) := ixS (n := 1) (by simp [stL]) rfl
        have d0 : gIx (stD (b, i)) (.int 0) = some (.str [if b then 43 else 45]) := ixS (n := 0) (by simp [stL]) rfl
        have hix : atI (rd.map natD) (k : Int) = some (natD p) := by
          rw [atI_get? (by omega)]
          simp [hs]
        have g1 := prog_get e1
        have g2 := places_get (o := o) hp
        have g3 := step_get e2
        refine wp_seq (wp_asg (d := natD p) ?_ ?_)
        · simp [hm, hix]
        refine wp_seq (wp_asg (d := stD (b, i)) ?_ ?_)
        · simp [progsD, natD, g1, g2, g3] at g1 g2 g3 ⊢
        refine wp_seq (wp_putL (ds := placesD ps o) (j := p) (d := natD (o.count p + 1)) rfl ?_ rfl (by unfold placesD; simpa using hp) ?_)
        · simp [natD, g2] at g2 ⊢
        rw [places_put hp]
        refine wp_seq (wp_app (ds := o.map natD) (d := natD p) rfl rfl (by rw [List.length_map]; omega) ?_)
        have hl2 : legal ps (o ++ [p]) := legal_snoc.mpr ⟨hl, _, hn1, hn2⟩
        refine wp_if (b := !b) ?_ (fun hq => ?_) fun hq => ?_
        · cases b <;> simp [d0]
        · have : b = false := by simpa using hq
          subst this
          obtain ⟨H2, v, hv⟩ := holds_release P hl H hn1
          refine wp_dpop (ks := ks) (vs := vs) (a := .str [48 + i]) (x := kd i) rfl ?_ rfl hv ⟨o ++ [p], _, _, some (.int x), some (.lst (rd.map natD)), some (natD p), x8, some (stD (false, i)), ?_, hl2, H2, ?_⟩
          · simp [d1]
          · rw [List.map_append]
            rfl
          · rw [List.length_append, List.length_append]
            exact Nat.add_le_add_right hol 1
        · have : b = true := by simpa using hq
          subst this
          have H2 := holds_lock P (v := natD p) H hn1
          refine wp_putK (ks := ks) (vs := vs) (a := .str [48 + i]) (d := natD p) (x := kd i) rfl rfl ?_ rfl H.dic (by have := H.small; omega) ⟨o ++ [p], _, _, some (.int x), some (.lst (rd.map natD)), some (natD p), x8, some (stD (true, i)), ?_, hl2, H2, ?_⟩
          · simp [d1]
          · rw [List.map_append]
            rfl
          · rw [List.length_append, List.length_append]
            exact Nat.add_le_add_right hol 1
      · refine wp_next ⟨o, ks, vs, some (.int x), some (.lst (rd.map natD)), x7, x8, x9, rfl, hl, H, ?_⟩
        rw [List.length_append]
        omega
  · rintro ρ ⟨o, ks, vs, x5, x6, x7, x8, x9, rfl, hl, H, hol⟩
    exact wp_ret (d := .lst (o.map natD)) (by simp) ⟨o, rfl, hl, hol⟩
end DL
set_option Elab.async false
set_option linter.all false
set_option maxRecDepth 100000
namespace DL
open PySem L2
def mkD (f : Nat → List Step) (n : Nat) : List D := (List.range n).map fun p => .lst ((f p).map stD)
theorem mkD_get {f : Nat → List Step} {n p : Nat} (h : p < n) : atI (mkD f n) (p : Int) = some (.lst ((f p).map stD)) := by
  rw [atI_get? (by omega)]
  unfold mkD
  simp [h]
theorem mkD_set {f g : Nat → List Step} {n p : Nat} {x : List Step} (hp : p < n) (h1 : g p = x) (h2 : ∀ q, q ≠ p → g q = f q) : (mkD f n).set p (.lst (x.map stD)) = mkD g n := by
  refine List.ext_getElem? fun i => ?_
  unfold mkD
  by_cases hi : i < n
  · by_cases e : p = i
    · subst e
      rw [List.getElem?_set_self (by simpa using hi)]
      simp [hi, h1]
    · rw [List.getElem?_set_ne e]
      simp [hi, h2 i (Ne.symm e)]
  · rw [List.getElem?_eq_none (by simp; omega), List.getElem?_eq_none (by simp; omega)]
theorem mkD_len {f : Nat → List Step} {n : Nat} : (mkD f n).length = n := by unfold mkD; simp
theorem done_len {ps : Progs} {o : List Nat} {p : Nat} {s : Step} (h : nextS ps o p = some s) : (doneP ps o p).length = o.count p := by
  obtain ⟨pr, h1, h2, _, _⟩ := next_some h
  unfold doneP
  rw [List.getD_eq_getElem?_getD, h1, List.length_take]
  have := (List.getElem?_eq_some_iff.mp h2).1
  simp
  omega
theorem done_short {ps : Progs} (P : OkPs ps) {o : List Nat} {p : Nat} : (doneP ps o p).length ≤ 1000 := by
  unfold doneP
  rw [List.length_take, List.getD_eq_getElem?_getD]
  cases h : ps[p]? with
  | none => simp
  | some pr =>
    have := P.short pr (List.mem_of_getElem? h)
    simp
    omega
theorem done_in {ps : Progs} {n : Nat} (r : ∀ pr ∈ ps, inR n pr) {o : List Nat} {p : Nat} : inR n (doneP ps o p) := fun s hs => by
  unfold doneP at hs
  have := List.mem_of_mem_take hs
  rw [List.getD_eq_getElem?_getD] at this
  cases h : ps[p]? with
  | none => rw [h] at this; simp at this
  | some pr =>
    rw [h] at this
    exact r pr (List.mem_of_getElem? h) s this
def endsP (n : Nat) (ps : Progs) (o : List Nat) (p : Nat) : List Step := endsOf n (doneP ps o p)
def closeP (n : Nat) (ps : Progs) (o : List Nat) (p : Nat) : List Step := doneP ps o p ++ endsP n ps o p
def tailO (n : Nat) (ps : Progs) (o : List Nat) (l : List Nat) : List Nat := (l.map fun p => List.replicate (endsP n ps o p).length p).flatten
def closedP (n : Nat) (ps : Progs) (o : List Nat) : Progs := (List.range ps.length).map (closeP n ps o)
theorem tail_snoc {n : Nat} {ps : Progs} {o l : List Nat} {p : Nat} : tailO n ps o (l ++ [p]) = tailO n ps o l ++ List.replicate (endsP n ps o p).length p := by
  unfold tailO
  simp
theorem tail_len {n : Nat} {ps : Progs} {o : List Nat} : ∀ l : List Nat, (tailO n ps o l).length ≤ n * l.length
  | [] => by simp [tailO]
  | p :: l => by
    have := tail_len (n := n) (ps := ps) (o := o) l
    have e := ends_len (n := n) (pr := doneP ps o p)
    show ((List.replicate (endsP n ps o p).length p) ++ tailO n ps o l).length ≤ _
    rw [List.length_append, List.length_replicate, List.length_cons]
    unfold endsP
    rw [Nat.mul_add]
    omega
theorem reps_lc {es : List Step} {p : Nat} {ρ : Env} {k j : Nat} (hk : ∀ d, getE (ρ.set k (some d)) j = .ok (natD p)) : compL (gtName k) fYes (fun ρ => getE ρ j) ρ (es.map stD) = some ((List.replicate es.length p).map natD) := by
  rw [compL_map stD (fun _ => true) (fun _ => natD p) es fun x _ => ⟨_, rfl, rfl, fun _ => hk _⟩, ftrue]
  rw [List.map_replicate]
  congr 1
  induction es with
  | nil => rfl
  | cons e es ih => rw [List.map_cons, ih, List.length_cons, List.replicate_succ]
theorem F_closed {n : Nat} (h6 : n ≤ 6) {ps : Progs} (P : OkPs ps) (r : ∀ pr ∈ ps, inR n pr) {o : List Nat} (hl : legal ps o) (ho : o.length ≤ 1000) :
    F__law_closed [.int n, progsD ps, .lst (o.map natD)] = .ok (.tup [progsD (closedP n ps o), .lst ((o ++ tailO n ps o (List.range ps.length)).map natD)]) := by
  unfold F__law_closed
  have hlen := P.len
  have ht := tail_len (n := n) (ps := ps) (o := o) (List.range ps.length)
  rw [List.length_range] at ht
  have hnl : n * ps.length ≤ 6 * 100 := Nat.mul_le_mul h6 hlen
  refine run_wp (P := fun r => r = .ok (.tup [progsD (closedP n ps o), .lst ((o ++ tailO n ps o (List.range ps.length)).map natD)])) ?_
  refine wp_seq (wp_asgF (d := .lst (mkD (doneP ps []) ps.length)) ?_ (by simp) ?_)
  · have c := compL_map (ft := gtName 7) (tt := fYes) (fe := fLst fNil) (ρ := [some (.int n), some (progsD ps), some (.lst (o.map natD)), none, none, none, none, none, none]) (fun p : List Step => D.lst (p.map stD)) (fun _ => true) (fun _ => D.lst []) ps (fun x _ => ⟨_, rfl, rfl, fun _ => by simp⟩)
    rw [ftrue, show ps.map (fun _ => D.lst []) = mkD (doneP ps []) ps.length from ?_] at c
    · simp [progsD] at c ⊢
      rw [c, lc_fin (by rw [mkD_len]; omega)]
    · refine List.ext_getElem? fun i => ?_
      unfold mkD doneP
      by_cases h : i < ps.length
      · simp [h]
      · rw [List.getElem?_eq_none (by simp; omega), List.getElem?_eq_none (by simp; omega)]
  refine wp_seq (wp_asg (d := .lst (o.map natD)) (by simp) ?_)
  refine wp_seq (wp_for natD (fun pre ρ => ∃ x5 : Option D, ρ = [some (.int n), some (progsD ps), some (.lst (o.map natD)), some (.lst (mkD (doneP ps pre) ps.length)), some (.lst (o.map natD)), x5, none, none, none]) (xs := o) (by simp) ⟨none, rfl⟩ ?_ ?_)
  · rintro pre p post ρ e ⟨x5, rfl⟩
    obtain ⟨s, hs, _⟩ := hl pre p post e
    obtain ⟨pr, e1, e2, hp, e3⟩ := next_some hs
    have g0 := mkD_get (f := doneP ps pre) hp
    have g1 := prog_get e1
    have g3 := step_get e2
    have dl := done_len hs
    have ds := done_short P (o := pre) (p := p)
    refine ⟨_, rfl, ?_⟩
    refine wp_putL (ds := mkD (doneP ps pre) ps.length) (j := p) (d := .lst ((doneP ps pre p ++ [s]).map stD)) rfl ?_ rfl (by rw [mkD_len]; exact hp) ⟨some (natD p), ?_⟩
    · have ha : gAdd (.lst ((doneP ps pre p).map stD)) (.lst [stD s]) = some (.lst ((doneP ps pre p ++ [s]).map stD)) := by
        rw [addL (by simp; omega), List.map_append]
        rfl
      simp [progsD, natD, g0, g1, dl, g3] at g0 g1 g3 ha ⊢
      simp [g0, g1, dl, g3, ha]
    · show [some (D.int n), some (progsD ps), some (.lst (o.map natD)), some (.lst ((mkD (doneP ps pre) ps.length).set p _)), some (.lst (o.map natD)), some (natD p), none, none, none] = _
      rw [mkD_set (g := doneP ps (pre ++ [p])) hp e3 fun q hq => done_ne (Ne.symm hq)]
  · rintro ρ ⟨x5, rfl⟩
    refine wp_seq (wp_for natD (fun pre ρ => ∃ x5 x6 : Option D, ρ = [some (.int n), some (progsD ps), some (.lst (o.map natD)), some (.lst (mkD (fun q => if q ∈ pre then closeP n ps o q else doneP ps o q) ps.length)), some (.lst ((o ++ tailO n ps o pre).map natD)), x5, x6, none, none]) (xs := List.range ps.length) ?_ ⟨x5, none, ?_⟩ ?_ ?_)
    · simp [mkD_len, rngN (show ps.length < 1000000 by omega)]
    · simp [tailO]
    · rintro pre p post ρ e ⟨x5, x6, rfl⟩
      have hp : p < ps.length := by
        have : p ∈ List.range ps.length := by rw [e]; simp
        exact List.mem_range.mp this
      have hnm : p ∉ pre := by
        have nd : (List.range ps.length).Nodup := List.nodup_range
        rw [e, List.nodup_append] at nd
        exact fun z => nd.2.2 p z p List.mem_cons_self rfl
      have hpl : (tailO n ps o pre).length ≤ n * pre.length := tail_len pre
      have hpre : pre.length ≤ 100 := by
        have := congrArg List.length e
        simp at this
        omega
      have hnp : n * pre.length ≤ 6 * 100 := Nat.mul_le_mul h6 hpre
      have el := ends_len (n := n) (pr := doneP ps o p)
      have okd := done_ok P.ok o p
      have g0 : atI (mkD (fun q => if q ∈ pre then closeP n ps o q else doneP ps o q) ps.length) (p : Int) = some (.lst ((doneP ps o p).map stD)) := by
        rw [mkD_get hp, if_neg hnm]
      have ds := done_short P (o := o) (p := p)
      have h1 := F_state_after h6 okd (done_in r (o := o) (p := p))
      have h2 := F_ends h6 okd
      refine ⟨_, rfl, ?_⟩
      refine wp_seq (wp_asg (d := .lst ((endsP n ps o p).map stD)) ?_ ?_)
      · simp [natD, g0, h1, h2] at g0 ⊢
        rfl
      refine wp_seq (wp_putL (ds := mkD (fun q => if q ∈ pre then closeP n ps o q else doneP ps o q) ps.length) (j := p) (d := .lst ((closeP n ps o p).map stD)) rfl ?_ rfl (by rw [mkD_len]; exact hp) ?_)
      · have ha : gAdd (.lst ((doneP ps o p).map stD)) (.lst ((endsP n ps o p).map stD)) = some (.lst ((closeP n ps o p).map stD)) := by
          rw [addL (by unfold endsP; simp; omega), ← List.map_append]
          rfl
        simp [natD, g0, ha] at g0 ⊢
      rw [mkD_set (g := fun q => if q ∈ pre ++ [p] then closeP n ps o q else doneP ps o q) hp (by simp) fun q hq => by simp [hq]]
      refine wp_asg (d := .lst ((o ++ tailO n ps o (pre ++ [p])).map natD)) ?_ ⟨some (natD p), some (.lst ((endsP n ps o p).map stD)), ?_⟩
      · have c := reps_lc (es := endsP n ps o p) (p := p) (ρ := [some (.int n), some (progsD ps), some (.lst (o.map natD)), some (.lst (mkD (fun q => if q ∈ pre ++ [p] then closeP n ps o q else doneP ps o q) ps.length)), some (.lst ((o ++ tailO n ps o pre).map natD)), some (natD p), some (.lst ((endsP n ps o p).map stD)), none, none]) (k := 8) (j := 5) (fun _ => rfl)
        have ha : gAdd (.lst ((o ++ tailO n ps o pre).map natD)) (.lst ((List.replicate (endsP n ps o p).length p).map natD)) = some (.lst ((o ++ tailO n ps o (pre ++ [p])).map natD)) := by
          rw [addL (by unfold endsP; simp; omega), ← List.map_append, tail_snoc, List.append_assoc]
        simp at c ha ⊢
        rw [c, lc_fin (by unfold endsP; simp; omega)]
        simp [ha]
      · rfl
    · rintro ρ ⟨x5, x6, rfl⟩
      refine wp_ret (d := .tup [progsD (closedP n ps o), .lst ((o ++ tailO n ps o (List.range ps.length)).map natD)]) ?_ rfl
      have e : mkD (fun q => if q ∈ List.range ps.length then closeP n ps o q else doneP ps o q) ps.length = (closedP n ps o).map fun p => D.lst (p.map stD) := by
        unfold mkD closedP
        rw [List.map_map]
        refine List.map_congr_left fun q hq => ?_
        show D.lst (List.map stD (if q ∈ List.range ps.length then closeP n ps o q else doneP ps o q)) = _
        rw [if_pos hq]
        rfl
      rw [s_fTup, s_fCons, s_getES, s_getES, s_getES, s_getE0, s_bind_ok, s_fCons, s_getES, s_getES, s_getES, s_getES, s_getE0, s_bind_ok, s_fNil, s_bind_ok, s_bind_ok, s_bind_ok, s_lenOk2, e]
      rfl
end DL
set_option Elab.async false
set_option linter.all false
set_option maxRecDepth 100000
namespace DL
open PySem L2
theorem legal_in {ps : Progs} {o : List Nat} (h : legal ps o) {p : Nat} (hp : p ∈ o) : p < ps.length := by
  obtain ⟨a, b, e⟩ := List.append_of_mem hp
  obtain ⟨s, hs, _⟩ := h a p b e
  obtain ⟨_, _, _, hx, _⟩ := next_some hs
  exact hx
theorem legal_count {ps : Progs} {p : Nat} {pr : List Step} (hp : ps[p]? = some pr) : ∀ (o : List Nat), legal ps o → o.count p ≤ pr.length := by
  suffices H : ∀ r : List Nat, legal ps r.reverse → r.reverse.count p ≤ pr.length by
    intro o h
    have := H o.reverse (by rw [List.reverse_reverse]; exact h)
    rw [List.reverse_reverse] at this
    exact this
  intro r
  induction r with
  | nil => intro _; simp
  | cons x r ih =>
    rw [List.reverse_cons]
    intro h
    obtain ⟨h0, s, hs, _⟩ := legal_snoc.mp h
    rw [count_snoc]
    by_cases e : x = p
    · subst e
      rw [if_pos rfl]
      exact (next_lt hp).mp ⟨s, hs⟩
    · rw [if_neg e]
      exact ih h0
theorem done_count {ps : Progs} {o : List Nat} (h : legal ps o) {p : Nat} (hp : p < ps.length) : (doneP ps o p).length = o.count p := by
  have e := List.getElem?_eq_getElem hp
  have := legal_count e o h
  unfold doneP
  rw [List.getD_eq_getElem?_getD, e, List.length_take]
  simp
  omega
section
variable {n : Nat} {ps : Progs} {o : List Nat}
theorem closed_len : (closedP n ps o).length = ps.length := by unfold closedP; simp
theorem closed_get {p : Nat} (hp : p < ps.length) : (closedP n ps o)[p]? = some (closeP n ps o p) := by unfold closedP; simp [hp]
theorem count_tail {p : Nat} : ∀ {l : List Nat}, l.Nodup → (tailO n ps o l).count p = if p ∈ l then (endsP n ps o p).length else 0
  | [], _ => by simp [tailO]
  | q :: l, h => by
    rw [List.nodup_cons] at h
    have ih := count_tail (p := p) h.2
    show ((List.replicate (endsP n ps o q).length q) ++ tailO n ps o l).count p = _
    rw [List.count_append, ih, List.count_replicate]
    by_cases e : q = p
    · subst e
      rw [if_neg h.1, if_pos List.mem_cons_self]
      simp
    · rw [if_neg (by simpa using e)]
      by_cases m : p ∈ l
      · rw [if_pos m, if_pos (List.mem_cons_of_mem _ m), Nat.zero_add]
      · rw [if_neg m, if_neg fun z => (List.mem_cons.mp z).elim (fun z => e z.symm) m]
theorem whole_count (h : legal ps o) {p : Nat} (hp : p < ps.length) : (o ++ tailO n ps o (List.range ps.length)).count p = (closeP n ps o p).length := by
  rw [List.count_append, count_tail List.nodup_range, if_pos (List.mem_range.mpr hp)]
  unfold closeP
  rw [List.length_append, done_count h hp]
/-- the prefix of the order sees the same programs -/
theorem closed_done (h : legal ps o) {a b : List Nat} (e : o = a ++ b) (p : Nat) : doneP (closedP n ps o) a p = doneP ps a p := by
  by_cases hp : p < ps.length
  · have c1 := done_count h hp
    have g := List.getElem?_eq_getElem hp
    have c2 := legal_count g o h
    have hc : o.count p = a.count p + b.count p := by rw [e, List.count_append]
    unfold doneP
    rw [List.getD_eq_getElem?_getD, closed_get hp, List.getD_eq_getElem?_getD, g]
    show (closeP n ps o p).take (a.count p) = _
    unfold closeP
    rw [List.take_append_of_le_length (by omega)]
    unfold doneP
    rw [List.getD_eq_getElem?_getD, g, List.take_take]
    congr 1
    omega
  · unfold doneP
    rw [List.getD_eq_getElem?_getD, List.getElem?_eq_none (by rw [closed_len]; omega), List.getD_eq_getElem?_getD, List.getElem?_eq_none (by omega)]
theorem closed_next (h : legal ps o) {a b : List Nat} {p : Nat} (e : o = a ++ p :: b) : nextS (closedP n ps o) a p = nextS ps a p := by
  have hp := legal_in h (p := p) (by rw [e]; simp)
  have c1 := done_count h hp
  have g := List.getElem?_eq_getElem hp
  have c2 := legal_count g o h
  have hc : o.count p = a.count p + (b.count p + 1) := by rw [e, List.count_append, List.count_cons_self]
  unfold nextS
  rw [closed_get hp, g, Option.bind_some, Option.bind_some]
  unfold closeP
  rw [List.getElem?_append_left (by omega)]
  unfold doneP
  rw [List.getD_eq_getElem?_getD, g, List.getElem?_take_of_lt (by omega)]
  rfl
theorem closed_legal (h : legal ps o) : legal (closedP n ps o) (o ++ tailO n ps o (List.range ps.length)) := by
  intro x p y e
  have hin : p ∈ o ++ tailO n ps o (List.range ps.length) := by rw [e]; simp
  have hp : p < ps.length := by
    rcases List.mem_append.mp hin with z | z
    · exact legal_in h z
    · by_cases q : p < ps.length
      · exact q
      · have c := count_tail (n := n) (ps := ps) (o := o) (p := p) (l := List.range ps.length) List.nodup_range
        rw [if_neg fun w => q (List.mem_range.mp w)] at c
        exact absurd z (List.count_eq_zero.mp c)
  rcases List.append_eq_append_iff.mp e with ⟨t, e1, e2⟩ | ⟨t, e1, e2⟩
  · -- behind the order
    have hw := whole_count (n := n) h hp
    rw [e, List.count_append, List.count_cons_self] at hw
    have hx : x.count p < (closeP n ps o p).length := by omega
    have g := List.getElem?_eq_getElem hx
    refine ⟨_, by unfold nextS; rw [closed_get hp, Option.bind_some]; exact g, fun z => ?_⟩
    have c1 := done_count h hp
    have hge : (doneP ps o p).length ≤ x.count p := by rw [c1, e1, List.count_append]; omega
    unfold closeP at g
    rw [List.getElem?_append_right hge] at g
    have m := List.mem_of_getElem? g
    unfold endsP endsOf at m
    obtain ⟨i, _, q⟩ := List.mem_map.mp m
    have : ((closeP n ps o p)[x.count p]).1 = false := by
      have q2 : (false, i) = (closeP n ps o p)[x.count p] := q
      rw [← q2]
    rw [this] at z
    cases z
  · cases t with
    | nil =>
      rw [List.append_nil] at e1
      rw [List.nil_append] at e2
      have hw := whole_count (n := n) h hp
      rw [e, List.count_append, List.count_cons_self] at hw
      have hx : x.count p < (closeP n ps o p).length := by omega
      have g := List.getElem?_eq_getElem hx
      refine ⟨_, by unfold nextS; rw [closed_get hp, Option.bind_some]; exact g, fun z => ?_⟩
      have c1 := done_count h hp
      have hge : (doneP ps o p).length ≤ x.count p := by rw [c1, e1]; exact Nat.le_refl _
      unfold closeP at g
      rw [List.getElem?_append_right hge] at g
      have m := List.mem_of_getElem? g
      unfold endsP endsOf at m
      obtain ⟨i, _, q⟩ := List.mem_map.mp m
      have : ((closeP n ps o p)[x.count p]).1 = false := by
        have q2 : (false, i) = (closeP n ps o p)[x.count p] := q
        rw [← q2]
      rw [this] at z
      cases z
    | cons p' t =>
      rw [List.cons_append, List.cons.injEq] at e2
      obtain ⟨rfl, e2⟩ := e2
      obtain ⟨s, hs, hf⟩ := h x p t e1
      refine ⟨s, by rw [closed_next h e1]; exact hs, fun z q hq => ?_⟩
      rw [closed_len] at hq
      rw [closed_done h (b := p :: t) e1 q]
      exact hf z q hq
end
end DL
set_option Elab.async false
set_option linter.all false
set_option maxRecDepth 100000
namespace DL
open PySem L2
theorem F_start6 : F_start [.int 6] = .ok (.str (stOf 6 [])) := by
  unfold F_start
  refine run_wp (P := fun r => r = .ok (.str (stOf 6 []))) ?_
  have h := mulDots (n := 6) (by decide)
  refine wp_seq (wp_if (b := false) ?_ (fun h => by cases h) fun _ => wp_next ?_)
  · simp
  · exact wp_ret (d := .str (stOf 6 [])) (by simp at h ⊢; rw [h]; rfl) rfl
theorem dig_in {i : Nat} (h : i < 6) : (decide (48 + i ∈ [48, 49, 50, 51, 52, 53])) = true := by
  match i, h with
  | 0, _ => rfl
  | 1, _ => rfl
  | 2, _ => rfl
  | 3, _ => rfl
  | 4, _ => rfl
  | 5, _ => rfl
theorem F_is_step6 {s : Step} (h : s.2 < 6) : F_is_step [.int 6, stD s] = .ok (.bl true) := by
  obtain ⟨b, i⟩ := s
  have h : i < 6 := h
  have d1 : gIx (stD (b, i)) (.int 1) = some (.str [48 + i]) := ixS (n := 1) (by simp [stL]) rfl
  have d0 : gIx (stD (b, i)) (.int 0) = some (.str [if b then 43 else 45]) := ixS (n := 0) (by simp [stL]) rfl
  have l2 : gLen [stD (b, i)] = some (.int 2) := lenS (x := stL (b, i)) (by simp [stL])
  have e1 : gIn5 false (.str [if b then 43 else 45]) (.str [43, 45]) = some (.bl true) := by cases b <;> rfl
  have e2 : gIn5 false (.str [48 + i]) (.str [48, 49, 50, 51, 52, 53]) = some (.bl true) := by
    show some (D.bl (decide (48 + i ∈ [48, 49, 50, 51, 52, 53]))) = _
    rw [dig_in h]
  have e3 : gSl none (some 6) (.str [48, 49, 50, 51, 52, 53]) = some (.str [48, 49, 50, 51, 52, 53]) := by
    rw [sl_str (by rw [size_eq]; simp)]
    rfl
  unfold F_is_step
  refine run_wp (P := fun r => r = .ok (.bl true)) ?_
  exact wp_ret (d := .bl true) (by simp [d1, d0, l2, e1, e2, e3]) rfl
theorem F_after6 {pr : List Step} {s : Step} (ok : okP (pr ++ [s])) (h : s.2 < 6) : F_after [.str (stOf 6 pr), stD s] = .ok (.str (stOf 6 (pr ++ [s]))) := by
  have hm := moved_stOf (n := 6) (okP_pre ok) ok h
  have pj := (okP_snoc (okP_pre ok)).mp ok
  have hst := F_is_step6 h
  obtain ⟨b, i⟩ := s
  have h : i < 6 := h
  have d1 : gIx (stD (b, i)) (.int 1) = some (.str [48 + i]) := ixS (n := 1) (by simp [stL]) rfl
  have d0 : gIx (stD (b, i)) (.int 0) = some (.str [if b then 43 else 45]) := ixS (n := 0) (by simp [stL]) rfl
  have hl : gLen [.str (stOf 6 pr)] = some (.int 6) := by rw [lenS (by rw [stOf_len]; decide), stOf_len]; rfl
  have hc : gIx (.str (stOf 6 pr)) (.int (i : Int)) = some (.str [if b then 46 else 104]) := by
    rw [ixS (c := chr (proj pr i)) (by rw [stOf_len]; decide) (stOf_get h)]
    have pj : proj pr i = if b = true then [] else [true] := pj
    rw [pj]
    cases b <;> rfl
  have c1 : gSl none (some (i : Int)) (.str (stOf 6 pr)) = some (.str ((stOf 6 pr).take i)) := by rw [sl_str (by rw [size_eq, stOf_len]; decide), cut_take (by rw [stOf_len]; omega)]
  have c2 : gSl (some ((i : Int) + 1)) none (.str (stOf 6 pr)) = some (.str ((stOf 6 pr).drop (i + 1))) := by
    rw [sl_str (by rw [size_eq, stOf_len]; decide)]
    have := cut_drop (xs := stOf 6 pr) (n := i + 1) (by rw [stOf_len]; omega)
    rw [← this]
    rfl
  have hs : (stOf 6 pr).set i (if b then 104 else 114) = (stOf 6 pr).take i ++ (if b then 104 else 114) :: (stOf 6 pr).drop (i + 1) := List.set_eq_take_append_cons_drop.trans (by rw [if_pos (by rw [stOf_len]; exact h)])
  have a1 : gAdd (.str ((stOf 6 pr).take i)) (.str [if b then 104 else 114]) = some (.str ((stOf 6 pr).take i ++ [if b then 104 else 114])) := addS (by simp [stOf_len]; omega)
  have a2 : gAdd (.str ((stOf 6 pr).take i ++ [if b then 104 else 114])) (.str ((stOf 6 pr).drop (i + 1))) = some (.str (stOf 6 (pr ++ [(b, i)]))) := by
    rw [addS (by simp [stOf_len]; omega), ← hm]
    unfold moved
    rw [hs]
    simp
  unfold F_after
  refine run_wp (P := fun r => r = .ok (.str (stOf 6 (pr ++ [(b, i)])))) ?_
  refine wp_seq (wp_if (b := false) (by simp [hl, hst]) (fun h => by cases h) fun _ => wp_next ?_)
  refine wp_seq (wp_asg (d := .int i) (by simp [d1, dig (show i < 10 by omega)]) ?_)
  cases b
  · refine wp_seq (wp_if (b := false) (by simp [d0]) (fun h => by cases h) fun _ => wp_next ?_)
    refine wp_seq (wp_if (b := false) ?_ (fun h => by cases h) fun _ => wp_next ?_)
    · simp at hc
      simp [hc]
    · refine wp_ret (d := .str (stOf 6 (pr ++ [(false, i)]))) ?_ rfl
      simp at a1 a2
      simp [c1, c2, a1, a2]
  · refine wp_seq (wp_if (b := true) (by simp [d0]) (fun _ => ?_) fun h => by cases h)
    refine wp_seq (wp_if (b := false) ?_ (fun h => by cases h) fun _ => wp_next ?_)
    · simp at hc
      simp [hc]
    · refine wp_ret (d := .str (stOf 6 (pr ++ [(true, i)]))) ?_ rfl
      simp at a1 a2
      simp [c1, c2, a1, a2]
theorem F_replay6 {pr : List Step} (ok : okP pr) (r : inR 6 pr) : F_replay [.int 6, .lst (pr.map stD)] = .ok (.str (stOf 6 pr)) := by
  unfold F_replay
  refine run_wp (P := fun r => r = .ok (.str (stOf 6 pr))) ?_
  refine wp_seq (wp_asg (d := .str (stOf 6 [])) (by simp [F_start6]) ?_)
  refine wp_seq (wp_for stD (fun pre ρ => ∃ x3 : Option D, ρ = [some (.int 6), some (.lst (pr.map stD)), some (.str (stOf 6 pre)), x3]) (xs := pr) (by simp) ⟨none, rfl⟩ ?_ ?_)
  · rintro pre x post ρ e ⟨x3, rfl⟩
    refine ⟨_, rfl, ?_⟩
    have okx : okP (pre ++ [x]) := okP_pre (b := post) (by rw [List.append_assoc]; rw [e] at ok; exact ok)
    have hF := F_after6 okx (r x (by rw [e]; simp))
    exact wp_asg (d := .str (stOf 6 (pre ++ [x]))) (by simp [hF]) ⟨some (stD x), rfl⟩
  · rintro ρ ⟨x3, rfl⟩
    exact wp_ret (d := .str (stOf 6 pr)) (by simp) rfl
theorem enumD {ps : Progs} : pairsD 0 (ps.map fun p => D.lst (p.map stD)) = (ps.zipIdx).map fun x => D.tup [natD x.2, .lst (x.1.map stD)] := by
  have key : ∀ (ps : Progs) (k : Nat), pairsD k (ps.map fun p => D.lst (p.map stD)) = (ps.zipIdx k).map fun x => D.tup [natD x.2, .lst (x.1.map stD)] := by
    intro ps
    induction ps with
    | nil => intro k; rfl
    | cons p ps ih =>
      intro k
      rw [List.zipIdx_cons, List.map_cons, List.map_cons, ← ih]
      rfl
  exact key ps 0
theorem stOf_noheld {pr : List Step} (f : fullP pr) : decide (104 ∈ stOf 6 pr) = false := by
  refine decide_eq_false fun h => ?_
  unfold stOf at h
  obtain ⟨i, _, hi⟩ := List.mem_map.mp h
  rcases f i with q | q <;> rw [q] at hi <;> cases hi
theorem F_check6 {ps : Progs} (P : OkPs ps) (full : ∀ pr ∈ ps, fullP pr) : F_check_programs [.int 6, progsD ps] = .ok .non := by
  unfold F_check_programs
  refine run_wp (P := fun r => r = .ok .non) ?_
  refine wp_for (fun x : List Step × Nat => D.tup [natD x.2, .lst (x.1.map stD)]) (fun pre ρ => ∃ x2 x3 x4 x5 : Option D, ρ = [some (.int 6), some (progsD ps), x2, x3, x4, x5]) (xs := ps.zipIdx) ?_ ⟨none, none, none, none, rfl⟩ ?_ ?_
  · simp [progsD, gEnum, enumD]
  · rintro pre x post ρ e ⟨x2, x3, x4, x5, rfl⟩
    have hm : x.1 ∈ ps := by
      have : x ∈ ps.zipIdx := by rw [e]; simp
      exact List.fst_mem_of_mem_zipIdx this
    have hF := F_replay6 (P.ok x.1 hm) (P.r x.1 hm)
    have hn := stOf_noheld (full x.1 hm)
    refine ⟨_, rfl, ?_⟩
    refine wp_seq ?_
    have e1 : fTryN (fAsg 5 (fCallN F_replay (fCons (fun ρ => getE ρ 0) (fCons (fun ρ => getE ρ 3) fNil)))) (([some (.int 6), some (progsD ps), x2, x3, x4, x5].set 2 (some (natD x.2))).set 3 (some (.lst (x.1.map stD)))) = .nx [some (.int 6), some (progsD ps), some (natD x.2), some (.lst (x.1.map stD)), x4, some (.str (stOf 6 x.1))] := by
      unfold fTryN
      simp [hF]
    rw [e1]
    refine ⟨?_⟩
    show wpO _ _ _
    have e2 : gIn5 false (.str [104]) (.str (stOf 6 x.1)) = some (.bl false) := by
      show some (D.bl (decide (104 ∈ stOf 6 x.1))) = _
      rw [hn]
    exact wp_if (b := false) (by simp [e2]) (fun h => by cases h) fun _ => wp_next ⟨_, _, _, _, rfl⟩
  · rintro ρ _
    rfl
/-! ### is an item free -/
theorem heldBy_mem {pr : List Step} (ok : okP pr) (d : Nat) : heldBy pr d ↔ (true, d) ∈ pr ∧ (false, d) ∉ pr := by
  have mem : ∀ b, (b, d) ∈ pr ↔ b ∈ proj pr d := fun b => by
    unfold proj
    simp
  rw [mem, mem]
  unfold heldBy
  rcases ok d with q | q | q <;> rw [q] <;> simp
theorem stL_inj {s t : Step} (h : stL s = stL t) : s = t := by
  obtain ⟨b, i⟩ := s
  obtain ⟨c, j⟩ := t
  unfold stL at h
  simp at h
  obtain ⟨h1, h2⟩ := h
  subst h2
  cases b <;> cases c <;> first | rfl | simp at h1
theorem mem_steps {pr : List Step} {s : Step} : inD (.str (stL s)) (.lst (pr.map stD)) = some (decide (s ∈ pr)) := by
  have hf : (pr.map stD).all isFlat = true := by
    rw [List.all_eq_true]
    intro d hd
    obtain ⟨s, _, rfl⟩ := List.mem_map.mp hd
    rfl
  show (if isFlat (.str (stL s)) = true ∧ (pr.map stD).all isFlat = true then some (memD (.str (stL s)) (pr.map stD)) else _) = _
  rw [if_pos ⟨rfl, hf⟩]
  congr 1
  unfold memD
  rw [List.any_map]
  induction pr with
  | nil => rfl
  | cons x pr ih =>
    have hf2 : (pr.map stD).all isFlat = true := by
      rw [List.map_cons, List.all_cons, Bool.and_eq_true] at hf
      exact hf.2
    rw [List.any_cons, ih hf2]
    show (deq (.str (stL x)) (.str (stL s)) || _) = _
    rw [deq_str]
    by_cases e : x = s
    · subst e; simp
    · rw [decide_eq_false fun z => e (stL_inj z), Bool.false_or]
      refine decide_eq_decide.mpr ⟨fun z => List.mem_cons_of_mem _ z, fun z => (List.mem_cons.mp z).elim (fun z => absurd z.symm e) id⟩
open Classical in
theorem F_holds6 {pr : List Step} (ok : okP pr) {m d : Nat} (hm : m ≤ pr.length) : F_holds [.lst (pr.map stD), .int m, .str [48 + d]] = .ok (.bl (decide (heldBy (pr.take m) d))) := by
  have c : gSl none (some (m : Int)) (.lst (pr.map stD)) = some (.lst ((pr.take m).map stD)) := by
    rw [s_sl_lst, cut_take (by simpa using hm), List.map_take]
  have a1 : gAdd (.str [43]) (.str [48 + d]) = some (.str (stL (true, d))) := addS (a := [43]) (b := [48 + d]) (by simp)
  have a2 : gAdd (.str [45]) (.str [48 + d]) = some (.str (stL (false, d))) := addS (a := [45]) (b := [48 + d]) (by simp)
  have i1 : gIn5 false (.str (stL (true, d))) (.lst ((pr.take m).map stD)) = some (.bl (decide ((true, d) ∈ pr.take m))) := by
    show (inD (.str (stL (true, d))) (.lst ((pr.take m).map stD))).map _ = _
    rw [mem_steps]
    rfl
  have i2 : gIn5 true (.str (stL (false, d))) (.lst ((pr.take m).map stD)) = some (.bl (!decide ((false, d) ∈ pr.take m))) := by
    show (inD (.str (stL (false, d))) (.lst ((pr.take m).map stD))).map _ = _
    rw [mem_steps]
    rfl
  have hk : okP (pr.take m) := okP_pre (b := pr.drop m) (by rw [List.take_append_drop]; exact ok)
  unfold F_holds
  refine run_wp (P := fun r => r = .ok (.bl (decide (heldBy (pr.take m) d)))) ?_
  refine wp_seq (wp_asg (d := .lst ((pr.take m).map stD)) ?_ ?_)
  · show fSl (fun ρ => getE ρ 0) foNone (foSome (fun ρ => getE ρ 1)) [some (.lst (pr.map stD)), some (.int m), some (.str [48 + d]), none] = _
    simp only [s_fSl, s_getE0, s_bind_ok, s_foNone, s_foSome, s_getES, c, s_ofO_some]
  refine wp_ret (d := .bl (decide (heldBy (pr.take m) d))) ?_ rfl
  have hh := heldBy_mem hk d
  simp [-List.map_take, a1, a2, i1, i2]
  by_cases q1 : (true, d) ∈ pr.take m <;> by_cases q2 : (false, d) ∈ pr.take m <;> simp [q1, q2, hh]
end DL
set_option Elab.async false
set_option linter.all false
set_option maxRecDepth 100000
namespace DL
open PySem L2
theorem bools_map {α : Type} {f : α → Bool} : ∀ xs : List α, boolsOf (xs.map fun x => D.bl (f x)) = some (xs.map f)
  | [] => rfl
  | x :: xs => by
    show (boolsOf (xs.map fun x => D.bl (f x))).map (f x :: ·) = _
    rw [bools_map xs]
    rfl
theorem any_map {α : Type} {f : α → Bool} {xs : List α} : gAny [.lst (xs.map fun x => D.bl (f x))] = some (.bl (xs.any f)) := by
  show (boolsOf (xs.map fun x => D.bl (f x))).map (fun bs => D.bl (bs.any id)) = _
  rw [bools_map]
  show some (D.bl ((xs.map f).any id)) = _
  rw [List.any_map]
  rfl
theorem done_take {ps : Progs} {o : List Nat} {k : Nat} {pr : List Step} (h : ps[k]? = some pr) : doneP ps o k = pr.take (o.count k) := by
  unfold doneP
  rw [List.getD_eq_getElem?_getD, h]
  rfl
open Classical in
theorem F_is_free6 {ps : Progs} (P : OkPs ps) {o : List Nat} (hl : legal ps o) {p : Nat} {s : Step} (hs : nextS ps o p = some s) : F_is_free [progsD ps, .lst (placesD ps o), .int p] = .ok (.bl (decide (s.1 = true → isFree ps o s.2))) := by
  obtain ⟨pr, e1, e2, hp, _⟩ := next_some hs
  have g1 := prog_get e1
  have g2 := places_get (o := o) hp
  have g3 := step_get e2
  have hi6 := P.r pr (List.mem_of_getElem? e1) s (List.mem_of_getElem? e2)
  have hlen := P.len
  obtain ⟨b, i⟩ := s
  have d1 : gIx (stD (b, i)) (.int 1) = some (.str [48 + i]) := ixS (n := 1) (by simp [stL]) rfl
  have d0 : gIx (stD (b, i)) (.int 0) = some (.str [if b then 43 else 45]) := ixS (n := 0) (by simp [stL]) rfl
  unfold F_is_free
  refine run_wp (P := fun r => r = .ok (.bl (decide (b = true → isFree ps o i)))) ?_
  refine wp_seq (wp_asg (d := stD (b, i)) ?_ ?_)
  · simp [progsD, natD, g1, g2, g3] at g1 g2 g3 ⊢
  cases b
  · refine wp_seq (wp_if (b := true) (by simp [d0]) (fun _ => wp_ret (d := .bl true) rfl ?_) fun h => by cases h)
    show R.ok (D.bl true) = R.ok (D.bl (decide (false = true → isFree ps o i)))
    simp
  · refine wp_seq (wp_if (b := false) (by simp [d0]) (fun h => by cases h) fun _ => wp_next ?_)
    refine wp_ret (d := .bl (decide (isFree ps o i))) ?_ (by show R.ok _ = R.ok _; simp)
    have c := compL_map (ft := gtName 4) (tt := fYes) (fe := fCallN F_holds (fCons (fOp gIx (fun ρ => getE ρ 0) (fun ρ => getE ρ 4)) (fCons (fOp gIx (fun ρ => getE ρ 1) (fun ρ => getE ρ 4)) (fCons (fOp gIx (fun ρ => getE ρ 3) (fun _ => .ok (.int 1))) fNil))))
      (ρ := [some (progsD ps), some (.lst (placesD ps o)), some (.int p), some (stD (true, i)), none]) natD (fun _ => true) (fun k => D.bl (decide (heldBy (doneP ps o k) i))) (List.range ps.length) (fun k hk => by
        have hk : k < ps.length := List.mem_range.mp hk
        have ek := List.getElem?_eq_getElem hk
        have h1 := prog_get ek
        have h2 := places_get (o := o) hk
        have hF := F_holds6 (P.ok _ (List.mem_of_getElem? ek)) (m := o.count k) (d := i) (legal_count ek o hl)
        rw [← done_take ek] at hF
        refine ⟨_, rfl, rfl, fun _ => ?_⟩
        simp [progsD, natD, h1, h2, d1, hF] at h1 h2 ⊢)
    rw [ftrue] at c
    have ha := any_map (f := fun k => decide (heldBy (doneP ps o k) i)) (xs := List.range ps.length)
    have hr := rngN (n := ps.length) (by omega)
    have fin : (!((List.range ps.length).any fun k => decide (heldBy (doneP ps o k) i))) = decide (isFree ps o i) := by
      by_cases q : isFree ps o i
      · rw [decide_eq_true q]
        simp
        exact fun k hk => q k hk
      · rw [decide_eq_false q]
        simp
        unfold isFree at q
        simp at q
        obtain ⟨k, h1, h2⟩ := q
        exact ⟨k, h1, h2⟩
    rw [← fin]
    have hlp : gLen [progsD ps] = some (.int (ps.length : Int)) := by simp [progsD]
    show fNotV (fCB gAny (fCons (fLc _ _ _ _ _) fNil)) [some (progsD ps), some (.lst (placesD ps o)), some (.int p), some (stD (true, i)), none] = _
    rw [s_fNotV, s_fCB, s_fCons, s_fLc, s_fRng, s_fCons, s_fCB, s_fCons, s_getE0, s_bind_ok, s_fNil, s_bind_ok, s_bind_ok, hlp, s_ofO_some, s_bind_ok, s_bind_ok, s_bind_ok, hr, s_ofO_some, s_bind_ok]
    show (((R.ofO (compL _ _ _ [some (progsD ps), some (.lst (placesD ps o)), some (.int p), some (stD (true, i)), none] _)).bind _).bind _ |>.bind _ |>.bind _) = _
    rw [c, lc_fin (by simp; omega)]
    simp [ha]
/-! ### the steps of an order, the rows of its locks -/
def rowsFrom (ps : Progs) (i : Nat) : List Nat → List Nat → List Nat
  | _, [] => []
  | pre, p :: r => (if nextS ps pre p = some (true, i) then [p] else []) ++ rowsFrom ps i (pre ++ [p]) r
def rowsOf (ps : Progs) (o : List Nat) (i : Nat) : List Nat := rowsFrom ps i [] o
theorem rows_app {ps : Progs} {i : Nat} : ∀ {a b pre : List Nat}, rowsFrom ps i pre (a ++ b) = rowsFrom ps i pre a ++ rowsFrom ps i (pre ++ a) b
  | [], b, pre => by simp [rowsFrom]
  | p :: a, b, pre => by
    show (if nextS ps pre p = some (true, i) then [p] else []) ++ rowsFrom ps i (pre ++ [p]) (a ++ b) = ((if nextS ps pre p = some (true, i) then [p] else []) ++ rowsFrom ps i (pre ++ [p]) a) ++ rowsFrom ps i (pre ++ p :: a) b
    rw [rows_app, List.append_assoc, List.append_assoc]
    rfl
theorem rows_snoc {ps : Progs} {o : List Nat} {p i : Nat} : rowsOf ps (o ++ [p]) i = rowsOf ps o i ++ if nextS ps o p = some (true, i) then [p] else [] := by
  unfold rowsOf
  rw [rows_app]
  show _ ++ ((if nextS ps ([] ++ o) p = some (true, i) then [p] else []) ++ []) = _
  rw [List.append_nil, List.nil_append]
theorem rows_len {ps : Progs} {i : Nat} : ∀ {a pre : List Nat}, (rowsFrom ps i pre a).length ≤ a.length
  | [], _ => Nat.le_refl _
  | p :: a, pre => by
    show ((if nextS ps pre p = some (true, i) then [p] else []) ++ rowsFrom ps i (pre ++ [p]) a).length ≤ _
    have := rows_len (ps := ps) (i := i) (a := a) (pre := pre ++ [p])
    rw [List.length_append, List.length_cons]
    split <;> simp <;> omega
def rowD (l : List Nat) : D := .tup (l.map natD)
/-- the dict of what was found so far -/
structure Found (ps : Progs) (o : List Nat) (ks : List Key) (vs : List D) : Prop where
  dic : Dic ks vs
  small : ks.length ≤ o.length
  at_ : ∀ i : Nat, lookD ks vs (.inl (i : Int)) = if rowsOf ps o i = [] then none else some (rowD (rowsOf ps o i))
theorem found_nil {ps : Progs} : Found ps [] [] [] := ⟨⟨List.nodup_nil, rfl⟩, Nat.le_refl _, fun i => rfl⟩
theorem found_lock {ps : Progs} {o : List Nat} {ks : List Key} {vs : List D} {p i : Nat} (F : Found ps o ks vs) (hs : nextS ps o p = some (true, i)) :
    Found ps (o ++ [p]) (putKD ks vs (.inl (i : Int)) (rowD (rowsOf ps o i ++ [p]))).1 (putKD ks vs (.inl (i : Int)) (rowD (rowsOf ps o i ++ [p]))).2 := by
  refine ⟨put_nd F.dic, ?_, fun j => ?_⟩
  · have := (put_len (x := (.inl (i : Int) : Key)) (v := rowD (rowsOf ps o i ++ [p])) F.dic.len).2
    have := F.small
    rw [List.length_append, List.length_singleton]
    omega
  · rw [look_put F.dic.len, rows_snoc, hs]
    by_cases e : i = j
    · subst e
      rw [if_pos rfl, if_pos rfl, if_neg (by simp)]
    · have ne : ¬ ((.inl (i : Int) : Key) = .inl (j : Int)) := fun z => e (by have := Sum.inl.inj z; omega)
      have ne2 : ¬ (some (true, i) = some (true, j)) := fun z => e (by cases z; rfl)
      rw [if_neg ne, if_neg ne2, List.append_nil, F.at_ j]
theorem found_rel {ps : Progs} {o : List Nat} {ks : List Key} {vs : List D} {p i : Nat} (F : Found ps o ks vs) (hs : nextS ps o p = some (false, i)) : Found ps (o ++ [p]) ks vs := by
  refine ⟨F.dic, ?_, fun j => ?_⟩
  · have := F.small
    rw [List.length_append]
    omega
  · rw [rows_snoc, hs, if_neg (show ¬ (some (false, i) = some (true, j)) from fun z => by cases z), List.append_nil, F.at_ j]
end DL
set_option Elab.async false
set_option linter.all false
set_option maxRecDepth 100000
namespace DL
open PySem L2
theorem enumN {o : List Nat} : pairsD 0 (o.map natD) = (o.zipIdx).map fun x => D.tup [natD x.2, natD x.1] := by
  have key : ∀ (o : List Nat) (k : Nat), pairsD k (o.map natD) = (o.zipIdx k).map fun x => D.tup [natD x.2, natD x.1] := by
    intro o
    induction o with
    | nil => intro k; rfl
    | cons p ps ih =>
      intro k
      rw [List.zipIdx_cons, List.map_cons, List.map_cons, ← ih]
      rfl
  exact key o 0
theorem zip_split {o : List Nat} {pre : List (Nat × Nat)} {x : Nat × Nat} {post : List (Nat × Nat)} (e : o.zipIdx = pre ++ x :: post) : o = pre.map (·.1) ++ x.1 :: post.map (·.1) ∧ x.2 = pre.length := by
  have h1 : o.zipIdx.map (·.1) = o := List.zipIdx_map_fst 0 o
  rw [e] at h1
  constructor
  · rw [← h1]
    simp
  · have h2 : o.zipIdx[pre.length]? = some x := by rw [e]; simp
    rw [List.getElem?_zipIdx] at h2
    cases q : o[pre.length]? with
    | none => rw [q] at h2; cases h2
    | some y =>
      rw [q] at h2
      cases h2
      simp
def keysOfRows (ps : Progs) (o : List Nat) : List Nat := (List.range 6).filter fun i => !(rowsOf ps o i).isEmpty
def outD (ps : Progs) (o : List Nat) : D := .dk ((keysOfRows ps o).map fun (i : Nat) => (Sum.inl (i : Int) : Key)) ((keysOfRows ps o).map fun i => rowD (rowsOf ps o i))
theorem compDk_map {ft : D → Env → Option Env} {tt : Env → R Bool} {fk fe : Env → R D} {ρ : Env} (enc : Nat → D) (p : Nat → Bool) (k : Nat → Key) (kD : Nat → D) (f : Nat → D) (hk : ∀ x, keyOf (kD x) = some (k x)) (inj : ∀ x y, k x = k y → x = y) : ∀ (xs : List Nat) (done : List Nat),
    (done ++ xs).Nodup → (done ++ xs).length ≤ 1000 → (∀ x ∈ xs, ∃ ρ1, ft (enc x) ρ = some ρ1 ∧ tt ρ1 = .ok (p x) ∧ (p x = true → fk ρ1 = .ok (kD x) ∧ fe ρ1 = .ok (f x))) →
    compDk ft tt fk fe ρ (xs.map enc) (((done.filter p).map k), (done.filter p).map f) = some ((((done ++ xs).filter p).map k), ((done ++ xs).filter p).map f)
  | [], done, _, _, _ => by rw [List.append_nil]; rfl
  | x :: xs, done, nd, hz, h => by
    obtain ⟨ρ1, h1, h2, h3⟩ := h x List.mem_cons_self
    have e : done ++ x :: xs = (done ++ [x]) ++ xs := by simp
    have ih := compDk_map (ft := ft) (tt := tt) (fk := fk) (fe := fe) (ρ := ρ) enc p k kD f hk inj xs (done ++ [x]) (by rw [← e]; exact nd) (by rw [← e]; exact hz) fun y hy => h y (List.mem_cons_of_mem _ hy)
    rw [← e] at ih
    rw [List.map_cons]
    unfold compDk
    rw [h1, Option.bind_some, h2, s_toO_ok, Option.bind_some]
    cases q : p x with
    | false =>
      rw [if_neg Bool.false_ne_true]
      rw [List.filter_append, List.filter_cons_of_neg (by rw [q]; exact Bool.false_ne_true), List.filter_nil, List.append_nil] at ih
      exact ih
    | true =>
      obtain ⟨h4, h5⟩ := h3 q
      rw [if_pos rfl, h4, s_toO_ok, Option.bind_some, hk, Option.bind_some, h5, s_toO_ok, Option.bind_some]
      have nm : k x ∉ (done.filter p).map k := fun m => by
        obtain ⟨y, hy, e2⟩ := List.mem_map.mp m
        have := inj _ _ e2
        subst this
        rw [List.nodup_append] at nd
        exact nd.2.2 y (List.mem_filter.mp hy).1 y List.mem_cons_self rfl
      have ndk : ((done.filter p).map k).Nodup := by
        have : (done.filter p).Nodup := ((List.nodup_append.mp nd).1).filter _
        rw [List.nodup_iff_pairwise_ne, List.pairwise_map]
        exact (List.nodup_iff_pairwise_ne.mp this).imp fun ne z => ne (inj _ _ z)
      have hl : ((done.filter p).map k).length < sizeLine := by
        have := List.length_filter_le p done
        rw [List.length_append] at hz
        rw [List.length_map, size_eq]
        omega
      rw [if_pos ⟨hl, ndk, by simp⟩]
      have put : ∀ (ks : List Key) (vs : List D), ks.length = vs.length → k x ∉ ks → putKD ks vs (k x) (f x) = (ks ++ [k x], vs ++ [f x]) := by
        intro ks
        induction ks with
        | nil =>
          intro vs hv _
          cases vs with
          | nil => rfl
          | cons _ _ => cases hv
        | cons y ks ih2 =>
          intro vs hv hm
          cases vs with
          | nil => cases hv
          | cons v vs =>
            unfold putKD
            rw [if_neg fun z => hm (by rw [← z]; exact List.mem_cons_self), ih2 vs (by simpa using hv) fun z => hm (List.mem_cons_of_mem _ z)]
            rfl
      rw [put _ _ (by simp) nm]
      rw [List.filter_append, List.filter_cons_of_pos q, List.filter_nil, List.map_append, List.map_append] at ih
      exact ih
section
variable {N : Env → Prop} {T : Out → Prop} {ρ : Env} {fe fi : Env → R D} {k : Nat}
theorem wp_raise {C : Addr} {fs : List Str} {fa : Env → R (List D)} {l : List D} (e : fa ρ = .ok l) (h : T (.exc ⟨C, fs.reverse, l.reverse⟩ ρ)) : wpO N T (fRaise C fs fa ρ) := by
  unfold fRaise
  rw [e, s_stE_ok]
  exact ⟨h⟩
theorem wp_augS {ds : List D} {j : Nat} {a b : Int} {f : Int → Int → Int} (hk : ρ[k]? = some (some (.lst ds))) (ei : fi ρ = .ok (.int (j : Int))) (ha : atI ds (j : Int) = some (.int a)) (e : fe ρ = .ok (.int b)) (hj : j < ds.length) (h : N (ρ.set k (some (.lst (ds.set j (.int (f a b))))))) : wpO N T (fAugS k f fe fi ρ) := by
  unfold fAugS
  rw [ei, s_stE_ok, hk]
  show wpO N T (match atI ds (j : Int) with
    | some (.int a) => stE (fe ρ) ρ fun d => (match d, ixN ds.length (j : Int) with
      | .int b, some n => .nx (ρ.set k (some (.lst (ds.set n (.int (f a b))))))
      | _, _ => .stuck)
    | _ => .stuck)
  rw [ha]
  show wpO N T (stE (fe ρ) ρ fun d => (match d, ixN ds.length (j : Int) with
      | .int b, some n => .nx (ρ.set k (some (.lst (ds.set n (.int (f a b))))))
      | _, _ => .stuck))
  rw [e, s_stE_ok]
  have : ixN ds.length (j : Int) = some j := by
    unfold ixN
    rw [if_pos (by omega), if_pos (by omega)]
    simp
  rw [this]
  exact ⟨h⟩
end
open Classical in
theorem F_outcome_core {A : Cls} {ps : Progs} (P : OkPs ps) (full : ∀ pr ∈ ps, fullP pr) {o : List Nat} (ho : o.length ≤ 5000) (hin : ∀ p ∈ o, p < ps.length) (R0 : R D)
    (hstep : ∀ pre p post, o = pre ++ p :: post → legal ps pre → may ps pre p ∨ ∃ i, nextS ps pre p = some (true, i) ∧ ¬ isFree ps pre i ∧ R0 = .exc ⟨A.Blocked, ["item", "place"], [.int (i : Int), .int (pre.length : Int)]⟩)
    (hend : legal ps o → (∀ p pr, ps[p]? = some pr → o.count p = pr.length) ∧ R0 = .ok (outD ps o)) : F_outcome A [progsD ps, .lst (o.map natD)] = R0 := by
  have hlen := P.len
  unfold F_outcome
  refine run_wp (P := fun r => r = R0) ?_
  refine wp_seq (wp_drop (d := .non) (by simp [F_check6 P full]) ?_)
  refine wp_seq (wp_asgF (d := .lst (placesD ps [])) ?_ (by simp) ?_)
  · have c := compL_map (ft := gtName 7) (tt := fYes) (fe := fun _ => .ok (.int 0)) (ρ := [some (progsD ps), some (.lst (o.map natD)), none, none, none, none, none, none, none, none]) (fun p : List Step => D.lst (p.map stD)) (fun _ => true) (fun _ => D.int 0) ps (fun x _ => ⟨_, rfl, rfl, fun _ => rfl⟩)
    rw [ftrue, zeros] at c
    simp [progsD] at c ⊢
    rw [c, lc_fin (by unfold placesD; simp; omega)]
  refine wp_seq (wp_asgF (d := .dk [] []) rfl (by simp) ?_)
  refine wp_seq (wp_for (fun x : Nat × Nat => D.tup [natD x.2, natD x.1]) (fun pre ρ => ∃ (ks : List Key) (vs : List D) (x4 x5 x6 x8 : Option D), ρ = [some (progsD ps), some (.lst (o.map natD)), some (.lst (placesD ps (pre.map (·.1)))), some (.dk ks vs), x4, x5, x6, none, x8, none] ∧ legal ps (pre.map (·.1)) ∧ Found ps (pre.map (·.1)) ks vs ∧ pre.length ≤ o.length) (xs := o.zipIdx) ?_
    ⟨[], [], none, none, none, none, rfl, legal_nil, found_nil, Nat.zero_le _⟩ ?_ ?_)
  · simp [gEnum, enumN]
  · rintro pre ⟨p, pl⟩ post ρ e ⟨ks, vs, x4, x5, x6, x8, rfl, hl, F, hpl⟩
    obtain ⟨e1, e2⟩ := zip_split e
    have e2 : pl = pre.length := e2
    subst e2
    have hp : p < ps.length := hin p (by rw [e1]; simp)
    have hmay := hstep (pre.map (·.1)) p (post.map (·.1)) e1 hl
    rw [List.length_map] at hmay
    generalize ho2 : pre.map (·.1) = o2 at *
    have hne : ∃ s, nextS ps o2 p = some s := hmay.elim (fun ⟨s, h, _⟩ => ⟨s, h⟩) fun ⟨i, h, _⟩ => ⟨_, h⟩
    obtain ⟨s, hs⟩ := hne
    obtain ⟨pr, q1, q2, _, _⟩ := next_some hs
    have g1 := prog_get q1
    have g2 := places_get (o := o2) hp
    have g3 := step_get q2
    have hc := (List.getElem?_eq_some_iff.mp q2).1
    have hi6 := P.r pr (List.mem_of_getElem? q1) s (List.mem_of_getElem? q2)
    have hF := F_is_free6 P hl hs
    refine ⟨[some (progsD ps), some (.lst (o.map natD)), some (.lst (placesD ps o2)), some (.dk ks vs), some (natD pre.length), some (natD p), x6, none, x8, none], rfl, ?_⟩
    refine wp_seq (wp_if (b := false) ?_ (fun h => by cases h) fun _ => wp_next ?_)
    · have n1 : decide ((p : Int) < 0) = false := decide_eq_false (by omega)
      have n2 : decide ((ps.length : Int) ≤ p) = false := decide_eq_false (by omega)
      have n3 : decide ((o2.count p : Int) = pr.length) = false := decide_eq_false (by omega)
      simp [progsD, natD, g1, g2, n1, n2, n3] at g1 g2 ⊢
      exact hp
    refine wp_seq (wp_asg (d := stD s) ?_ ?_)
    · simp [progsD, natD, g1, g2, g3] at g1 g2 g3 ⊢
    obtain ⟨b, i⟩ := s
    have hi6 : i < 6 := hi6
    have d1 : gIx (stD (b, i)) (.int 1) = some (.str [48 + i]) := ixS (n := 1) (by simp [stL]) rfl
    have d0 : gIx (stD (b, i)) (.int 0) = some (.str [if b then 43 else 45]) := ixS (n := 0) (by simp [stL]) rfl
    have di := dig (show i < 10 by omega)
    refine wp_seq (wp_if (b := !decide (b = true → isFree ps o2 i)) ?_ (fun hb => ?_) fun hb => wp_next ?_)
    · simp [natD, hF]
    · have hb : ¬ (b = true → isFree ps o2 i) := by simpa using hb
      rcases hmay with ⟨s, h1, h2⟩ | ⟨j, h1, h2, h3⟩
      · rw [hs] at h1
        cases h1
        exact absurd h2 hb
      · rw [hs] at h1
        cases h1
        refine wp_raise (l := [.int (pre.length : Int), .int (i : Int)]) ?_ ?_
        · simp [natD, d1, di]
        · exact h3.symm
    · have hb : b = true → isFree ps o2 i := by simpa using hb
      have hl2 : legal ps (o2 ++ [p]) := legal_snoc.mpr ⟨hl, _, hs, hb⟩
      have hmp : (pre ++ [(p, pre.length)]).map (·.1) = o2 ++ [p] := by rw [List.map_append, ho2]; rfl
      have hpl2 : (pre ++ [(p, pre.length)]).length ≤ o.length := by
        have := congrArg List.length e1
        simp at this
        have h9 : o2.length = pre.length := by rw [← ho2, List.length_map]
        rw [List.length_append, List.length_singleton]
        omega
      have aug : ∀ (T : Out → Prop) (x8' : Option D) (ks2 : List Key) (vs2 : List D), Found ps (o2 ++ [p]) ks2 vs2 → wpO (fun ρ => ∃ (ks : List Key) (vs : List D) (x4 x5 x6 x8 : Option D), ρ = [some (progsD ps), some (.lst (o.map natD)), some (.lst (placesD ps ((pre ++ [(p, pre.length)]).map (·.1)))), some (.dk ks vs), x4, x5, x6, none, x8, none] ∧ legal ps ((pre ++ [(p, pre.length)]).map (·.1)) ∧ Found ps ((pre ++ [(p, pre.length)]).map (·.1)) ks vs ∧ (pre ++ [(p, pre.length)]).length ≤ o.length) T
          (fAugS 2 (fun i j => i + j) (fun _ => .ok (.int 1)) (fun ρ => getE ρ 5) [some (progsD ps), some (.lst (o.map natD)), some (.lst (placesD ps o2)), some (.dk ks2 vs2), some (natD pre.length), some (natD p), some (stD (b, i)), none, x8', none]) := fun T x8' ks2 vs2 F2 => by
        refine wp_augS (ds := placesD ps o2) (j := p) (a := (o2.count p : Int)) (b := 1) rfl rfl g2 rfl (by unfold placesD; simpa using hp) ?_
        rw [hmp]
        refine ⟨ks2, vs2, some (natD pre.length), some (natD p), some (stD (b, i)), x8', ?_, hl2, F2, hpl2⟩
        rw [← places_put hp]
        rfl
      refine wp_seq (wp_if (b := b) ?_ (fun hq => ?_) fun hq => wp_next ?_)
      · cases b <;> simp [d0]
      · subst hq
        have hrl : (rowsOf ps o2 i).length ≤ o2.length := rows_len
        have h9 : o2.length = pre.length := by rw [← ho2, List.length_map]
        have hget : gDGet (.dk ks vs) (.int (i : Int)) (.tup []) = some (rowD (rowsOf ps o2 i)) := by
          show some ((lookD ks vs (.inl (i : Int))).getD (.tup [])) = _
          rw [F.at_ i]
          by_cases q : rowsOf ps o2 i = []
          · rw [if_pos q, q]; rfl
          · rw [if_neg q]; rfl
        have ha : gAdd (rowD (rowsOf ps o2 i)) (.tup [natD p]) = some (rowD (rowsOf ps o2 i ++ [p])) := by
          unfold rowD
          rw [add_tup (by rw [size_eq]; simp; omega), List.map_append]
          rfl
        refine wp_seq (wp_asg (d := .int i) (by simp [d1, di]) ?_)
        refine wp_putK (ks := ks) (vs := vs) (a := .int i) (d := rowD (rowsOf ps o2 i ++ [p])) (x := .inl (i : Int)) rfl ?_ rfl rfl F.dic (by have := F.small; omega) (aug _ _ _ _ (found_lock F hs))
        show fOp gAdd (fDGet _ _ _) _ _ = _
        rw [s_fOp]
        unfold fDGet
        simp [isDct, hget, ha]
      · subst hq
        exact aug _ _ _ _ (found_rel F hs)
  · rintro ρ ⟨ks, vs, x4, x5, x6, x8, rfl, hl, F, _⟩
    rw [List.zipIdx_map_fst] at hl F ⊢
    obtain ⟨hc, hR⟩ := hend hl
    rw [hR]
    refine wp_seq (wp_if (b := false) ?_ (fun h => by cases h) fun _ => wp_next ?_)
    · have c := compL_map (ft := gtName 9) (tt := fYes) (fe := fOp gLt (fOp gIx (fun ρ => getE ρ 2) (fun ρ => getE ρ 9)) (fCB gLen (fCons (fOp gIx (fun ρ => getE ρ 0) (fun ρ => getE ρ 9)) fNil)))
        (ρ := [some (progsD ps), some (.lst (o.map natD)), some (.lst (placesD ps o)), some (.dk ks vs), x4, x5, x6, none, x8, none]) natD (fun _ => true) (fun _ => D.bl false) (List.range ps.length) (fun k hk => by
          have hk : k < ps.length := List.mem_range.mp hk
          have ek := List.getElem?_eq_getElem hk
          have h1 := prog_get ek
          have h2 := places_get (o := o) hk
          have h3 := hc k _ ek
          have h4 : decide ((o.count k : Int) < (ps[k].length : Int)) = false := decide_eq_false (by omega)
          refine ⟨_, rfl, rfl, fun _ => ?_⟩
          simp [progsD, natD, h1, h2, h4] at h1 h2 ⊢
          omega)
      rw [ftrue] at c
      have ha := any_map (f := fun _ : Nat => false) (xs := List.range ps.length)
      have hr := rngN (n := ps.length) (by omega)
      have hrg : (fRng (fCons (fCB gLen (fCons (fun ρ => getE ρ 0) fNil)) fNil)) [some (progsD ps), some (.lst (o.map natD)), some (.lst (placesD ps o)), some (.dk ks vs), x4, x5, x6, none, x8, none] = .ok ((List.range ps.length).map natD) := by simp [progsD, hr]
      rw [s_fB, s_fCB, s_fCons, s_fLc, hrg, s_bind_ok]
      show (((((R.ofO (compL _ _ _ [some (progsD ps), some (.lst (o.map natD)), some (.lst (placesD ps o)), some (.dk ks vs), x4, x5, x6, none, x8, none] _)).bind _).bind _).bind _).bind _) = _
      rw [c, lc_fin (by simp; omega), s_bind_ok, s_fNil, s_bind_ok, s_bind_ok, ha, s_ofO_some, s_bind_ok]
      simp
    · refine wp_ret (d := outD ps o) ?_ rfl
      have c := compDk_map (ft := gtName 8) (tt := fB (fOp (gIn5 false) (fun ρ => getE ρ 8) (fun ρ => getE ρ 3))) (fk := fun ρ => getE ρ 8) (fe := fOp gIx (fun ρ => getE ρ 3) (fun ρ => getE ρ 8))
        (ρ := [some (progsD ps), some (.lst (o.map natD)), some (.lst (placesD ps o)), some (.dk ks vs), x4, x5, x6, none, none, none]) natD (fun i => !(rowsOf ps o i).isEmpty) (fun i => .inl (i : Int)) natD (fun i => rowD (rowsOf ps o i)) (fun _ => rfl) (fun x y h => by have := Sum.inl.inj h; omega) (List.range 6) [] (by decide) (by decide) (fun i hi => by
          have hf := F.at_ i
          have e1 : gIn5 false (.int (i : Int)) (.dk ks vs) = some (.bl (lookD ks vs (.inl (i : Int))).isSome) := rfl
          have e2 : gIx (.dk ks vs) (.int (i : Int)) = lookD ks vs (.inl (i : Int)) := by
            show ((some (lookD ks vs (.inl (i : Int)))).join) = _
            rfl
          refine ⟨_, rfl, ?_, fun q => ⟨rfl, ?_⟩⟩
          · simp [natD, e1, hf]
            by_cases q : rowsOf ps o i = [] <;> simp [q]
          · have q : rowsOf ps o i ≠ [] := by simpa using q
            simp [natD, e2, hf, q])
      have hr := rngN (n := 6) (by decide)
      have hrg : (fRng (fCons (fun _ => .ok (.int 6)) fNil)) [some (progsD ps), some (.lst (o.map natD)), some (.lst (placesD ps o)), some (.dk ks vs), x4, x5, x6, none, x8, none] = .ok ((List.range 6).map natD) := by
        rw [s_fRng, s_fCons, s_bind_ok, s_fNil, s_bind_ok, s_bind_ok]
        exact congrArg R.ofO hr
      unfold fDc
      rw [hrg, s_bind_ok]
      show ((R.ofO (compDk _ _ _ _ [some (progsD ps), some (.lst (o.map natD)), some (.lst (placesD ps o)), some (.dk ks vs), x4, x5, x6, none, none, none] _ ([], []))).bind _) = _
      have c2 := c
      simp only [List.filter_nil, List.map_nil, List.nil_append] at c2
      rw [c2]
      rfl
end DL
set_option Elab.async false
set_option linter.all false
set_option maxRecDepth 100000
namespace DL
open PySem L2
/-! ### the steps of an order -/
def stepsFrom (ps : Progs) : List Nat → List Nat → List Step
  | _, [] => []
  | pre, p :: r => (nextS ps pre p).getD (false, 0) :: stepsFrom ps (pre ++ [p]) r
def stepsOf (ps : Progs) (o : List Nat) : List Step := stepsFrom ps [] o
theorem stepsF_app {ps : Progs} : ∀ {a b pre : List Nat}, stepsFrom ps pre (a ++ b) = stepsFrom ps pre a ++ stepsFrom ps (pre ++ a) b
  | [], b, pre => by simp [stepsFrom]
  | p :: a, b, pre => by
    show _ :: stepsFrom ps (pre ++ [p]) (a ++ b) = (_ :: stepsFrom ps (pre ++ [p]) a) ++ stepsFrom ps (pre ++ p :: a) b
    rw [stepsF_app, List.append_assoc]
    rfl
theorem steps_snoc {ps : Progs} {o : List Nat} {p : Nat} {s : Step} (h : nextS ps o p = some s) : stepsOf ps (o ++ [p]) = stepsOf ps o ++ [s] := by
  unfold stepsOf
  rw [stepsF_app]
  show _ ++ [(nextS ps ([] ++ o) p).getD (false, 0)] = _
  rw [List.nil_append, h]
  rfl
theorem steps_len {ps : Progs} : ∀ {a pre : List Nat}, (stepsFrom ps pre a).length = a.length
  | [], _ => rfl
  | p :: a, pre => by
    show (_ :: stepsFrom ps (pre ++ [p]) a).length = _
    rw [List.length_cons, steps_len, List.length_cons]
theorem steps_at {ps : Progs} {o a b : List Nat} {p : Nat} {s : Step} (e : o = a ++ p :: b) (h : nextS ps a p = some s) : (stepsOf ps o)[a.length]? = some s := by
  unfold stepsOf
  rw [e, stepsF_app, List.getElem?_append_right (by rw [steps_len]; exact Nat.le_refl _), steps_len, Nat.sub_self]
  show some ((nextS ps ([] ++ a) p).getD (false, 0)) = _
  rw [List.nil_append, h]
  rfl
theorem F_steps6 {ps : Progs} (hlen : ps.length ≤ 1000) {o : List Nat} (hl : legal ps o) (ho : o.length ≤ 5000) : F__law_steps [progsD ps, .lst (o.map natD)] = .ok (.lst ((stepsOf ps o).map stD)) := by
  unfold F__law_steps
  refine run_wp (P := fun r => r = .ok (.lst ((stepsOf ps o).map stD))) ?_
  refine wp_seq (wp_asgF (d := .lst (placesD ps [])) ?_ (by simp) ?_)
  · have c := compL_map (ft := gtName 5) (tt := fYes) (fe := fun _ => .ok (.int 0)) (ρ := [some (progsD ps), some (.lst (o.map natD)), none, none, none, none]) (fun p : List Step => D.lst (p.map stD)) (fun _ => true) (fun _ => D.int 0) ps (fun x _ => ⟨_, rfl, rfl, fun _ => rfl⟩)
    rw [ftrue, zeros] at c
    simp [progsD] at c ⊢
    rw [c, lc_fin (by unfold placesD; simp; omega)]
  refine wp_seq (wp_asgF (d := .lst []) (by simp) (by simp) ?_)
  refine wp_seq (wp_for natD (fun pre ρ => ∃ x4 : Option D, ρ = [some (progsD ps), some (.lst (o.map natD)), some (.lst (placesD ps pre)), some (.lst ((stepsOf ps pre).map stD)), x4, none]) (xs := o) (by simp) ⟨none, rfl⟩ ?_ ?_)
  · rintro pre p post ρ e ⟨x4, rfl⟩
    obtain ⟨s, hs, _⟩ := hl pre p post e
    obtain ⟨pr, e1, e2, hp, _⟩ := next_some hs
    have g1 := prog_get e1
    have g2 := places_get (o := pre) hp
    have g3 := step_get e2
    have hpl : pre.length ≤ o.length := by rw [e]; simp
    refine ⟨[some (progsD ps), some (.lst (o.map natD)), some (.lst (placesD ps pre)), some (.lst ((stepsOf ps pre).map stD)), some (natD p), none], rfl, ?_⟩
    refine wp_seq (wp_app (ds := (stepsOf ps pre).map stD) (d := stD s) rfl ?_ (by unfold stepsOf; rw [List.length_map, steps_len]; omega) ?_)
    · simp [progsD, natD, g1, g2, g3] at g1 g2 g3 ⊢
    · refine wp_putL (ds := placesD ps pre) (j := p) (d := natD (pre.count p + 1)) rfl ?_ rfl (by unfold placesD; simpa using hp) ⟨some (natD p), ?_⟩
      · simp [natD, g2] at g2 ⊢
      · rw [places_put hp, steps_snoc hs, List.map_append]
        rfl
  · rintro ρ ⟨x4, rfl⟩
    exact wp_ret (d := .lst ((stepsOf ps o).map stD)) (by simp) rfl
/-- rows, told by steps -/
theorem rows_steps {ps : Progs} {i : Nat} : ∀ {a pre : List Nat}, (∀ x p y, a = x ++ p :: y → ∃ s, nextS ps (pre ++ x) p = some s) → rowsFrom ps i pre a = ((a.zip (stepsFrom ps pre a)).filter fun z => z.2 == (true, i)).map (·.1)
  | [], _, _ => rfl
  | p :: a, pre, h => by
    obtain ⟨s, hs⟩ := h [] p a rfl
    rw [List.append_nil] at hs
    have ih := rows_steps (ps := ps) (i := i) (a := a) (pre := pre ++ [p]) fun x q y e => by
      have := h (p :: x) q y (by rw [e]; rfl)
      rw [List.append_assoc]
      exact this
    show (if nextS ps pre p = some (true, i) then [p] else []) ++ rowsFrom ps i (pre ++ [p]) a = (((p, (nextS ps pre p).getD (false, 0)) :: a.zip (stepsFrom ps (pre ++ [p]) a)).filter fun z => z.2 == (true, i)).map (·.1)
    rw [hs, ih]
    by_cases e : s = (true, i)
    · subst e
      rw [if_pos rfl, List.filter_cons_of_pos (by simp)]
      rfl
    · rw [if_neg fun z => e (Option.some.inj z), List.filter_cons_of_neg (by simpa using e)]
      rfl
end DL
set_option Elab.async false
set_option linter.all false
set_option maxRecDepth 100000
namespace DL
open PySem L2
/-! ### equal data -/
theorem eqv_all {l : List D} (h : ∀ d ∈ l, deq d d = true) : PyData.eqvAll (D.pdL l) (D.pdL l) = true := by
  induction l with
  | nil => rfl
  | cons d l ih =>
    have h1 : PyData.eqv d.pd d.pd = true := h d List.mem_cons_self
    have h2 := ih fun x hx => h x (List.mem_cons_of_mem _ hx)
    show (PyData.eqv d.pd d.pd && PyData.eqvAll (D.pdL l) (D.pdL l)) = true
    rw [h1, h2]
    rfl
theorem deq_lst {l : List D} (h : ∀ d ∈ l, deq d d = true) : deq (.lst l) (.lst l) = true := eqv_all h
theorem deq_strR {x : List Nat} : deq (.str x) (.str x) = true := by rw [deq_str]; simp
theorem deq_intR {x : Int} : deq (.int x) (.int x) = true := by rw [deq_int]; simp
theorem ne_refl {d : D} (h1 : isData 60 d = true) (h2 : deq d d = true) : gNe d d = some (.bl false) := by
  unfold gNe
  rw [if_pos ⟨h1, h1⟩, h2]
  rfl
theorem ne_progs {ps : Progs} : gNe (progsD ps) (progsD ps) = some (.bl false) := by
  refine ne_refl ?_ (deq_lst fun d hd => ?_)
  · show isDataL 59 _ = true
    rw [isDataL_all, List.all_eq_true]
    intro d hd
    obtain ⟨p, _, rfl⟩ := List.mem_map.mp hd
    show isDataL 58 _ = true
    rw [isDataL_all, List.all_eq_true]
    intro d hd
    obtain ⟨s, _, rfl⟩ := List.mem_map.mp hd
    rfl
  · obtain ⟨p, _, rfl⟩ := List.mem_map.mp hd
    refine deq_lst fun d hd => ?_
    obtain ⟨s, _, rfl⟩ := List.mem_map.mp hd
    exact deq_strR
theorem ne_nats {o : List Nat} : gNe (.lst (o.map natD)) (.lst (o.map natD)) = some (.bl false) := by
  refine ne_refl ?_ (deq_lst fun d hd => ?_)
  · show isDataL 59 _ = true
    rw [isDataL_all, List.all_eq_true]
    intro d hd
    obtain ⟨s, _, rfl⟩ := List.mem_map.mp hd
    rfl
  · obtain ⟨p, _, rfl⟩ := List.mem_map.mp hd
    exact deq_intR
/-! ### the rows of the law -/
def rowsD (ps : Progs) (o : List Nat) : D := .lst ((keysOfRows ps o).map fun i => .tup [natD i, rowD (rowsOf ps o i)])
theorem zip_range {α β : Type} (a0 : α) (b0 : β) {a : List α} {b : List β} (h : a.length = b.length) : a.zip b = (List.range a.length).map fun k => (a.getD k a0, b.getD k b0) := by
  refine List.ext_getElem? fun k => ?_
  by_cases hk : k < a.length
  · simp [List.getElem?_zip_eq_some, hk, show k < b.length by omega, List.getElem?_eq_getElem]
  · rw [List.getElem?_eq_none (by simp; omega), List.getElem?_eq_none (by simp; omega)]
theorem rows_range {ps : Progs} {o : List Nat} {i : Nat} (hl : legal ps o) : rowsOf ps o i = ((List.range o.length).filter fun k => (stepsOf ps o).getD k (false, 0) == (true, i)).map fun k => o.getD k 0 := by
  unfold rowsOf
  rw [rows_steps fun x p y e => by
    obtain ⟨s, hs, _⟩ := hl x p y e
    exact ⟨s, by rw [List.nil_append]; exact hs⟩]
  rw [zip_range 0 (false, 0) (by rw [steps_len]), List.filter_map, List.map_map]
  rfl
theorem F_locked6 {ps : Progs} (P : OkPs ps) {o : List Nat} (hl : legal ps o) (ho : o.length ≤ 5000) : F__law_locked [progsD ps, .lst (o.map natD)] = .ok (rowsD ps o) := by
  unfold F__law_locked
  have hlen := P.len
  have hst := F_steps6 (by omega : ps.length ≤ 1000) hl ho
  refine run_wp (P := fun r => r = .ok (rowsD ps o)) ?_
  refine wp_seq (wp_asg (d := .lst ((stepsOf ps o).map stD)) (by simp [hst]) ?_)
  refine wp_seq (wp_asgF (d := .lst []) (by simp) (by simp) ?_)
  refine wp_seq (wp_for natD (fun pre ρ => ∃ x4 x5 : Option D, ρ = [some (progsD ps), some (.lst (o.map natD)), some (.lst ((stepsOf ps o).map stD)), some (.lst ((pre.filter fun i => !(rowsOf ps o i).isEmpty).map fun i => .tup [natD i, rowD (rowsOf ps o i)])), x4, x5, none] ∧ pre.length ≤ 6) (xs := List.range 6) ?_ ⟨none, none, rfl, by simp⟩ ?_ ?_)
  · rw [s_fRng, s_fCons, s_bind_ok, s_fNil, s_bind_ok, s_bind_ok]
    exact congrArg R.ofO (rngN (n := 6) (by decide))
  · rintro pre i post ρ e ⟨x4, x5, rfl, hp⟩
    have hi : i < 6 := by
      have : i ∈ List.range 6 := by rw [e]; simp
      exact List.mem_range.mp this
    have hp2 : (pre ++ [i]).length ≤ 6 := by
      have := congrArg List.length e
      simp at this
      simp
      omega
    refine ⟨_, rfl, ?_⟩
    have hsl : (stepsOf ps o).length = o.length := steps_len
    refine wp_seq (wp_asg (d := .lst ((rowsOf ps o i).map natD)) ?_ ?_)
    · generalize hρ : (List.set [some (progsD ps), some (.lst (o.map natD)), some (.lst ((stepsOf ps o).map stD)), some (.lst ((pre.filter fun i => !(rowsOf ps o i).isEmpty).map fun i => .tup [natD i, rowD (rowsOf ps o i)])), x4, x5, none] 4 (some (natD i))) = ρ0
      have c := compL_map (ft := gtName 6) (tt := fB (fOp gEq (fOp gIx (fun ρ => getE ρ 2) (fun ρ => getE ρ 6)) (fOp gAdd (fun _ => .ok (.str [43])) (fCB gStr (fCons (fun ρ => getE ρ 4) fNil))))) (fe := fOp gIx (fun ρ => getE ρ 1) (fun ρ => getE ρ 6))
        (ρ := ρ0) natD (fun k => (stepsOf ps o).getD k (false, 0) == (true, i)) (fun k => natD (o.getD k 0)) (List.range o.length) (fun k hk => by
          have hk : k < o.length := List.mem_range.mp hk
          subst hρ
          have ek : (stepsOf ps o)[k]? = some ((stepsOf ps o).getD k (false, 0)) := by
            rw [List.getD_eq_getElem?_getD, List.getElem?_eq_getElem (by omega)]
            rfl
          have g1 := step_get ek
          have g2 : atI (o.map natD) (k : Int) = some (natD (o.getD k 0)) := by
            rw [atI_get? (by omega), List.getD_eq_getElem?_getD]
            simp [hk]
          generalize (stepsOf ps o).getD k (false, 0) = s at *
          refine ⟨_, rfl, ?_, fun _ => ?_⟩
          · have hd := sdig (show i < 10 by omega)
            have ha := addS (a := [43]) (b := [48 + i]) (by simp)
            simp [natD, g1, hd, ha] at g1 ⊢
            simp [stD, stL]
            obtain ⟨b, j⟩ := s
            cases b <;> simp
            · by_cases q : j = i <;> simp [q]
          · simp [natD, g2] at g2 ⊢)
      subst hρ
      rw [show ((List.range o.length).filter fun k => (stepsOf ps o).getD k (false, 0) == (true, i)).map (fun k => natD (o.getD k 0)) = (rowsOf ps o i).map natD by rw [rows_range hl, List.map_map]; rfl] at c
      have hrl : (rowsOf ps o i).length ≤ o.length := rows_len
      have hr := rngN (n := o.length) (by omega)
      simp [-List.map_take, hr] at c ⊢
      rw [c, lc_fin (by simp; omega)]
    · refine wp_if (b := !decide (rowsOf ps o i = [])) ?_ (fun hb => ?_) fun hb => wp_next ?_
      · simp [lst_ne]
      · have hb : rowsOf ps o i ≠ [] := by simpa using hb
        refine wp_app (ds := (pre.filter fun i => !(rowsOf ps o i).isEmpty).map fun i => .tup [natD i, rowD (rowsOf ps o i)]) (d := .tup [natD i, rowD (rowsOf ps o i)]) rfl ?_ ?_ ⟨some (natD i), some (.lst ((rowsOf ps o i).map natD)), ?_, hp2⟩
        · simp [rowD]
        · have := List.length_filter_le (fun i => !(rowsOf ps o i).isEmpty) pre
          rw [List.length_map]
          omega
        · rw [List.filter_append, List.filter_cons_of_pos (by simpa using hb), List.filter_nil, List.map_append]
          rfl
      · have hb : rowsOf ps o i = [] := by simpa using hb
        refine ⟨some (natD i), some (.lst ((rowsOf ps o i).map natD)), ?_, hp2⟩
        rw [List.filter_append, List.filter_cons_of_neg (by simp [hb]), List.filter_nil, List.append_nil]
        rfl
  · rintro ρ ⟨x4, x5, rfl, _⟩
    exact wp_ret (d := rowsD ps o) (by rw [s_getES, s_getES, s_getES, s_getE0]; rfl) rfl
end DL
set_option Elab.async false
set_option linter.all false
set_option maxRecDepth 100000
namespace DL
open PySem L2
theorem frz_ints {l : List Nat} : frzL (l.map natD) = l.map natD := by
  induction l with
  | nil => rfl
  | cons x l ih =>
    show frzD (natD x) :: frzL (l.map natD) = _
    rw [ih]
    rfl
theorem thaw_ints {l : List Nat} : thawL (l.map natD) = l.map natD := by
  induction l with
  | nil => rfl
  | cons x l ih =>
    show thawD (natD x) :: thawL (l.map natD) = _
    rw [ih]
    rfl
theorem frz_rows {f : Nat → List Nat} {l : List Nat} : frzL (l.map fun i => rowD (f i)) = l.map fun i => rowD (f i) := by
  induction l with
  | nil => rfl
  | cons x l ih =>
    show frzD (rowD (f x)) :: frzL (l.map fun i => rowD (f i)) = _
    rw [ih]
    show D.tup (frzL ((f x).map natD)) :: _ = _
    rw [frz_ints]
    rfl
theorem thaw_rows {f : Nat → List Nat} {l : List Nat} : thawL (l.map fun i => D.tup [natD i, rowD (f i)]) = l.map fun i => D.tup [natD i, rowD (f i)] := by
  induction l with
  | nil => rfl
  | cons x l ih =>
    show D.tup [thawD (natD x), D.tup (thawL ((f x).map natD))] :: thawL (l.map fun i => D.tup [natD i, rowD (f i)]) = _
    rw [ih, thaw_ints]
    rfl
theorem look_map {f : Nat → D} {i : Nat} : ∀ {l : List Nat}, i ∈ l → lookD (l.map fun (i : Nat) => (Sum.inl (i : Int) : Key)) (l.map f) (.inl (i : Int)) = some (f i)
  | x :: l, h => by
    show (if (Sum.inl (x : Int) : Key) = .inl (i : Int) then some (f x) else lookD (l.map fun (i : Nat) => (Sum.inl (i : Int) : Key)) (l.map f) (.inl (i : Int))) = _
    by_cases e : x = i
    · subst e
      rw [if_pos rfl]
    · rw [if_neg fun z => e (by have := Sum.inl.inj z; omega)]
      rcases List.mem_cons.mp h with z | z
      · exact absurd z.symm e
      · exact look_map z
theorem keys_len {ps : Progs} {o : List Nat} : (keysOfRows ps o).length ≤ 6 := by
  have := List.length_filter_le (fun i => !(rowsOf ps o i).isEmpty) (List.range 6)
  rw [List.length_range] at this
  exact this
section
variable {A : Cls} {ps : Progs} {o : List Nat}
theorem F_told_ok (P : ps.length ≤ 1000) (h : F_outcome A [progsD ps, .lst (o.map natD)] = .ok (outD ps o)) : F__law_told A [progsD ps, .lst (o.map natD)] = .ok (rowsD ps o) := by
  unfold F__law_told
  refine run_wp (P := fun r => r = .ok (rowsD ps o)) ?_
  refine wp_seq (wp_asg (d := progsD ps) ?_ ?_)
  · have c := compL_map (ft := gtName 6) (tt := fYes) (fe := fCB gList (fCons (fun ρ => getE ρ 6) fNil)) (ρ := [some (progsD ps), some (.lst (o.map natD)), none, none, none, none, none, none]) (fun p : List Step => D.lst (p.map stD)) (fun _ => true) (fun p => .lst (p.map stD)) ps (fun x _ => ⟨_, rfl, rfl, fun _ => rfl⟩)
    rw [ftrue] at c
    simp [progsD] at c ⊢
    rw [c, lc_fin (by simp; omega)]
  refine wp_seq (wp_asg (d := .lst (o.map natD)) (by simp) ?_)
  refine wp_seq (wp_asg (d := .dk [] []) rfl ?_)
  have hc : fAsg 4 (fCallN (F_outcome A) (fCons (fun ρ => getE ρ 2) (fCons (fun ρ => getE ρ 3) fNil))) [some (progsD ps), some (.lst (o.map natD)), some (progsD ps), some (.lst (o.map natD)), some (.dk [] []), none, none, none] = .nx [some (progsD ps), some (.lst (o.map natD)), some (progsD ps), some (.lst (o.map natD)), some (outD ps o), none, none, none] := by
    simp [h]
  refine wp_seq ?_
  show wpO _ _ (fTryAs _ _ _ _ [some (progsD ps), some (.lst (o.map natD)), some (progsD ps), some (.lst (o.map natD)), some (.dk [] []), none, none, none])
  unfold fTryAs
  rw [hc]
  refine wp_next ?_
  refine wp_seq (wp_if (b := false) ?_ (fun h => by cases h) fun _ => wp_next ?_)
  · have hi : gIsi "dict" (outD ps o) = some (.bl true) := rfl
    simp [fIsi, hi, ne_progs, ne_nats]
  refine wp_ret (d := rowsD ps o) ?_ rfl
  show thawR (fLc _ _ _ _ _ [some (progsD ps), some (.lst (o.map natD)), some (progsD ps), some (.lst (o.map natD)), some (frzD (outD ps o)), none, none, none]) = _
  have e : frzD (outD ps o) = .fk ((keysOfRows ps o).map fun (i : Nat) => (Sum.inl (i : Int) : Key)) ((keysOfRows ps o).map fun i => rowD (rowsOf ps o i)) := by
    show D.fk _ (frzL _) = _
    rw [frz_rows]
  rw [e]
  have c := compL_map (ft := gtName 7) (tt := fYes) (fe := fTup (fCons (fun ρ => getE ρ 7) (fCons (fOp gIx (fun ρ => getE ρ 4) (fun ρ => getE ρ 7)) fNil)))
    (ρ := [some (progsD ps), some (.lst (o.map natD)), some (progsD ps), some (.lst (o.map natD)), some (.fk ((keysOfRows ps o).map fun (i : Nat) => (Sum.inl (i : Int) : Key)) ((keysOfRows ps o).map fun i => rowD (rowsOf ps o i))), none, none, none]) natD (fun _ => true) (fun i => .tup [natD i, rowD (rowsOf ps o i)]) (keysOfRows ps o) (fun i hi => by
      have e2 : gIx (.fk ((keysOfRows ps o).map fun (i : Nat) => (Sum.inl (i : Int) : Key)) ((keysOfRows ps o).map fun i => rowD (rowsOf ps o i))) (.int (i : Int)) = some (rowD (rowsOf ps o i)) := by
        show ((some (lookD ((keysOfRows ps o).map fun (i : Nat) => (Sum.inl (i : Int) : Key)) ((keysOfRows ps o).map fun i => rowD (rowsOf ps o i)) (.inl (i : Int)))).join) = _
        rw [look_map (f := fun i => rowD (rowsOf ps o i)) hi]
        rfl
      refine ⟨_, rfl, rfl, fun _ => ?_⟩
      simp [natD, e2])
  rw [ftrue] at c
  have hk : gKeys (.fk ((keysOfRows ps o).map fun (i : Nat) => (Sum.inl (i : Int) : Key)) ((keysOfRows ps o).map fun i => rowD (rowsOf ps o i))) = some ((keysOfRows ps o).map natD) := by
    have ka : ((keysOfRows ps o).map fun (i : Nat) => (Sum.inl (i : Int) : Key)).all okK = true := List.all_eq_true.mpr fun k hk => by
      obtain ⟨i, _, rfl⟩ := List.mem_map.mp hk
      rfl
    show (if ((keysOfRows ps o).map fun (i : Nat) => (Sum.inl (i : Int) : Key)).all okK = true then some (((keysOfRows ps o).map fun (i : Nat) => (Sum.inl (i : Int) : Key)).map keyD) else none) = _
    rw [if_pos ka, List.map_map]
    rfl
  have hkk : (fKeys fun ρ => getE ρ 4) [some (progsD ps), some (.lst (o.map natD)), some (progsD ps), some (.lst (o.map natD)), some (.fk ((keysOfRows ps o).map fun (i : Nat) => (Sum.inl (i : Int) : Key)) ((keysOfRows ps o).map fun i => rowD (rowsOf ps o i))), none, none, none] = .ok ((keysOfRows ps o).map natD) := by
    show R.ofO (gKeys _) = _
    rw [hk]
    rfl
  rw [s_fLc, hkk, s_bind_ok]
  show thawR ((R.ofO (compL _ _ _ [some (progsD ps), some (.lst (o.map natD)), some (progsD ps), some (.lst (o.map natD)), some (.fk ((keysOfRows ps o).map fun (i : Nat) => (Sum.inl (i : Int) : Key)) ((keysOfRows ps o).map fun i => rowD (rowsOf ps o i))), none, none, none] _)).bind _) = _
  have kl := keys_len (ps := ps) (o := o)
  rw [c, lc_fin (by simp; omega)]
  show R.ok (D.lst (thawL _)) = _
  rw [thaw_rows]
  rfl
theorem F_told_exc (P : ps.length ≤ 1000) {p i : Nat} (h : F_outcome A [progsD ps, .lst (o.map natD)] = .exc ⟨A.Blocked, ["item", "place"], [.int (i : Int), .int (p : Int)]⟩) : F__law_told A [progsD ps, .lst (o.map natD)] = .ok (.tup [.str [98, 108, 111, 99, 107, 101, 100], natD p, natD i]) := by
  unfold F__law_told
  refine run_wp (P := fun r => r = .ok (.tup [.str [98, 108, 111, 99, 107, 101, 100], natD p, natD i])) ?_
  refine wp_seq (wp_asg (d := progsD ps) ?_ ?_)
  · have c := compL_map (ft := gtName 6) (tt := fYes) (fe := fCB gList (fCons (fun ρ => getE ρ 6) fNil)) (ρ := [some (progsD ps), some (.lst (o.map natD)), none, none, none, none, none, none]) (fun p : List Step => D.lst (p.map stD)) (fun _ => true) (fun p => .lst (p.map stD)) ps (fun x _ => ⟨_, rfl, rfl, fun _ => rfl⟩)
    rw [ftrue] at c
    simp [progsD] at c ⊢
    rw [c, lc_fin (by simp; omega)]
  refine wp_seq (wp_asg (d := .lst (o.map natD)) (by simp) ?_)
  refine wp_seq (wp_asg (d := .dk [] []) rfl ?_)
  have hc : fAsg 4 (fCallN (F_outcome A) (fCons (fun ρ => getE ρ 2) (fCons (fun ρ => getE ρ 3) fNil))) [some (progsD ps), some (.lst (o.map natD)), some (progsD ps), some (.lst (o.map natD)), some (.dk [] []), none, none, none] = .exc ⟨A.Blocked, ["item", "place"], [.int (i : Int), .int (p : Int)]⟩ [some (progsD ps), some (.lst (o.map natD)), some (progsD ps), some (.lst (o.map natD)), some (.dk [] []), none, none, none] := by
    simp [h]
  refine wp_seq ?_
  show wpO _ _ (fTryAs _ _ _ _ [some (progsD ps), some (.lst (o.map natD)), some (progsD ps), some (.lst (o.map natD)), some (.dk [] []), none, none, none])
  unfold fTryAs
  rw [hc]
  simp [fldX, fldX.look]
  exact ⟨rfl⟩
end
end DL
set_option Elab.async false
set_option linter.all false
set_option maxRecDepth 100000
namespace DL
open PySem L2
/-! ### the law's own comparison, of equal data -/
theorem eqI_refl {i : Int} : gEq (.int i) (.int i) = some (.bl true) := by simp
theorem same_int {n : Nat} {i : Int} : F__law_same (n + 1) [.int i, .int i] = .ok (.bl true) := by
  show runF 3 2 (b__law_same (F__law_same n)) _ = _
  unfold b__law_same
  refine run_wp (P := fun r => r = .ok (.bl true)) ?_
  have h1 : gIsN false (.int i) .non = some (.bl false) := rfl
  have h2 : gIsi "bool" (.int i) = some (.bl false) := rfl
  have h3 : gIsi "int" (.int i) = some (.bl true) := rfl
  refine wp_seq (wp_if (b := false) (by simp [h1]) (fun h => by cases h) fun _ => wp_next ?_)
  refine wp_seq (wp_if (b := false) (by simp [fIsi, h2]) (fun h => by cases h) fun _ => wp_next ?_)
  refine wp_seq (wp_if (b := true) (by simp [fIsi, h3]) (fun _ => ?_) fun h => by cases h)
  exact wp_ret (d := .bl true) (by simp [fIsi, h2, h3]) rfl
theorem same_str {n : Nat} {i : List Nat} : F__law_same (n + 1) [.str i, .str i] = .ok (.bl true) := by
  show runF 3 2 (b__law_same (F__law_same n)) _ = _
  unfold b__law_same
  refine run_wp (P := fun r => r = .ok (.bl true)) ?_
  have h1 : gIsN false (.str i) .non = some (.bl false) := rfl
  have h2 : gIsi "bool" (.str i) = some (.bl false) := rfl
  have h3 : gIsi "int" (.str i) = some (.bl false) := rfl
  have h4 : gIsi "str" (.str i) = some (.bl true) := rfl
  refine wp_seq (wp_if (b := false) (by simp [h1]) (fun h => by cases h) fun _ => wp_next ?_)
  refine wp_seq (wp_if (b := false) (by simp [fIsi, h2]) (fun h => by cases h) fun _ => wp_next ?_)
  refine wp_seq (wp_if (b := false) (by simp [fIsi, h3]) (fun h => by cases h) fun _ => wp_next ?_)
  refine wp_seq (wp_if (b := true) (by simp [fIsi, h4]) (fun _ => ?_) fun h => by cases h)
  exact wp_ret (d := .bl true) (by simp [fIsi, h4]) rfl
theorem same_tup {n : Nat} {l : List D} (hl : l.length < 1000000) (h : ∀ d ∈ l, F__law_same n [d, d] = .ok (.bl true)) : F__law_same (n + 1) [.tup l, .tup l] = .ok (.bl true) := by
  show runF 3 2 (b__law_same (F__law_same n)) _ = _
  unfold b__law_same
  refine run_wp (P := fun r => r = .ok (.bl true)) ?_
  have h1 : gIsN false (.tup l) .non = some (.bl false) := rfl
  have h2 : gIsi "bool" (.tup l) = some (.bl false) := rfl
  have h3 : gIsi "int" (.tup l) = some (.bl false) := rfl
  have h4 : gIsi "str" (.tup l) = some (.bl false) := rfl
  have h5 : gIsi "list" (.tup l) = some (.bl false) := rfl
  have h6 : gIsi "tuple" (.tup l) = some (.bl true) := rfl
  refine wp_seq (wp_if (b := false) (by simp [h1]) (fun h => by cases h) fun _ => wp_next ?_)
  refine wp_seq (wp_if (b := false) (by simp [fIsi, h2]) (fun h => by cases h) fun _ => wp_next ?_)
  refine wp_seq (wp_if (b := false) (by simp [fIsi, h3]) (fun h => by cases h) fun _ => wp_next ?_)
  refine wp_seq (wp_if (b := false) (by simp [fIsi, h4]) (fun h => by cases h) fun _ => wp_next ?_)
  refine wp_seq (wp_if (b := false) (by simp [fIsi, h5]) (fun h => by cases h) fun _ => wp_next ?_)
  refine wp_seq (wp_if (b := false) (by simp [fIsi, h6]) (fun h => by cases h) fun _ => wp_next ?_)
  refine wp_seq (wp_if (b := false) (by simp) (fun h => by cases h) fun _ => wp_next ?_)
  refine wp_seq (wp_for natD (fun pre ρ => ∃ x : Option D, ρ = [some (.tup l), some (.tup l), x]) (xs := List.range l.length) (by simp [rngN hl]) ⟨none, rfl⟩ ?_ ?_)
  · rintro pre k post ρ e ⟨x, rfl⟩
    have hk : k < l.length := by
      have : k ∈ List.range l.length := by rw [e]; simp
      exact List.mem_range.mp this
    have g : atI l (k : Int) = some l[k] := by
      rw [atI_get? (by omega)]
      simp [hk]
    refine ⟨_, rfl, wp_if (b := false) ?_ (fun h => by cases h) fun _ => wp_next ⟨_, rfl⟩⟩
    simp [natD, g, h l[k] (List.getElem_mem hk)]
  · rintro ρ ⟨x, rfl⟩
    exact wp_ret (d := .bl true) rfl rfl
theorem same_lst {n : Nat} {l : List D} (hl : l.length < 1000000) (h : ∀ d ∈ l, F__law_same n [d, d] = .ok (.bl true)) : F__law_same (n + 1) [.lst l, .lst l] = .ok (.bl true) := by
  show runF 3 2 (b__law_same (F__law_same n)) _ = _
  unfold b__law_same
  refine run_wp (P := fun r => r = .ok (.bl true)) ?_
  have h1 : gIsN false (.lst l) .non = some (.bl false) := rfl
  have h2 : gIsi "bool" (.lst l) = some (.bl false) := rfl
  have h3 : gIsi "int" (.lst l) = some (.bl false) := rfl
  have h4 : gIsi "str" (.lst l) = some (.bl false) := rfl
  have h5 : gIsi "list" (.lst l) = some (.bl true) := rfl
  have h6 : gIsi "tuple" (.lst l) = some (.bl false) := rfl
  refine wp_seq (wp_if (b := false) (by simp [h1]) (fun h => by cases h) fun _ => wp_next ?_)
  refine wp_seq (wp_if (b := false) (by simp [fIsi, h2]) (fun h => by cases h) fun _ => wp_next ?_)
  refine wp_seq (wp_if (b := false) (by simp [fIsi, h3]) (fun h => by cases h) fun _ => wp_next ?_)
  refine wp_seq (wp_if (b := false) (by simp [fIsi, h4]) (fun h => by cases h) fun _ => wp_next ?_)
  refine wp_seq (wp_if (b := false) (by simp [fIsi, h5]) (fun h => by cases h) fun _ => wp_next ?_)
  refine wp_seq (wp_if (b := false) (by simp [fIsi, h6]) (fun h => by cases h) fun _ => wp_next ?_)
  refine wp_seq (wp_if (b := false) (by simp) (fun h => by cases h) fun _ => wp_next ?_)
  refine wp_seq (wp_for natD (fun pre ρ => ∃ x : Option D, ρ = [some (.lst l), some (.lst l), x]) (xs := List.range l.length) (by simp [rngN hl]) ⟨none, rfl⟩ ?_ ?_)
  · rintro pre k post ρ e ⟨x, rfl⟩
    have hk : k < l.length := by
      have : k ∈ List.range l.length := by rw [e]; simp
      exact List.mem_range.mp this
    have g : atI l (k : Int) = some l[k] := by
      rw [atI_get? (by omega)]
      simp [hk]
    refine ⟨_, rfl, wp_if (b := false) ?_ (fun h => by cases h) fun _ => wp_next ⟨_, rfl⟩⟩
    simp [natD, g, h l[k] (List.getElem_mem hk)]
  · rintro ρ ⟨x, rfl⟩
    exact wp_ret (d := .bl true) rfl rfl
theorem same_rows {ps : Progs} {o : List Nat} (ho : o.length ≤ 5000) : F__law_same 4 [rowsD ps o, rowsD ps o] = .ok (.bl true) := by
  have kl := keys_len (ps := ps) (o := o)
  refine same_lst (by rw [List.length_map]; omega) fun d hd => ?_
  obtain ⟨i, _, rfl⟩ := List.mem_map.mp hd
  have rl : (rowsOf ps o i).length ≤ o.length := rows_len
  refine same_tup (by simp) fun d hd => ?_
  rcases List.mem_cons.mp hd with rfl | hd
  · exact same_int
  · obtain rfl := List.mem_singleton.mp hd
    refine same_tup (by rw [List.length_map]; omega) fun d hd => ?_
    obtain ⟨q, _, rfl⟩ := List.mem_map.mp hd
    exact same_int
theorem same_blocked {p i : Nat} {x : List Nat} : F__law_same 4 [.tup [.str x, natD p, natD i], .tup [.str x, natD p, natD i]] = .ok (.bl true) := by
  refine same_tup (by simp) fun d hd => ?_
  rcases List.mem_cons.mp hd with rfl | hd
  · exact same_str
  · rcases List.mem_cons.mp hd with rfl | hd
    · exact same_int
    · obtain rfl := List.mem_singleton.mp hd
      exact same_int
end DL
set_option Elab.async false
set_option linter.all false
set_option maxRecDepth 100000
namespace DL
open PySem L2
theorem closed_good {n : Nat} (h6 : n ≤ 6) {ps : Progs} (P : OkPs ps) (r : ∀ pr ∈ ps, inR n pr) (sh : ∀ pr ∈ ps, pr.length ≤ 900) {o : List Nat} : OkPs (closedP n ps o) ∧ ∀ pr ∈ closedP n ps o, fullP pr := by
  have key : ∀ pr ∈ closedP n ps o, fullP pr ∧ okP pr ∧ inR n pr ∧ pr.length ≤ 1000 := fun pr h => by
    obtain ⟨p, hp, rfl⟩ := List.mem_map.mp h
    have hp := List.mem_range.mp hp
    obtain ⟨a, b, c⟩ := ends_full (done_ok P.ok o p) (done_in r (o := o) (p := p))
    refine ⟨a, b, c, ?_⟩
    have h1 := ends_len (n := n) (pr := doneP ps o p)
    have h2 : (doneP ps o p).length ≤ 900 := by
      unfold doneP
      rw [List.length_take, List.getD_eq_getElem?_getD, List.getElem?_eq_getElem hp]
      have := sh _ (List.getElem_mem hp)
      simp
      omega
    unfold closeP endsP
    rw [List.length_append]
    omega
  refine ⟨⟨fun pr h => (key pr h).2.1, fun pr h s hs => ?_, by rw [closed_len]; exact P.len, fun pr h => (key pr h).2.2.2⟩, fun pr h => (key pr h).1⟩
  have : s.2 < n := (key pr h).2.2.1 s hs
  show s.2 < 6
  omega
section
variable {ps : Progs} {A : Cls}
theorem told_legal (P : OkPs ps) (full : ∀ pr ∈ ps, fullP pr) {w : List Nat} (hw : w.length ≤ 5000) (hl : legal ps w) (hc : ∀ p pr, ps[p]? = some pr → w.count p = pr.length) : F__law_told A [progsD ps, .lst (w.map natD)] = .ok (rowsD ps w) := by
  have := P.len
  exact F_told_ok (by omega) (F_outcome_core P full hw (fun p hp => legal_in hl hp) _ (fun pre p post e _ => .inl (hl pre p post e)) fun _ => ⟨hc, rfl⟩)
theorem told_blocked (P : OkPs ps) (full : ∀ pr ∈ ps, fullP pr) {x y : List Nat} {b i : Nat} (hw : (x ++ b :: y).length ≤ 5000) (hin : ∀ p ∈ x ++ b :: y, p < ps.length) (hl : legal ps x) (hs : nextS ps x b = some (true, i)) (hf : ¬ isFree ps x i) :
    F__law_told A [progsD ps, .lst ((x ++ b :: y).map natD)] = .ok (.tup [.str [98, 108, 111, 99, 107, 101, 100], natD x.length, natD i]) := by
  have := P.len
  have nm : ¬ may ps x b := fun ⟨s, h1, h2⟩ => by
    rw [hs] at h1
    cases h1
    exact hf (h2 rfl)
  refine F_told_exc (by omega) (F_outcome_core P full hw hin _ (fun pre p post e hpre => ?_) fun h => absurd (h x b y rfl) nm)
  rcases List.append_eq_append_iff.mp e with ⟨t, e1, e2⟩ | ⟨t, e1, e2⟩
  · cases t with
    | nil =>
      rw [List.append_nil] at e1
      rw [List.nil_append] at e2
      cases e2
      subst e1
      exact .inr ⟨i, hs, hf, rfl⟩
    | cons z t =>
      cases e2
      exact absurd (hpre x b t e1) nm
  · cases t with
    | nil =>
      rw [List.append_nil] at e1
      rw [List.nil_append] at e2
      cases e2
      subst e1
      exact .inr ⟨i, hs, hf, rfl⟩
    | cons z t =>
      cases e2
      exact .inl (hl pre p t e1)
theorem done_perm {o o' : List Nat} (h : ∀ q, o.count q = o'.count q) (p : Nat) : doneP ps o p = doneP ps o' p := by
  unfold doneP
  rw [h]
theorem next_perm {o o' : List Nat} (h : ∀ q, o.count q = o'.count q) (p : Nat) : nextS ps o p = nextS ps o' p := by
  unfold nextS
  rw [h]
theorem free_perm {o o' : List Nat} (h : ∀ q, o.count q = o'.count q) (i : Nat) : isFree ps o i ↔ isFree ps o' i := by
  unfold isFree
  exact forall_congr' fun p => by rw [done_perm h]
theorem may_perm {o o' : List Nat} (h : ∀ q, o.count q = o'.count q) (p : Nat) : may ps o p ↔ may ps o' p := by
  unfold may
  rw [next_perm h]
  exact exists_congr fun s => by rw [free_perm h]
theorem legal_app {u : List Nat} : ∀ {y : List Nat}, legal ps (u ++ y) ↔ legal ps u ∧ ∀ y1 p y2, y = y1 ++ p :: y2 → may ps (u ++ y1) p := by
  intro y
  constructor
  · intro h
    refine ⟨legal_pre h, fun y1 p y2 e => h (u ++ y1) p y2 ?_⟩
    rw [e, List.append_assoc]
  · rintro ⟨h1, h2⟩ a p b e
    rcases List.append_eq_append_iff.mp e with ⟨t, e1, e2⟩ | ⟨t, e1, e2⟩
    · rw [e1]
      exact h2 t p b e2
    · cases t with
      | nil =>
        rw [List.append_nil] at e1
        rw [List.nil_append] at e2
        subst e1
        have := h2 [] p b e2.symm
        rwa [List.append_nil] at this
      | cons z t =>
        cases e2
        exact h1 a p t e1
theorem rows_perm {i : Nat} : ∀ {y o o' : List Nat}, (∀ q, o.count q = o'.count q) → rowsFrom ps i o y = rowsFrom ps i o' y
  | [], _, _, _ => rfl
  | p :: y, o, o', h => by
    show (if nextS ps o p = some (true, i) then [p] else []) ++ rowsFrom ps i (o ++ [p]) y = (if nextS ps o' p = some (true, i) then [p] else []) ++ rowsFrom ps i (o' ++ [p]) y
    rw [next_perm h, rows_perm (o' := o' ++ [p]) fun q => by rw [List.count_append, List.count_append, h q]]
end
end DL
set_option Elab.async false
set_option linter.all false
set_option maxRecDepth 100000
namespace DL
open PySem L2
section
variable {ps : Progs} {A : Cls} {x y : List Nat} {a b : Nat} {sa sb : Step}
theorem swap_count (q : Nat) : (x ++ [a, b]).count q = (x ++ [b, a]).count q := by
  rw [List.count_append, List.count_append]
  congr 1
  exact (List.Perm.swap b a []).count_eq q
theorem next_other (ne : a ≠ b) : nextS ps (x ++ [a]) b = nextS ps x b := by
  unfold nextS
  rw [count_snoc, if_neg ne, Nat.add_zero]
theorem swap_legal (P : OkPs ps) (ne : a ≠ b) (hl : legal ps (x ++ a :: b :: y)) (ha : nextS ps x a = some sa) (hb : nextS ps x b = some sb) (hi : sa.2 ≠ sb.2) : legal ps (x ++ b :: a :: y) := by
  have e1 : x ++ a :: b :: y = (x ++ [a, b]) ++ y := by simp
  have e2 : x ++ b :: a :: y = (x ++ [b, a]) ++ y := by simp
  have hx : legal ps x := legal_pre hl
  have ma : may ps x a := hl x a (b :: y) rfl
  have mb : may ps (x ++ [a]) b := hl (x ++ [a]) b y (by simp)
  rw [e1] at hl
  obtain ⟨_, hy⟩ := legal_app.mp hl
  have mb2 : may ps x b := by
    obtain ⟨s, h1, h2⟩ := mb
    rw [next_other ne, hb] at h1
    cases h1
    refine ⟨sb, hb, fun q p hp hh => h2 q p hp ?_⟩
    refine (held_snoc P ha sb.2 p).mpr ?_
    rw [if_neg fun z => hi z.2]
    exact hh
  have ma2 : may ps (x ++ [b]) a := by
    obtain ⟨s, h1, h2⟩ := ma
    rw [ha] at h1
    cases h1
    refine ⟨sa, by rw [next_other ne.symm, ha], fun q p hp hh => h2 q p hp ?_⟩
    have := (held_snoc P hb sa.2 p).mp hh
    rwa [if_neg fun z => hi z.2.symm] at this
  rw [e2]
  refine legal_app.mpr ⟨?_, fun y1 p y2 e => (may_perm (fun q => ?_) p).mp (hy y1 p y2 e)⟩
  · rw [show x ++ [b, a] = (x ++ [b]) ++ [a] by simp]
    exact legal_snoc.mpr ⟨legal_snoc.mpr ⟨hx, mb2⟩, ma2⟩
  · rw [List.count_append, List.count_append (l₁ := x ++ [b, a]), swap_count]
theorem swap_rows (ne : a ≠ b) (ha : nextS ps x a = some sa) (hb : nextS ps x b = some sb) (hi : sa.2 ≠ sb.2) (i : Nat) : rowsOf ps (x ++ b :: a :: y) i = rowsOf ps (x ++ a :: b :: y) i := by
  unfold rowsOf
  rw [rows_app, rows_app]
  congr 1
  show (if nextS ps ([] ++ x) b = some (true, i) then [b] else []) ++ ((if nextS ps ([] ++ x ++ [b]) a = some (true, i) then [a] else []) ++ rowsFrom ps i ([] ++ x ++ [b] ++ [a]) y)
    = (if nextS ps ([] ++ x) a = some (true, i) then [a] else []) ++ ((if nextS ps ([] ++ x ++ [a]) b = some (true, i) then [b] else []) ++ rowsFrom ps i ([] ++ x ++ [a] ++ [b]) y)
  rw [List.nil_append, next_other ne, next_other ne.symm, ha, hb, rows_perm (o := x ++ [b] ++ [a]) (o' := x ++ [a] ++ [b]) fun q => by
    have := swap_count (x := x) (a := a) (b := b) q
    rw [show x ++ [b] ++ [a] = x ++ [b, a] by simp, show x ++ [a] ++ [b] = x ++ [a, b] by simp, this]]
  by_cases h1 : some sa = some (true, i)
  · have h2 : ¬ some sb = some (true, i) := fun z => hi (by cases h1; cases z; rfl)
    rw [if_pos h1, if_neg h2, List.nil_append, List.nil_append]
  · rw [if_neg h1]
    simp
theorem swap_blocked (P : OkPs ps) (ne : a ≠ b) (hl : legal ps (x ++ a :: b :: y)) (ha : nextS ps x a = some sa) (hb : nextS ps x b = some sb) (hi : sa.2 = sb.2) : sb = (true, sa.2) ∧ ¬ isFree ps x sa.2 := by
  have hx : legal ps x := legal_pre hl
  have ma : may ps x a := hl x a (b :: y) rfl
  have mb : may ps (x ++ [a]) b := hl (x ++ [a]) b y (by simp)
  obtain ⟨_, _, _, pa, da⟩ := next_some ha
  obtain ⟨_, _, _, pb, db⟩ := next_some hb
  have hold : ∀ {p : Nat} {s : Step}, nextS ps x p = some s → doneP ps (x ++ [p]) p = doneP ps x p ++ [s] → s.1 = false → heldBy (doneP ps x p) s.2 := fun {p s} h d q => by
    have ok1 := done_ok P.ok x p
    have ok2 := done_ok P.ok (x ++ [p]) p
    rw [d] at ok2
    have := (okP_snoc ok1).mp ok2
    rw [if_neg (by rw [q]; exact Bool.false_ne_true)] at this
    exact this
  obtain ⟨s1, h1, f1⟩ := ma
  rw [ha] at h1
  cases h1
  obtain ⟨s2, h2, f2⟩ := mb
  rw [next_other ne, hb] at h2
  cases h2
  cases qa : sa.1 with
  | true =>
    exfalso
    cases qb : sb.1 with
    | true =>
      refine f2 qb a pa ((held_snoc P ha sb.2 a).mpr ?_)
      rw [if_pos ⟨rfl, hi⟩]
      exact qa
    | false => exact f1 qa b pb (by rw [hi]; exact hold hb db qb)
  | false =>
    have h3 := hold ha da qa
    cases qb : sb.1 with
    | true => exact ⟨Prod.ext qb hi.symm, fun f => f a pa h3⟩
    | false => exact absurd (one_holds P.ok x hx sa.2 a b pa pb h3 (by rw [hi]; exact hold hb db qb)) ne
end
end DL
set_option Elab.async false
set_option linter.all false
set_option maxRecDepth 100000
namespace DL
open PySem L2
theorem split2 {w : List Nat} {k : Nat} (h : k + 1 < w.length) : ∃ x a b y, w = x ++ a :: b :: y ∧ x.length = k := by
  refine ⟨w.take k, w[k], w[k + 1], w.drop (k + 2), ?_, by rw [List.length_take]; omega⟩
  rw [← List.drop_eq_getElem_cons, ← List.drop_eq_getElem_cons, List.take_append_drop]
section
variable {ps : Progs} {A : Cls}
theorem F_fine6 (P : OkPs ps) (full : ∀ pr ∈ ps, fullP pr) {w : List Nat} (hw : w.length ≤ 5000) (hl : legal ps w) (hc : ∀ p pr, ps[p]? = some pr → w.count p = pr.length) : F__law_fine A [progsD ps, .lst (w.map natD)] = .ok (.bl true) := by
  have hlen := P.len
  have h1 := F_locked6 P hl hw
  have h2 := told_legal (A := A) P full hw hl hc
  have h3 := F_steps6 (by omega : ps.length ≤ 1000) hl hw
  have h4 := same_rows (ps := ps) hw
  unfold F__law_fine
  refine run_wp (P := fun r => r = .ok (.bl true)) ?_
  refine wp_seq (wp_asg (d := rowsD ps w) (by simp [h1]) ?_)
  refine wp_seq (wp_if (b := false) (by simp [h2, h4]) (fun h => by cases h) fun _ => wp_next ?_)
  refine wp_seq (wp_asg (d := .lst ((stepsOf ps w).map stD)) (by simp [h3]) ?_)
  refine wp_seq (wp_for natD (fun pre ρ => ∃ x4 x5 x6 : Option D, ρ = [some (progsD ps), some (.lst (w.map natD)), some (rowsD ps w), some (.lst ((stepsOf ps w).map stD)), x4, x5, x6]) (xs := List.range (w.length - 1)) ?_ ⟨none, none, none, rfl⟩ ?_ ?_)
  · have hr : gRng [.int ((w.length : Int) - 1)] = some ((List.range (w.length - 1)).map natD) := by
      rw [rng1 (by omega), show ((w.length : Int) - 1).toNat = w.length - 1 by omega]
      simp [natD]
    simp [hr]
  · rintro pre k post ρ e ⟨x4, x5, x6, rfl⟩
    have hk : k < w.length - 1 := by
      have : k ∈ List.range (w.length - 1) := by rw [e]; simp
      exact List.mem_range.mp this
    obtain ⟨x, a, b, y, ew, hx⟩ := split2 (w := w) (k := k) (by omega)
    refine ⟨_, rfl, ?_⟩
    have ga : atI (w.map natD) (k : Int) = some (natD a) := by
      rw [atI_get? (by omega), ew, ← hx]
      simp
    have gb : atI (w.map natD) ((k : Int) + 1) = some (natD b) := by
      rw [atI_get? (by omega), ew, ← hx, show ((x.length : Int) + 1).toNat = x.length + 1 by omega, List.map_append, List.getElem?_append_right (by simp)]
      simp
    refine wp_if (b := !decide ((a : Int) = b)) (by simp [natD, ga, gb] at ga gb ⊢) (fun hne => ?_) fun _ => wp_next ⟨_, x5, x6, rfl⟩
    have ne : a ≠ b := fun z => by simp [z] at hne
    have ma := hl x a (b :: y) ew
    have mb := hl (x ++ [a]) b y (by rw [ew]; simp)
    obtain ⟨sa, ha, _⟩ := ma
    obtain ⟨sb, hb1, _⟩ := mb
    have hb : nextS ps x b = some sb := by rw [← next_other ne]; exact hb1
    have ta := steps_at ew ha
    have tb := steps_at (o := w) (a := x ++ [a]) (b := y) (by rw [ew]; simp) hb1
    rw [hx] at ta
    rw [List.length_append, hx, List.length_singleton] at tb
    have ga2 := step_get ta
    have gb2 : atI ((stepsOf ps w).map stD) ((k : Int) + 1) = some (stD sb) := step_get tb
    obtain ⟨pra, qa1, qa2, pa, _⟩ := next_some ha
    obtain ⟨prb, qb1, qb2, pb, _⟩ := next_some hb
    have ia : sa.2 < 6 := P.r pra (List.mem_of_getElem? qa1) sa (List.mem_of_getElem? qa2)
    have ib : sb.2 < 6 := P.r prb (List.mem_of_getElem? qb1) sb (List.mem_of_getElem? qb2)
    have da : gIx (stD sa) (.int 1) = some (.str [48 + sa.2]) := ixS (n := 1) (by simp [stL]) rfl
    have db : gIx (stD sb) (.int 1) = some (.str [48 + sb.2]) := ixS (n := 1) (by simp [stL]) rfl
    have di := dig (show sa.2 < 10 by omega)
    refine wp_seq (wp_asg (d := rowsD ps w) (by simp) ?_)
    have hyl : (x ++ b :: a :: y).length = w.length := by rw [ew]; simp
    have cut1 : cutG (w.map natD) none (some (k : Int)) = x.map natD := by
      rw [cut_take (by simp; omega), ew, List.map_append, List.take_left' (by simpa using hx)]
    have cut2 : cutG (w.map natD) (some ((k : Int) + 2)) none = y.map natD := by
      have := cut_drop (xs := w.map natD) (n := k + 2) (by simp; omega)
      rw [show ((k + 2 : Nat) : Int) = (k : Int) + 2 by omega] at this
      rw [this, ew, show x ++ a :: b :: y = (x ++ [a, b]) ++ y by simp, List.map_append, List.drop_left' (by simp [hx])]
    have ad1 : gAdd (.lst (x.map natD)) (.lst [natD b, natD a]) = some (.lst ((x ++ [b, a]).map natD)) := by
      rw [addL (by simp; omega), List.map_append]
      rfl
    have ad2 : gAdd (.lst ((x ++ [b, a]).map natD)) (.lst (y.map natD)) = some (.lst ((x ++ b :: a :: y).map natD)) := by
      rw [addL (by simp at hyl ⊢; omega)]
      simp
    have fin : ∀ (T : Out → Prop) (N : Env → Prop) (d : D) (r2 : D), F__law_told A [progsD ps, .lst ((x ++ b :: a :: y).map natD)] = .ok d → F__law_same 4 [d, d] = .ok (.bl true) →
        N [some (progsD ps), some (.lst (w.map natD)), some (rowsD ps w), some (.lst ((stepsOf ps w).map stD)), some (natD k), some d, some (.lst ((x ++ b :: a :: y).map natD))] →
        wpO N T (fSeq (fAsg 6 (fOp gAdd (fOp gAdd (fSl (fun ρ => getE ρ 1) foNone (foSome (fun ρ => getE ρ 4))) (fLst (fCons (fOp gIx (fun ρ => getE ρ 1) (fOp gAdd (fun ρ => getE ρ 4) (fun _ => .ok (.int 1)))) (fCons (fOp gIx (fun ρ => getE ρ 1) (fun ρ => getE ρ 4)) fNil)))) (fSl (fun ρ => getE ρ 1) (foSome (fOp gAdd (fun ρ => getE ρ 4) (fun _ => .ok (.int 2)))) foNone)))
  (fIf (fNot (fB (fCallN (F__law_same 4) (fCons (fCallN (F__law_told A) (fCons (fun ρ => getE ρ 0) (fCons (fun ρ => getE ρ 6) fNil))) (fCons (fun ρ => getE ρ 5) fNil)))))
  (fRet (fun _ => .ok (.bl false)))
  fNext) [some (progsD ps), some (.lst (w.map natD)), some (rowsD ps w), some (.lst ((stepsOf ps w).map stD)), some (natD k), some d, x6]) := fun T N d r2 t1 t2 h => by
      refine wp_seq (wp_asg (d := .lst ((x ++ b :: a :: y).map natD)) ?_ ?_)
      · simp [natD, ga, gb, cut1, cut2, ad1, ad2] at ga gb cut1 cut2 ad1 ad2 ⊢
        simp [ga, gb, cut1, cut2, ad1, ad2]
      · refine wp_if (b := false) ?_ (fun h => by cases h) fun _ => wp_next h
        simp [-List.map_append, -List.map_cons, t1, t2]
    by_cases hi : sa.2 = sb.2
    · obtain ⟨e1, e2⟩ := swap_blocked (y := y) P ne (by rw [← ew]; exact hl) ha hb hi
      have hbl := told_blocked (A := A) (x := x) (b := b) (y := a :: y) P full (by omega) (fun p hp => ?_) (legal_pre (by rw [← ew]; exact hl)) (by rw [hb, e1]) e2
      · refine wp_seq (wp_if (b := true) ?_ (fun _ => ?_) fun h => by cases h)
        · simp [natD, ga2, gb2, da, db] at ga2 gb2 ⊢
          simp [ga2, gb2, da, db, hi]
        · refine wp_asg (d := .tup [.str [98, 108, 111, 99, 107, 101, 100], natD k, natD sa.2]) ?_ (fin _ _ _ .non (by rw [← hx]; exact hbl) same_blocked ⟨_, _, _, rfl⟩)
          simp [natD, ga2, da, di] at ga2 ⊢
      · refine legal_in hl ?_
        rw [ew]
        simp at hp ⊢
        rcases hp with h | h | h | h <;> simp [h]
    · refine wp_seq (wp_if (b := false) ?_ (fun h => by cases h) fun _ => wp_next ?_)
      · simp [natD, ga2, gb2, da, db] at ga2 gb2 ⊢
        simp [ga2, gb2, da, db, hi]
      · have hl2 := swap_legal (y := y) P ne (by rw [← ew]; exact hl) ha hb hi
        have hr : rowsD ps (x ++ b :: a :: y) = rowsD ps w := by
          unfold rowsD keysOfRows
          rw [ew]
          simp only [swap_rows (y := y) ne ha hb hi]
        refine fin _ _ _ .non ?_ h4 ⟨_, _, _, rfl⟩
        rw [← hr]
        refine told_legal P full (by omega) hl2 fun p pr h => ?_
        rw [← hc p pr h, ew]
        exact (List.Perm.append_left x (List.Perm.swap a b y)).count_eq p
  · rintro ρ ⟨x4, x5, x6, rfl⟩
    exact wp_ret (d := .bl true) rfl rfl
end
end DL
set_option Elab.async false
set_option linter.all false
set_option maxRecDepth 100000
namespace DL
open PySem L2
theorem wp_mono {N N' : Env → Prop} {T : Out → Prop} {o : Out} (h : wpO N' T o) (k : ∀ ρ, N' ρ → N ρ) : wpO N T o := by
  obtain ⟨h⟩ := h
  cases o <;> first | exact ⟨k _ h⟩ | exact ⟨h⟩
theorem F_cell6 {ns : List Int} {k : Int} (hk : 0 ≤ k) : ∃ c : Int, F__law_cell [.scr ns, .int k] = .ok (.int c) := by
  refine ⟨ns.getD k.toNat 0, ?_⟩
  unfold F__law_cell runF b__law_cell
  simp [atI_get? hk]
  by_cases h : k < ns.length
  · have h2 : k.toNat < ns.length := by omega
    simp [h, h2]
  · have h2 : ¬ k.toNat < ns.length := by omega
    simp [h, h2]
theorem F_numbers6 (c : Int) {m l : Int} (hm : 0 ≤ m ∧ m ≤ 1000) (hl : 0 < l ∧ l < 1000000) : ∃ xs : List Int, F__law_numbers [.int c, .int m, .int l] = .ok (.lst (xs.map .int)) ∧ xs.length = m.toNat ∧ ∀ x ∈ xs, 0 ≤ x ∧ x < l := by
  unfold F__law_numbers
  refine run_wp (P := fun r => ∃ xs : List Int, r = .ok (.lst (xs.map .int)) ∧ xs.length = m.toNat ∧ ∀ x ∈ xs, 0 ≤ x ∧ x < l) ?_
  refine wp_seq (wp_asg (d := .int 0) (by simp) ?_)
  refine wp_seq (wp_mono (N' := fun ρ => ∃ a : Int, ρ = [some (.int c), some (.int m), some (.int l), some (.int a), none, none, none]) ?_ ?_)
  · refine wp_if (b := decide ((10 : Int) ^ 18 ≤ c)) (by simp [pow_int]) (fun h => ?_) fun h => wp_next ⟨0, rfl⟩
    exact wp_asg (d := .int (c - 10 ^ 18)) (by simp [pow_int]) ⟨_, rfl⟩
  rintro ρ ⟨a, rfl⟩
  refine wp_seq (wp_asg (d := .int (c % 2147483647)) (by simp [mod_int]) ?_)
  refine wp_seq (wp_asgF (d := .lst []) (by simp) (by simp) ?_)
  refine wp_seq (wp_for natD (fun pre ρ => ∃ (a b : Int) (xs : List Int) (x6 : Option D), ρ = [some (.int c), some (.int m), some (.int l), some (.int a), some (.int b), some (.lst (xs.map .int)), x6] ∧ xs.length = pre.length ∧ ∀ x ∈ xs, 0 ≤ x ∧ x < l) (xs := List.range m.toNat) ?_ ⟨a, _, [], none, rfl, rfl, fun _ h => (List.not_mem_nil h).elim⟩ ?_ ?_)
  · have hr : gRng [.int m] = some ((List.range m.toNat).map natD) := by
      rw [rng1 (by omega)]
      simp [natD]
    simp [hr]
  · rintro pre k post ρ e ⟨a, b, xs, x6, rfl, len, hx⟩
    have hk : pre.length < 1000 := by
      have := congrArg List.length e
      simp at this
      omega
    refine ⟨_, rfl, ?_⟩
    refine wp_seq (wp_asg (d := .int ((b * 48271 + 10007 * k + 12345) % 2147483647)) (by simp [mul_int, mod_int, natD]) ?_)
    refine wp_if (b := decide (0 < a)) (by simp) (fun h => ?_) fun h => ?_
    · refine wp_seq (wp_app (ds := xs.map .int) (d := .int (a % l)) rfl (by simp [mod_int, hl]) (by simp; omega) ?_)
      refine wp_asg (d := .int (a / l)) (by simp [div_int, show 0 < l ∧ l < 1073741824 by omega]) ⟨a / l, (b * 48271 + 10007 * k + 12345) % 2147483647, xs ++ [a % l], some (natD k), by simp, by simp [len], fun x h => ?_⟩
      rcases List.mem_append.mp h with q | q
      · exact hx x q
      · rw [List.mem_singleton.mp q]
        exact ⟨Int.emod_nonneg _ (by omega), Int.emod_lt_of_pos _ hl.1⟩
    · refine wp_app (ds := xs.map .int) (d := .int ((b * 48271 + 10007 * k + 12345) % 2147483647 / 1021 % l)) rfl (by simp [mod_int, div_int, hl]) (by simp; omega) ⟨a, (b * 48271 + 10007 * k + 12345) % 2147483647, xs ++ [(b * 48271 + 10007 * k + 12345) % 2147483647 / 1021 % l], some (natD k), by simp, by simp [len], fun x h => ?_⟩
      rcases List.mem_append.mp h with q | q
      · exact hx x q
      · rw [List.mem_singleton.mp q]
        exact ⟨Int.emod_nonneg _ (by omega), Int.emod_lt_of_pos _ hl.1⟩
  · rintro ρ ⟨a, b, xs, x6, rfl, len, hx⟩
    refine wp_ret (d := .lst (xs.map .int)) rfl ⟨xs, rfl, by simpa using len, hx⟩
end DL
set_option Elab.async false
set_option linter.all false
set_option maxRecDepth 100000
namespace DL
open PySem L2
/-- what a draw gives: numbers of a cell -/
theorem F_draw (ns : List Int) {k m l : Int} (hk : 0 ≤ k) (hm : 0 ≤ m ∧ m ≤ 1000) (hl : 0 < l ∧ l < 1000000) : ∃ (c : Int) (xs : List Int), F__law_cell [.scr ns, .int k] = .ok (.int c) ∧ F__law_numbers [.int c, .int m, .int l] = .ok (.lst (xs.map .int)) ∧ xs.length = m.toNat ∧ ∀ x ∈ xs, 0 ≤ x ∧ x < l := by
  obtain ⟨c, h⟩ := F_cell6 (ns := ns) hk
  obtain ⟨xs, h2⟩ := F_numbers6 c hm hl
  exact ⟨c, xs, h, h2⟩
def sizes : List Int := [1, 2, 3, 2, 4, 5, 6, 3, 2, 4, 3, 6]
theorem size_at {a : Int} (h : 0 ≤ a ∧ a < 12) : ∃ n : Nat, 1 ≤ n ∧ n ≤ 6 ∧ atI (sizes.map D.int) a = some (.int n) := by
  rw [atI_get? h.1]
  have : a.toNat < 12 := by omega
  match a.toNat, this with
  | 0, _ => exact ⟨1, by decide, by decide, rfl⟩
  | 1, _ => exact ⟨2, by decide, by decide, rfl⟩
  | 2, _ => exact ⟨3, by decide, by decide, rfl⟩
  | 3, _ => exact ⟨2, by decide, by decide, rfl⟩
  | 4, _ => exact ⟨4, by decide, by decide, rfl⟩
  | 5, _ => exact ⟨5, by decide, by decide, rfl⟩
  | 6, _ => exact ⟨6, by decide, by decide, rfl⟩
  | 7, _ => exact ⟨3, by decide, by decide, rfl⟩
  | 8, _ => exact ⟨2, by decide, by decide, rfl⟩
  | 9, _ => exact ⟨4, by decide, by decide, rfl⟩
  | 10, _ => exact ⟨3, by decide, by decide, rfl⟩
  | 11, _ => exact ⟨6, by decide, by decide, rfl⟩
theorem main (A : Cls) (ns : List Int) (h : ns.length ≤ 63) : F_law A [.scr ns] = .ok (.bl true) := by
  unfold F_law
  refine run_wp (P := fun r => r = .ok (.bl true)) ?_
  obtain ⟨c0, xs, e1, e2, len, hx⟩ := F_draw ns (k := 0) (m := 4) (l := 60) (by decide) (by decide) (by decide)
  match xs, len with
  | [a, b, c, d], _ =>
  have ha := hx a (by simp)
  have hb := hx b (by simp)
  have hd := hx d (by simp)
  obtain ⟨n, n1, n6, hn⟩ := size_at (a := a % 12) (by omega)
  refine wp_seq (wp_asg (d := .lst [.int a, .int b, .int c, .int d]) (by simp [e1, e2]) ?_)
  refine wp_seq (wp_asg (d := .int n) ?_ ?_)
  · simp [sizes] at hn
    simp [mod_int, atI_get?, lenOkM, hn]
  refine wp_seq (wp_asgF (d := .lst []) (by simp) (by simp) ?_)
  refine wp_seq (wp_for natD (fun pre ρ => ∃ (ps : Progs) (x4 x7 : Option D), ρ = [some (.scr ns), some (.lst [.int a, .int b, .int c, .int d]), some (.int n), some (progsD ps), x4, none, none, x7] ∧ ps.length = pre.length ∧ (∀ pr ∈ ps, okP pr) ∧ (∀ pr ∈ ps, inR n pr) ∧ ∀ pr ∈ ps, pr.length ≤ 30) (xs := List.range (2 + b % 4).toNat) ?_ ⟨[], none, none, rfl, rfl, fun _ h => (List.not_mem_nil h).elim, fun _ h => (List.not_mem_nil h).elim, fun _ h => (List.not_mem_nil h).elim⟩ ?_ ?_)
  · have hr : gRng [.int (2 + b % 4)] = some ((List.range (2 + b % 4).toNat).map natD) := by
      rw [rng1 (by omega)]
      simp [natD]
    simp [mod_int, atI_get?, hr]
  · rintro pre k post ρ e ⟨ps, x4, x7, rfl, len, hok, hin, hsh⟩
    have hk : pre.length < 100 := by
      have := congrArg List.length e
      simp at this
      omega
    refine ⟨_, rfl, ?_⟩
    obtain ⟨c2, ys, f1, f2, len2, hy⟩ := F_draw ns (k := 2 + (k : Int)) (m := 13) (l := 12) (by omega) (by decide) (by decide)
    refine wp_seq (wp_asg (d := .lst (ys.map .int)) (by simp [natD, f1, f2]) ?_)
    have l2 : ys.length = 13 := len2
    have h12 : ys[12]? = some ys[12] := List.getElem?_eq_getElem _
    generalize ys[12] = z at h12
    have hz := hy z (List.mem_of_getElem? h12)
    obtain ⟨q, rfl⟩ : ∃ q : Nat, z = q := ⟨z.toNat, by omega⟩
    obtain ⟨pr, g1, g2, g3, g4, g5⟩ := F_free n6 (ns := ys.take q) (by rw [List.length_take]; omega)
    have g5 : pr.length ≤ 30 := by
      rw [List.length_take] at g5
      omega
    refine wp_app (ds := ps.map fun p => .lst (p.map stD)) (d := .lst (pr.map stD)) rfl ?_ (by simp; omega) ⟨ps ++ [pr], some (natD k), some (.lst (ys.map .int)), ?_, ?_, ?_, ?_, ?_⟩
    · have hc : cutG (ys.map D.int) none (some (q : Int)) = (ys.take q).map D.int := by
        rw [cut_take (by simp; omega), List.map_take]
      simp [-List.map_take, atI_get?, h12, hc, g1]
    · simp [progsD, natD]
    · simp [len]
    · exact List.forall_mem_append.mpr ⟨hok, by simpa using g3⟩
    · exact List.forall_mem_append.mpr ⟨hin, by simpa using g4⟩
    · exact List.forall_mem_append.mpr ⟨hsh, by simpa using g5⟩
  rintro ρ ⟨ps, x4, x7, rfl, len, hok, hin, hsh⟩
  have hlen : ps.length ≤ 100 := by
    rw [List.length_range] at len
    omega
  have P : OkPs ps := ⟨hok, fun pr hp s hs => Nat.lt_of_lt_of_le (hin pr hp s hs) n6, hlen, fun pr hp => Nat.le_trans (hsh pr hp) (by decide)⟩
  obtain ⟨c1, ys, f1, f2, len1, hy⟩ := F_draw ns (k := 1) (m := 60) (l := 60) (by decide) (by decide) (by decide)
  have l60 : ys.length = 60 := len1
  obtain ⟨o, o1, o2, o3⟩ := F_order P (ns := ys) (by omega)
  refine wp_seq (wp_asg (d := .lst (o.map natD)) (by simp [f1, f2, o1]) ?_)
  refine wp_seq (wp_mono (N' := fun ρ => ∃ w : List Nat, ρ = [some (.scr ns), some (.lst [.int a, .int b, .int c, .int d]), some (.int n), some (progsD ps), x4, some (.lst (w.map natD)), none, x7] ∧ legal ps w ∧ w.length ≤ 60) ?_ ?_)
  · refine wp_if (b := decide (c < 20)) (by simp [atI_get?]) (fun hh => ?_) fun hh => wp_next ⟨o, rfl, o2, by omega⟩
    obtain ⟨q, hq⟩ : ∃ q : Nat, d % ((o.length : Int) + 1) = q := ⟨(d % ((o.length : Int) + 1)).toNat, by
      have := Int.emod_nonneg d (b := (o.length : Int) + 1) (by omega)
      omega⟩
    have hq2 : q ≤ o.length := by
      have := Int.emod_lt_of_pos d (b := (o.length : Int) + 1) (by omega)
      omega
    have hc : cutG (o.map natD) none (some (q : Int)) = (o.take q).map natD := by
      rw [cut_take (by simp; omega), List.map_take]
    refine wp_asg (d := .lst ((o.take q).map natD)) ?_ ⟨o.take q, rfl, legal_pre (b := o.drop q) (by rw [List.take_append_drop]; exact o2), by rw [List.length_take]; omega⟩
    simp [-List.map_take, atI_get?, mod_int, show (0 : Int) < (o.length : Int) + 1 by omega, hq, hc]
  rintro ρ ⟨w, rfl, w2, w3⟩
  have k1 := F_closed n6 P hin w2 (by omega)
  obtain ⟨k2, k3⟩ := closed_good n6 P hin (fun pr hp => Nat.le_trans (hsh pr hp) (by decide)) (o := w)
  have k4 := closed_legal (n := n) w2
  have k5 := F_fine6 (A := A) k2 k3 (w := w ++ tailO n ps w (List.range ps.length)) (by
    have := tail_len (n := n) (ps := ps) (o := w) (List.range ps.length)
    rw [List.length_range] at this
    have h2 : n * ps.length ≤ 6 * 100 := Nat.mul_le_mul n6 hlen
    rw [List.length_append]
    omega) k4 (fun p pr e => by
      have hp : p < ps.length := by
        rw [← closed_len (n := n) (o := w)]
        exact (List.getElem?_eq_some_iff.mp e).1
      rw [whole_count w2 hp]
      rw [closed_get hp] at e
      rw [← Option.some.inj e])
  refine wp_seq (wp_asg (d := .tup [progsD (closedP n ps w), .lst ((w ++ tailO n ps w (List.range ps.length)).map natD)]) (by simp [-List.map_append, k1]) ?_)
  exact wp_ret (d := .bl true) (by simp [-List.map_append, atI_get?, k5]) rfl
end DL
set_option Elab.async false
set_option linter.all false
set_option maxRecDepth 100000
namespace DL
open PySem L2
abbrev si_Blocked : Stmt := inClass (top 8) 0
theorem sci_Blocked : ScI ["self", "place", "item"] ["self", "place", "item"] (defScope si_Blocked) := ⟨rfl, rfl, rfl, by decide +kernel, rfl, by decide +kernel, by decide +kernel, by decide +kernel, rfl, rfl⟩
theorem mkx_Blocked {w : World} {K : PySem.W.Frag} {mg : Str → Option Value} {base : Heap} {C fI cda cc : Addr} {oc kV doc pm ct : Value} {an od : Option Addr} {osl : Array (Option Value)} (T : OexC K C) (m : mg "Blocked" = some (.ref C)) (iC : PySem.W.findIn K (.ref C) "__init__" = some (some (.ref fI))) (tI : PySem.W.typeIn K (.ref fI) = some (.type "function"))
    (lI : K.lookup fI = some ⟨oc, od, .func (PySem.W.ksFn "__init__" "Blocked.__init__" (defArgs si_Blocked) (defBody si_Blocked) (defScope si_Blocked) .none kV doc pm an (.ref cda) ct cc), osl⟩) (cI : PySem.W.codeIn K (.ref cda) "Blocked.__init__" = true) (S : SupC PySem.Challenge.pw_lockrules_k65_neighbours_exchanged K C cc cda) (mS : mg "super" = none) (no0 : PySem.W.findIn K (.ref C) "place" = some none) (no1 : PySem.W.findIn K (.ref C) "item" = some none) : HasX PySem.Challenge.pw_lockrules_k65_neighbours_exchanged w K mg base "Blocked" C ["place", "item"] :=
  ⟨T, m, fI, _, ["self", "place", "item"], iC, tI, init2 (k := 0) (pl := fun _ => _) lI cI sci_Blocked S T no0 no1 rfl rfl mS (by decide +kernel) (fun _ => rfl) (fun _ => rfl) (fun _ => rfl) (by decide) (by decide) (by decide) (by decide), .all fun us hl => match us, hl with | [_, _, _], _ => rfl⟩

def clsAt (K : PySem.W.Frag) (x : Str) : Addr := match PySem.W.nsIn K mainGlobals x with
  | some (some (.ref C)) => C
  | _ => 0
theorem clsAt_is {K : PySem.W.Frag} {x : Str} {C : Addr} (h : PySem.W.nsIn K mainGlobals x = some (some (.ref C))) : clsAt K x = C := by unfold clsAt; rw [h]
def clsOf (K : PySem.W.Frag) : Cls := ⟨clsAt K "Blocked"⟩
theorem all_mk {w : World} {K : PySem.W.Frag} {h : Heap} {mg : Str → Option Value} {fa : Addr} {f_start : Addr} {od_start an_start : Option Addr} {sl_start : Array (Option Value)} {oc_start kV_start dc_start pm_start cd_start ct_start : Value}
    {f_is_step : Addr} {od_is_step an_is_step : Option Addr} {sl_is_step : Array (Option Value)} {oc_is_step kV_is_step dc_is_step pm_is_step cd_is_step ct_is_step : Value}
    {f_after : Addr} {od_after an_after : Option Addr} {sl_after : Array (Option Value)} {oc_after kV_after dc_after pm_after cd_after ct_after : Value}
    {f_replay : Addr} {od_replay an_replay : Option Addr} {sl_replay : Array (Option Value)} {oc_replay kV_replay dc_replay pm_replay cd_replay ct_replay : Value}
    {f_check_programs : Addr} {od_check_programs an_check_programs : Option Addr} {sl_check_programs : Array (Option Value)} {oc_check_programs kV_check_programs dc_check_programs pm_check_programs cd_check_programs ct_check_programs : Value}
    {f_holds : Addr} {od_holds an_holds : Option Addr} {sl_holds : Array (Option Value)} {oc_holds kV_holds dc_holds pm_holds cd_holds ct_holds : Value}
    {f_is_free : Addr} {od_is_free an_is_free : Option Addr} {sl_is_free : Array (Option Value)} {oc_is_free kV_is_free dc_is_free pm_is_free cd_is_free ct_is_free : Value}
    {f_outcome : Addr} {od_outcome an_outcome : Option Addr} {sl_outcome : Array (Option Value)} {oc_outcome kV_outcome dc_outcome pm_outcome cd_outcome ct_outcome : Value}
    {f__law_cell : Addr} {od__law_cell an__law_cell : Option Addr} {sl__law_cell : Array (Option Value)} {oc__law_cell kV__law_cell dc__law_cell pm__law_cell cd__law_cell ct__law_cell : Value}
    {f__law_numbers : Addr} {od__law_numbers an__law_numbers : Option Addr} {sl__law_numbers : Array (Option Value)} {oc__law_numbers kV__law_numbers dc__law_numbers pm__law_numbers cd__law_numbers ct__law_numbers : Value}
    {f__law_same : Addr} {od__law_same an__law_same : Option Addr} {sl__law_same : Array (Option Value)} {oc__law_same kV__law_same dc__law_same pm__law_same cd__law_same ct__law_same : Value}
    {f__law_moved : Addr} {od__law_moved an__law_moved : Option Addr} {sl__law_moved : Array (Option Value)} {oc__law_moved kV__law_moved dc__law_moved pm__law_moved cd__law_moved ct__law_moved : Value}
    {f__law_ends : Addr} {od__law_ends an__law_ends : Option Addr} {sl__law_ends : Array (Option Value)} {oc__law_ends kV__law_ends dc__law_ends pm__law_ends cd__law_ends ct__law_ends : Value}
    {f__law_free : Addr} {od__law_free an__law_free : Option Addr} {sl__law_free : Array (Option Value)} {oc__law_free kV__law_free dc__law_free pm__law_free cd__law_free ct__law_free : Value}
    {f__law_order : Addr} {od__law_order an__law_order : Option Addr} {sl__law_order : Array (Option Value)} {oc__law_order kV__law_order dc__law_order pm__law_order cd__law_order ct__law_order : Value}
    {f__law_state_after : Addr} {od__law_state_after an__law_state_after : Option Addr} {sl__law_state_after : Array (Option Value)} {oc__law_state_after kV__law_state_after dc__law_state_after pm__law_state_after cd__law_state_after ct__law_state_after : Value}
    {f__law_closed : Addr} {od__law_closed an__law_closed : Option Addr} {sl__law_closed : Array (Option Value)} {oc__law_closed kV__law_closed dc__law_closed pm__law_closed cd__law_closed ct__law_closed : Value}
    {f__law_steps : Addr} {od__law_steps an__law_steps : Option Addr} {sl__law_steps : Array (Option Value)} {oc__law_steps kV__law_steps dc__law_steps pm__law_steps cd__law_steps ct__law_steps : Value}
    {f__law_locked : Addr} {od__law_locked an__law_locked : Option Addr} {sl__law_locked : Array (Option Value)} {oc__law_locked kV__law_locked dc__law_locked pm__law_locked cd__law_locked ct__law_locked : Value}
    {f__law_told : Addr} {od__law_told an__law_told : Option Addr} {sl__law_told : Array (Option Value)} {oc__law_told kV__law_told dc__law_told pm__law_told cd__law_told ct__law_told : Value}
    {f__law_fine : Addr} {od__law_fine an__law_fine : Option Addr} {sl__law_fine : Array (Option Value)} {oc__law_fine kV__law_fine dc__law_fine pm__law_fine cd__law_fine ct__law_fine : Value}
    {f_law : Addr} {od_law an_law : Option Addr} {sl_law : Array (Option Value)} {oc_law kV_law dc_law pm_law cd_law ct_law : Value}
    {tk_DIGITS : Tok}
    {tk_LARGEST : Tok}
    {C_Blocked N_Blocked LK_Blocked fI_Blocked cda_Blocked cc_Blocked : Addr} {nm_Blocked q_Blocked : Str} {bs_Blocked : List Value} {sn_Blocked : List Str} {sub_Blocked : List Value} {ab_Blocked : Bool} {col_Blocked : Option Bool} {dd_Blocked : Option Addr} {m0_Blocked m1_Blocked m2_Blocked m3_Blocked m5_Blocked : Option Value}
    {oc_Blocked kV_Blocked dc_Blocked pm_Blocked ct_Blocked ccl_Blocked cl_Blocked : Value} {an_Blocked od_Blocked cdd_Blocked cld_Blocked : Option Addr} {osl_Blocked ccs_Blocked csl_Blocked : Array (Option Value)} {vs_Blocked : Array Value} {file_Blocked : Str} {tf_Blocked : Tok} {cdt_Blocked : ClassData} (X : K.In h) (G : h.Ns mainGlobals mg) (hfa : mg "law" = some (.ref fa))
    (a_start : PySem.W.nsIn K mainGlobals "start" = some (some (.ref f_start)))
    (l_start : K.lookup f_start = some ⟨oc_start, od_start, .func (PySem.W.fnOf "start" "start" (defArgs s_start) (defBody s_start) (defScope s_start) .none kV_start dc_start pm_start an_start cd_start ct_start), sl_start⟩)
    (c_start : PySem.W.codeIn K cd_start "start" = true)
    (k_start : PySem.W.keepIn K (.ref f_start) = true)
    (a_is_step : PySem.W.nsIn K mainGlobals "is_step" = some (some (.ref f_is_step)))
    (l_is_step : K.lookup f_is_step = some ⟨oc_is_step, od_is_step, .func (PySem.W.fnOf "is_step" "is_step" (defArgs s_is_step) (defBody s_is_step) (defScope s_is_step) .none kV_is_step dc_is_step pm_is_step an_is_step cd_is_step ct_is_step), sl_is_step⟩)
    (c_is_step : PySem.W.codeIn K cd_is_step "is_step" = true)
    (k_is_step : PySem.W.keepIn K (.ref f_is_step) = true)
    (a_after : PySem.W.nsIn K mainGlobals "after" = some (some (.ref f_after)))
    (l_after : K.lookup f_after = some ⟨oc_after, od_after, .func (PySem.W.fnOf "after" "after" (defArgs s_after) (defBody s_after) (defScope s_after) .none kV_after dc_after pm_after an_after cd_after ct_after), sl_after⟩)
    (c_after : PySem.W.codeIn K cd_after "after" = true)
    (k_after : PySem.W.keepIn K (.ref f_after) = true)
    (a_replay : PySem.W.nsIn K mainGlobals "replay" = some (some (.ref f_replay)))
    (l_replay : K.lookup f_replay = some ⟨oc_replay, od_replay, .func (PySem.W.fnOf "replay" "replay" (defArgs s_replay) (defBody s_replay) (defScope s_replay) .none kV_replay dc_replay pm_replay an_replay cd_replay ct_replay), sl_replay⟩)
    (c_replay : PySem.W.codeIn K cd_replay "replay" = true)
    (k_replay : PySem.W.keepIn K (.ref f_replay) = true)
    (a_check_programs : PySem.W.nsIn K mainGlobals "check_programs" = some (some (.ref f_check_programs)))
    (l_check_programs : K.lookup f_check_programs = some ⟨oc_check_programs, od_check_programs, .func (PySem.W.fnOf "check_programs" "check_programs" (defArgs s_check_programs) (defBody s_check_programs) (defScope s_check_programs) .none kV_check_programs dc_check_programs pm_check_programs an_check_programs cd_check_programs ct_check_programs), sl_check_programs⟩)
    (c_check_programs : PySem.W.codeIn K cd_check_programs "check_programs" = true)
    (k_check_programs : PySem.W.keepIn K (.ref f_check_programs) = true)
    (a_holds : PySem.W.nsIn K mainGlobals "holds" = some (some (.ref f_holds)))
    (l_holds : K.lookup f_holds = some ⟨oc_holds, od_holds, .func (PySem.W.fnOf "holds" "holds" (defArgs s_holds) (defBody s_holds) (defScope s_holds) .none kV_holds dc_holds pm_holds an_holds cd_holds ct_holds), sl_holds⟩)
    (c_holds : PySem.W.codeIn K cd_holds "holds" = true)
    (k_holds : PySem.W.keepIn K (.ref f_holds) = true)
    (a_is_free : PySem.W.nsIn K mainGlobals "is_free" = some (some (.ref f_is_free)))
    (l_is_free : K.lookup f_is_free = some ⟨oc_is_free, od_is_free, .func (PySem.W.fnOf "is_free" "is_free" (defArgs s_is_free) (defBody s_is_free) (defScope s_is_free) .none kV_is_free dc_is_free pm_is_free an_is_free cd_is_free ct_is_free), sl_is_free⟩)
    (c_is_free : PySem.W.codeIn K cd_is_free "is_free" = true)
    (k_is_free : PySem.W.keepIn K (.ref f_is_free) = true)
    (a_outcome : PySem.W.nsIn K mainGlobals "outcome" = some (some (.ref f_outcome)))
    (l_outcome : K.lookup f_outcome = some ⟨oc_outcome, od_outcome, .func (PySem.W.fnOf "outcome" "outcome" (defArgs s_outcome) (defBody s_outcome) (defScope s_outcome) .none kV_outcome dc_outcome pm_outcome an_outcome cd_outcome ct_outcome), sl_outcome⟩)
    (c_outcome : PySem.W.codeIn K cd_outcome "outcome" = true)
    (k_outcome : PySem.W.keepIn K (.ref f_outcome) = true)
    (a__law_cell : PySem.W.nsIn K mainGlobals "_law_cell" = some (some (.ref f__law_cell)))
    (l__law_cell : K.lookup f__law_cell = some ⟨oc__law_cell, od__law_cell, .func (PySem.W.fnOf "_law_cell" "_law_cell" (defArgs s__law_cell) (defBody s__law_cell) (defScope s__law_cell) .none kV__law_cell dc__law_cell pm__law_cell an__law_cell cd__law_cell ct__law_cell), sl__law_cell⟩)
    (c__law_cell : PySem.W.codeIn K cd__law_cell "_law_cell" = true)
    (k__law_cell : PySem.W.keepIn K (.ref f__law_cell) = true)
    (a__law_numbers : PySem.W.nsIn K mainGlobals "_law_numbers" = some (some (.ref f__law_numbers)))
    (l__law_numbers : K.lookup f__law_numbers = some ⟨oc__law_numbers, od__law_numbers, .func (PySem.W.fnOf "_law_numbers" "_law_numbers" (defArgs s__law_numbers) (defBody s__law_numbers) (defScope s__law_numbers) .none kV__law_numbers dc__law_numbers pm__law_numbers an__law_numbers cd__law_numbers ct__law_numbers), sl__law_numbers⟩)
    (c__law_numbers : PySem.W.codeIn K cd__law_numbers "_law_numbers" = true)
    (k__law_numbers : PySem.W.keepIn K (.ref f__law_numbers) = true)
    (a__law_same : PySem.W.nsIn K mainGlobals "_law_same" = some (some (.ref f__law_same)))
    (l__law_same : K.lookup f__law_same = some ⟨oc__law_same, od__law_same, .func (PySem.W.fnOf "_law_same" "_law_same" (defArgs s__law_same) (defBody s__law_same) (defScope s__law_same) .none kV__law_same dc__law_same pm__law_same an__law_same cd__law_same ct__law_same), sl__law_same⟩)
    (c__law_same : PySem.W.codeIn K cd__law_same "_law_same" = true)
    (k__law_same : PySem.W.keepIn K (.ref f__law_same) = true)
    (a__law_moved : PySem.W.nsIn K mainGlobals "_law_moved" = some (some (.ref f__law_moved)))
    (l__law_moved : K.lookup f__law_moved = some ⟨oc__law_moved, od__law_moved, .func (PySem.W.fnOf "_law_moved" "_law_moved" (defArgs s__law_moved) (defBody s__law_moved) (defScope s__law_moved) .none kV__law_moved dc__law_moved pm__law_moved an__law_moved cd__law_moved ct__law_moved), sl__law_moved⟩)
    (c__law_moved : PySem.W.codeIn K cd__law_moved "_law_moved" = true)
    (k__law_moved : PySem.W.keepIn K (.ref f__law_moved) = true)
    (a__law_ends : PySem.W.nsIn K mainGlobals "_law_ends" = some (some (.ref f__law_ends)))
    (l__law_ends : K.lookup f__law_ends = some ⟨oc__law_ends, od__law_ends, .func (PySem.W.fnOf "_law_ends" "_law_ends" (defArgs s__law_ends) (defBody s__law_ends) (defScope s__law_ends) .none kV__law_ends dc__law_ends pm__law_ends an__law_ends cd__law_ends ct__law_ends), sl__law_ends⟩)
    (c__law_ends : PySem.W.codeIn K cd__law_ends "_law_ends" = true)
    (k__law_ends : PySem.W.keepIn K (.ref f__law_ends) = true)
    (a__law_free : PySem.W.nsIn K mainGlobals "_law_free" = some (some (.ref f__law_free)))
    (l__law_free : K.lookup f__law_free = some ⟨oc__law_free, od__law_free, .func (PySem.W.fnOf "_law_free" "_law_free" (defArgs s__law_free) (defBody s__law_free) (defScope s__law_free) .none kV__law_free dc__law_free pm__law_free an__law_free cd__law_free ct__law_free), sl__law_free⟩)
    (c__law_free : PySem.W.codeIn K cd__law_free "_law_free" = true)
    (k__law_free : PySem.W.keepIn K (.ref f__law_free) = true)
    (a__law_order : PySem.W.nsIn K mainGlobals "_law_order" = some (some (.ref f__law_order)))
    (l__law_order : K.lookup f__law_order = some ⟨oc__law_order, od__law_order, .func (PySem.W.fnOf "_law_order" "_law_order" (defArgs s__law_order) (defBody s__law_order) (defScope s__law_order) .none kV__law_order dc__law_order pm__law_order an__law_order cd__law_order ct__law_order), sl__law_order⟩)
    (c__law_order : PySem.W.codeIn K cd__law_order "_law_order" = true)
    (k__law_order : PySem.W.keepIn K (.ref f__law_order) = true)
    (a__law_state_after : PySem.W.nsIn K mainGlobals "_law_state_after" = some (some (.ref f__law_state_after)))
    (l__law_state_after : K.lookup f__law_state_after = some ⟨oc__law_state_after, od__law_state_after, .func (PySem.W.fnOf "_law_state_after" "_law_state_after" (defArgs s__law_state_after) (defBody s__law_state_after) (defScope s__law_state_after) .none kV__law_state_after dc__law_state_after pm__law_state_after an__law_state_after cd__law_state_after ct__law_state_after), sl__law_state_after⟩)
    (c__law_state_after : PySem.W.codeIn K cd__law_state_after "_law_state_after" = true)
    (k__law_state_after : PySem.W.keepIn K (.ref f__law_state_after) = true)
    (a__law_closed : PySem.W.nsIn K mainGlobals "_law_closed" = some (some (.ref f__law_closed)))
    (l__law_closed : K.lookup f__law_closed = some ⟨oc__law_closed, od__law_closed, .func (PySem.W.fnOf "_law_closed" "_law_closed" (defArgs s__law_closed) (defBody s__law_closed) (defScope s__law_closed) .none kV__law_closed dc__law_closed pm__law_closed an__law_closed cd__law_closed ct__law_closed), sl__law_closed⟩)
    (c__law_closed : PySem.W.codeIn K cd__law_closed "_law_closed" = true)
    (k__law_closed : PySem.W.keepIn K (.ref f__law_closed) = true)
    (a__law_steps : PySem.W.nsIn K mainGlobals "_law_steps" = some (some (.ref f__law_steps)))
    (l__law_steps : K.lookup f__law_steps = some ⟨oc__law_steps, od__law_steps, .func (PySem.W.fnOf "_law_steps" "_law_steps" (defArgs s__law_steps) (defBody s__law_steps) (defScope s__law_steps) .none kV__law_steps dc__law_steps pm__law_steps an__law_steps cd__law_steps ct__law_steps), sl__law_steps⟩)
    (c__law_steps : PySem.W.codeIn K cd__law_steps "_law_steps" = true)
    (k__law_steps : PySem.W.keepIn K (.ref f__law_steps) = true)
    (a__law_locked : PySem.W.nsIn K mainGlobals "_law_locked" = some (some (.ref f__law_locked)))
    (l__law_locked : K.lookup f__law_locked = some ⟨oc__law_locked, od__law_locked, .func (PySem.W.fnOf "_law_locked" "_law_locked" (defArgs s__law_locked) (defBody s__law_locked) (defScope s__law_locked) .none kV__law_locked dc__law_locked pm__law_locked an__law_locked cd__law_locked ct__law_locked), sl__law_locked⟩)
    (c__law_locked : PySem.W.codeIn K cd__law_locked "_law_locked" = true)
    (k__law_locked : PySem.W.keepIn K (.ref f__law_locked) = true)
    (a__law_told : PySem.W.nsIn K mainGlobals "_law_told" = some (some (.ref f__law_told)))
    (l__law_told : K.lookup f__law_told = some ⟨oc__law_told, od__law_told, .func (PySem.W.fnOf "_law_told" "_law_told" (defArgs s__law_told) (defBody s__law_told) (defScope s__law_told) .none kV__law_told dc__law_told pm__law_told an__law_told cd__law_told ct__law_told), sl__law_told⟩)
    (c__law_told : PySem.W.codeIn K cd__law_told "_law_told" = true)
    (k__law_told : PySem.W.keepIn K (.ref f__law_told) = true)
    (a__law_fine : PySem.W.nsIn K mainGlobals "_law_fine" = some (some (.ref f__law_fine)))
    (l__law_fine : K.lookup f__law_fine = some ⟨oc__law_fine, od__law_fine, .func (PySem.W.fnOf "_law_fine" "_law_fine" (defArgs s__law_fine) (defBody s__law_fine) (defScope s__law_fine) .none kV__law_fine dc__law_fine pm__law_fine an__law_fine cd__law_fine ct__law_fine), sl__law_fine⟩)
    (c__law_fine : PySem.W.codeIn K cd__law_fine "_law_fine" = true)
    (k__law_fine : PySem.W.keepIn K (.ref f__law_fine) = true)
    (a_law : PySem.W.nsIn K mainGlobals "law" = some (some (.ref f_law)))
    (l_law : K.lookup f_law = some ⟨oc_law, od_law, .func (PySem.W.fnOf "law" "law" (defArgs s_law) (defBody s_law) (defScope s_law) .none kV_law dc_law pm_law an_law cd_law ct_law), sl_law⟩)
    (c_law : PySem.W.codeIn K cd_law "law" = true)
    (k_law : PySem.W.keepIn K (.ref f_law) = true)
    (z_any : PySem.W.nsIn K mainGlobals "any" = some none)
    (z_bool : PySem.W.nsIn K mainGlobals "bool" = some none)
    (z_dict : PySem.W.nsIn K mainGlobals "dict" = some none)
    (z_enumerate : PySem.W.nsIn K mainGlobals "enumerate" = some none)
    (z_int : PySem.W.nsIn K mainGlobals "int" = some none)
    (z_isinstance : PySem.W.nsIn K mainGlobals "isinstance" = some none)
    (z_len : PySem.W.nsIn K mainGlobals "len" = some none)
    (z_list : PySem.W.nsIn K mainGlobals "list" = some none)
    (z_range : PySem.W.nsIn K mainGlobals "range" = some none)
    (z_str : PySem.W.nsIn K mainGlobals "str" = some none)
    (z_tuple : PySem.W.nsIn K mainGlobals "tuple" = some none)
    (q_DIGITS : PySem.W.nsIn K mainGlobals "DIGITS" = some (some (.str (mkS [48, 49, 50, 51, 52, 53]) tk_DIGITS)))
    (q_LARGEST : PySem.W.nsIn K mainGlobals "LARGEST" = some (some (.int 6 tk_LARGEST)))
    (zsup : PySem.W.nsIn K mainGlobals "super" = some none)
    (ztp : PySem.W.nsIn K PySem.cStatics "thirdparty.any" = some none)
    (aC_Blocked : PySem.W.nsIn K mainGlobals "Blocked" = some (some (.ref C_Blocked)))
    (xL_Blocked : K.lookup C_Blocked = some (excClassObj nm_Blocked q_Blocked C_Blocked N_Blocked bs_Blocked [.ref LK_Blocked, .type "ValueError", .type "Exception", .type "BaseException", .type "object"] true sn_Blocked sub_Blocked ab_Blocked col_Blocked dd_Blocked m0_Blocked m1_Blocked m2_Blocked m3_Blocked m5_Blocked "ValueError.__new__"))
    (sa_Blocked : PySem.W.findIn K (.ref C_Blocked) "__setattr__" = some (some (.builtin "object.__setattr__")))
    (iC_Blocked : PySem.W.findIn K (.ref C_Blocked) "__init__" = some (some (.ref fI_Blocked)))
    (tI_Blocked : PySem.W.typeIn K (.ref fI_Blocked) = some (.type "function"))
    (lI_Blocked : K.lookup fI_Blocked = some ⟨oc_Blocked, od_Blocked, .func (PySem.W.ksFn "__init__" "Blocked.__init__" (defArgs si_Blocked) (defBody si_Blocked) (defScope si_Blocked) .none kV_Blocked dc_Blocked pm_Blocked an_Blocked (.ref cda_Blocked) ct_Blocked cc_Blocked), osl_Blocked⟩)
    (cI_Blocked : PySem.W.codeIn K (.ref cda_Blocked) "Blocked.__init__" = true)
    (kC_Blocked : PySem.W.keepIn K (.ref C_Blocked) = true)
    (eC_Blocked : PySem.W.subIn K (.ref C_Blocked) (.type "BaseException") = some true)
    (tC_Blocked : PySem.W.typeIn K (.ref C_Blocked) = some (.type "type"))
    (co_Blocked : K.lookup cda_Blocked = some ⟨ccl_Blocked, cdd_Blocked, .fields vs_Blocked, ccs_Blocked⟩)
    (cv_Blocked : vs_Blocked[2]? = some (.str file_Blocked tf_Blocked))
    (cf_Blocked : ((PySem.Challenge.pw_lockrules_k65_neighbours_exchanged.main.file : Str) == file_Blocked) = true)
    (ce_Blocked : K.lookup cc_Blocked = some ⟨cl_Blocked, cld_Blocked, .cell (some (.ref C_Blocked)), csl_Blocked⟩)
    (ck_Blocked : PySem.W.clsIn K C_Blocked = some cdt_Blocked)
    (mr_Blocked : PySem.W.mroIn K C_Blocked (.ref C_Blocked) = some true)
    (su_Blocked : PySem.W.ks_superIn K C_Blocked C_Blocked "__init__" = some (some (.builtin "ValueError.__init__")))
    (ve_Blocked : PySem.W.subIn K (.ref C_Blocked) (.type "ValueError") = some true)
    (in_Blocked : PySem.W.excInitIn K C_Blocked [.type "ValueError", .type "Exception", .type "BaseException", .type "object"] "ValueError.__new__" = true)
    (no_Blocked_place : PySem.W.findIn K (.ref C_Blocked) "place" = some none)
    (no_Blocked_item : PySem.W.findIn K (.ref C_Blocked) "item" = some none)
    (ga_Blocked : PySem.W.findIn K (.ref C_Blocked) "__getattribute__" = some (some (.builtin "BaseException.__getattribute__")))
    (gg_Blocked : PySem.W.findIn K (.ref C_Blocked) "__getattr__" = some none)
    (hd_Blocked : PySem.W.hasDictIn K C_Blocked = true)
    (sb_Blocked_Blocked : PySem.W.subIn K (.ref C_Blocked) (.ref C_Blocked) = some true) :
    ∃ fd : FuncData, (∀ (s : Shared) (v : Value), BindsTo s fd ⟨[v], []⟩ [("script", v)]) ∧ ∀ base : Heap, K.In base → base.Ns mainGlobals mg → FnOk PySem.Challenge.pw_lockrules_k65_neighbours_exchanged w K mg base (L2.CX PySem.Challenge.pw_lockrules_k65_neighbours_exchanged w) 8 fa fd ["script"] (spD K 1 (F_law (clsOf K))) := by
  have e := hfa.symm.trans (PySem.W.mg_of X G a_law)
  cases e
  have T : Txt mg := ⟨PySem.W.mg_none_of X G z_any, PySem.W.mg_none_of X G z_bool, PySem.W.mg_none_of X G z_dict, PySem.W.mg_none_of X G z_enumerate, PySem.W.mg_none_of X G z_int, PySem.W.mg_none_of X G z_isinstance, PySem.W.mg_none_of X G z_len, PySem.W.mg_none_of X G z_list, PySem.W.mg_none_of X G z_range, PySem.W.mg_none_of X G z_str, PySem.W.mg_none_of X G z_tuple, ⟨_, PySem.W.mg_of X G q_DIGITS⟩, ⟨_, PySem.W.mg_of X G q_LARGEST⟩⟩
  have n_start := fun_mk (st := s_start) l_start c_start k_start
  have b_start := n_start.binds (ps := ["size"]) fun _ _ _ _ _ _ us hl => match us, hl with | [_], _ => rfl
  have n_is_step := fun_mk (st := s_is_step) l_is_step c_is_step k_is_step
  have b_is_step := n_is_step.binds (ps := ["size", "step"]) fun _ _ _ _ _ _ us hl => match us, hl with | [_, _], _ => rfl
  have n_after := fun_mk (st := s_after) l_after c_after k_after
  have b_after := n_after.binds (ps := ["state", "step"]) fun _ _ _ _ _ _ us hl => match us, hl with | [_, _], _ => rfl
  have n_replay := fun_mk (st := s_replay) l_replay c_replay k_replay
  have b_replay := n_replay.binds (ps := ["size", "steps"]) fun _ _ _ _ _ _ us hl => match us, hl with | [_, _], _ => rfl
  have n_check_programs := fun_mk (st := s_check_programs) l_check_programs c_check_programs k_check_programs
  have b_check_programs := n_check_programs.binds (ps := ["size", "programs"]) fun _ _ _ _ _ _ us hl => match us, hl with | [_, _], _ => rfl
  have n_holds := fun_mk (st := s_holds) l_holds c_holds k_holds
  have b_holds := n_holds.binds (ps := ["steps", "many", "digit"]) fun _ _ _ _ _ _ us hl => match us, hl with | [_, _, _], _ => rfl
  have n_is_free := fun_mk (st := s_is_free) l_is_free c_is_free k_is_free
  have b_is_free := n_is_free.binds (ps := ["programs", "places", "index"]) fun _ _ _ _ _ _ us hl => match us, hl with | [_, _, _], _ => rfl
  have n_outcome := fun_mk (st := s_outcome) l_outcome c_outcome k_outcome
  have b_outcome := n_outcome.binds (ps := ["programs", "order"]) fun _ _ _ _ _ _ us hl => match us, hl with | [_, _], _ => rfl
  have n__law_cell := fun_mk (st := s__law_cell) l__law_cell c__law_cell k__law_cell
  have b__law_cell := n__law_cell.binds (ps := ["script", "k"]) fun _ _ _ _ _ _ us hl => match us, hl with | [_, _], _ => rfl
  have n__law_numbers := fun_mk (st := s__law_numbers) l__law_numbers c__law_numbers k__law_numbers
  have b__law_numbers := n__law_numbers.binds (ps := ["cell", "many", "limit"]) fun _ _ _ _ _ _ us hl => match us, hl with | [_, _, _], _ => rfl
  have n__law_same := fun_mk (st := s__law_same) l__law_same c__law_same k__law_same
  have b__law_same := n__law_same.binds (ps := ["actual", "due"]) fun _ _ _ _ _ _ us hl => match us, hl with | [_, _], _ => rfl
  have n__law_moved := fun_mk (st := s__law_moved) l__law_moved c__law_moved k__law_moved
  have b__law_moved := n__law_moved.binds (ps := ["state", "step"]) fun _ _ _ _ _ _ us hl => match us, hl with | [_, _], _ => rfl
  have n__law_ends := fun_mk (st := s__law_ends) l__law_ends c__law_ends k__law_ends
  have b__law_ends := n__law_ends.binds (ps := ["state"]) fun _ _ _ _ _ _ us hl => match us, hl with | [_], _ => rfl
  have n__law_free := fun_mk (st := s__law_free) l__law_free c__law_free k__law_free
  have b__law_free := n__law_free.binds (ps := ["size", "numbers"]) fun _ _ _ _ _ _ us hl => match us, hl with | [_, _], _ => rfl
  have n__law_order := fun_mk (st := s__law_order) l__law_order c__law_order k__law_order
  have b__law_order := n__law_order.binds (ps := ["programs", "numbers"]) fun _ _ _ _ _ _ us hl => match us, hl with | [_, _], _ => rfl
  have n__law_state_after := fun_mk (st := s__law_state_after) l__law_state_after c__law_state_after k__law_state_after
  have b__law_state_after := n__law_state_after.binds (ps := ["size", "steps"]) fun _ _ _ _ _ _ us hl => match us, hl with | [_, _], _ => rfl
  have n__law_closed := fun_mk (st := s__law_closed) l__law_closed c__law_closed k__law_closed
  have b__law_closed := n__law_closed.binds (ps := ["size", "programs", "order"]) fun _ _ _ _ _ _ us hl => match us, hl with | [_, _, _], _ => rfl
  have n__law_steps := fun_mk (st := s__law_steps) l__law_steps c__law_steps k__law_steps
  have b__law_steps := n__law_steps.binds (ps := ["programs", "order"]) fun _ _ _ _ _ _ us hl => match us, hl with | [_, _], _ => rfl
  have n__law_locked := fun_mk (st := s__law_locked) l__law_locked c__law_locked k__law_locked
  have b__law_locked := n__law_locked.binds (ps := ["programs", "order"]) fun _ _ _ _ _ _ us hl => match us, hl with | [_, _], _ => rfl
  have n__law_told := fun_mk (st := s__law_told) l__law_told c__law_told k__law_told
  have b__law_told := n__law_told.binds (ps := ["programs", "order"]) fun _ _ _ _ _ _ us hl => match us, hl with | [_, _], _ => rfl
  have n__law_fine := fun_mk (st := s__law_fine) l__law_fine c__law_fine k__law_fine
  have b__law_fine := n__law_fine.binds (ps := ["programs", "order"]) fun _ _ _ _ _ _ us hl => match us, hl with | [_, _], _ => rfl
  have n_law := fun_mk (st := s_law) l_law c_law k_law
  have b_law := n_law.binds (ps := ["script"]) fun _ _ _ _ _ _ us hl => match us, hl with | [_], _ => rfl
  refine ⟨PySem.W.fnOf "law" "law" (defArgs s_law) (defBody s_law) (defScope s_law) .none kV_law dc_law pm_law an_law cd_law ct_law, fun s v => .of_eq rfl, fun base _ _ => ?_⟩
  have O_Blocked : OexC K C_Blocked := ⟨⟨_, _, _, _, _, _, _, _, _, _, _, _, _, _, _, xL_Blocked, rfl⟩, sa_Blocked, eC_Blocked, tC_Blocked, kC_Blocked⟩
  have S_Blocked : SupC PySem.Challenge.pw_lockrules_k65_neighbours_exchanged K C_Blocked cc_Blocked cda_Blocked := ⟨⟨_, _, _, _, _, _, co_Blocked, cv_Blocked, cf_Blocked⟩, ⟨_, _, _, ce_Blocked⟩, ⟨_, ck_Blocked⟩, mr_Blocked, su_Blocked, ve_Blocked, ztp, in_Blocked⟩
  have X_Blocked : HasX PySem.Challenge.pw_lockrules_k65_neighbours_exchanged w K mg base "Blocked" (clsOf K).Blocked ["place", "item"] := by
    rw [show (clsOf K).Blocked = C_Blocked from clsAt_is aC_Blocked]
    exact mkx_Blocked O_Blocked (PySem.W.mg_of X G aC_Blocked) iC_Blocked tI_Blocked lI_Blocked cI_Blocked S_Blocked (PySem.W.mg_none_of X G zsup) no_Blocked_place no_Blocked_item
  have E_Blocked_Blocked : PySem.W.exmOne K (.ref (clsOf K).Blocked) (.ref (clsOf K).Blocked) = some true := by
    rw [show (clsOf K).Blocked = C_Blocked from clsAt_is aC_Blocked]
    exact PySem.W.exm_ref eC_Blocked hd_Blocked tC_Blocked sb_Blocked_Blocked
  have T_Blocked : XfC K (clsOf K).Blocked := by
    rw [show (clsOf K).Blocked = C_Blocked from clsAt_is aC_Blocked]
    exact ⟨ga_Blocked, gg_Blocked, eC_Blocked, hd_Blocked⟩
  have NO_Blocked_item : PySem.W.findIn K (.ref (clsOf K).Blocked) "item" = some none := by
    rw [show (clsOf K).Blocked = C_Blocked from clsAt_is aC_Blocked]
    exact no_Blocked_item
  have NO_Blocked_place : PySem.W.findIn K (.ref (clsOf K).Blocked) "place" = some none := by
    rw [show (clsOf K).Blocked = C_Blocked from clsAt_is aC_Blocked]
    exact no_Blocked_place
  have C_start := h_start (P := PySem.Challenge.pw_lockrules_k65_neighbours_exchanged) (w := w) (base := base) T  n_start (PySem.W.mg_of X G a_start) b_start
  have C_is_step := h_is_step (P := PySem.Challenge.pw_lockrules_k65_neighbours_exchanged) (w := w) (base := base) T  n_is_step (PySem.W.mg_of X G a_is_step) b_is_step
  have C_holds := h_holds (P := PySem.Challenge.pw_lockrules_k65_neighbours_exchanged) (w := w) (base := base) T  n_holds (PySem.W.mg_of X G a_holds) b_holds
  have C__law_cell := h__law_cell (P := PySem.Challenge.pw_lockrules_k65_neighbours_exchanged) (w := w) (base := base) T  n__law_cell (PySem.W.mg_of X G a__law_cell) b__law_cell
  have C__law_numbers := h__law_numbers (P := PySem.Challenge.pw_lockrules_k65_neighbours_exchanged) (w := w) (base := base) T  n__law_numbers (PySem.W.mg_of X G a__law_numbers) b__law_numbers
  have C__law_moved := h__law_moved (P := PySem.Challenge.pw_lockrules_k65_neighbours_exchanged) (w := w) (base := base) T  n__law_moved (PySem.W.mg_of X G a__law_moved) b__law_moved
  have C__law_ends := h__law_ends (P := PySem.Challenge.pw_lockrules_k65_neighbours_exchanged) (w := w) (base := base) T  n__law_ends (PySem.W.mg_of X G a__law_ends) b__law_ends
  have C__law_order := h__law_order (P := PySem.Challenge.pw_lockrules_k65_neighbours_exchanged) (w := w) (base := base) T  n__law_order (PySem.W.mg_of X G a__law_order) b__law_order
  have C__law_steps := h__law_steps (P := PySem.Challenge.pw_lockrules_k65_neighbours_exchanged) (w := w) (base := base) T  n__law_steps (PySem.W.mg_of X G a__law_steps) b__law_steps
  have C_after := h_after (P := PySem.Challenge.pw_lockrules_k65_neighbours_exchanged) (w := w) (base := base) T C_is_step n_after (PySem.W.mg_of X G a_after) b_after
  have C_is_free := h_is_free (P := PySem.Challenge.pw_lockrules_k65_neighbours_exchanged) (w := w) (base := base) T C_holds n_is_free (PySem.W.mg_of X G a_is_free) b_is_free
  have C__law_free := h__law_free (P := PySem.Challenge.pw_lockrules_k65_neighbours_exchanged) (w := w) (base := base) T C__law_moved C__law_ends n__law_free (PySem.W.mg_of X G a__law_free) b__law_free
  have C__law_state_after := h__law_state_after (P := PySem.Challenge.pw_lockrules_k65_neighbours_exchanged) (w := w) (base := base) T C__law_moved n__law_state_after (PySem.W.mg_of X G a__law_state_after) b__law_state_after
  have C__law_locked := h__law_locked (P := PySem.Challenge.pw_lockrules_k65_neighbours_exchanged) (w := w) (base := base) T C__law_steps n__law_locked (PySem.W.mg_of X G a__law_locked) b__law_locked
  have C_replay := h_replay (P := PySem.Challenge.pw_lockrules_k65_neighbours_exchanged) (w := w) (base := base) T C_start C_after n_replay (PySem.W.mg_of X G a_replay) b_replay
  have C__law_closed := h__law_closed (P := PySem.Challenge.pw_lockrules_k65_neighbours_exchanged) (w := w) (base := base) T C__law_state_after C__law_ends n__law_closed (PySem.W.mg_of X G a__law_closed) b__law_closed
  have C_check_programs := h_check_programs (P := PySem.Challenge.pw_lockrules_k65_neighbours_exchanged) (w := w) (base := base) T C_replay n_check_programs (PySem.W.mg_of X G a_check_programs) b_check_programs
  have C0__law_same : Has PySem.Challenge.pw_lockrules_k65_neighbours_exchanged w K mg base "_law_same" 0 2 (F__law_same 0) := has_stuck (PySem.W.mg_of X G a__law_same) n__law_same.kp b__law_same rfl 0
  have C1__law_same := h__law_same (P := PySem.Challenge.pw_lockrules_k65_neighbours_exchanged) (w := w) (base := base) (k := 0) (n := 0) T C0__law_same n__law_same (PySem.W.mg_of X G a__law_same) b__law_same
  have C2__law_same := h__law_same (P := PySem.Challenge.pw_lockrules_k65_neighbours_exchanged) (w := w) (base := base) (k := 1) (n := 1) T C1__law_same n__law_same (PySem.W.mg_of X G a__law_same) b__law_same
  have C3__law_same := h__law_same (P := PySem.Challenge.pw_lockrules_k65_neighbours_exchanged) (w := w) (base := base) (k := 2) (n := 2) T C2__law_same n__law_same (PySem.W.mg_of X G a__law_same) b__law_same
  have C4__law_same := h__law_same (P := PySem.Challenge.pw_lockrules_k65_neighbours_exchanged) (w := w) (base := base) (k := 3) (n := 3) T C3__law_same n__law_same (PySem.W.mg_of X G a__law_same) b__law_same
  have C__law_same := C4__law_same
  have C_outcome := h_outcome (P := PySem.Challenge.pw_lockrules_k65_neighbours_exchanged) (w := w) (base := base) (A := clsOf K) T C_check_programs C_is_free X_Blocked n_outcome (PySem.W.mg_of X G a_outcome) b_outcome
  have C__law_told := h__law_told (P := PySem.Challenge.pw_lockrules_k65_neighbours_exchanged) (w := w) (base := base) (A := clsOf K) T C_outcome X_Blocked E_Blocked_Blocked T_Blocked NO_Blocked_item NO_Blocked_place n__law_told (PySem.W.mg_of X G a__law_told) b__law_told
  have C__law_fine := h__law_fine (P := PySem.Challenge.pw_lockrules_k65_neighbours_exchanged) (w := w) (base := base) (A := clsOf K) T C__law_locked C__law_told C__law_same C__law_steps n__law_fine (PySem.W.mg_of X G a__law_fine) b__law_fine
  exact h_law (P := PySem.Challenge.pw_lockrules_k65_neighbours_exchanged) (w := w) (base := base) (A := clsOf K) T C__law_cell C__law_numbers C__law_free C__law_order C__law_closed C__law_fine n_law
theorem walk {l : PySem.W.OpenLaw} {q : Program} {loose : List Str} {XP : (Str → Option Value) → Heap → Prop} {YP : World → Heap → Prop} {d : DefRec} {K : Params → PySem.W.Frag} (hn : l.most = some 63) (hdf : d.params.defaults = [])
    (hY : ∀ (w : World) (h : Heap), YP w h → (K w.params).In h) (hp : l.prog = PySem.Challenge.pw_lockrules_k65_neighbours_exchanged)
    (F : ∀ (w : World) (mg : Str → Option Value) (fa : Addr) (h : Heap), (K w.params).In h → h.Ns mainGlobals mg → mg d.name = some (.ref fa) →
      ∃ fd : FuncData, (∀ (s : Shared) (u : Value), BindsTo s fd ⟨[u], []⟩ [("script", u)]) ∧ ∀ base : Heap, (K w.params).In base → base.Ns mainGlobals mg → FnOk PySem.Challenge.pw_lockrules_k65_neighbours_exchanged w (K w.params) mg base (L2.CX PySem.Challenge.pw_lockrules_k65_neighbours_exchanged w) 8 fa fd ["script"] (spD (K w.params) 1 (F_law (clsOf (K w.params))))) :
    PySem.W.WalkO q loose XP YP l.row.toRowW d [] (fun f vs => PySem.call f vs) :=
  L2.walk_of (n := 63) (k := 8) (x := "script") (CX := fun w => L2.CX l.prog w) (sp := fun w => spD (K w.params) 1 (F_law (clsOf (K w.params)))) hn (by decide) hdf ⟨rfl, by decide, by decide⟩ hY (by rw [hp]; exact F)
    (fun w H a ns hl _ hS => ⟨fun _ => False, [.scr ns], fun _ z => z.elim, ⟨_, _, rfl, ⟨a, rfl, (RdLe.ofKey fun b u z => by rw [hide_no id]; exact z : RdLe H (hide (fun _ => False) H)).sqL hS⟩, rfl⟩, rfl, by
      rw [main _ ns hl]
      exact fun v H' _ r => r⟩) fun _ _ _ _ _ z => by
      obtain ⟨_, _, _, _, _, _, _, _, _, _, _, _, z⟩ := z
      exact z
end DL
open PySem PySem.W PyProof.Rows in
set_option maxRecDepth 100000 in
set_option maxHeartbeats 0 in
theorem PySem.Challenge.cw_lockrules_k65_neighbours_exchanged_holds : PySem.Challenge.rw_lockrules_k65_neighbours_exchanged.Holds := by
  w_on; o_law; k_head; (case hw => w_witness2)
  k_fill
  refine DL.walk (l := PySem.Challenge.rw_lockrules_k65_neighbours_exchanged) rfl rfl (fun w h Y => PySem.W.kIn_of Y) rfl ?F
  case F =>
    intro w mg fa h KX G hmg
    refine' DL.all_mk KX G hmg ?a_start ?l_start ?c_start ?k_start ?a_is_step ?l_is_step ?c_is_step ?k_is_step ?a_after ?l_after ?c_after ?k_after ?a_replay ?l_replay ?c_replay ?k_replay ?a_check_programs ?l_check_programs ?c_check_programs ?k_check_programs ?a_holds ?l_holds ?c_holds ?k_holds ?a_is_free ?l_is_free ?c_is_free ?k_is_free ?a_outcome ?l_outcome ?c_outcome ?k_outcome ?a__law_cell ?l__law_cell ?c__law_cell ?k__law_cell ?a__law_numbers ?l__law_numbers ?c__law_numbers ?k__law_numbers ?a__law_same ?l__law_same ?c__law_same ?k__law_same ?a__law_moved ?l__law_moved ?c__law_moved ?k__law_moved ?a__law_ends ?l__law_ends ?c__law_ends ?k__law_ends ?a__law_free ?l__law_free ?c__law_free ?k__law_free ?a__law_order ?l__law_order ?c__law_order ?k__law_order ?a__law_state_after ?l__law_state_after ?c__law_state_after ?k__law_state_after ?a__law_closed ?l__law_closed ?c__law_closed ?k__law_closed ?a__law_steps ?l__law_steps ?c__law_steps ?k__law_steps ?a__law_locked ?l__law_locked ?c__law_locked ?k__law_locked ?a__law_told ?l__law_told ?c__law_told ?k__law_told ?a__law_fine ?l__law_fine ?c__law_fine ?k__law_fine ?a_law ?l_law ?c_law ?k_law ?z_any ?z_bool ?z_dict ?z_enumerate ?z_int ?z_isinstance ?z_len ?z_list ?z_range ?z_str ?z_tuple ?q_DIGITS ?q_LARGEST ?zsup ?ztp ?aC_Blocked ?xL_Blocked ?sa_Blocked ?iC_Blocked ?tI_Blocked ?lI_Blocked ?cI_Blocked ?kC_Blocked ?eC_Blocked ?tC_Blocked ?co_Blocked ?cv_Blocked ?cf_Blocked ?ce_Blocked ?ck_Blocked ?mr_Blocked ?su_Blocked ?ve_Blocked ?in_Blocked ?no_Blocked_place ?no_Blocked_item ?ga_Blocked ?gg_Blocked ?hd_Blocked ?sb_Blocked_Blocked
    (case a_start => k_is)
    (case l_start => k_is)
    (case c_start => k_is)
    (case k_start => k_is)
    (case a_is_step => k_is)
    (case l_is_step => k_is)
    (case c_is_step => k_is)
    (case k_is_step => k_is)
    (case a_after => k_is)
    (case l_after => k_is)
    (case c_after => k_is)
    (case k_after => k_is)
    (case a_replay => k_is)
    (case l_replay => k_is)
    (case c_replay => k_is)
    (case k_replay => k_is)
    (case a_check_programs => k_is)
    (case l_check_programs => k_is)
    (case c_check_programs => k_is)
    (case k_check_programs => k_is)
    (case a_holds => k_is)
    (case l_holds => k_is)
    (case c_holds => k_is)
    (case k_holds => k_is)
    (case a_is_free => k_is)
    (case l_is_free => k_is)
    (case c_is_free => k_is)
    (case k_is_free => k_is)
    (case a_outcome => k_is)
    (case l_outcome => k_is)
    (case c_outcome => k_is)
    (case k_outcome => k_is)
    (case a__law_cell => k_is)
    (case l__law_cell => k_is)
    (case c__law_cell => k_is)
    (case k__law_cell => k_is)
    (case a__law_numbers => k_is)
    (case l__law_numbers => k_is)
    (case c__law_numbers => k_is)
    (case k__law_numbers => k_is)
    (case a__law_same => k_is)
    (case l__law_same => k_is)
    (case c__law_same => k_is)
    (case k__law_same => k_is)
    (case a__law_moved => k_is)
    (case l__law_moved => k_is)
    (case c__law_moved => k_is)
    (case k__law_moved => k_is)
    (case a__law_ends => k_is)
    (case l__law_ends => k_is)
    (case c__law_ends => k_is)
    (case k__law_ends => k_is)
    (case a__law_free => k_is)
    (case l__law_free => k_is)
    (case c__law_free => k_is)
    (case k__law_free => k_is)
    (case a__law_order => k_is)
    (case l__law_order => k_is)
    (case c__law_order => k_is)
    (case k__law_order => k_is)
    (case a__law_state_after => k_is)
    (case l__law_state_after => k_is)
    (case c__law_state_after => k_is)
    (case k__law_state_after => k_is)
    (case a__law_closed => k_is)
    (case l__law_closed => k_is)
    (case c__law_closed => k_is)
    (case k__law_closed => k_is)
    (case a__law_steps => k_is)
    (case l__law_steps => k_is)
    (case c__law_steps => k_is)
    (case k__law_steps => k_is)
    (case a__law_locked => k_is)
    (case l__law_locked => k_is)
    (case c__law_locked => k_is)
    (case k__law_locked => k_is)
    (case a__law_told => k_is)
    (case l__law_told => k_is)
    (case c__law_told => k_is)
    (case k__law_told => k_is)
    (case a__law_fine => k_is)
    (case l__law_fine => k_is)
    (case c__law_fine => k_is)
    (case k__law_fine => k_is)
    (case a_law => k_is)
    (case l_law => k_is)
    (case c_law => k_is)
    (case k_law => k_is)
    (case z_any => k_is)
    (case z_bool => k_is)
    (case z_dict => k_is)
    (case z_enumerate => k_is)
    (case z_int => k_is)
    (case z_isinstance => k_is)
    (case z_len => k_is)
    (case z_list => k_is)
    (case z_range => k_is)
    (case z_str => k_is)
    (case z_tuple => k_is)
    (case q_DIGITS => k_is)
    (case q_LARGEST => k_is)
    (case zsup => k_is)
    (case ztp => k_is)
    (case aC_Blocked => k_is)
    (case xL_Blocked => k_is)
    (case sa_Blocked => k_is)
    (case iC_Blocked => k_is)
    (case tI_Blocked => k_is)
    (case lI_Blocked => k_is)
    (case cI_Blocked => k_is)
    (case kC_Blocked => k_is)
    (case eC_Blocked => k_is)
    (case tC_Blocked => k_is)
    (case co_Blocked => k_is)
    (case cv_Blocked => rfl)
    (case cf_Blocked => first | rfl | decide +kernel)
    (case ce_Blocked => k_is)
    (case ck_Blocked => k_is)
    (case mr_Blocked => k_is)
    (case su_Blocked => ks_is)
    (case ve_Blocked => k_is)
    (case in_Blocked => kx_is)
    (case no_Blocked_place => k_is)
    (case no_Blocked_item => k_is)
    (case ga_Blocked => k_is)
    (case gg_Blocked => k_is)
    (case hd_Blocked => k_is)
    (case sb_Blocked_Blocked => first | rfl | k_is)
